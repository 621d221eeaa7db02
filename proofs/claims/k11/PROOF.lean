import PyProof.Rows.All
import Wide.All
import OpenK.AllK
import Wide.FinOn
import PySem.Challenge.RW_stickyservers_k11_whole_orders_and_rings
import HandS.ForMost
import HandS.ForExc
import HandS.ExcInit
import HandS.ExcField
import HandS.CallSlots
import HandS.IsInst
import HandS.Deep
import HandS.TupAny
import HandS.TupMul
import HandS.SortInts
import HandS.SetFor
import HandS.Strs
import KE.GoesEnum
import KE.GoesMore
import HandS.Defaults
import HandS.DictComp
import HandS.Conv
import HandS.Words
import HandS.Ends
import HandS.Style
set_option Elab.async false
set_option linter.all false
set_option maxRecDepth 100000
set_option maxHeartbeats 4000000
/-! Fx: data by structure over the hand layer; an expression's meaning is a function from cells to an outcome. -/
namespace Fx
open PySem L2

/-! ### data -/
inductive D where
  | non | bl (b : Bool) | int (i : Int) | str (x : Str)
  | tup (ds : List D) | lst (ds : List D) | dic (ks : List Key) (ds : List D)
  | rcd (ns : List Str) (ds : List D) | exc (c : Nat) (fs : List D) | raw (v : V)

/-- what the laws' programs have beside the module's own text: the class of farms, the classes of errors with their fields (last stored first) -/
structure Cf where
  K : PySem.W.Frag
  farm : Addr
  exc : Nat → Addr
  flds : Nat → List Str


/-- a list of the written part, its object known -/
def KL (K : PySem.W.Frag) (a : Addr) (xs : List V) : Prop := ∃ (its : List Value) (n : Nat), K.lookup a = some { cls := .type "list", data := .seq its.toArray n } ∧ its.length ≤ sizeLine ∧ Vals xs its
/-- a list that may be read -/
def LsG (K : PySem.W.Frag) (G : Hp) (a : Addr) (xs : List V) : Prop := Rd G a (.lst xs) ∨ KL K a xs
theorem LsG.sq {K : PySem.W.Frag} {G : Hp} {a : Addr} {xs : List V} (h : LsG K G a xs) : SqL K G a xs := by
  rcases h with h | ⟨its, n, h1, h2, h3⟩
  · exact .inl h
  · exact .inr ⟨_, its.toArray, n, h1, rfl, rfl, rfl, by rw [List.size_toArray]; exact h2, by simpa using h3⟩
theorem LsG.mono {K : PySem.W.Frag} {G G' : Hp} {a : Addr} {xs : List V} (e : Same G G') (h : LsG K G a xs) : LsG K G' a xs := by
  rcases h with (h | ⟨o, h⟩) | h
  · exact .inl (.inl (e _ _ h))
  · exact .inl (.inr ⟨o, e _ _ h⟩)
  · exact .inr h
/-- a tuple that may be read and whose methods may be called: its object is known to have no dict -/
def TupAt (K : PySem.W.Frag) (G : Hp) (a : Addr) (xs : List V) : Prop :=
  (∃ o, G a = some (.frz o (.tup xs)) ∧ o.dict = none) ∨
    ∃ (o : Obj) (its : Array Value) (n : Nat), K.lookup a = some o ∧ o.cls = .type "tuple" ∧ o.dict = none ∧ o.data = .seq its n ∧ its.size ≤ sizeLine ∧ Vals xs its.toList
theorem TupAt.sq {K : PySem.W.Frag} {G : Hp} {a : Addr} {xs : List V} (h : TupAt K G a xs) : SqT K G a xs := by
  rcases h with ⟨o, h, _⟩ | ⟨o, its, n, h1, h2, h3, h4, h5, h6⟩
  · exact .inl (.inr ⟨o, h⟩)
  · exact .inr ⟨o, its, n, h1, h2, h4, h5, h6⟩
theorem TupAt.mono {K : PySem.W.Frag} {G G' : Hp} {a : Addr} {xs : List V} (e : Same G G') (h : TupAt K G a xs) : TupAt K G' a xs := by
  rcases h with ⟨o, h, d⟩ | h
  · exact .inl ⟨o, e _ _ h, d⟩
  · exact .inr h
section
variable (c : Cf) (G : Hp)
mutual
inductive Rep : V → D → Prop
  | non : Rep .non .non
  | bl (b : Bool) : Rep (.bl b) (.bl b)
  | int (i : Int) : Rep (.int i) (.int i)
  | str (x : Str) : Rep (.str x) (.str x)
  | tup {a : Addr} {xs : List V} {ds : List D} : TupAt c.K G a xs → RepL xs ds → Rep (.ref a) (.tup ds)
  | lst {a : Addr} {xs : List V} {ds : List D} : LsG c.K G a xs → RepL xs ds → Rep (.ref a) (.lst ds)
  | dic {a : Addr} {ks : List Key} {xs : List V} {ds : List D} : Rd G a (.dK (ks.zip xs)) → ks.length = xs.length → RepL xs ds → Rep (.ref a) (.dic ks ds)
  | rcd {a dx : Addr} {ns : List Str} {xs : List V} {ds : List D} : G a = some (.ins c.farm dx (ns.zip xs)) → ns.length = xs.length → RepL xs ds → Rep (.ref a) (.rcd ns ds)
  | raw (v : V) : Rep v (.raw v)
inductive RepL : List V → List D → Prop
  | nil : RepL [] []
  | cons {v : V} {vs : List V} {d : D} {ds : List D} : Rep v d → RepL vs ds → RepL (v :: vs) (d :: ds)
end
end
section
variable {c : Cf} {G G' H : Hp}
theorem same_seqT {K : PySem.W.Frag} {a : Addr} {xs : List V} (e : Same G G') (h : SqT K G a xs) : SqT K G' a xs := by
  rcases h with (h | ⟨o, h⟩) | h
  · exact .inl (.inl (e _ _ h))
  · exact .inl (.inr ⟨o, e _ _ h⟩)
  · exact .inr h
theorem same_rd {a : Addr} {u : HO} (e : Same G G') (h : Rd G a u) : Rd G' a u := by
  rcases h with h | ⟨o, h⟩
  · exact .inl (e _ _ h)
  · exact .inr ⟨o, e _ _ h⟩
mutual
theorem Rep.mono (e : Same G G') : ∀ {v : V} {d : D}, Rep c G v d → Rep c G' v d
  | _, _, .non => .non
  | _, _, .bl b => .bl b
  | _, _, .int i => .int i
  | _, _, .str x => .str x
  | _, _, .tup s r => .tup (s.mono e) (RepL.mono e r)
  | _, _, .lst s r => .lst (s.mono e) (RepL.mono e r)
  | _, _, .dic s l r => .dic (same_rd e s) l (RepL.mono e r)
  | _, _, .rcd s l r => .rcd (e _ _ s) l (RepL.mono e r)
  | _, _, .raw v => .raw v
theorem RepL.mono (e : Same G G') : ∀ {vs : List V} {ds : List D}, RepL c G vs ds → RepL c G' vs ds
  | _, _, .nil => .nil
  | _, _, .cons h t => .cons (Rep.mono e h) (RepL.mono e t)
end
theorem RepL.length : ∀ {vs : List V} {ds : List D}, RepL c G vs ds → vs.length = ds.length
  | _, _, .nil => rfl
  | _, _, .cons _ t => by rw [List.length_cons, List.length_cons, RepL.length t]
theorem RepL.get : ∀ {vs : List V} {ds : List D} {i : Nat} {d : D}, RepL c G vs ds → ds[i]? = some d → ∃ v, vs[i]? = some v ∧ Rep c G v d
  | _, _, _, _, .nil, e => by simp at e
  | _, _, 0, _, .cons r _, e => by simp at e; subst e; exact ⟨_, rfl, r⟩
  | _, _, i + 1, d, .cons _ t, e => by
    obtain ⟨u, h1, h2⟩ := RepL.get (i := i) (d := d) t (by simpa using e)
    exact ⟨u, by simpa using h1, h2⟩
theorem RepL.getV : ∀ {vs : List V} {ds : List D} {i : Nat} {v : V}, RepL c G vs ds → vs[i]? = some v → ∃ d, ds[i]? = some d ∧ Rep c G v d
  | _, _, _, _, .nil, e => by simp at e
  | _, _, 0, _, .cons r _, e => by simp at e; subst e; exact ⟨_, rfl, r⟩
  | _, _, i + 1, d, .cons _ t, e => by
    obtain ⟨u, h1, h2⟩ := RepL.getV (i := i) (v := d) t (by simpa using e)
    exact ⟨u, by simpa using h1, h2⟩
theorem RepL.append : ∀ {vs ws : List V} {ds es : List D}, RepL c G vs ds → RepL c G ws es → RepL c G (vs ++ ws) (ds ++ es)
  | _, _, _, _, .nil, s => s
  | _, _, _, _, .cons r t, s => .cons r (RepL.append t s)
theorem RepL.take : ∀ {vs : List V} {ds : List D} (n : Nat), RepL c G vs ds → RepL c G (vs.take n) (ds.take n)
  | _, _, 0, _ => .nil
  | _, _, _ + 1, .nil => .nil
  | _, _, n + 1, .cons r t => .cons r (RepL.take n t)
theorem RepL.drop : ∀ {vs : List V} {ds : List D} (n : Nat), RepL c G vs ds → RepL c G (vs.drop n) (ds.drop n)
  | _, _, 0, r => r
  | _, _, _ + 1, .nil => .nil
  | _, _, n + 1, .cons _ t => RepL.drop n t
theorem RepL.set {x : V} {d : D} (r : Rep c G x d) : ∀ {vs : List V} {ds : List D} (i : Nat), RepL c G vs ds → RepL c G (vs.set i x) (ds.set i d)
  | _, _, _, .nil => .nil
  | _, _, 0, .cons _ t => .cons r t
  | _, _, i + 1, .cons q t => .cons q (RepL.set r i t)
theorem RepL.eraseIdx : ∀ {vs : List V} {ds : List D} (i : Nat), RepL c G vs ds → RepL c G (vs.eraseIdx i) (ds.eraseIdx i)
  | _, _, _, .nil => .nil
  | _, _, 0, .cons _ t => t
  | _, _, i + 1, .cons q t => .cons q (RepL.eraseIdx i t)
theorem RepL.one {v : V} {d : D} (r : Rep c G v d) : RepL c G [v] [d] := .cons r .nil

/-! ### cells, outcomes -/
/-- a list (or dict) that the def may change: its content -/
def Own (c : Cf) (G : Hp) (o : Option HO) : D → Prop
  | .lst ds => ∃ xs, o = some (.lst xs) ∧ RepL c G xs ds
  | .dic ks ds => ∃ xs, o = some (.dK (ks.zip xs)) ∧ ks.length = xs.length ∧ RepL c G xs ds
  | .rcd ns ds => ∃ dx xs, o = some (.ins c.farm dx (ns.zip xs)) ∧ ns.length = xs.length ∧ RepL c G xs ds
  | _ => False
theorem Own.mono {o : Option HO} {d : D} (e : Same G G') (h : Own c G o d) : Own c G' o d := by
  cases d <;> first | exact h.elim | skip
  · obtain ⟨xs, h1, h2⟩ := h; exact ⟨xs, h1, h2.mono e⟩
  · obtain ⟨xs, h1, h3, h2⟩ := h; exact ⟨xs, h1, h3, h2.mono e⟩
  · obtain ⟨dx, xs, h1, h3, h2⟩ := h; exact ⟨dx, xs, h1, h3, h2.mono e⟩
theorem Own.some {o : Option HO} {d : D} (h : Own c G o d) : ∃ u, o = some u := by
  cases d <;> first | exact h.elim | skip
  · obtain ⟨xs, h1, _⟩ := h; exact ⟨_, h1⟩
  · obtain ⟨xs, h1, _⟩ := h; exact ⟨_, h1⟩
  · obtain ⟨dx, xs, h1, _⟩ := h; exact ⟨_, h1⟩
/-- frozen, what was owned is data -/
theorem Own.rep {a : Addr} {d : D} (h : Own c G (G' a) d) (e : Same G G') : Rep c G' (.ref a) d := by
  cases d <;> first | exact h.elim | skip
  · obtain ⟨xs, h1, h2⟩ := h; exact .lst (.inl (.inl h1)) (h2.mono e)
  · obtain ⟨xs, h1, h3, h2⟩ := h; exact .dic (.inl h1) h3 (h2.mono e)
  · obtain ⟨dx, xs, h1, h3, h2⟩ := h; exact .rcd h1 h3 (h2.mono e)

inductive Cell where
  | no | dat (d : D) | own (d : D)
abbrev Cells := List Cell
/-- an error: its class, its fields -/
structure Exc where
  c : Nat
  fs : List D
inductive Out (α : Type) where
  | stuck | ok (a : α) (ρ : Cells) | exc (x : Exc) (ρ : Cells)
abbrev M (α : Type) := Cells → Out α
def Out.andThen {α β : Type} (o : Out α) (k : α → M β) : Out β := match o with
  | .stuck => .stuck
  | .ok a ρ => k a ρ
  | .exc x ρ => .exc x ρ
def M.bind {α β : Type} (f : M α) (k : α → M β) : M β := fun ρ => (f ρ).andThen k
def M.pure {α : Type} (a : α) : M α := fun ρ => .ok a ρ
def M.stuck {α : Type} : M α := fun _ => .stuck
def M.lift {α : Type} (o : Option α) : M α := fun ρ => match o with
  | some a => .ok a ρ
  | none => .stuck
inductive OutS where
  | stuck | next (ρ : Cells) | ret (d : D) (ρ : Cells) | brk (ρ : Cells) | cont (ρ : Cells) | exc (x : Exc) (ρ : Cells)
abbrev MS := Cells → OutS

/-! ### how cells lie: G what never changes, A the addresses of what is owned, B the slots of parameters by reference -/
structure Rel (c : Cf) (B : List (Nat × Addr)) (G : Hp) (A : Addr → Prop) (H : Hp) (σ : L2.St) (ρ : Cells) : Prop where
  same : Same G H
  len : σ.length = ρ.length
  ownA : ∀ b, A b → G b = none ∧ ∃ o, H b = some o
  dat : ∀ (i : Nat) (d : D), ρ[i]? = some (.dat d) → ∃ v, σ[i]? = some (some v) ∧ Rep c G v d
  own : ∀ (i : Nat) (d : D), ρ[i]? = some (.own d) → ∃ p, σ[i]? = some (some (.ref p)) ∧ A p ∧ Own c G (H p) d
  dis : ∀ (i j : Nat) (d e : D) (p : Addr), i ≠ j → ρ[i]? = some (.own d) → ρ[j]? = some (.own e) → σ[i]? = some (some (.ref p)) → σ[j]? = some (some (.ref p)) → False
  byr : ∀ q ∈ B, σ[q.1]? = some (some (.ref q.2)) ∧ A q.2 ∧ ∃ d, ρ[q.1]? = some (.own d)
/-- the heap has grown by what is new -/
structure Ext (G H G' H' : Hp) : Prop where
  gg : Same G G'
  hh : Same H H'
  gh : Same G' H'
  new : ∀ b o, H b = some o → G' b = G b
theorem Ext.refl (h : Same G H) : Ext G H G H := ⟨Same.refl _, Same.refl _, h, fun _ _ _ => rfl⟩
theorem Ext.trans {G1 G2 H1 H2 : Hp} (a : Ext G H G1 H1) (b : Ext G1 H1 G2 H2) : Ext G H G2 H2 :=
  ⟨a.gg.trans b.gg, a.hh.trans b.hh, b.gh, fun x o h => (b.new x o (a.hh x o h)).trans (a.new x o h)⟩
theorem same_upd {p : Addr} {o : HO} (hp : H p = none) : Same H (upd H p o) := fun b u e => by
  rw [upd_ne (ne_of_none e hp)]; exact e
theorem Ext.upd {p : Addr} {o : HO} (h : Same G H) (hp : H p = none) : Ext G H (upd G p o) (upd H p o) :=
  ⟨same_upd (h.free hp), same_upd hp, fun b u e => by
    by_cases z : b = p
    · subst z; rw [upd_same] at e ⊢; exact e
    · rw [upd_ne z] at e ⊢; exact h b u e, fun b u e => upd_ne (ne_of_none e hp)⟩
theorem Ext.updH {p : Addr} {o : HO} (h : Same G H) (hp : H p = none) : Ext G H G (L2.upd H p o) :=
  ⟨Same.refl _, same_upd hp, h.trans (same_upd hp), fun b u e => rfl⟩
/-- what is not owned stands -/
def Keep (A : Addr → Prop) (G H G' H' : Hp) : Prop := ∀ b o, H b = some o → ¬ A b → H' b = some o ∧ G' b = G b
theorem Keep.refl {A : Addr → Prop} (G H : Hp) : Keep A G H G H := fun _ _ h _ => ⟨h, rfl⟩
theorem Keep.trans {A : Addr → Prop} {G1 G2 H1 H2 : Hp} (a : Keep A G H G1 H1) (b : Keep A G1 H1 G2 H2) : Keep A G H G2 H2 := fun x o h n => ⟨(b x o (a x o h n).1 n).1, (b x o (a x o h n).1 n).2.trans (a x o h n).2⟩
theorem Ext.keep {A : Addr → Prop} {H' : Hp} (e : Ext G H G' H') : Keep A G H G' H' := fun b o h _ => ⟨e.hh b o h, e.new b o h⟩
theorem Rel.ext {B : List (Nat × Addr)} {A : Addr → Prop} {H' : Hp} {σ : L2.St} {ρ : Cells} (R : Rel c B G A H σ ρ) (e : Ext G H G' H') : Rel c B G' A H' σ ρ where
  same := e.gh
  len := R.len
  ownA := fun b hb => by
    obtain ⟨h1, o, h2⟩ := R.ownA b hb
    exact ⟨(e.new b o h2).trans h1, o, e.hh b o h2⟩
  dat := fun i d h => by
    obtain ⟨v, h1, h2⟩ := R.dat i d h
    exact ⟨v, h1, h2.mono e.gg⟩
  own := fun i d h => by
    obtain ⟨p, h1, h2, h3⟩ := R.own i d h
    obtain ⟨u, hu⟩ := h3.some
    refine ⟨p, h1, h2, ?_⟩
    rw [e.hh p u hu, ← hu]
    exact h3.mono e.gg
  dis := R.dis
  byr := R.byr

/-- how an error lies: its own dict at dd -/
def ExcAt (c : Cf) (G : Hp) (x : Exc) (dd : Addr) : Prop := ∃ vs, G dd = some (.xd ((c.flds x.c).zip vs)) ∧ RepL c G vs x.fs
theorem ExcAt.mono {x : Exc} {dd : Addr} (e : Same G G') (h : ExcAt c G x dd) : ExcAt c G' x dd := by
  obtain ⟨vs, h1, h2⟩ := h
  exact ⟨vs, e _ _ h1, h2.mono e⟩

/-! ### what is wanted behind an outcome -/
def After {α : Type} (c : Cf) (B : List (Nat × Addr)) (W : WX) (G : Hp) (A : Addr → Prop) (H : Hp) (σ : L2.St) (o : Out α) (Q : α → Cells → Hp → Hp → Prop) : Prop := match o with
  | .stuck => False
  | .ok a ρ' => ∀ G' H', Same G G' → Keep A G H G' H' → Rel c B G' A H' σ ρ' → Q a ρ' G' H'
  | .exc x ρ' => ∀ G' H' dd, Same G G' → Keep A G H G' H' → Rel c B G' A H' σ ρ' → ExcAt c G' x dd → W (.ref (c.exc x.c)) (some dd) σ H'
variable {B : List (Nat × Addr)} {W : WX} {A : Addr → Prop} {σ : L2.St} {ρ : Cells}
theorem After.imp {α : Type} {o : Out α} {Q Q' : α → Cells → Hp → Hp → Prop} (h : After c B W G A H σ o Q) (k : ∀ a ρ' G' H', Same G G' → Keep A G H G' H' → Rel c B G' A H' σ ρ' → Q a ρ' G' H' → Q' a ρ' G' H') : After c B W G A H σ o Q' := by
  cases o with
  | stuck => exact h
  | ok a ρ' => exact fun G' H' s kk R => k a ρ' G' H' s kk R (h G' H' s kk R)
  | exc x ρ' => exact h
theorem After.of {α : Type} {o : Out α} {Q : α → Cells → Hp → Hp → Prop} {G' H' : Hp} (s : Same G G') (k : Keep A G H G' H') (h : After c B W G A H σ o Q) : After c B W G' A H' σ o Q := by
  cases o with
  | stuck => exact h
  | ok a ρ' => exact fun G2 H2 s2 k2 R => h G2 H2 (s.trans s2) (k.trans k2) R
  | exc x ρ' => exact fun G2 H2 dd s2 k2 R => h G2 H2 dd (s.trans s2) (k.trans k2) R
theorem After.split {α β : Type} {f : M α} {k : α → M β} {Q : β → Cells → Hp → Hp → Prop} (h : After c B W G A H σ ((f.bind k) ρ) Q) :
    After c B W G A H σ (f ρ) fun a ρ' G' H' => After c B W G' A H' σ (k a ρ') Q := by
  unfold M.bind at h
  cases e : f ρ with
  | stuck => rw [e] at h; exact h
  | ok a ρ' =>
    rw [e] at h
    exact fun G' H' s kk R => After.of s kk h
  | exc x ρ' => rw [e] at h; exact h
theorem After.ok {α : Type} {a : α} {Q : α → Cells → Hp → Hp → Prop} (h : After c B W G A H σ (.ok a ρ) Q) (R : Rel c B G A H σ ρ) : Q a ρ G H := h G H (Same.refl _) (Keep.refl _ _) R
end

/-! ### readings of expressions -/
/-- an operand: evaluated to data, or a slot that owns its content (read when the operation is done) -/
inductive Opn where
  | dat (f : M D) | own (i : Nat)
def cellD : Option Cell → Option D
  | some (.dat d) => some d
  | some (.own d) => some d
  | _ => none
def Opn.pre : Opn → M D
  | .dat f => f
  | .own i => fun ρ => match cellD ρ[i]? with
    | some _ => .ok .non ρ
    | none => .stuck
def Opn.rd : Opn → D → Cells → Option D
  | .dat _, d, _ => some d
  | .own i, _, ρ => cellD ρ[i]?
def rdM (o : Opn) (d : D) : M D := fun ρ => match o.rd d ρ with
  | some e => .ok e ρ
  | none => .stuck
/-- a value that stands for d, frozen or owned -/
def Opr (c : Cf) (G H : Hp) (v : V) (d : D) : Prop := Rep c G v d ∨ ∃ p, v = .ref p ∧ Own c G (H p) d

def tM (c : Cf) (B : List (Nat × Addr)) (W : WX) (f : M D) : TE := fun σ H Q => ∃ G A ρ, Rel c B G A H σ ρ ∧ After c B W G A H σ (f ρ) fun d _ G' H' => ∀ v, Rep c G' v d → Q v H'
def tO (c : Cf) (B : List (Nat × Addr)) (W : WX) (o : Opn) : TE := fun σ H Q => ∃ G A ρ, Rel c B G A H σ ρ ∧ After c B W G A H σ (o.pre ρ) fun d _ G' H' => ∀ v,
  (∀ G2 H2 ρ2 d2, Same G' G2 → Rel c B G2 A H2 σ ρ2 → o.rd d ρ2 = some d2 → Opr c G2 H2 v d2) → Q v H'
/-- a new list or dict, not yet frozen -/
def tF (c : Cf) (B : List (Nat × Addr)) (W : WX) (f : M D) : TE := fun σ H Q => ∃ G A ρ, Rel c B G A H σ ρ ∧ After c B W G A H σ (f ρ) fun d _ G' H' => ∀ p H2, H' p = none → Same H' H2 → Own c G' (H2 p) d → Q (.ref p) H2
def tT (c : Cf) (B : List (Nat × Addr)) (W : WX) (f : M Bool) : TT := fun σ H Q => ∃ G A ρ, Rel c B G A H σ ρ ∧ After c B W G A H σ (f ρ) fun b _ _ H' => Q b H'

theorem pe_imp {X : Cx} {e : Expr} {t t' : TE} (h : PE X e t) (k : ∀ σ H Q, t' σ H Q → t σ H Q) : PE X e t' := ⟨fun pins s σ H Q I q => h.run pins s σ H Q I (k σ H Q q)⟩
theorem pt_imp {X : Cx} {e : Expr} {t t' : TT} (h : PT X e t) (k : ∀ σ H Q, t' σ H Q → t σ H Q) : PT X e t' := ⟨fun pins s σ H Q I q => h.run pins s σ H Q I (k σ H Q q)⟩
theorem pa_imp {X : Cx} {e : List Expr} {t t' : TA} (h : PA X e t) (k : ∀ σ H Q, t' σ H Q → t σ H Q) : PA X e t' := ⟨fun pos pins s σ H Q I q => h.run pos pins s σ H Q I (k σ H Q q)⟩
theorem ps_imp {X : Cx} {e : Stmt} {t t' : TS} (h : PS X e t) (k : ∀ D σ H, t' D σ H → t D σ H) : PS X e t' := ⟨fun pins s σ H D I q => h.run pins s σ H D I (k D σ H q)⟩
theorem pss_imp {X : Cx} {e : List Stmt} {t t' : TS} (h : PSs X e t) (k : ∀ D σ H, t' D σ H → t D σ H) : PSs X e t' := ⟨fun pins s σ H D I q => h.run pins s σ H D I (k D σ H q)⟩
theorem pg_imp {X : Cx} {e : Expr} {t t' : TG} (h : PG X e t) (k : ∀ v σ H Q, t' v σ H Q → t v σ H Q) : PG X e t' := ⟨fun pins s σ H v u Q I r q => h.run pins s σ H v u Q I r (k v σ H Q q)⟩
theorem pi_imp {X : Cx} {tg e : Expr} {t t' : TI} (h : PI X tg e t) (k : ∀ σ H Q, t' σ H Q → t σ H Q) : PI X tg e t' := ⟨fun pins s σ H Q I q => h.run pins s σ H Q I (k σ H Q q)⟩

section
variable {c : Cf} {B : List (Nat × Addr)} {W : WX} {X : Cx}
theorem Opr.mono {G G' H : Hp} {v : V} {d : D} (e : Same G G') (h : Opr c G H v d) : Opr c G' H v d := by
  rcases h with h | ⟨p, h1, h2⟩
  · exact .inl (h.mono e)
  · exact .inr ⟨p, h1, h2.mono e⟩
/-- data as an operand -/
theorem po_dat {e : Expr} {f : M D} (h : PE X e (tM c B W f)) : PE X e (tO c B W (.dat f)) := pe_imp h fun σ H Q ⟨G, A, ρ, R, a⟩ =>
  ⟨G, A, ρ, R, a.imp fun d ρ' G' H' _ _ _ q v r => q v fun G2 H2 ρ2 d2 s2 _ e2 => by cases e2; exact .inl (r.mono s2)⟩
theorem Rel.cell {G H : Hp} {A : Addr → Prop} {σ : L2.St} {ρ : Cells} {i : Nat} {d : D} (R : Rel c B G A H σ ρ) (e : cellD ρ[i]? = some d) : ∃ v, σ[i]? = some (some v) ∧ Opr c G H v d := by
  cases q : ρ[i]? with
  | none => rw [q] at e; cases e
  | some cl =>
    rw [q] at e
    cases cl with
    | no => cases e
    | dat d' =>
      cases e
      obtain ⟨w, h1, h2⟩ := R.dat i _ q
      exact ⟨w, h1, .inl h2⟩
    | own d' =>
      cases e
      obtain ⟨p, h1, _, h3⟩ := R.own i _ q
      exact ⟨_, h1, .inr ⟨p, rfl, h3⟩⟩
/-- a slot that owns, as an operand -/
theorem po_own (i : Nat) {x : Str} {pos : Pos} (hN : X.N[i]? = some x := by rfl) (hv : Vis X.env.scope x := by first | exact Or.inl rfl | exact Or.inr (Or.inl rfl) | exact Or.inr (Or.inr rfl)) (hd : (x == ("__debug__" : Str)) = false := by decide)
    (hcd : (x == ("__classdict__" : Str)) = false := by decide) : PE X (.Name x pos) (tO c B W (.own i)) := pe_imp (pe_var hN hv hd hcd) fun σ H Q ⟨G, A, ρ, R, a⟩ => by
  have a' : After c B W G A H σ (match cellD ρ[i]? with | some _ => Out.ok D.non ρ | none => Out.stuck) _ := a
  cases e : cellD ρ[i]? with
  | none => rw [e] at a'; exact a'.elim
  | some d =>
    rw [e] at a'
    obtain ⟨v, hv, _⟩ := R.cell e
    refine ⟨v, hv, After.ok a' R v fun G2 H2 ρ2 d2 _ R2 e2 => ?_⟩
    obtain ⟨w, h1, h2⟩ := R2.cell (i := i) (d := d2) e2
    rw [hv] at h1; cases h1
    exact h2
end
end Fx
set_option Elab.async false
set_option linter.all false
set_option maxRecDepth 100000
set_option maxHeartbeats 4000000
/-! FxT: tuples whose object is known (their methods ask that), the rules that make them. -/
namespace Fx
open PySem PySem.Spec PyProof.Rows L2
def tob (its : List Value) : Obj := { cls := .type "tuple", data := .seq its.toArray }
section
variable {X : Cx} {pins : List (Addr × Obj)} {σ : L2.St} {H : Hp} {s : Shared}
theorem tnew {ys : List V} {its : List Value} {t' : Nat} (I : Inv X pins σ H s) (hv : Vals ys its) (hz : ys.length ≤ sizeLine) :
    Inv X pins σ (upd H s.heap.objs.size (.frz (tob its) (.tup ys))) { s with heap := s.heap.push (tob its), toks := t' } :=
  I.laid (fun _ _ q => Heap.get?_push_of_some _ q) (Nat.le_refl _) ⟨Heap.get?_push_size _ rfl, hz, its, hv, IsTup.new _ _⟩
theorem fresh (I : Inv X pins σ H s) : H s.heap.objs.size = none := I.hok.fresh (Nat.le_refl _)
end
/-- a new tuple of xs -/
def TN (H : Hp) (xs : List V) (Q : VK) : Prop := ∀ p its, H p = none → Q (.ref p) (upd H p (.frz (tob its) (.tup xs)))
section
variable {X : Cx} {e : Expr} {es : List Expr} {te : TE} {t : TA} {pos : Pos}
def tTupN (t : TA) : TE := fun σ H Q => t σ H fun xs H1 => xs.length ≤ sizeLine ∧ TN H1 xs Q
theorem pe_tupN {x1} (h : PA X es t) : PE X (.Tuple es x1 pos) (tTupN t) := by
  refine ⟨fun pins s σ H Q I hq => ?_⟩
  refine wpAny_Tuple_spliced (thn (h.run pos pins s σ H _ I hq) fun us s1 ⟨xs, H1, I1, r, z, q⟩ => ⟨by rw [← r.length]; exact z, ?_⟩)
  exact ⟨.ref s1.heap.objs.size, _, tnew (t' := s1.toks) I1 r z, rfl, q _ us (fresh I1)⟩
def rTupleOf (K : PySem.W.Frag) : List V → Hp → VK → Prop := fun xs H Q => ∃ p ys, xs = [.ref p] ∧ ((SqL K H p ys ∧ TN H ys Q) ∨ (SqT K H p ys ∧ Q (.ref p) H))
theorem call_tupleN : CallR X (.type "tuple") (rTupleOf X.K) := by
  intro pins s σ H xs us Q I r h
  obtain ⟨p, ys, rfl, h⟩ := h
  obtain ⟨u, rfl, rx⟩ := vals1 r
  cases rx
  rcases h with ⟨hq, q⟩ | ⟨hq, q⟩
  · obtain ⟨its, r', pl, hz⟩ := I.list hq
    have hlen := r'.length
    refine call_tuple_list pl.isList (fun h' kp => ?_) (by simp only [List.size_toArray] <;> omega)
    have I1 : Inv X pins σ H { s with heap := h' } := I.kept (t' := s.toks) kp
    exact ⟨.ref h'.objs.size, _, tnew (t' := s.toks) I1 r' hz, rfl, q _ its (fresh I1)⟩
  · obtain ⟨its, r', pl, hz⟩ := I.tuple hq
    exact call_tuple_same pl ⟨.ref p, H, I, rfl, q⟩
def rCatN (K : PySem.W.Frag) : R2 := fun x y H Q => ∃ a b xs ys, x = .ref a ∧ y = .ref b ∧ SqT K H a xs ∧ SqT K H b ys ∧ xs.length + ys.length ≤ sizeLine ∧
  (xs = [] → Q (.ref b) H) ∧ (xs ≠ [] → ys = [] → Q (.ref a) H) ∧ (xs ≠ [] → ys ≠ [] → TN H (xs ++ ys) Q)
theorem op_catN : OpR X (binaryOp .Add) (rCatN X.K) := by
  intro pins s σ H x y v u Q I rx ry h
  obtain ⟨a, b, xs, ys, rfl, rfl, ha, hb, hz, q0, q1, q2⟩ := h
  cases rx
  cases ry
  obtain ⟨its, r1, p1, _⟩ := I.tuple ha
  obtain ⟨its2, r2, p2, _⟩ := I.tuple hb
  by_cases hx : xs = []
  · subst hx
    cases r1
    exact cat_tup0 p1 p2 ⟨.ref b, H, I, rfl, q0 rfl⟩
  · refine HT.cat_tup p1 p2 (fun z => hx (r1.nil_iff.mp z)) (fun z => ⟨.ref a, H, I, rfl, q1 hx (r2.nil_iff.mp z)⟩) (fun z => ?_) (by rw [← r1.length, ← r2.length]; exact hz)
    have I2 := tnew (t' := s.toks) I (r1.append r2) (by rw [List.length_append]; exact hz)
    exact ⟨.ref s.heap.objs.size, _, I2, rfl, q2 hx (fun w => z (r2.nil_iff.mpr w)) _ _ (fresh I)⟩
def rSlN (K : PySem.W.Frag) : V → Option Int → Option Int → Hp → VK → Prop := fun x lo hi H Q => ∃ a xs, x = .ref a ∧ SqT K H a xs ∧
  (HT.sIx xs.length 0 lo = 0 ∧ HT.sIx xs.length xs.length hi = xs.length → Q (.ref a) H) ∧ (¬ (HT.sIx xs.length 0 lo = 0 ∧ HT.sIx xs.length xs.length hi = xs.length) → TN H (cutV xs lo hi) Q)
theorem sl_tupN : SlR X (rSlN X.K) := by
  intro pins s σ H x v vl vu lo hi sl Q I rx hs pl pu h
  obtain ⟨a, xs, rfl, hx, q1, q2⟩ := h
  cases rx
  obtain ⟨its, r, ht, hz⟩ := I.tuple hx
  have hlen : its.toArray.size = xs.length := by rw [List.size_toArray]; exact r.length.symm
  refine ⟨"tuple", _, PyProof.Rows.slot_tuple_getitem.lookup, ht.typeIs, ?_⟩
  by_cases hw : HT.sIx xs.length 0 lo = 0 ∧ HT.sIx xs.length xs.length hi = xs.length
  · exact getItem_tuple_whole ht hs pl pu (by rw [hlen]; exact hw) ⟨.ref a, H, I, rfl, q1 hw⟩
  · refine HT.getItem_tuple_cut ht hs pl pu (by rw [hlen]; exact hw) ?_ (by rw [hlen]; exact hz)
    rw [hlen]
    have I2 := tnew (t' := s.toks) I ((r.drop (HT.sIx xs.length 0 lo)).take (HT.sIx xs.length xs.length hi - HT.sIx xs.length 0 lo)) (Nat.le_trans (cutV_length xs lo hi) hz)
    exact ⟨.ref s.heap.objs.size, _, I2, rfl, q2 hw _ _ (fresh I)⟩
theorem LsG.ok {pins : List (Addr × Obj)} {σ : L2.St} {H : Hp} {s : Shared} {a : Addr} {xs : List V} (I : Inv X pins σ H s) (h : Fx.LsG X.K H a xs) : xs.length ≤ sizeLine ∧ ∃ (its : List Value) (n : Nat), Vals xs its ∧ s.heap.get? a = some { cls := .type "list", data := .seq its.toArray n } := by
  rcases h with h | ⟨its, n, h1, h2, h3⟩
  · obtain ⟨z, its, n, r, e⟩ := h.ok I.hok
    exact ⟨z, its, n, r, e⟩
  · exact ⟨by rw [h3.length]; exact h2, its, n, h3, I.kIn _ _ h1⟩
/-- list + list, each tracked or frozen -/
def rCatR (K : PySem.W.Frag) : R2 := fun x y H Q => ∃ l b xs zs, x = .ref l ∧ y = .ref b ∧ LsG K H l xs ∧ LsG K H b zs ∧ xs.length + zs.length ≤ sizeLine ∧ ∀ p, H p = none → Q (.ref p) (upd H p (.lst (xs ++ zs)))
theorem op_catR : OpR X (binaryOp .Add) (rCatR X.K) := by
  intro pins s σ H x y v u Q I rx ry h
  obtain ⟨l, b, xs, zs, rfl, rfl, hH, hB, hz, q⟩ := h
  cases rx
  cases ry
  obtain ⟨z, its, n, r, e⟩ := LsG.ok I hH
  obtain ⟨z2, its2, n2, r2, e2⟩ := LsG.ok I hB
  have hl := r.length
  have hl2 := r2.length
  refine PySem.P.add_list e e2 ?_ (by rw [List.size_toArray, List.size_toArray]; omega)
  have ea : its.toArray ++ its2.toArray = (its ++ its2).toArray := by simp
  rw [ea]
  exact ⟨.ref _, _, I.lnew (t' := s.toks) (r.append r2) (by rw [List.length_append]; omega), rfl, q _ I.fresh⟩
/-- list * int, tracked or frozen -/
def rRepR (K : PySem.W.Frag) : R2 := fun x y H Q => ∃ l k xs, x = .ref l ∧ y = .int k ∧ LsG K H l xs ∧ -(2 ^ 63) ≤ k ∧ k < 2 ^ 63 ∧ xs.length * k.toNat ≤ sizeLine ∧
  ∀ p, H p = none → Q (.ref p) (upd H p (.lst (List.replicate k.toNat xs).flatten))
theorem op_repR : OpR X (binaryOp .Mult) (rRepR X.K) := by
  intro pins s σ H x y v u Q I rx ry h
  obtain ⟨l, k, xs, rfl, rfl, hH, h1, h2, hz, q⟩ := h
  cases rx
  obtain ⟨t, rfl⟩ := ry
  obtain ⟨z, its, n, r, e⟩ := LsG.ok I hH
  have hl := r.length
  have hlen : its.toArray.size * k.toNat ≤ sizeLine := by rw [List.size_toArray, ← hl]; exact hz
  have hcap : ¬ its.toArray.size * k.toNat > (2 ^ 63 - 1) / 8 := by
    have : (sizeLine : Nat) ≤ (2 ^ 63 - 1) / 8 := by decide
    omega
  have hfit : ¬ (!Builtin.List.listFitsIndex k) = true := by
    rw [fitsIndex_both h1 h2]
    exact Bool.false_ne_true
  have hlong : ¬ Builtin.List.listTooLong (its.toArray.size * k.toNat) = true := by
    rw [notLongL hlen]
    exact Bool.false_ne_true
  have hnew : List.foldl (fun x1 x2 => x1 ++ x2) #[] (List.replicate (if its.toArray.isEmpty = true then 0 else k.toNat) its.toArray) = (List.replicate k.toNat its).flatten.toArray := by
    have f0 : ∀ m : Nat, List.foldl (fun x1 x2 => x1 ++ x2) #[] (List.replicate m its.toArray) = (List.replicate m its).flatten.toArray := fun m => by
      have := foldl_rep its m []
      rw [List.nil_append] at this
      exact this
    rw [f0]
    cases its with
    | nil => simp
    | cons a r' => rw [if_neg (by simp)]
  refine wpAny_binaryOp_repeat_ref (T := "list") (U := "int") (by decide) ⟨_, e, rfl⟩ (fun s' => typeIs_int s' k t) noFill_list_mul PySem.F.fills_int_mul PySem.F.slot_int_rmul repeat_list PySem.F.slot_int_index.lookup
    (call_meets PySem.F.slot_int_rmul (typeIs_int s k t) PySem.F.entry_int_rmul (PySem.F.args_int_rmul_2 _ _) (int___rmul___int_list k t l its.toArray n)
      ⟨e, rfl, ⟨_, e, rfl⟩, call_meets PySem.F.slot_list_mul ⟨_, e, rfl⟩ PySem.F.entry_list_mul (PySem.F.args_list_mul_2 _ _) (AutoListH.list___mul___list_int_3 l its.toArray n k t hfit hcap hlong) ⟨e, ?_⟩⟩)
  rw [hnew]
  exact ⟨.ref _, _, I.lnew (t' := s.toks) (r.rep k.toNat) (by rw [PyProof.Rows.lm_len_rep_flat, Nat.mul_comm]; exact hz), rfl, q _ I.fresh⟩
/-- list.extend(list), the second one tracked or frozen -/
def rExtR (K : PySem.W.Frag) : V → List V → Hp → VK → Prop := fun x vs H Q => ∃ l b xs zs, x = .ref l ∧ vs = [.ref b] ∧ H l = some (.lst xs) ∧ LsG K H b zs ∧ xs.length + zs.length ≤ sizeLine ∧ Q .non (upd H l (.lst (xs ++ zs)))
theorem mt_extR : MtM X "list.extend" (rExtR X.K) := by
  intro pins s σ H x xs v us Q I rx rv h
  obtain ⟨l, b, xs, zs, rfl, rfl, hH, hB, hz, q⟩ := h
  cases rx
  obtain ⟨u, rfl, ru⟩ := rv.one
  cases ru
  obtain ⟨z, its, n, r, hl, e⟩ := I.lstM hH
  obtain ⟨z2, its2, n2, r2, e2⟩ := LsG.ok I hB
  have hl2 := r2.length
  have hsz : its.toArray.size + its2.toArray.size ≤ sizeLine := by rw [List.size_toArray, List.size_toArray]; omega
  have hlong : ¬ (!its.toArray.isEmpty && Builtin.List.listTooLong (its.toArray.size + its2.toArray.size)) = true := by
    rw [notLongL hsz, Bool.and_false]
    exact Bool.false_ne_true
  refine call_meets PySem.F.slot_list_extend ⟨_, e, rfl⟩ PySem.F.entry_list_extend (PySem.F.args_list_extend_2 _ _)
    (AutoSeq1.list_extend_list_list_0 l its.toArray n b its2.toArray n2 hlong (by rw [List.size_toArray]; omega) (by omega)) ⟨e, e2, ?_⟩
  refine ⟨.non, _, I.lset (its' := its ++ its2) hH e (by simp) (r.append r2) ?_, rfl, q⟩
  rw [List.length_append]
  omega
/-- the method of a tuple whose object is known -/
def tyT (K : PySem.W.Frag) (x : V) (H : Hp) : Prop := ∃ p xs, x = .ref p ∧ TupAt K H p xs
def tBMT (K : PySem.W.Frag) (r : V → List V → Hp → VK → Prop) (to : TE) (t : TA) : TE := fun σ H Q => to σ H fun x H1 => tyT K x H1 ∧ t σ H1 fun xs H2 => r x xs H2 Q
theorem pe_bmT {o e : Expr} {to : TE} {name : Str} {apos cpos : Pos} {id : String} {r : V → List V → Hp → VK → Prop} (slot : Slot "tuple" name id) (hty : typeOf (.builtin id) = pure (.type "method_descriptor")) (hm : MtR X id r) (ho : PE X o to) (ha : PA X (e :: es) t)
    (hbase : attributeBase o name X.env (eval o X.env) = eval o X.env := by rfl)
    (hfew : ((backTo cpos (starEach (e :: es) X.env)).all (fun x => !x.1) && (backToKw cpos (keywordEach [] X.env)).all (fun x => x.1.isSome)
      && decide ((e :: es).length + ([] : List Keyword).length + (if ([] : List Keyword).isEmpty then 0 else 1) < 30)) = true := by rfl)
    (hline : (apos.endLine == cpos.line) = true := by rfl) (hs : starEach (e :: es) X.env = (false, eval e X.env) :: starEach es X.env := by rfl) (hplain : (backTo cpos (starEach es X.env)).any (·.1) = false := by rfl) :
    PE X (.Call (.Attribute o name apos) (e :: es) [] cpos) (tBMT X.K r to t) := by
  refine ⟨fun pins s σ H Q I h => ?_⟩
  refine wpAny_Call_method_late hbase hfew hline rfl (thn (ho.run pins s σ H _ I h) fun v s1 ⟨x, H1, I1, r1, ty, q1⟩ => ?_)
  obtain ⟨p, xs, rfl, hp⟩ := ty
  cases r1
  obtain ⟨ot, hot, hc, hd⟩ : ∃ o, s1.heap.get? p = some o ∧ o.cls = .type "tuple" ∧ o.dict = none := by
    rcases hp with ⟨ob, hp, hd⟩ | ⟨o, its, n, h1, h2, h3, _⟩
    · obtain ⟨hg, _, its, _, ot, hot, hc, _⟩ := I1.hok p _ hp
      have hoo : ot = ob := Option.some.inj (hot.symm.trans hg)
      subst hoo
      exact ⟨ot, hot, hc, hd⟩
    · exact ⟨o, I1.kIn p o h1, h2, h3⟩
  refine ⟨"tuple", id, PySem.F.plainAttrs_tuple, slot, hty, ⟨ot, hot, hc⟩, fun a e => by cases e; exact ⟨ot, hot, hd⟩, ?_⟩
  have hA := ha.run cpos pins s1 σ H1 _ I1 q1
  rw [hs] at hA ⊢
  refine Calls.callWith_builtin (by show (false || (backTo cpos (starEach es X.env)).any (·.1)) = false; rw [hplain] <;> rfl) (Calls.evalArgs_plain ?_)
  exact thn hA fun us s2 ⟨vs, H2, I2, r2, q2⟩ => hm pins s2 σ H2 (.ref p) vs (.ref p) us Q I2 rfl r2 q2
/-- t.index(x), t of flat things -/
def rTix (K : PySem.W.Frag) : V → List V → Hp → VK → Prop := fun x xs H Q => ∃ (a : Addr) (ys : List V) (y : V) (j : Nat) (z : V), x = V.ref a ∧ xs = [y] ∧ SqT K H a ys ∧ flatV y = true ∧ ys.all flatV = true ∧ ys[j]? = some z ∧ eqV z y = true ∧
  (∀ (m : Nat) (z' : V), m < j → ys[m]? = some z' → eqV z' y = false) ∧ Q (.int (j : Nat)) H
def rTcount (K : PySem.W.Frag) : V → List V → Hp → VK → Prop := fun x xs H Q => ∃ (a : Addr) (ys : List V) (y : V), x = V.ref a ∧ xs = [y] ∧ SqT K H a ys ∧ flatV y = true ∧ ys.all flatV = true ∧ Q (.int (ys.countP fun z => eqV z y : Nat)) H
theorem mt_tix : MtR X "tuple.index" (rTix X.K) := by
  intro pins s σ H x xs v us Q I rx rxs h
  obtain ⟨a, ys, y, j, z, rfl, rfl, hs, fy, fys, hz, hzj, hno, q⟩ := h
  cases rx
  cases rxs with
  | cons ry rt =>
    rename_i uy ut
    cases rt
    obtain ⟨its, rv, ⟨⟨cls, dd, data, sl⟩, ho, hc, n, hd⟩, hlen⟩ := I.tuple hs
    simp only at hc hd
    subst hc hd
    obtain ⟨u, hu, ru⟩ := rv.get hz
    obtain ⟨hjl, hje⟩ := List.getElem?_eq_some_iff.mp hu
    have hvl := rv.length
    have hj : j < its.toArray.size := by simpa using hjl
    refine call_meets PySem.F.slot_tuple_index ⟨_, ho, rfl⟩ PySem.F.entry_tuple_index (PySem.F.args_tuple_index_2 _ _)
      (TI.tuple_indexAt a its.toArray n dd sl uy (eqU y) j hj ?_ ?_) ⟨ho, fun u' hu' => mem_eqAt ry fy rv fys u' (by simpa using hu'), ?_⟩
    · have e1 : its.toArray[j] = u := by simpa using hje
      rw [e1, eqU_of ru (flat_at fys hz)]
      exact hzj
    · intro m hm hmj
      have hml : m < its.length := by simpa using hm
      have hmy : m < ys.length := by omega
      have hy' : ys[m]? = some ys[m] := List.getElem?_eq_getElem hmy
      obtain ⟨u2, hu2, ru2⟩ := rv.get hy'
      obtain ⟨_, hme⟩ := List.getElem?_eq_some_iff.mp hu2
      have e1 : its.toArray[m] = u2 := by simpa using hme
      rw [e1, eqU_of ru2 (flat_at fys hy')]
      exact hno m _ hmj hy'
    · exact ⟨.int (j : Nat), H, I.tok _, ⟨_, rfl⟩, q⟩
theorem countU {y : V} : ∀ {ys : List V} {its : List Value}, Vals ys its → ys.all flatV = true → its.countP (eqU y) = ys.countP fun z => eqV z y
  | _, _, .nil, _ => rfl
  | x :: xs, u :: us, .cons r t, h => by
    rw [List.all_cons, Bool.and_eq_true] at h
    rw [List.countP_cons, List.countP_cons, countU t h.2, eqU_of r h.1]
theorem mt_tcount : MtR X "tuple.count" (rTcount X.K) := by
  intro pins s σ H x xs v us Q I rx rxs h
  obtain ⟨a, ys, y, rfl, rfl, hs, fy, fys, q⟩ := h
  cases rx
  cases rxs with
  | cons ry rt =>
    rename_i uy ut
    cases rt
    obtain ⟨its, rv, ⟨⟨cls, dd, data, sl⟩, ho, hc, n, hd⟩, hlen⟩ := I.tuple hs
    simp only at hc hd
    subst hc hd
    refine call_meets PySem.F.slot_tuple_count ⟨_, ho, rfl⟩ PySem.F.entry_tuple_count (PySem.F.args_tuple_count_2 _ _)
      (SeqAt.tuple_countAt a its.toArray n dd sl uy (eqU y)) ⟨ho, fun u' hu' => mem_eqAt ry fy rv fys u' (by simpa using hu'), ?_⟩
    refine ⟨.int (ys.countP fun z => eqV z y : Nat), H, I.tok _, ⟨s.toks, ?_⟩, q⟩
    show Value.int ((its.toArray.toList.countP (eqU y) : Nat) : Int) s.toks = Value.int ((ys.countP fun z => eqV z y : Nat) : Int) s.toks
    rw [show its.toArray.toList = its from rfl, countU rv fys]
end
end Fx
set_option Elab.async false
set_option linter.all false
set_option maxRecDepth 100000
set_option maxHeartbeats 4000000
/-! Fx2: expressions. -/
namespace Fx
open PySem L2
section
variable {c : Cf} {B : List (Nat × Addr)} {W : WX} {X : Cx}

/-! ### results of operations: frozen, or new -/
def K1 (c : Cf) (G H : Hp) (d : D) (Q : VK) : Prop := ∀ G' H' v, Ext G H G' H' → Rep c G' v d → Q v H'
def K2 (c : Cf) (G H : Hp) (d : D) (Q : VK) : Prop := ∀ p H', H p = none → Same H H' → Own c G (H' p) d → Q (.ref p) H'
theorem ext_own {G H H' : Hp} {p : Addr} {d : D} (s : Same G H) (hp : H p = none) (hh : Same H H') (o : Own c G (H' p) d) : ∃ G', Ext G H G' H' ∧ Rep c G' (.ref p) d := by
  obtain ⟨u, hu⟩ := o.some
  have gp : G p = none := s.free hp
  have e : Ext G H (upd G p u) H' := ⟨same_upd gp, hh, fun b w q => by
    by_cases z : b = p
    · subst z; rw [upd_same] at q; rw [hu]; exact q
    · rw [upd_ne z] at q; exact hh b w (s b w q), fun b w q => upd_ne (ne_of_none q hp)⟩
  refine ⟨_, e, ?_⟩
  have o' : Own c G ((upd G p u) p) d := by rw [upd_same, ← hu]; exact o
  exact o'.rep e.gg
theorem K1.to2 {G H : Hp} {d : D} {Q : VK} (s : Same G H) (k : K1 c G H d Q) : K2 c G H d Q := fun p H' hp hh o => by
  obtain ⟨G', e, r⟩ := ext_own s hp hh o
  exact k G' H' _ e r
theorem K1.flat {G H : Hp} {d : D} {Q : VK} (s : Same G H) (k : K1 c G H d Q) {v : V} (r : Rep c G v d) : Q v H := k G H v (Ext.refl s) r
theorem K1.new {G H : Hp} {d : D} {Q : VK} (s : Same G H) (k : K1 c G H d Q) {p : Addr} {o : HO} (hp : H p = none) (r : Rep c (upd G p o) (.ref p) d) : Q (.ref p) (upd H p o) := k _ _ _ (Ext.upd s hp) r
theorem K1.tup {G H : Hp} {ds : List D} {Q : VK} (s : Same G H) (k : K1 c G H (.tup ds) Q) {p : Addr} {its : List Value} {xs : List V} (hp : H p = none) (r : RepL c G xs ds) : Q (.ref p) (upd H p (.frz (tob its) (.tup xs))) :=
  k.new s hp (.tup (.inl ⟨_, upd_same, rfl⟩) (r.mono (same_upd (s.free hp))))
theorem K2.lst {G H : Hp} {ds : List D} {Q : VK} (k : K2 c G H (.lst ds) Q) {p : Addr} {xs : List V} (hp : H p = none) (r : RepL c G xs ds) : Q (.ref p) (upd H p (.lst xs)) :=
  k p _ hp (same_upd hp) ⟨xs, upd_same, r⟩

/-! ### operations by values -/
/-- what r asks follows from the operation's function on data -/
def Sem2 (c : Cf) (r : R2) (sem : D → D → Option D) : Prop := ∀ (G H : Hp) (x y : V) (d1 d2 d : D) (Q : VK), Same G H → Opr c G H x d1 → Opr c G H y d2 → sem d1 d2 = some d → K1 c G H d Q → r x y H Q
def Sem2F (c : Cf) (r : R2) (sem : D → D → Option D) : Prop := ∀ (G H : Hp) (x y : V) (d1 d2 d : D) (Q : VK), Same G H → Opr c G H x d1 → Opr c G H y d2 → sem d1 d2 = some d → K2 c G H d Q → r x y H Q
theorem Sem2F.plain {r : R2} {sem : D → D → Option D} (h : Sem2F c r sem) : Sem2 c r sem := fun G H x y d1 d2 d Q s a b e k => h G H x y d1 d2 d Q s a b e (k.to2 s)
/-- the meaning of an operation with two operands -/
def mOp2 (sem : D → D → Option D) (oa ob : Opn) : M D := oa.pre.bind fun a => ob.pre.bind fun b => (rdM oa a).bind fun d1 => (rdM ob b).bind fun d2 => M.lift (sem d1 d2)

theorem After.lift {α : Type} {G H : Hp} {A : Addr → Prop} {σ : L2.St} {ρ : Cells} {o : Option α} {Q : α → Cells → Hp → Hp → Prop} (h : After c B W G A H σ (M.lift o ρ) Q) (R : Rel c B G A H σ ρ) : ∃ d, o = some d ∧ Q d ρ G H := by
  cases o with
  | none => exact h.elim
  | some d => exact ⟨d, rfl, After.ok h R⟩
theorem After.rd {α : Type} {G H : Hp} {A : Addr → Prop} {σ : L2.St} {ρ : Cells} {o : Opn} {a : D} {k : D → M α} {Q : α → Cells → Hp → Hp → Prop} (h : After c B W G A H σ (((rdM o a).bind k) ρ) Q) : ∃ d, o.rd a ρ = some d ∧ After c B W G A H σ (k d ρ) Q := by
  unfold M.bind rdM at h
  cases e : o.rd a ρ with
  | none => rw [e] at h; exact h.elim
  | some d => rw [e] at h; exact ⟨d, rfl, h⟩
/-- the heart of a two-operand rule -/
theorem op2_core {r : R2} {sem : D → D → Option D} {oa ob : Opn} {σ : L2.St} {H : Hp} {Q : VK} {Qd : D → Hp → Hp → Prop} {A : Addr → Prop} {G : Hp} {ρ : Cells} (R : Rel c B G A H σ ρ) (a : After c B W G A H σ (mOp2 sem oa ob ρ) fun d _ G' H' => Qd d G' H')
    (k : ∀ G' H' x y d1 d2 d, Same G' H' → Opr c G' H' x d1 → Opr c G' H' y d2 → sem d1 d2 = some d → Qd d G' H' → r x y H' Q) : tOp r (tO c B W oa) (tO c B W ob) σ H Q := by
  refine ⟨G, A, ρ, R, a.split.imp fun da ρ1 G1 H1 _ _ R1 a1 x fx => ?_⟩
  refine ⟨G1, A, ρ1, R1, a1.split.imp fun db ρ2 G2 H2 s2 _ R2 a2 y fy => ?_⟩
  obtain ⟨d1, e1, a2⟩ := a2.rd
  obtain ⟨d2, e2, a2⟩ := a2.rd
  obtain ⟨d, e, q⟩ := a2.lift R2
  exact k G2 H2 x y d1 d2 d R2.same (fx G2 H2 ρ2 d1 s2 R2 e1) (fy G2 H2 ρ2 d2 (Same.refl _) R2 e2) e q
theorem After.k1 {G H : Hp} {A : Addr → Prop} {σ : L2.St} {ρ : Cells} {f : M D} {Q : VK} (a : After c B W G A H σ (f ρ) fun d _ G' H' => ∀ v, Rep c G' v d → Q v H') : After c B W G A H σ (f ρ) fun d _ G' H' => K1 c G' H' d Q := by
  cases e : f ρ with
  | stuck => rw [e] at a; exact a
  | exc x ρ' => rw [e] at a; exact a
  | ok d ρ' =>
    rw [e] at a
    intro G' H' s k R G2 H2 v x r
    exact a G2 H2 (s.trans x.gg) (k.trans x.keep) (R.ext x) v r
theorem After.k2 {G H : Hp} {A : Addr → Prop} {σ : L2.St} {ρ : Cells} {f : M D} {Q : VK} (a : After c B W G A H σ (f ρ) fun d _ G' H' => ∀ p H2, H' p = none → Same H' H2 → Own c G' (H2 p) d → Q (.ref p) H2) : After c B W G A H σ (f ρ) fun d _ G' H' => K2 c G' H' d Q := a
theorem pm_op {e : Expr} {r : R2} {sem : D → D → Option D} {oa ob : Opn} (hs : Sem2 c r sem) (h : PE X e (tOp r (tO c B W oa) (tO c B W ob))) : PE X e (tM c B W (mOp2 sem oa ob)) :=
  pe_imp h fun σ H Q ⟨G, A, ρ, R, a⟩ => op2_core R a.k1 fun G' H' x y d1 d2 d s o1 o2 e q => hs G' H' x y d1 d2 d Q s o1 o2 e q
theorem pf_op {e : Expr} {r : R2} {sem : D → D → Option D} {oa ob : Opn} (hs : Sem2F c r sem) (h : PE X e (tOp r (tO c B W oa) (tO c B W ob))) : PE X e (tF c B W (mOp2 sem oa ob)) :=
  pe_imp h fun σ H Q ⟨G, A, ρ, R, a⟩ => op2_core R a.k2 fun G' H' x y d1 d2 d s o1 o2 e q => hs G' H' x y d1 d2 d Q s o1 o2 e q
/-- what is new may be frozen -/
theorem pm_of_pf {e : Expr} {f : M D} (h : PE X e (tF c B W f)) : PE X e (tM c B W f) := pe_imp h fun σ H Q ⟨G, A, ρ, R, a⟩ => ⟨G, A, ρ, R, a.k1.imp fun d ρ' G' H' _ _ R' k => k.to2 R'.same⟩

/-! ### names, constants -/
def mVar (i : Nat) : M D := fun ρ => match ρ[i]? with
  | some (.dat d) => .ok d ρ
  | _ => .stuck
theorem pm_var (i : Nat) {x : Str} {pos : Pos} (hN : X.N[i]? = some x := by rfl) (hv : Vis X.env.scope x := by first | exact Or.inl rfl | exact Or.inr (Or.inl rfl) | exact Or.inr (Or.inr rfl)) (hd : (x == ("__debug__" : Str)) = false := by decide)
    (hcd : (x == ("__classdict__" : Str)) = false := by decide) : PE X (.Name x pos) (tM c B W (mVar i)) := pe_imp (pe_var hN hv hd hcd) fun σ H Q ⟨G, A, ρ, R, a⟩ => by
  unfold mVar at a
  cases q : ρ[i]? with
  | none => rw [q] at a; exact a.elim
  | some cl =>
    rw [q] at a
    cases cl with
    | no => exact a.elim
    | own d => exact a.elim
    | dat d =>
      obtain ⟨v, h1, h2⟩ := R.dat i d q
      exact ⟨v, h1, After.ok a R v h2⟩
theorem pm_c {e : Expr} {v : V} {d : D} (h : PE X e (tC v)) (r : ∀ G, Rep c G v d) : PE X e (tM c B W (M.pure d)) := pe_imp h fun σ H Q ⟨G, A, ρ, R, a⟩ => After.ok a R v (r G)
theorem pm_int {i j pos} : PE X (.Constant (.int i) j pos) (tM c B W (M.pure (.int i))) := pm_c pe_int fun _ => .int i
theorem pm_bl {i j pos} : PE X (.Constant (.bool i) j pos) (tM c B W (M.pure (.bl i))) := pm_c pe_bl fun _ => .bl i
theorem pm_non {j pos} : PE X (.Constant .none j pos) (tM c B W (M.pure .non)) := pm_c pe_non fun _ => .non
theorem pm_str {x j pos} : PE X (.Constant (.str x) j pos) (tM c B W (M.pure (.str x))) := pm_c pe_str fun _ => .str x
/-- a module's int -/
theorem pm_globI {x : Str} {i : Int} {t : Tok} {pos : Pos} (hm : X.mg x = some (.int i t)) (hg : Gl X x := by rfl) (hd : (x == ("__debug__" : Str)) = false := by decide) : PE X (.Name x pos) (tM c B W (M.pure (.int i))) := pm_c (v := .int i) (pe_glob hg hm ⟨t, rfl⟩ hd) fun _ => .int i

/-! ### tests, and, or, not, if -/
def mB (f : M D) : M Bool := f.bind fun d => match d with
  | .bl b => M.pure b
  | _ => M.stuck
theorem mB_core {G H : Hp} {A : Addr → Prop} {σ : L2.St} {ρ : Cells} {f : M D} {Q : Bool → Cells → Hp → Hp → Prop} (R : Rel c B G A H σ ρ) (a : After c B W G A H σ (mB f ρ) Q) : After c B W G A H σ (f ρ) fun d ρ' G' H' => ∃ b, d = .bl b ∧ Q b ρ' G' H' :=
  a.split.imp fun d ρ' G' H' _ _ R' q => by
    cases d <;> first | exact q.elim | skip
    exact ⟨_, rfl, After.ok q R'⟩
theorem rep_bl {G : Hp} {v : V} {b : Bool} (r : Rep c G v (.bl b)) : v = .bl b := by cases r; rfl
theorem rep_int {G : Hp} {v : V} {b : Int} (r : Rep c G v (.int b)) : v = .int b := by cases r; rfl
theorem tB_core {σ : L2.St} {H : Hp} {f : M D} {Q : Bool → Hp → Prop} (h : tT c B W (mB f) σ H Q) : tM c B W f σ H fun x H1 => ∃ b, x = .bl b ∧ Q b H1 := by
  obtain ⟨G, A, ρ, R, a⟩ := h
  refine ⟨G, A, ρ, R, (mB_core R a).imp fun d ρ' G' H' _ _ _ ⟨b, e, q⟩ v r => ?_⟩
  subst e
  exact ⟨b, rep_bl r, q⟩
/-- a value as a test -/
theorem pt_v {e : Expr} {f : M D} (h : PE X e (tM c B W f)) (he : ∀ whole, isTrue e X.env whole = (do let v ← whole; standAt e.pos; holding [v] (truthy v)) := by intro _; rfl) : PT X e (tT c B W (mB f)) :=
  pt_imp (pt_val h he) fun σ H Q h => tB_core h
/-- a comparison as a test -/
theorem pt_op {e : Expr} {r : R2} {sem : D → D → Option D} {oa ob : Opn} (hs : Sem2 c r sem) (h : PT X e (tTest (tOp r (tO c B W oa) (tO c B W ob)))) : PT X e (tT c B W (mB (mOp2 sem oa ob))) :=
  pt_imp h fun σ H Q h => by
    obtain ⟨G, A, ρ, R, a⟩ := tB_core h
    exact op2_core R a.k1 fun G' H' x y d1 d2 d s o1 o2 e q => hs G' H' x y d1 d2 d _ s o1 o2 e q
def mAnd (f g : M Bool) : M Bool := f.bind fun b => if b = true then g else M.pure false
def mOr (f g : M Bool) : M Bool := f.bind fun b => if b = true then M.pure true else g
def mNot (f : M Bool) : M Bool := f.bind fun b => M.pure (!b)
def mIf {α : Type} (b : M Bool) (f g : M α) : M α := b.bind fun b => if b = true then f else g
theorem ite_prop {b : Bool} {P Q : Prop} (h1 : b = true → P) (h2 : b = false → Q) : if b = true then P else Q := by
  cases b with
  | true => rw [if_pos rfl]; exact h1 rfl
  | false => rw [if_neg Bool.false_ne_true]; exact h2 rfl
theorem pw_and1' {op} {a : Expr} {f : M Bool} (h : PT X a (tT c B W f)) : PW X (.BoolOp op [a] pos) (tT c B W f) := by
  first
    | exact pw_and1 h
    | exact pw_or1 h
    | (cases op <;> first | exact pw_and1 h | exact pw_or1 h)
theorem pw_andM {a b : Expr} {rest : List Expr} {pos : Pos} {f g : M Bool} (ha : PT X a (tT c B W f)) (hb : PW X (.BoolOp .And (b :: rest) pos) (tT c B W g)) : PW X (.BoolOp .And (a :: b :: rest) pos) (tT c B W (mAnd f g)) := by
  refine ⟨fun whole pins s σ H Q I h => (pw_and ha hb).run whole pins s σ H Q I ?_⟩
  obtain ⟨G, A, ρ, R, a⟩ := h
  refine ⟨G, A, ρ, R, a.split.imp fun x ρ' G' H' _ _ R' q => ite_prop (fun e => ?_) (fun e => ?_)⟩
  · rw [if_pos e] at q; exact ⟨G', A, ρ', R', q⟩
  · rw [if_neg (by rw [e]; exact Bool.false_ne_true)] at q; exact After.ok q R'
theorem pw_orM {a b : Expr} {rest : List Expr} {pos : Pos} {f g : M Bool} (ha : PT X a (tT c B W f)) (hb : PW X (.BoolOp .Or (b :: rest) pos) (tT c B W g)) : PW X (.BoolOp .Or (a :: b :: rest) pos) (tT c B W (mOr f g)) := by
  refine ⟨fun whole pins s σ H Q I h => (pw_or ha hb).run whole pins s σ H Q I ?_⟩
  obtain ⟨G, A, ρ, R, a⟩ := h
  refine ⟨G, A, ρ, R, a.split.imp fun x ρ' G' H' _ _ R' q => ite_prop (fun e => ?_) (fun e => ?_)⟩
  · rw [if_pos e] at q; exact After.ok q R'
  · rw [if_neg (by rw [e]; exact Bool.false_ne_true)] at q; exact ⟨G', A, ρ', R', q⟩
theorem pt_notM {a : Expr} {pos : Pos} {f : M Bool} (ha : PT X a (tT c B W f)) : PT X (.UnaryOp .Not a pos) (tT c B W (mNot f)) :=
  pt_imp (pt_not ha) fun σ H Q ⟨G, A, ρ, R, a⟩ => ⟨G, A, ρ, R, a.split.imp fun x ρ' G' H' _ _ R' q => After.ok q R'⟩
/-- as values -/
def mV (f : M Bool) : M D := f.bind fun b => M.pure (.bl b)
def mAndV (f g : M D) : M D := (mB f).bind fun b => if b = true then g else M.pure (.bl false)
def mOrV (f g : M D) : M D := (mB f).bind fun b => if b = true then M.pure (.bl true) else g
def mNotV (f : M D) : M D := (mB f).bind fun b => M.pure (.bl (!b))
theorem pm_oneV {op} {a : Expr} {pos : Pos} {f : M D} (h : PE X a (tM c B W f)) : PE X (.BoolOp op [a] pos) (tM c B W f) := pe_one h
theorem pm_andV {a b : Expr} {rest : List Expr} {pos : Pos} {f g : M D} (ha : PE X a (tM c B W f)) (hb : PE X (.BoolOp .And (b :: rest) pos) (tM c B W g)) : PE X (.BoolOp .And (a :: b :: rest) pos) (tM c B W (mAndV f g)) :=
  pe_imp (pe_and ha hb) fun σ H Q ⟨G, A, ρ, R, a⟩ => by
    refine ⟨G, A, ρ, R, (mB_core R a.split).imp fun d ρ' G' H' _ _ R' ⟨b, e, q⟩ v r => ?_⟩
    subst e
    refine ⟨b, rep_bl r, ite_prop (fun e => ?_) (fun e => ?_)⟩
    · rw [if_pos e] at q; exact ⟨G', A, ρ', R', q⟩
    · rw [if_neg (by rw [e]; exact Bool.false_ne_true)] at q; exact After.ok q R' _ (.bl false)
theorem pm_orV {a b : Expr} {rest : List Expr} {pos : Pos} {f g : M D} (ha : PE X a (tM c B W f)) (hb : PE X (.BoolOp .Or (b :: rest) pos) (tM c B W g)) : PE X (.BoolOp .Or (a :: b :: rest) pos) (tM c B W (mOrV f g)) :=
  pe_imp (pe_or ha hb) fun σ H Q ⟨G, A, ρ, R, a⟩ => by
    refine ⟨G, A, ρ, R, (mB_core R a.split).imp fun d ρ' G' H' _ _ R' ⟨b, e, q⟩ v r => ?_⟩
    subst e
    refine ⟨b, rep_bl r, ite_prop (fun e => ?_) (fun e => ?_)⟩
    · rw [if_pos e] at q; exact After.ok q R' _ (.bl true)
    · rw [if_neg (by rw [e]; exact Bool.false_ne_true)] at q; exact ⟨G', A, ρ', R', q⟩
theorem pm_notV {a : Expr} {pos : Pos} {f : M D} (ha : PE X a (tM c B W f)) : PE X (.UnaryOp .Not a pos) (tM c B W (mNotV f)) :=
  pe_imp (pe_not ha) fun σ H Q ⟨G, A, ρ, R, a⟩ => by
    refine ⟨G, A, ρ, R, (mB_core R a.split).imp fun d ρ' G' H' _ _ R' ⟨b, e, q⟩ v r => ?_⟩
    subst e
    exact ⟨b, rep_bl r, After.ok q R' _ (.bl _)⟩
theorem pm_if {t a b : Expr} {pos : Pos} {h : M Bool} {f g : M D} (ht : PT X t (tT c B W h)) (ha : PE X a (tM c B W f)) (hb : PE X b (tM c B W g)) : PE X (.IfExp t a b pos) (tM c B W (mIf h f g)) :=
  pe_imp (pe_ifExp ht ha hb) fun σ H Q ⟨G, A, ρ, R, a⟩ => by
    refine ⟨G, A, ρ, R, a.split.imp fun b ρ' G' H' _ _ R' q => ite_prop (fun e => ?_) (fun e => ?_)⟩
    · rw [if_pos e] at q; exact ⟨G', A, ρ', R', q⟩
    · rw [if_neg (by rw [e]; exact Bool.false_ne_true)] at q; exact ⟨G', A, ρ', R', q⟩

/-! ### chains of two comparisons -/
def mChain (s1 s2 : D → D → Option D) (oa ob oc : Opn) : M D := oa.pre.bind fun a => ob.pre.bind fun b => (rdM oa a).bind fun d1 => (rdM ob b).bind fun d2 => (M.lift (s1 d1 d2)).bind fun z => match z with
  | .bl true => oc.pre.bind fun e => (rdM ob b).bind fun d2 => (rdM oc e).bind fun d3 => M.lift (s2 d2 d3)
  | .bl false => M.pure (.bl false)
  | _ => M.stuck
theorem After.liftB {α β : Type} {G H : Hp} {A : Addr → Prop} {σ : L2.St} {ρ : Cells} {o : Option α} {k : α → M β} {Q : β → Cells → Hp → Hp → Prop} (h : After c B W G A H σ (((M.lift o).bind k) ρ) Q) : ∃ d, o = some d ∧ After c B W G A H σ (k d ρ) Q := by
  cases o with
  | none => exact h.elim
  | some d => exact ⟨d, rfl, h⟩
theorem pm_chain {e : Expr} {r r' : R2} {s1 s2 : D → D → Option D} {oa ob oc : Opn} (h1 : Sem2 c r s1) (h2 : Sem2 c r' s2) (h : PE X e (tChain r r' (tO c B W oa) (tO c B W ob) (tO c B W oc))) : PE X e (tM c B W (mChain s1 s2 oa ob oc)) :=
  pe_imp h fun σ H Q ⟨G, A, ρ, R, a⟩ => by
    refine ⟨G, A, ρ, R, a.split.imp fun da ρ1 G1 H1 _ _ R1 a1 x fx => ?_⟩
    refine ⟨G1, A, ρ1, R1, a1.split.imp fun db ρ2 G2 H2 s2' _ R2 a2 y fy => ?_⟩
    obtain ⟨d1, e1, a2⟩ := a2.rd
    obtain ⟨d2, e2, a2⟩ := a2.rd
    obtain ⟨d, e, q⟩ := a2.liftB
    refine h1 G2 H2 x y d1 d2 d _ R2.same (fx G2 H2 ρ2 d1 s2' R2 e1) (fy G2 H2 ρ2 d2 (Same.refl _) R2 e2) e fun G3 H3 z x3 rz => ?_
    have R3 := R2.ext x3
    cases d <;> first | exact q.elim | skip
    rename_i k
    refine ⟨k, rep_bl rz, ite_prop (fun ek => ?_) (fun ek => ?_)⟩
    · subst ek
      have q' := After.of x3.gg x3.keep q
      refine ⟨G3, A, ρ2, R3, q'.split.imp fun de ρ4 G4 H4 s4 _ R4 a4 w fw => ?_⟩
      obtain ⟨d2', e2', a4⟩ := a4.rd
      obtain ⟨d3, e3, a4⟩ := a4.rd
      obtain ⟨dr, er, a4⟩ := a4.k1.lift R4
      exact h2 G4 H4 y w d2' d3 dr _ R4.same (fy G4 H4 ρ4 d2' (x3.gg.trans s4) R4 e2') (fw G4 H4 ρ4 d3 (Same.refl _) R4 e3) er a4
    · subst ek
      exact After.ok (After.of x3.gg x3.keep q) R3 _ (.bl false)
end
end Fx
set_option Elab.async false
set_option linter.all false
set_option maxRecDepth 100000
set_option maxHeartbeats 4000000
/-! Fx3: arguments, calls of built-ins, methods, displays, slices; the operations. -/
namespace Fx
open PySem L2

/-! ### data as the library's data -/
mutual
def toPy : D → PyData
  | .non => .none
  | .bl b => .bool b
  | .int i => .int i
  | .str x => .str x
  | .tup ds => .tuple (toPys ds)
  | .lst ds => .list (toPys ds)
  | .dic _ _ => .dict []
  | .rcd _ _ => .dict []
  | .exc _ _ => .dict []
  | .raw _ => .dict []
def toPys : List D → List PyData
  | [] => []
  | d :: ds => toPy d :: toPys ds
end
theorem toPys_map : ∀ ds : List D, toPys ds = ds.map toPy
  | [] => rfl
  | d :: ds => by rw [toPys, toPys_map ds]; rfl
/-- what == and in may look at -/
def plain (d : D) : Bool := (toPy d).canLay0
section
variable {c : Cf} {G H : Hp}
mutual
theorem Rep.dp (s : Same G H) : ∀ {v : V} {d : D}, Rep c G v d → plain d = true → Dp c.K H v (toPy d)
  | _, _, .non, _ => by unfold toPy; exact .non
  | _, _, .bl b, _ => by unfold toPy; exact .bl b
  | _, _, .int i, _ => by unfold toPy; exact .int i
  | _, _, .str x, _ => by unfold toPy; exact .str x
  | _, _, .tup e r, h => by
    unfold plain at h
    rw [toPy] at h ⊢
    unfold PyData.canLay0 at h
    exact .tup (e.mono s).sq (RepL.dp s r h)
  | _, _, .lst e r, h => by
    unfold plain at h
    rw [toPy] at h ⊢
    unfold PyData.canLay0 at h
    exact .lst (e.mono s).sq (RepL.dp s r h)
  | _, _, .dic .., h => by unfold plain toPy PyData.canLay0 at h; cases h
  | _, _, .rcd .., h => by unfold plain toPy PyData.canLay0 at h; cases h
  | _, _, .raw _, h => by unfold plain toPy PyData.canLay0 at h; cases h
theorem RepL.dp (s : Same G H) : ∀ {vs : List V} {ds : List D}, RepL c G vs ds → PyData.canLayAll0 (toPys ds) = true → DpAll c.K H vs (toPys ds)
  | _, _, .nil, _ => by unfold toPys; exact .nil
  | _, _, .cons r t, h => by
    unfold toPys at h ⊢
    unfold PyData.canLayAll0 at h
    rw [Bool.and_eq_true] at h
    exact .cons (Rep.dp s r h.1) (RepL.dp s t h.2)
end
theorem Opr.dp (s : Same G H) {v : V} {d : D} (h : Opr c G H v d) (p : plain d = true) : Dp c.K H v (toPy d) := by
  rcases h with h | ⟨q, rfl, h⟩
  · exact h.dp s p
  · cases d <;> first | exact h.elim | skip
    · obtain ⟨xs, h1, h2⟩ := h
      unfold plain at p
      rw [toPy] at p ⊢
      unfold PyData.canLay0 at p
      exact .lst (SqL.of h1) (h2.dp s p)
    · unfold plain toPy PyData.canLay0 at p; cases p
    · unfold plain toPy PyData.canLay0 at p; cases p
/-- a list, owned or frozen -/
theorem Opr.lst (s : Same G H) {v : V} {ds : List D} (h : Opr c G H v (.lst ds)) : ∃ p xs, v = .ref p ∧ LsG c.K H p xs ∧ RepL c G xs ds := by
  rcases h with h | ⟨q, rfl, h⟩
  · cases h with
    | lst e r => exact ⟨_, _, rfl, e.mono s, r⟩
  · obtain ⟨xs, h1, h2⟩ := h
    exact ⟨_, _, rfl, .inl (.inl h1), h2⟩
theorem Opr.tup (s : Same G H) {v : V} {ds : List D} (h : Opr c G H v (.tup ds)) : ∃ p xs, v = .ref p ∧ TupAt c.K H p xs ∧ RepL c G xs ds ∧ Rep c G v (.tup ds) := by
  rcases h with h | ⟨q, rfl, h⟩
  · cases h with
    | tup e r => exact ⟨_, _, rfl, e.mono s, r, .tup e r⟩
  · exact h.elim
theorem Opr.rep {v : V} {d : D} (h : Opr c G H v d) (k : ∀ o, ¬ Own c G o d) : Rep c G v d := by
  rcases h with h | ⟨q, rfl, h⟩
  · exact h
  · exact absurd h (k _)
theorem Opr.int {v : V} {i : Int} (h : Opr c G H v (.int i)) : v = .int i := rep_int (h.rep fun o z => z)
theorem Opr.bl {v : V} {i : Bool} (h : Opr c G H v (.bl i)) : v = .bl i := rep_bl (h.rep fun o z => z)
end

/-! ### arguments -/
def seqM : List (M D) → M (List D)
  | [] => M.pure []
  | f :: fs => f.bind fun a => (seqM fs).bind fun as => M.pure (a :: as)
def preL : List Opn → M (List D)
  | [] => M.pure []
  | o :: os => o.pre.bind fun a => (preL os).bind fun as => M.pure (a :: as)
def rdL : List Opn → List D → Cells → Option (List D)
  | [], [], _ => some []
  | o :: os, a :: as, ρ => match o.rd a ρ, rdL os as ρ with
    | some d, some ds => some (d :: ds)
    | _, _ => none
  | _, _, _ => none
def rdLM (os : List Opn) (as : List D) : M (List D) := fun ρ => match rdL os as ρ with
  | some ds => .ok ds ρ
  | none => .stuck
abbrev OprL (c : Cf) (G H : Hp) : List V → List D → Prop := Paired (Opr c G H)
def tD (c : Cf) (B : List (Nat × Addr)) (W : WX) (fs : List (M D)) : TA := fun σ H Q => ∃ G A ρ, Rel c B G A H σ ρ ∧ After c B W G A H σ (seqM fs ρ) fun ds _ G' H' => ∀ vs, RepL c G' vs ds → Q vs H'
def tA (c : Cf) (B : List (Nat × Addr)) (W : WX) (os : List Opn) : TA := fun σ H Q => ∃ G A ρ, Rel c B G A H σ ρ ∧ After c B W G A H σ (preL os ρ) fun as _ G' H' => ∀ vs,
  (∀ G2 H2 ρ2 es, Same G' G2 → Rel c B G2 A H2 σ ρ2 → rdL os as ρ2 = some es → OprL c G2 H2 vs es) → Q vs H'
section
variable {c : Cf} {B : List (Nat × Addr)} {W : WX} {X : Cx}
theorem pd_nil : PA X [] (tD c B W []) := pa_imp pa_nil fun σ H Q ⟨G, A, ρ, R, a⟩ => After.ok a R [] .nil
theorem pd_cons {e : Expr} {es : List Expr} {f : M D} {fs : List (M D)} (ha : PE X e (tM c B W f)) (hr : PA X es (tD c B W fs)) (hs : starEach (e :: es) X.env = (false, eval e X.env) :: starEach es X.env := by rfl) : PA X (e :: es) (tD c B W (f :: fs)) :=
  pa_imp (pa_cons ha hr hs) fun σ H Q ⟨G, A, ρ, R, a⟩ => by
    refine ⟨G, A, ρ, R, a.split.imp fun d ρ1 G1 H1 _ _ R1 a1 v r => ?_⟩
    refine ⟨G1, A, ρ1, R1, a1.split.imp fun ds ρ2 G2 H2 s2 _ R2 a2 vs rs => ?_⟩
    exact After.ok a2 R2 (v :: vs) (.cons (r.mono s2) rs)
theorem pa_nilO : PA X [] (tA c B W []) := pa_imp pa_nil fun σ H Q ⟨G, A, ρ, R, a⟩ => After.ok a R [] fun _ _ _ es _ _ e => by cases e; exact .nil
theorem pa_consO {e : Expr} {es : List Expr} {o : Opn} {os : List Opn} (ha : PE X e (tO c B W o)) (hr : PA X es (tA c B W os)) (hs : starEach (e :: es) X.env = (false, eval e X.env) :: starEach es X.env := by rfl) : PA X (e :: es) (tA c B W (o :: os)) :=
  pa_imp (pa_cons ha hr hs) fun σ H Q ⟨G, A, ρ, R, a⟩ => by
    refine ⟨G, A, ρ, R, a.split.imp fun d ρ1 G1 H1 _ _ R1 a1 v fv => ?_⟩
    refine ⟨G1, A, ρ1, R1, a1.split.imp fun ds ρ2 G2 H2 s2 _ R2 a2 vs fvs => ?_⟩
    refine After.ok a2 R2 (v :: vs) fun G3 H3 ρ3 es s3 R3 e3 => ?_
    unfold rdL at e3
    cases e4 : o.rd d ρ3 with
    | none => rw [e4] at e3; cases e3
    | some d' =>
      cases e5 : rdL os ds ρ3 with
      | none => rw [e4, e5] at e3; cases e3
      | some ds' =>
        rw [e4, e5] at e3
        cases e3
        exact .cons (fv G3 H3 ρ3 d' (s2.trans s3) R3 e4) (fvs G3 H3 ρ3 ds' s3 R3 e5)

/-! ### calls of built-in functions and classes -/
def SemC (c : Cf) (r : List V → Hp → VK → Prop) (sem : List D → Option D) : Prop := ∀ (G H : Hp) (vs : List V) (ds : List D) (d : D) (Q : VK), Same G H → OprL c G H vs ds → sem ds = some d → K1 c G H d Q → r vs H Q
def SemCF (c : Cf) (r : List V → Hp → VK → Prop) (sem : List D → Option D) : Prop := ∀ (G H : Hp) (vs : List V) (ds : List D) (d : D) (Q : VK), Same G H → OprL c G H vs ds → sem ds = some d → K2 c G H d Q → r vs H Q
def mCall (sem : List D → Option D) (os : List Opn) : M D := (preL os).bind fun as => (rdLM os as).bind fun ds => M.lift (sem ds)
theorem After.rdL {α : Type} {G H : Hp} {A : Addr → Prop} {σ : L2.St} {ρ : Cells} {os : List Opn} {as : List D} {k : List D → M α} {Q : α → Cells → Hp → Hp → Prop} (h : After c B W G A H σ (((rdLM os as).bind k) ρ) Q) : ∃ ds, Fx.rdL os as ρ = some ds ∧ After c B W G A H σ (k ds ρ) Q := by
  unfold M.bind rdLM at h
  cases e : Fx.rdL os as ρ with
  | none => rw [e] at h; exact h.elim
  | some d => rw [e] at h; exact ⟨d, rfl, h⟩
theorem call_core {r : List V → Hp → VK → Prop} {sem : List D → Option D} {os : List Opn} {σ : L2.St} {H : Hp} {Q : VK} {Qd : D → Hp → Hp → Prop} {A : Addr → Prop} {G : Hp} {ρ : Cells} (R : Rel c B G A H σ ρ) (a : After c B W G A H σ (mCall sem os ρ) fun d _ G' H' => Qd d G' H')
    (k : ∀ G' H' vs ds d, Same G' H' → OprL c G' H' vs ds → sem ds = some d → Qd d G' H' → r vs H' Q) : tCB r (tA c B W os) σ H Q := by
  refine ⟨G, A, ρ, R, a.split.imp fun as ρ1 G1 H1 _ _ R1 a1 vs fv => ?_⟩
  obtain ⟨ds, e1, a1⟩ := a1.rdL
  obtain ⟨d, e, q⟩ := a1.lift R1
  exact k G1 H1 vs ds d R1.same (fv G1 H1 ρ1 ds (Same.refl _) R1 e1) e q
theorem pm_call {e : Expr} {r : List V → Hp → VK → Prop} {sem : List D → Option D} {os : List Opn} (hs : SemC c r sem) (h : PE X e (tCB r (tA c B W os))) : PE X e (tM c B W (mCall sem os)) :=
  pe_imp h fun σ H Q ⟨G, A, ρ, R, a⟩ => call_core R a.k1 fun G' H' vs ds d s o e q => hs G' H' vs ds d Q s o e q
theorem pf_call {e : Expr} {r : List V → Hp → VK → Prop} {sem : List D → Option D} {os : List Opn} (hs : SemCF c r sem) (h : PE X e (tCB r (tA c B W os))) : PE X e (tF c B W (mCall sem os)) :=
  pe_imp h fun σ H Q ⟨G, A, ρ, R, a⟩ => call_core R a.k2 fun G' H' vs ds d s o e q => hs G' H' vs ds d Q s o e q

/-! ### methods that change nothing -/
def SemM (c : Cf) (r : V → List V → Hp → VK → Prop) (sem : D → List D → Option D) : Prop := ∀ (G H : Hp) (x : V) (vs : List V) (d : D) (ds : List D) (e : D) (Q : VK), Same G H → Opr c G H x d → OprL c G H vs ds → sem d ds = some e → K1 c G H e Q → r x vs H Q
def isLst : D → Bool
  | .lst _ => true
  | _ => false
def isTup : D → Bool
  | .tup _ => true
  | _ => false
/-- the receiver is looked at twice: its class ahead of the arguments, its content behind them -/
def mMeth (is : D → Bool) (sem : D → List D → Option D) (o : Opn) (os : List Opn) : M D := o.pre.bind fun a => (rdM o a).bind fun d0 => if is d0 = true then (preL os).bind fun as => (rdM o a).bind fun d => (rdLM os as).bind fun ds => M.lift (sem d ds) else M.stuck
theorem pm_methL (hK : c.K = X.K) {e : Expr} {r : V → List V → Hp → VK → Prop} {sem : D → List D → Option D} {o : Opn} {os : List Opn} (hs : SemM c r sem) (h : PE X e (tBM X.K "list" r (tO c B W o) (tA c B W os))) : PE X e (tM c B W (mMeth isLst sem o os)) :=
  pe_imp h fun σ H Q ⟨G, A, ρ, R, a⟩ => by
    refine ⟨G, A, ρ, R, a.split.imp fun a0 ρ1 G1 H1 _ _ R1 a1 x fx => ?_⟩
    obtain ⟨d0, e0, a1⟩ := a1.rd
    cases d0 <;> first | exact a1.elim | skip
    rename_i ds0
    obtain ⟨p, xs, rfl, hp, _⟩ := (fx G1 H1 ρ1 _ (Same.refl _) R1 e0).lst R1.same
    refine ⟨.inl ⟨rfl, xs, by rw [← hK]; exact hp.sq⟩, G1, A, ρ1, R1, (show After c B W G1 A H1 σ (((preL os).bind _) ρ1) _ from a1).split.imp fun as ρ2 G2 H2 s2 _ R2 a2 vs fv => ?_⟩
    obtain ⟨d, e1, a2⟩ := a2.rd
    obtain ⟨ds, e2, a2⟩ := a2.rdL
    obtain ⟨er, e3, q⟩ := a2.k1.lift R2
    exact hs G2 H2 _ vs d ds er Q R2.same (fx G2 H2 ρ2 d s2 R2 e1) (fv G2 H2 ρ2 ds (Same.refl _) R2 e2) e3 q
theorem pm_methT (hK : c.K = X.K) {e : Expr} {r : V → List V → Hp → VK → Prop} {sem : D → List D → Option D} {o : Opn} {os : List Opn} (hs : SemM c r sem) (h : PE X e (tBMT X.K r (tO c B W o) (tA c B W os))) : PE X e (tM c B W (mMeth isTup sem o os)) :=
  pe_imp h fun σ H Q ⟨G, A, ρ, R, a⟩ => by
    refine ⟨G, A, ρ, R, a.split.imp fun a0 ρ1 G1 H1 _ _ R1 a1 x fx => ?_⟩
    obtain ⟨d0, e0, a1⟩ := a1.rd
    cases d0 <;> first | exact a1.elim | skip
    rename_i ds0
    obtain ⟨p, xs, rfl, hp, _⟩ := (fx G1 H1 ρ1 _ (Same.refl _) R1 e0).tup R1.same
    refine ⟨⟨p, xs, rfl, by rw [← hK]; exact hp⟩, G1, A, ρ1, R1, (show After c B W G1 A H1 σ (((preL os).bind _) ρ1) _ from a1).split.imp fun as ρ2 G2 H2 s2 _ R2 a2 vs fv => ?_⟩
    obtain ⟨d, e1, a2⟩ := a2.rd
    obtain ⟨ds, e2, a2⟩ := a2.rdL
    obtain ⟨er, e3, q⟩ := a2.k1.lift R2
    exact hs G2 H2 _ vs d ds er Q R2.same (fx G2 H2 ρ2 d s2 R2 e1) (fv G2 H2 ρ2 ds (Same.refl _) R2 e2) e3 q

/-! ### methods that change what a slot owns -/
def SemW (c : Cf) (r : V → List V → Hp → VK → Prop) (sem : D → List D → Option (D × D)) : Prop := ∀ (G H : Hp) (p : Addr) (vs : List V) (d : D) (ds : List D) (e d' : D) (Q : VK), Same G H → Own c G (H p) d → OprL c G H vs ds → sem d ds = some (e, d') →
  (∀ o v, Own c G (some o) d' → Rep c G v e → Q v (upd H p o)) → r (.ref p) vs H Q
def ownAt (i : Nat) : M D := fun ρ => match ρ[i]? with
  | some (.own d) => .ok d ρ
  | _ => .stuck
def setOwn (i : Nat) (d : D) : M Unit := fun ρ => .ok () (ρ.set i (.own d))
def mMethW (sem : D → List D → Option (D × D)) (i : Nat) (os : List Opn) : M D := (ownAt i).bind fun d0 => if isLst d0 = true then (preL os).bind fun as => (rdLM os as).bind fun ds => (ownAt i).bind fun d => (M.lift (sem d ds)).bind fun r => (setOwn i r.2).bind fun _ => M.pure r.1 else M.stuck
theorem After.ownAt {α : Type} {G H : Hp} {A : Addr → Prop} {σ : L2.St} {ρ : Cells} {i : Nat} {k : D → M α} {Q : α → Cells → Hp → Hp → Prop} (h : After c B W G A H σ (((ownAt i).bind k) ρ) Q) : ∃ d, ρ[i]? = some (.own d) ∧ After c B W G A H σ (k d ρ) Q := by
  unfold M.bind Fx.ownAt at h
  cases e : ρ[i]? with
  | none => rw [e] at h; exact h.elim
  | some cl =>
    rw [e] at h
    cases cl with
    | no => exact h.elim
    | dat d => exact h.elim
    | own d => exact ⟨d, rfl, h⟩
/-- an owned content is changed -/
theorem Rel.setOwn {G H : Hp} {A : Addr → Prop} {σ : L2.St} {ρ : Cells} (R : Rel c B G A H σ ρ) {i : Nat} {d d' : D} {p : Addr} {o : HO} (e : ρ[i]? = some (.own d)) (es : σ[i]? = some (some (.ref p))) (ho : Own c G (some o) d') : Rel c B G A (upd H p o) σ (ρ.set i (.own d')) ∧ Keep A G H G (upd H p o) ∧ Same G (upd H p o) := by
  obtain ⟨p', es', hA, hO⟩ := R.own i d e
  rw [es] at es'; cases es'
  obtain ⟨gp, u, hu⟩ := R.ownA p hA
  have hs : Same G (upd H p o) := fun b w q => by rw [upd_ne (ne_of_none q gp)]; exact R.same b w q
  have hi : i < ρ.length := (List.getElem?_eq_some_iff.mp e).1
  refine ⟨⟨hs, by rw [R.len, List.length_set], fun b hb => ?_, fun j x h => ?_, fun j x h => ?_, fun j k x y q hjk h1 h2 h3 h4 => ?_, fun q hq => ?_⟩, fun b w q hn => ?_, hs⟩
  · obtain ⟨h1, w, h2⟩ := R.ownA b hb
    refine ⟨h1, ?_⟩
    by_cases z : b = p
    · subst z; exact ⟨o, upd_same⟩
    · exact ⟨w, by rw [upd_ne z]; exact h2⟩
  · by_cases z : j = i
    · subst z; rw [List.getElem?_set_self hi] at h; cases h
    · rw [List.getElem?_set_ne (Ne.symm z)] at h; exact R.dat j x h
  · by_cases z : j = i
    · subst z
      rw [List.getElem?_set_self hi] at h; cases h
      exact ⟨p, es, hA, by rw [upd_same]; exact ho⟩
    · rw [List.getElem?_set_ne (Ne.symm z)] at h
      obtain ⟨q, h1, h2, h3⟩ := R.own j x h
      have ne : q ≠ p := fun w => R.dis j i x d p z h e (by rw [← w]; exact h1) es
      exact ⟨q, h1, h2, by rw [upd_ne ne]; exact h3⟩
  · have g : ∀ (j : Nat) (x : D), (ρ.set i (.own d'))[j]? = some (.own x) → ∃ y, ρ[j]? = some (.own y) := fun j x h => by
      by_cases z : j = i
      · subst z; exact ⟨d, e⟩
      · rw [List.getElem?_set_ne (Ne.symm z)] at h; exact ⟨x, h⟩
    obtain ⟨x', h1'⟩ := g j x h1
    obtain ⟨y', h2'⟩ := g k y h2
    exact R.dis j k x' y' q hjk h1' h2' h3 h4
  · obtain ⟨h1, h2, x, h3⟩ := R.byr q hq
    refine ⟨h1, h2, ?_⟩
    by_cases z : q.1 = i
    · exact ⟨d', by rw [z, List.getElem?_set_self hi]⟩
    · exact ⟨x, by rw [List.getElem?_set_ne (Ne.symm z)]; exact h3⟩
  · exact ⟨by rw [upd_ne (fun z => hn (by rw [z]; exact hA))]; exact q, rfl⟩
theorem pm_methW (i : Nat) {e : Expr} {r : V → List V → Hp → VK → Prop} {sem : D → List D → Option (D × D)} {os : List Opn} (hs : SemW c r sem) (h : PE X e (tBM X.K "list" r (tVar i) (tA c B W os))) : PE X e (tM c B W (mMethW sem i os)) :=
  pe_imp h fun σ H Q ⟨G, A, ρ, R, a⟩ => by
    obtain ⟨d0, e0, a1⟩ := After.ownAt a
    obtain ⟨p, es, hA, hO⟩ := R.own i d0 e0
    cases d0 <;> first | exact a1.elim | skip
    rename_i ds0
    obtain ⟨xs, hp, _⟩ := hO
    refine ⟨_, es, .inl ⟨rfl, xs, SqL.of hp⟩, G, A, ρ, R, (show After c B W G A H σ (((preL os).bind _) ρ) _ from a1).split.imp fun as ρ2 G2 H2 s2 _ R2 a2 vs fv => ?_⟩
    obtain ⟨ds, e2, a2⟩ := a2.rdL
    obtain ⟨d, e3, a2⟩ := a2.ownAt
    obtain ⟨⟨r1, d'⟩, e4, a2⟩ := a2.liftB
    obtain ⟨p', es', hA', hO'⟩ := R2.own i d e3
    rw [es] at es'; cases es'
    refine hs G2 H2 p vs d ds r1 d' Q R2.same hO' (fv G2 H2 ρ2 ds (Same.refl _) R2 e2) e4 fun o v ho hr => ?_
    obtain ⟨R3, k3, s3⟩ := R2.setOwn e3 es ho
    exact After.ok (After.of (Same.refl _) k3 a2) R3 v hr
theorem pe_slot (i : Nat) {x : Str} {pos : Pos} (hN : X.N[i]? = some x := by rfl) (hv : Vis X.env.scope x := by first | exact Or.inl rfl | exact Or.inr (Or.inl rfl) | exact Or.inr (Or.inr rfl)) (hd : (x == ("__debug__" : Str)) = false := by decide)
    (hcd : (x == ("__classdict__" : Str)) = false := by decide) : PE X (.Name x pos) (tVar i) := pe_var hN hv hd hcd

/-! ### displays -/
theorem seqM_length : ∀ {fs : List (M D)} {ρ ρ' : Cells} {ds : List D}, seqM fs ρ = .ok ds ρ' → ds.length = fs.length
  | [], ρ, ρ', ds, h => by cases h; rfl
  | f :: fs, ρ, ρ', ds, h => by
    unfold seqM M.bind at h
    cases e : f ρ with
    | stuck => rw [e] at h; cases h
    | exc x r => rw [e] at h; cases h
    | ok a ρ1 =>
      rw [e] at h
      have h' : ((seqM fs ρ1).andThen fun as => M.pure (a :: as)) = .ok ds ρ' := h
      cases e2 : seqM fs ρ1 with
      | stuck => rw [e2] at h'; cases h'
      | exc x r => rw [e2] at h'; cases h'
      | ok as ρ2 =>
        rw [e2] at h'
        cases h'
        rw [List.length_cons, List.length_cons, seqM_length e2]
def mTup (fs : List (M D)) : M D := (seqM fs).bind fun ds => M.pure (.tup ds)
def mLst (fs : List (M D)) : M D := (seqM fs).bind fun ds => M.pure (.lst ds)
theorem After.len {fs : List (M D)} {G H : Hp} {A : Addr → Prop} {σ : L2.St} {ρ : Cells} {Q : List D → Cells → Hp → Hp → Prop} (h : After c B W G A H σ (seqM fs ρ) Q) : After c B W G A H σ (seqM fs ρ) fun ds ρ' G' H' => ds.length = fs.length ∧ Q ds ρ' G' H' := by
  cases e : seqM fs ρ with
  | stuck => rw [e] at h; exact h
  | exc x r => rw [e] at h; exact h
  | ok a ρ1 => rw [e] at h; exact fun G' H' s k R => ⟨seqM_length e, h G' H' s k R⟩
theorem pm_tup {es : List Expr} {fs : List (M D)} {pos : Pos} {x1} (h : PA X es (tD c B W fs)) (hl : fs.length ≤ 1000 := by decide) : PE X (.Tuple es x1 pos) (tM c B W (mTup fs)) :=
  pe_imp (pe_tupN h) fun σ H Q ⟨G, A, ρ, R, a⟩ => by
    refine ⟨G, A, ρ, R, a.split.len.imp fun ds ρ1 G1 H1 _ _ R1 ⟨hz, a1⟩ vs r => ⟨?_, fun p its hp => ?_⟩⟩
    · rw [r.length, hz]; exact Nat.le_of_lt (small1000 hl)
    · exact K1.tup R1.same (After.k1 (f := M.pure (D.tup ds)) a1 |>.ok R1) hp r
theorem pf_lst {es : List Expr} {fs : List (M D)} {pos : Pos} (h : PA X es (tD c B W fs)) (hl : fs.length ≤ 1000 := by decide) : PE X (.List es pos) (tF c B W (mLst fs)) :=
  pe_imp (pe_lst h) fun σ H Q ⟨G, A, ρ, R, a⟩ => by
    refine ⟨G, A, ρ, R, a.split.len.imp fun ds ρ1 G1 H1 _ _ R1 ⟨hz, a1⟩ vs r => ⟨?_, fun p hp => ?_⟩⟩
    · rw [r.length, hz]; exact Nat.le_of_lt (small1000 hl)
    · exact K2.lst (After.ok a1 R1) hp r

/-! ### slices -/
def mPart : Option (M D) → M (Option Int)
  | none => M.pure none
  | some f => f.bind fun d => match d with
    | .int i => M.pure (some i)
    | _ => M.stuck
def tPt (c : Cf) (B : List (Nat × Addr)) (W : WX) (f : Option (M D)) : TO := fun σ H Q => ∃ G A ρ, Rel c B G A H σ ρ ∧ After c B W G A H σ (mPart f ρ) fun i _ _ H' => Q i H'
theorem pp_none : L2.PO X none (tPt c B W none) := ⟨fun pins s σ H Q I ⟨G, A, ρ, R, a⟩ => po_none.run pins s σ H Q I (After.ok a R)⟩
theorem pp_some {e : Expr} {f : M D} (h : PE X e (tM c B W f)) : L2.PO X (some e) (tPt c B W (some f)) := ⟨fun pins s σ H Q I ⟨G, A, ρ, R, a⟩ => (po_some h).run pins s σ H Q I (by
  refine ⟨G, A, ρ, R, (show After c B W G A H σ ((f.bind _) ρ) _ from a).split.imp fun d ρ1 G1 H1 _ _ R1 a1 v r => ?_⟩
  cases d <;> first | exact a1.elim | skip
  exact ⟨_, rep_int r, After.ok a1 R1⟩)⟩
def cutD (xs : List D) (lo hi : Option Int) : List D := (xs.drop (HT.sIx xs.length 0 lo)).take (HT.sIx xs.length xs.length hi - HT.sIx xs.length 0 lo)
def mSl (sem : D → Option Int → Option Int → Option D) (o : Opn) (lo hi : Option (M D)) : M D := o.pre.bind fun a => (mPart lo).bind fun l => (mPart hi).bind fun u => (rdM o a).bind fun d => M.lift (sem d l u)
def SemS (c : Cf) (r : V → Option Int → Option Int → Hp → VK → Prop) (sem : D → Option Int → Option Int → Option D) : Prop := ∀ (G H : Hp) (x : V) (d e : D) (l u : Option Int) (Q : VK), Same G H → Opr c G H x d → sem d l u = some e → K1 c G H e Q → r x l u H Q
def SemSF (c : Cf) (r : V → Option Int → Option Int → Hp → VK → Prop) (sem : D → Option Int → Option Int → Option D) : Prop := ∀ (G H : Hp) (x : V) (d e : D) (l u : Option Int) (Q : VK), Same G H → Opr c G H x d → sem d l u = some e → K2 c G H e Q → r x l u H Q
theorem sl_core {r : V → Option Int → Option Int → Hp → VK → Prop} {sem : D → Option Int → Option Int → Option D} {o : Opn} {lo hi : Option (M D)} {σ : L2.St} {H : Hp} {Q : VK} {Qd : D → Hp → Hp → Prop} {A : Addr → Prop} {G : Hp} {ρ : Cells} (R : Rel c B G A H σ ρ) (a : After c B W G A H σ (mSl sem o lo hi ρ) fun d _ G' H' => Qd d G' H')
    (k : ∀ G' H' x d e l u, Same G' H' → Opr c G' H' x d → sem d l u = some e → Qd e G' H' → r x l u H' Q) : tSl r (tO c B W o) (tPt c B W lo) (tPt c B W hi) σ H Q := by
  refine ⟨G, A, ρ, R, a.split.imp fun a0 ρ1 G1 H1 _ _ R1 a1 x fx => ?_⟩
  refine ⟨G1, A, ρ1, R1, a1.split.imp fun l ρ2 G2 H2 s2 _ R2 a2 => ?_⟩
  refine ⟨G2, A, ρ2, R2, a2.split.imp fun u ρ3 G3 H3 s3 _ R3 a3 => ?_⟩
  obtain ⟨d, e1, a3⟩ := a3.rd
  obtain ⟨e, e2, q⟩ := a3.lift R3
  exact k G3 H3 x d e l u R3.same (fx G3 H3 ρ3 d (s2.trans s3) R3 e1) e2 q
theorem pm_sl {e : Expr} {r : V → Option Int → Option Int → Hp → VK → Prop} {sem : D → Option Int → Option Int → Option D} {o : Opn} {lo hi : Option (M D)} (hs : SemS c r sem) (h : PE X e (tSl r (tO c B W o) (tPt c B W lo) (tPt c B W hi))) : PE X e (tM c B W (mSl sem o lo hi)) :=
  pe_imp h fun σ H Q ⟨G, A, ρ, R, a⟩ => sl_core R a.k1 fun G' H' x d e l u s o1 e1 q => hs G' H' x d e l u Q s o1 e1 q
theorem pf_sl {e : Expr} {r : V → Option Int → Option Int → Hp → VK → Prop} {sem : D → Option Int → Option Int → Option D} {o : Opn} {lo hi : Option (M D)} (hs : SemSF c r sem) (h : PE X e (tSl r (tO c B W o) (tPt c B W lo) (tPt c B W hi))) : PE X e (tF c B W (mSl sem o lo hi)) :=
  pe_imp h fun σ H Q ⟨G, A, ρ, R, a⟩ => sl_core R a.k2 fun G' H' x d e l u s o1 e1 q => hs G' H' x d e l u Q s o1 e1 q
end
end Fx
set_option Elab.async false
set_option linter.all false
set_option maxRecDepth 100000
set_option maxHeartbeats 4000000
/-! Fx4: the operations on data. -/
namespace Fx
open PySem L2
/-! ### arithmetic -/
def inR (i : Int) : Bool := decide (-(2 ^ 64) < i) && decide (i < 2 ^ 64)
def sAdd : D → D → Option D
  | .int a, .int b => some (.int (a + b))
  | .tup a, .tup b => if a.length + b.length ≤ 16777216 then some (.tup (a ++ b)) else none
  | .lst a, .lst b => if a.length + b.length ≤ 16777216 then some (.lst (a ++ b)) else none
  | _, _ => none
def sAddL : D → D → Option D
  | .lst a, .lst b => if a.length + b.length ≤ 16777216 then some (.lst (a ++ b)) else none
  | _, _ => none
def sSub : D → D → Option D
  | .int a, .int b => some (.int (a - b))
  | _, _ => none
def sMul : D → D → Option D
  | .int a, .int b => if (inR a || inR b) = true then some (.int (a * b)) else none
  | _, _ => none
def sMulL : D → D → Option D
  | .lst a, .int k => if k < 2 ^ 62 ∧ -(2 ^ 62) ≤ k ∧ a.length * k.toNat ≤ 16777216 then some (.lst (List.replicate k.toNat a).flatten) else none
  | _, _ => none
def sFdiv : D → D → Option D
  | .int a, .int b => if b ≠ 0 ∧ b.natAbs < 1073741824 then some (.int (a.fdiv b)) else none
  | _, _ => none
def sMod : D → D → Option D
  | .int a, .int b => if b ≠ 0 then some (.int (a.fmod b)) else none
  | _, _ => none
def sPow : D → D → Option D
  | .int a, .int b => if 0 ≤ b ∧ b ≤ 1000000 ∧ a.natAbs < 2 ^ 64 then some (.int (a ^ b.toNat)) else none
  | _, _ => none
def sLt : D → D → Option D
  | .int a, .int b => some (.bl (decide (a < b)))
  | _, _ => none
def sLe : D → D → Option D
  | .int a, .int b => some (.bl (decide (a ≤ b)))
  | _, _ => none
def sGt : D → D → Option D
  | .int a, .int b => some (.bl (decide (b < a)))
  | _, _ => none
def sGe : D → D → Option D
  | .int a, .int b => some (.bl (decide (b ≤ a)))
  | _, _ => none
def isNon : D → Bool
  | .non => true
  | _ => false
def sIsN : D → D → Option D
  | .raw _, _ => none
  | d, .non => some (.bl (isNon d))
  | _, _ => none
def sNotN : D → D → Option D
  | .raw _, _ => none
  | d, .non => some (.bl (!isNon d))
  | _, _ => none
def eqD (d e : D) : Bool := PyData.eqv (toPy d) (toPy e)
def sEq (d e : D) : Option D := if (plain d && plain e && decide (min (toPy d).depth (toPy e).depth ≤ 63)) = true then some (.bl (eqD d e)) else none
def sNe (d e : D) : Option D := if (plain d && plain e && decide (min (toPy d).depth (toPy e).depth ≤ 63)) = true then some (.bl (!eqD d e)) else none
def itemsOf : D → Option (List D)
  | .lst ds => some ds
  | .tup ds => some ds
  | _ => none
def inD (d : D) (ds : List D) : Bool := ds.any fun y => eqD y d
def sIn (d e : D) : Option D := (itemsOf e).bind fun ds => if (plain d && PyData.canLayAll0 (toPys ds) && decide (min (PyData.depthAll (toPys ds)) (toPy d).depth ≤ 63)) = true then some (.bl (inD d ds)) else none
def sNin (d e : D) : Option D := (itemsOf e).bind fun ds => if (plain d && PyData.canLayAll0 (toPys ds) && decide (min (PyData.depthAll (toPys ds)) (toPy d).depth ≤ 63)) = true then some (.bl (!inD d ds)) else none
def sIx : D → D → Option D
  | .lst ds, .int i => atI ds i
  | .tup ds, .int i => atI ds i
  | _, _ => none
def sCut : D → Option Int → Option Int → Option D
  | .lst ds, l, u => some (.lst (cutD ds l u))
  | .tup ds, l, u => some (.tup (cutD ds l u))
  | _, _, _ => none
def sCutL : D → Option Int → Option Int → Option D
  | .lst ds, l, u => some (.lst (cutD ds l u))
  | _, _, _ => none
/-! ### calls -/
def sLen : List D → Option D
  | [.lst ds] => some (.int ds.length)
  | [.tup ds] => some (.int ds.length)
  | _ => none
def sTuple : List D → Option D
  | [.lst ds] => some (.tup ds)
  | [.tup ds] => some (.tup ds)
  | _ => none
def sList : List D → Option D
  | [.lst ds] => some (.lst ds)
  | [.tup ds] => some (.lst ds)
  | _ => none
def sInt : List D → Option D
  | [.int i] => some (.int i)
  | [.bl b] => some (.int (if b then 1 else 0))
  | _ => none
def intsOf : List D → Option (List Int)
  | [] => some []
  | .int i :: ds => (intsOf ds).map fun is => i :: is
  | _ => none
def blsOf : List D → Option (List Bool)
  | [] => some []
  | .bl i :: ds => (blsOf ds).map fun is => i :: is
  | _ => none
def sSum : List D → Option D
  | [.lst ds] => (intsOf ds).map fun is => .int is.sum
  | _ => none
def sAll : List D → Option D
  | [.lst ds] => (blsOf ds).map fun is => .bl (is.all id)
  | _ => none
def maxI : List Int → Option Int
  | [] => none
  | a :: as => some (as.foldl (fun m x => if m < x then x else m) a)
def minI : List Int → Option Int
  | [] => none
  | a :: as => some (as.foldl (fun m x => if x < m then x else m) a)
def sMax : List D → Option D
  | [.lst ds] => (intsOf ds).bind fun is => (maxI is).map .int
  | [.int i, .int j] => some (.int (if j > i then j else i))
  | _ => none
def sMin : List D → Option D
  | [.lst ds] => (intsOf ds).bind fun is => (minI is).map .int
  | [.int i, .int j] => some (.int (if j < i then j else i))
  | _ => none
def insI (a : Int) : List Int → List Int
  | [] => [a]
  | b :: bs => if a ≤ b then a :: b :: bs else b :: insI a bs
def sortI : List Int → List Int
  | [] => []
  | a :: as => insI a (sortI as)
def sSorted : List D → Option D
  | [d] => (itemsOf d).bind fun ds => (intsOf ds).map fun is => .lst ((sortI is).map .int)
  | _ => none
/-- the built-in classes that isinstance is asked about -/
def tyName : D → Option String
  | .non => some "NoneType"
  | .bl _ => some "bool"
  | .int _ => some "int"
  | .str _ => some "str"
  | .tup _ => some "tuple"
  | .lst _ => some "list"
  | .dic _ _ => some "dict"
  | _ => none
def sIsi : List D → Option D
  | [d, .raw (.ty n)] => (tyName d).bind fun t => (kitB t n).map .bl
  | _ => none
/-! ### methods -/
def flatD : D → Bool
  | .non => true
  | .bl _ => true
  | .int _ => true
  | .str _ => true
  | _ => false
def eqF : D → D → Bool
  | .non, .non => true
  | .bl a, .bl b => a == b
  | .bl a, .int b => (if a then 1 else 0) == b
  | .int a, .bl b => a == (if b then 1 else 0)
  | .int a, .int b => a == b
  | .str a, .str b => a == b
  | _, _ => false
def idxF (d : D) : List D → Option Nat
  | [] => none
  | e :: es => if eqF e d = true then some 0 else (idxF d es).map (· + 1)
def sIndex (d : D) (ds : List D) : Option D := match ds with
  | [e] => (itemsOf d).bind fun xs => if (flatD e && xs.all flatD) = true then (idxF e xs).map fun j => .int (j : Nat) else none
  | _ => none
def sCount (d : D) (ds : List D) : Option D := match ds with
  | [e] => (itemsOf d).bind fun xs => if (flatD e && xs.all flatD) = true then some (.int (xs.countP fun z => eqF z e : Nat)) else none
  | _ => none
def wAppend : D → List D → Option (D × D)
  | .lst xs, [e] => if xs.length < 16777216 then some (.non, .lst (xs ++ [e])) else none
  | _, _ => none
def wExtend : D → List D → Option (D × D)
  | .lst xs, [.lst ys] => if xs.length + ys.length ≤ 16777216 then some (.non, .lst (xs ++ ys)) else none
  | _, _ => none
def wPopAt : D → List D → Option (D × D)
  | .lst xs, [.int i] => if -(2 ^ 62) ≤ i ∧ i < 2 ^ 62 then (seqIndex? i xs.length).bind fun k => (xs[k]?).map fun y => (y, .lst (xs.eraseIdx k)) else none
  | _, _ => none
def wPop : D → List D → Option (D × D)
  | .lst xs, [] => (xs[xs.length - 1]?).map fun y => (y, .lst xs.dropLast)
  | _, _ => none
def wRemove : D → List D → Option (D × D)
  | .lst xs, [.int k] => (intsOf xs).bind fun is => (is.findIdx? (· == k)).map fun j => (.non, .lst (xs.eraseIdx j))
  | _, _ => none

/-! ### they are what Python does -/
section
variable {c : Cf} {G H : Hp}
theorem sl : sizeLine = 16777216 := sizeLine_eq
theorem repI : ∀ {vs : List V} {ds : List D} {is : List Int}, RepL c G vs ds → intsOf ds = some is → vs = is.map V.int
  | _, _, _, .nil, h => by cases h; rfl
  | _, d :: ds, is, .cons r t, h => by
    cases d <;> first | (cases h; done) | skip
    unfold intsOf at h
    cases e : intsOf ds with
    | none => rw [e] at h; cases h
    | some js =>
      rw [e] at h
      cases h
      rw [rep_int r, repI t e]
      rfl
theorem repB : ∀ {vs : List V} {ds : List D} {is : List Bool}, RepL c G vs ds → blsOf ds = some is → vs = is.map V.bl
  | _, _, _, .nil, h => by cases h; rfl
  | _, d :: ds, is, .cons r t, h => by
    cases d <;> first | (cases h; done) | skip
    unfold blsOf at h
    cases e : blsOf ds with
    | none => rw [e] at h; cases h
    | some js =>
      rw [e] at h
      cases h
      rw [rep_bl r, repB t e]
      rfl
theorem repInts : ∀ is : List Int, RepL c G (is.map V.int) (is.map D.int)
  | [] => .nil
  | i :: is => .cons (.int i) (repInts is)
theorem rep_flat {v : V} {d : D} (r : Rep c G v d) (h : flatD d = true) : flatV v = true := by cases r <;> first | rfl | cases h
theorem rep_eqF {v w : V} {d e : D} (r : Rep c G v d) (q : Rep c G w e) (h : flatD d = true) (k : flatD e = true) : eqV v w = eqF d e := by
  cases r <;> first | (cases h; done) | (cases q <;> first | (cases k; done) | rfl)
theorem repL_flat : ∀ {vs : List V} {ds : List D}, RepL c G vs ds → ds.all flatD = true → vs.all flatV = true
  | _, _, .nil, _ => rfl
  | _, _, .cons r t, h => by
    rw [List.all_cons, Bool.and_eq_true] at h
    rw [List.all_cons, rep_flat r h.1, repL_flat t h.2]
    rfl
theorem rep_inj : ∀ {vs : List V} {ds : List D}, RepL c G vs ds → (vs = [] ↔ ds = [])
  | _, _, .nil => by simp
  | _, _, .cons _ _ => by simp
/-! operators -/
theorem or2 {X : Cx} {f : Value → Value → Sem Value} {r r' : R2} (h : OpR X f r) (h' : OpR X f r') : OpR X f (fun x y H Q => r x y H Q ∨ r' x y H Q) := fun pins s σ H x y v u Q I rx ry q => q.elim (h pins s σ H x y v u Q I rx ry) (h' pins s σ H x y v u Q I rx ry)
def rAdd (K : PySem.W.Frag) : R2 := fun x y H Q => (rI0 (fun i j => V.int (i + j)) x y H Q ∨ rCatN K x y H Q) ∨ rCatR K x y H Q
theorem op_addA {X : Cx} : OpR X (binaryOp .Add) (rAdd X.K) := or2 (or2 op_add op_catN) op_catR
theorem semAddL : Sem2F c (rCatR c.K) sAddL := fun G H x y d1 d2 d Q s a b e k => by
  cases d1 <;> cases d2 <;> first | (cases e; done) | skip
  rename_i xs ys
  simp only [sAddL] at e
  split at e
  · rename_i hz
    cases e
    obtain ⟨p, us, rfl, hp, r1⟩ := a.lst s
    obtain ⟨q, ws, rfl, hq, r2⟩ := b.lst s
    exact ⟨p, q, us, ws, rfl, rfl, hp, hq, by rw [r1.length, r2.length, sl]; exact hz, fun z hz => k.lst hz (r1.append r2)⟩
  · cases e
theorem semAdd : Sem2 c (rAdd c.K) sAdd := fun G H x y d1 d2 d Q s a b e k => by
  cases d1 <;> cases d2 <;> first | (cases e; done) | skip
  · cases e
    exact .inl (.inl ⟨_, _, a.int, b.int, k.flat s (.int _)⟩)
  · rename_i xs ys
    simp only [sAdd] at e
    split at e
    · rename_i hz
      cases e
      obtain ⟨p, us, rfl, hp, r1, R1⟩ := a.tup s
      obtain ⟨q, ws, rfl, hq, r2, R2⟩ := b.tup s
      refine .inl (.inr ⟨p, q, us, ws, rfl, rfl, hp.sq, hq.sq, by rw [r1.length, r2.length, sl]; exact hz, fun z => ?_, fun _ z => ?_, fun _ _ z its hz => ?_⟩)
      · have z' := (rep_inj r1).mp z
        subst z'
        exact k.flat s R2
      · have z' := (rep_inj r2).mp z
        subst z'
        exact k.flat s (by rw [List.append_nil]; exact R1)
      · exact k.tup s hz (r1.append r2)
    · cases e
  · exact .inr (semAddL G H x y _ _ d Q s a b e (k.to2 s))
theorem semSub : Sem2 c (rI0 fun i j => .int (i - j)) sSub := fun G H x y d1 d2 d Q s a b e k => by
  cases d1 <;> cases d2 <;> first | (cases e; done) | skip
  cases e
  exact ⟨_, _, a.int, b.int, k.flat s (.int _)⟩
theorem semMul : Sem2 c (rI CMul fun i j => .int (i * j)) sMul := fun G H x y d1 d2 d Q s a b e k => by
  cases d1 <;> cases d2 <;> first | (cases e; done) | skip
  simp only [sMul] at e
  split at e
  · rename_i h
    cases e
    unfold inR at h
    simp only [Bool.or_eq_true, Bool.and_eq_true, decide_eq_true_eq] at h
    exact ⟨_, _, a.int, b.int, h, k.flat s (.int _)⟩
  · cases e
theorem rep_flatten {vs : List V} {ds : List D} (r : RepL c G vs ds) : ∀ n : Nat, RepL c G (List.replicate n vs).flatten (List.replicate n ds).flatten
  | 0 => .nil
  | n + 1 => by rw [List.replicate_succ, List.replicate_succ, List.flatten_cons, List.flatten_cons]; exact r.append (rep_flatten r n)
theorem semMulL : Sem2F c (rRepR c.K) sMulL := fun G H x y d1 d2 d Q s a b e k => by
  cases d1 <;> cases d2 <;> first | (cases e; done) | skip
  simp only [sMulL] at e
  split at e
  · rename_i h
    cases e
    obtain ⟨p, us, rfl, hp, r1⟩ := a.lst s
    exact ⟨p, _, us, rfl, b.int, hp, by omega, by omega, by rw [r1.length, sl]; exact h.2.2, fun z hz => k.lst hz (rep_flatten r1 _)⟩
  · cases e
theorem semFdiv : Sem2 c (rI CDivN fun i j => .int (i.fdiv j)) sFdiv := fun G H x y d1 d2 d Q s a b e k => by
  cases d1 <;> cases d2 <;> first | (cases e; done) | skip
  simp only [sFdiv] at e
  split at e
  · rename_i h
    cases e
    exact ⟨_, _, a.int, b.int, h, k.flat s (.int _)⟩
  · cases e
theorem semMod : Sem2 c (rI (fun _ j => j ≠ 0) fun i j => .int (i.fmod j)) sMod := fun G H x y d1 d2 d Q s a b e k => by
  cases d1 <;> cases d2 <;> first | (cases e; done) | skip
  simp only [sMod] at e
  split at e
  · rename_i h
    cases e
    exact ⟨_, _, a.int, b.int, h, k.flat s (.int _)⟩
  · cases e
theorem semPow : Sem2 c (rI CPow fun i j => .int (i ^ j.toNat)) sPow := fun G H x y d1 d2 d Q s a b e k => by
  cases d1 <;> cases d2 <;> first | (cases e; done) | skip
  simp only [sPow] at e
  split at e
  · rename_i h
    cases e
    exact ⟨_, _, a.int, b.int, h, k.flat s (.int _)⟩
  · cases e
theorem semLt : Sem2 c (rI0 fun i j => .bl (decide (i < j))) sLt := fun G H x y d1 d2 d Q s a b e k => by
  cases d1 <;> cases d2 <;> first | (cases e; done) | skip
  cases e
  exact ⟨_, _, a.int, b.int, k.flat s (.bl _)⟩
theorem semLe : Sem2 c (rI0 fun i j => .bl (decide (i ≤ j))) sLe := fun G H x y d1 d2 d Q s a b e k => by
  cases d1 <;> cases d2 <;> first | (cases e; done) | skip
  cases e
  exact ⟨_, _, a.int, b.int, k.flat s (.bl _)⟩
theorem semGt : Sem2 c (rI0 fun i j => .bl (decide (j < i))) sGt := fun G H x y d1 d2 d Q s a b e k => by
  cases d1 <;> cases d2 <;> first | (cases e; done) | skip
  cases e
  exact ⟨_, _, a.int, b.int, k.flat s (.bl _)⟩
theorem semGe : Sem2 c (rI0 fun i j => .bl (decide (j ≤ i))) sGe := fun G H x y d1 d2 d Q s a b e k => by
  cases d1 <;> cases d2 <;> first | (cases e; done) | skip
  cases e
  exact ⟨_, _, a.int, b.int, k.flat s (.bl _)⟩
theorem opr_non {x : V} {d : D} (a : Opr c G H x d) (h : ∀ v, d ≠ .raw v) : decide (x = .non) = isNon d := by
  rcases a with a | ⟨p, rfl, a⟩
  · cases a <;> first | rfl | exact absurd rfl (h _)
  · cases d <;> first | exact a.elim | rfl
theorem opr_is_non {x : V} (a : Opr c G H x .non) : x = .non := by
  have r := a.rep fun o z => z
  cases r; rfl
theorem semIsN : Sem2 c (fun x y H Q => y = .non ∧ Q (.bl (decide (x = .non))) H) sIsN := fun G H x y d1 d2 d Q s a b e k => by
  cases d2 <;> cases d1 <;> first | (cases e; done) | skip
  all_goals
    cases e
    refine ⟨opr_is_non b, ?_⟩
    rw [opr_non a (fun v z => by cases z)]
    exact k.flat s (.bl _)
theorem semNotN : Sem2 c (fun x y H Q => y = .non ∧ Q (.bl (!decide (x = .non))) H) sNotN := fun G H x y d1 d2 d Q s a b e k => by
  cases d2 <;> cases d1 <;> first | (cases e; done) | skip
  all_goals
    cases e
    refine ⟨opr_is_non b, ?_⟩
    rw [opr_non a (fun v z => by cases z)]
    exact k.flat s (.bl _)
/-! equality and membership at any depth -/
def rEqN (K : PySem.W.Frag) (n : Bool) : R2 := fun x y H Q => ∃ d e, Dp K H x d ∧ Dp K H y e ∧ d.canLay0 = true ∧ e.canLay0 = true ∧ min d.depth e.depth ≤ 63 ∧ Q (.bl (n ^^ PyData.eqv d e)) H
theorem op_eqN {X : Cx} (hu : X.A.units + 64 < cLine) : OpR X (compareOp .Eq) (rEqN X.K false) := by
  intro pins s σ H x y v u Q I rx ry h
  obtain ⟨d, e, hd, he, sd, se, hz, q⟩ := h
  obtain ⟨as, r1⟩ := Dp.reads I d x v hd rx
  obtain ⟨bs, r2⟩ := Dp.reads I e y u he ry
  rw [Bool.false_xor] at q
  exact SeqAt.compareEq_reads r1 r2 sd se (by omega) ⟨.bl _, H, I, rfl, q⟩
theorem op_neN {X : Cx} (hu : X.A.units + 64 < cLine) : OpR X (compareOp .NotEq) (rEqN X.K true) := by
  intro pins s σ H x y v u Q I rx ry h
  obtain ⟨d, e, hd, he, sd, se, hz, q⟩ := h
  obtain ⟨as, r1⟩ := Dp.reads I d x v hd rx
  obtain ⟨bs, r2⟩ := Dp.reads I e y u he ry
  rw [Bool.true_xor] at q
  exact SeqAt.compareNe_reads r1 r2 sd se (by omega) ⟨.bl _, H, I, rfl, q⟩
theorem semEq : Sem2 c (rEqN c.K false) sEq := fun G H x y d1 d2 d Q s a b e k => by
  unfold sEq at e
  split at e
  · rename_i h
    cases e
    simp only [Bool.and_eq_true, decide_eq_true_eq] at h
    exact ⟨_, _, a.dp s h.1.1, b.dp s h.1.2, h.1.1, h.1.2, h.2, k.flat s (by rw [Bool.false_xor]; exact .bl _)⟩
  · cases e
theorem semNe : Sem2 c (rEqN c.K true) sNe := fun G H x y d1 d2 d Q s a b e k => by
  unfold sNe at e
  split at e
  · rename_i h
    cases e
    simp only [Bool.and_eq_true, decide_eq_true_eq] at h
    exact ⟨_, _, a.dp s h.1.1, b.dp s h.1.2, h.1.1, h.1.2, h.2, k.flat s (by rw [Bool.true_xor]; exact .bl _)⟩
  · cases e
def rInN (K : PySem.W.Frag) (n : Bool) : R2 := fun x y H Q => ∃ d e ds, Dp K H x d ∧ Dp K H y e ∧ (e = .list ds ∨ e = .tuple ds) ∧ d.canLay0 = true ∧ PyData.canLayAll0 ds = true ∧ min (PyData.depthAll ds) d.depth ≤ 63 ∧ Q (.bl (n ^^ ds.any fun z => PyData.eqv z d)) H
theorem op_inN {X : Cx} (hu : X.A.units + 64 < cLine) : OpR X (compareOp .In) (rInN X.K false) := by
  intro pins s σ H x y v u Q I rx ry h
  obtain ⟨d, e, ds, hd, he, hds, sd, se, hz, q⟩ := h
  obtain ⟨as, r1⟩ := Dp.reads I d x v hd rx
  rw [Bool.false_xor] at q
  rcases hds with rfl | rfl
  · obtain ⟨bs, r2⟩ := Dp.reads I _ y u he ry
    exact SeqAt.in_list_reads r2 r1 se sd (by omega) ⟨.bl _, H, I, rfl, q⟩
  · obtain ⟨bs, r2⟩ := Dp.reads I _ y u he ry
    exact SeqAt.in_tuple_reads r2 r1 se sd (by omega) ⟨.bl _, H, I, rfl, q⟩
theorem op_ninN {X : Cx} (hu : X.A.units + 64 < cLine) : OpR X (compareOp .NotIn) (rInN X.K true) := by
  intro pins s σ H x y v u Q I rx ry h
  obtain ⟨d, e, ds, hd, he, hds, sd, se, hz, q⟩ := h
  obtain ⟨as, r1⟩ := Dp.reads I d x v hd rx
  rw [Bool.true_xor] at q
  rcases hds with rfl | rfl
  · obtain ⟨bs, r2⟩ := Dp.reads I _ y u he ry
    exact SeqAt.notIn_list_reads r2 r1 se sd (by omega) ⟨.bl _, H, I, rfl, q⟩
  · obtain ⟨bs, r2⟩ := Dp.reads I _ y u he ry
    exact SeqAt.notIn_tuple_reads r2 r1 se sd (by omega) ⟨.bl _, H, I, rfl, q⟩
theorem any_toPys (d : PyData) : ∀ ds : List D, (toPys ds).any (fun z => PyData.eqv z d) = ds.any fun y => PyData.eqv (toPy y) d
  | [] => rfl
  | e :: es => by rw [toPys, List.any_cons, List.any_cons, any_toPys d es]
theorem items_dp {y : V} {e : D} {ds : List D} (s : Same G H) (b : Opr c G H y e) (h : itemsOf e = some ds) (p : PyData.canLayAll0 (toPys ds) = true) : ∃ f, Dp c.K H y f ∧ (f = .list (toPys ds) ∨ f = .tuple (toPys ds)) := by
  cases e <;> first | (cases h; done) | skip
  · cases h
    have q := b.dp s (by unfold plain; rw [toPy]; unfold PyData.canLay0; exact p)
    rw [toPy] at q
    exact ⟨_, q, .inr rfl⟩
  · cases h
    have q := b.dp s (by unfold plain; rw [toPy]; unfold PyData.canLay0; exact p)
    rw [toPy] at q
    exact ⟨_, q, .inl rfl⟩
theorem semIn : Sem2 c (rInN c.K false) sIn := fun G H x y d1 d2 d Q s a b e k => by
  unfold sIn at e
  cases hi : itemsOf d2 with
  | none => rw [hi] at e; cases e
  | some ds =>
    rw [hi, Option.bind_some] at e
    split at e
    · rename_i h
      cases e
      simp only [Bool.and_eq_true, decide_eq_true_eq] at h
      obtain ⟨f, q1, q2⟩ := items_dp s b hi h.1.2
      refine ⟨_, f, _, a.dp s h.1.1, q1, q2, h.1.1, h.1.2, h.2, ?_⟩
      rw [Bool.false_xor, any_toPys]
      exact k.flat s (.bl _)
    · cases e
theorem semNin : Sem2 c (rInN c.K true) sNin := fun G H x y d1 d2 d Q s a b e k => by
  unfold sNin at e
  cases hi : itemsOf d2 with
  | none => rw [hi] at e; cases e
  | some ds =>
    rw [hi, Option.bind_some] at e
    split at e
    · rename_i h
      cases e
      simp only [Bool.and_eq_true, decide_eq_true_eq] at h
      obtain ⟨f, q1, q2⟩ := items_dp s b hi h.1.2
      refine ⟨_, f, _, a.dp s h.1.1, q1, q2, h.1.1, h.1.2, h.2, ?_⟩
      rw [Bool.true_xor, any_toPys]
      exact k.flat s (.bl _)
    · cases e
/-! items, slices -/
theorem rep_atI {vs : List V} {ds : List D} {i : Int} {d : D} (r : RepL c G vs ds) (h : atI ds i = some d) : ∃ v, atI vs i = some v ∧ Rep c G v d := by
  unfold atI at h ⊢
  rw [r.length]
  cases e : ixN ds.length i with
  | none => rw [e] at h; cases h
  | some j =>
    rw [e, Option.bind_some] at h
    obtain ⟨v, h1, h2⟩ := r.get h
    exact ⟨v, by rw [Option.bind_some]; exact h1, h2⟩
def rIxN (K : PySem.W.Frag) : R2 := fun x y H Q => rIxL K x y H Q ∨ rIxT K x y H Q
theorem ix_N {X : Cx} : IxR X (rIxN X.K) := fun value slice pins s σ H x y v u Q I rx ry q hs => q.elim (fun q => ix_list value slice pins s σ H x y v u Q I rx ry q hs) (fun q => ix_tup value slice pins s σ H x y v u Q I rx ry q hs)
theorem semIx : Sem2 c (rIxN c.K) sIx := fun G H x y d1 d2 d Q s a b e k => by
  cases d1 <;> cases d2 <;> first | (cases e; done) | skip
  · obtain ⟨p, us, rfl, hp, r1, _⟩ := a.tup s
    obtain ⟨v, h1, h2⟩ := rep_atI r1 (show atI _ _ = some d from e)
    exact .inr ⟨p, us, _, v, rfl, b.int, hp.sq, h1, k.flat s h2⟩
  · obtain ⟨p, us, rfl, hp, r1⟩ := a.lst s
    obtain ⟨v, h1, h2⟩ := rep_atI r1 (show atI _ _ = some d from e)
    exact .inl ⟨p, us, _, v, rfl, b.int, hp.sq, h1, k.flat s h2⟩
theorem rep_cut {vs : List V} {ds : List D} (r : RepL c G vs ds) (l u : Option Int) : RepL c G (cutV vs l u) (cutD ds l u) := by
  unfold cutV cutD
  rw [r.length]
  exact (r.drop _).take _
theorem cut_whole {ds : List D} {l u : Option Int} (h : HT.sIx ds.length 0 l = 0 ∧ HT.sIx ds.length ds.length u = ds.length) : cutD ds l u = ds := by
  unfold cutD
  rw [h.1, h.2]
  simp
theorem semCutL : SemSF c (rSlL c.K) sCutL := fun G H x d e l u Q s a h k => by
  cases d <;> first | (cases h; done) | skip
  cases h
  obtain ⟨p, us, rfl, hp, r1⟩ := a.lst s
  exact ⟨p, us, rfl, hp.sq, fun q hq => k.lst hq (rep_cut r1 l u)⟩
theorem semCut : SemS c (fun x lo hi H Q => rSlL c.K x lo hi H Q ∨ rSlN c.K x lo hi H Q) sCut := fun G H x d e l u Q s a h k => by
  cases d <;> first | (cases h; done) | skip
  · cases h
    obtain ⟨p, us, rfl, hp, r1, R1⟩ := a.tup s
    refine .inr ⟨p, us, rfl, hp.sq, fun w => ?_, fun _ q its hq => k.tup s hq (rep_cut r1 l u)⟩
    rw [r1.length] at w
    rw [cut_whole w] at k
    exact k.flat s R1
  · exact .inl (semCutL G H x _ e l u Q s a h (k.to2 s))
theorem sl_N {X : Cx} : SlR X (fun x lo hi H Q => rSlL X.K x lo hi H Q ∨ rSlN X.K x lo hi H Q) := SlR.or sl_list sl_tupN
end
end Fx
set_option Elab.async false
set_option linter.all false
set_option maxRecDepth 100000
set_option maxHeartbeats 4000000
/-! FxS: sorted(t), t a tuple of ints. -/
namespace Fx
open PySem PyProof.Rows Srt
section
variable {prog : Program} {w : World} {A : Around} {E : Value → Shared → Prop} {s : Shared}
theorem collect_tup {l : Addr} {vs : List Value} {Q : List Value → Shared → Prop} (hl : s.heap.IsTuple l vs.toArray)
    (h : Q vs { s with heap := (s.heap.push (seqObj "list" #[] 0)).update s.heap.objs.size (Obj.mapSeq (· ++ vs.toArray)) }) (hsz : vs.length ≤ sizeLine := by size_fits) :
    wpAny (model prog w) A (collect (.ref l)) Q E s := by
  obtain ⟨o, ho, hc, n, hd⟩ := id hl
  unfold collect
  refine wpAny_bind (wpAny_runValue (codeAny_builtin entry_proto_collect' ?_))
  show wpAny _ _ (do again (.builtin "list.__iadd__" ⟨[← newList [], .ref l], []⟩)) _ _ s
  refine wpAny_bind (wpAny_newList (wpAny_pure ⟨Code.quiet_builtin _ (by decide +kernel), codeAny_builtin entry_list_iadd' ?_⟩))
  show wpAny _ _ (Builtin.List.listExtendWith (.ref s.heap.objs.size) (.ref l) (.ref s.heap.objs.size)) _ _ { s with heap := s.heap.push (seqObj "list" #[] 0) }
  unfold Builtin.List.listExtendWith
  have ho' : (s.heap.push (seqObj "list" #[] 0)).get? l = some o := Heap.get?_push_of_some _ ho
  refine wpAny_bind (wpAny_typeOf (T := "tuple") ⟨o, ho', hc⟩ ?_)
  have ht : (Value.type "tuple" == Value.type "tuple") = true := by rfl
  rw [if_pos (by rw [ht]; simp)]
  refine wpAny_bind (listItems_at ho' hd ?_)
  refine wpAny_bind (listItems_at (xs := #[]) (n := 0) (Heap.get?_push_size _ rfl) rfl ?_)
  rw [if_neg (by simp)]
  refine wpAny_bind (listUpdate_at (xs := #[]) (n := 0) (Heap.get?_push_size _ rfl) rfl ?_ (Nat.zero_le _) (by show (#[] ++ vs.toArray).size ≤ sizeLine + 1; simp only [Array.size_append, List.size_toArray, List.length_nil]; omega))
  refine wpAny_pure ?_
  show wpAny (model prog w) A (do
      let o ← load s.heap.objs.size
      match o.data with
      | .seq xs _ => pure xs.toList
      | _ => unsupported "internal:collect") Q E { s with heap := (s.heap.push (seqObj "list" #[] 0)).update s.heap.objs.size (Obj.mapSeq (· ++ vs.toArray)) }
  refine wpAny_bind (wpAny_load (get?_update_seq (Heap.get?_push_size _ rfl) _) ?_)
  show wpAny _ _ (pure ((#[] : Array Value) ++ vs.toArray).toList) Q E _
  rw [show ((#[] : Array Value) ++ vs.toArray).toList = vs by simp]
  exact wpAny_pure h
end
end Fx
namespace SrtO
open PySem PyProof.Rows Srt
section
variable {prog : Program} {w : World} {A : Around} {E : Value → Shared → Prop} {s : Shared}
theorem fx_sorted_tup {l : Addr} {vs : List Value} {ltv : Value → Value → Bool} {Q : Value → Shared → Prop} (O : Swo ltv) (hl : s.heap.IsTuple l vs.toArray) (hz : vs.length ≤ sizeLine)
    (hS : 2 ≤ vs.length → ∀ (h₁ : Heap) (a : Addr), h₁.get? a = some (seqObj "list" vs.toArray 0) → (∀ b o, s.heap.get? b = some o → b ≠ a ∧ h₁.get? b = some o) → SortableO prog w A.in1.in1 { s with heap := h₁ } a vs ltv)
    (h : ∀ out : List Value, Srtd ltv out → Stb ltv out vs → Q (.ref (s.heap.objs.size + 1)) { s with heap := sortedAll s.heap vs out.toArray }) :
    wpAny (model prog w) A (call (.builtin "sorted") [.ref l]) Q E s := by
  refine Calls.call_function_entry kind_sorted plain_sorted entry_sorted (args_sorted1 _) ?_
  unfold Builtin.«sorted»
  refine wpAny_bind (m := checkCount "sorted" 1 1 _) (wpAny_pure ?_)
  refine wpAny_bind (Fx.collect_tup hl ?_ hz)
  refine wpAny_bind (wpAny_newList ?_ hz)
  have hsz : ((s.heap.push (seqObj "list" #[] 0)).update s.heap.objs.size (Obj.mapSeq (· ++ vs.toArray))).objs.size = s.heap.objs.size + 1 := by
    rw [Heap.size_update, size_push']
  have hoL : (((s.heap.push (seqObj "list" #[] 0)).update s.heap.objs.size (Obj.mapSeq (· ++ vs.toArray))).push (seqObj "list" vs.toArray 0)).get? (s.heap.objs.size + 1) = some (seqObj "list" vs.toArray 0) := by
    rw [← hsz]; exact Heap.get?_push_size _ rfl
  have keep : ∀ b o, s.heap.get? b = some o → b ≠ s.heap.objs.size + 1 ∧ (((s.heap.push (seqObj "list" #[] 0)).update s.heap.objs.size (Obj.mapSeq (· ++ vs.toArray))).push (seqObj "list" vs.toArray 0)).get? b = some o := fun b o q => by
    have hlt : b < s.heap.objs.size := Heap.lt_size q
    refine ⟨Nat.ne_of_lt (Nat.lt_succ_of_lt hlt), Heap.get?_push_of_some _ ?_⟩
    rw [Heap.get?_update_ne _ _ _ _ (Nat.ne_of_lt hlt)]
    exact Heap.get?_push_of_some _ q
  show wpAny _ _ _ _ _ { s with heap := ((s.heap.push (seqObj "list" #[] 0)).update s.heap.objs.size (Obj.mapSeq (· ++ vs.toArray))).push (seqObj "list" vs.toArray 0) }
  rw [hsz]
  refine wpAny_bind (wpAny_holding (wpAny_call_entry slot_list_sort ⟨_, hoL, rfl⟩ entry_list_sort (list_sort_ord O hoL hz (fun h2 => hS h2 _ _ hoL keep) fun out hs hb => ⟨_, rfl, ?_⟩) (args_list_sort _)))
  exact wpAny_pure ⟨_, rfl, h out hs hb⟩
end
end SrtO
namespace L2
open PySem PySem.Spec PyProof.Rows
/-- sorted(x), a list or a tuple of ints -/
def fx_rSorted (K : PySem.W.Frag) : List V → Hp → VK → Prop := fun vs H Q => ∃ (a : Addr) (ns : List Int), vs = [V.ref a] ∧ (SqL K H a (ns.map V.int) ∨ SqT K H a (ns.map V.int)) ∧
  ∀ (ns' : List Int) (p : Addr), ns'.Perm ns → ns'.Pairwise (· ≤ ·) → H p = none → Q (.ref p) (upd H p (.lst (ns'.map V.int)))
theorem fx_cr_sorted {X : Cx} : CallR X (.builtin "sorted") (fx_rSorted X.K) := by
  intro pins s σ H vs us Q I r h
  obtain ⟨a, ns, rfl, hs | hs, q⟩ := h
  · exact cr_sortedI pins s σ H _ us Q I r ⟨a, ns, rfl, hs, q⟩
  · obtain ⟨its, rv, hl, hz⟩ := I.tuple hs
    rw [Vals.ref1 r]
    have hi := rv.ints
    refine SrtO.fx_sorted_tup SrtO.swo_int (show s.heap.IsTuple a its.toArray from hl) (by rw [← rv.length]; exact hz) (fun h2 h₁ a' _ _ => SrtO.ints_sortable hi h2) fun out h1 h2 => ?_
    obtain ⟨k1, k2, k3⟩ := SrtO.ints_out hi h1 h2
    obtain ⟨ep, he'⟩ := PyProof.Rows.sortedAll_at s.heap its out.toArray
    have hlen : ((out.map SrtO.iv).map V.int).length ≤ sizeLine := by
      rw [List.length_map, k2.length_eq]
      rw [List.length_map] at hz
      exact hz
    exact ⟨.ref _, upd H (s.heap.objs.size + 1) (.lst ((out.map SrtO.iv).map V.int)), I.laid (t' := s.toks) (fun _ _ => PyProof.Rows.sortedAll_old) (Nat.le_succ _) ⟨hlen, out, ep, vals_of_ints k1, he'⟩, rfl, q _ _ k2 k3 (I.hok.fresh (Nat.le_succ _))⟩
end L2
set_option Elab.async false
set_option linter.all false
set_option maxRecDepth 100000
set_option maxHeartbeats 4000000
/-! Fx5: built-in calls and methods on data. -/
namespace Fx
open PySem L2
section
variable {c : Cf} {G H : Hp}
theorem oprL1 {vs : List V} {d : D} (h : OprL c G H vs [d]) : ∃ v, vs = [v] ∧ Opr c G H v d := by
  cases h with
  | cons a t => cases t; exact ⟨_, rfl, a⟩
theorem oprL2 {vs : List V} {d e : D} (h : OprL c G H vs [d, e]) : ∃ v w, vs = [v, w] ∧ Opr c G H v d ∧ Opr c G H w e := by
  cases h with
  | cons a t =>
    cases t with
    | cons b u => cases u; exact ⟨_, _, rfl, a, b⟩
theorem oprL0 {vs : List V} (h : OprL c G H vs []) : vs = [] := by cases h; rfl
theorem orC {X : Cx} {f : Value} {r r' : List V → Hp → VK → Prop} (h : CallR X f r) (h' : CallR X f r') : CallR X f (fun xs H Q => r xs H Q ∨ r' xs H Q) := fun pins s σ H xs us Q I rx q => q.elim (h pins s σ H xs us Q I rx) (h' pins s σ H xs us Q I rx)
/-- the items of a list or tuple that is read -/
theorem opr_items {x : V} {d : D} {ds : List D} (s : Same G H) (a : Opr c G H x d) (h : itemsOf d = some ds) : ∃ p us, x = .ref p ∧ (SqL c.K H p us ∨ SqT c.K H p us) ∧ RepL c G us ds := by
  cases d <;> first | (cases h; done) | skip
  · cases h
    obtain ⟨p, us, rfl, hp, r1, _⟩ := a.tup s
    exact ⟨p, us, rfl, .inr hp.sq, r1⟩
  · cases h
    obtain ⟨p, us, rfl, hp, r1⟩ := a.lst s
    exact ⟨p, us, rfl, .inl hp.sq, r1⟩
theorem semLen : SemC c (fun xs H Q => ∃ p ys, xs = [.ref p] ∧ (SqL c.K H p ys ∨ SqT c.K H p ys) ∧ Q (.int ys.length) H) sLen := fun G H vs ds d Q s a e k => by
  match ds, e with
  | [.lst xs], e =>
    cases e
    obtain ⟨v, rfl, o⟩ := oprL1 a
    obtain ⟨p, us, rfl, hp, r⟩ := opr_items s o rfl
    exact ⟨p, us, rfl, hp, by rw [r.length]; exact k.flat s (.int _)⟩
  | [.tup xs], e =>
    cases e
    obtain ⟨v, rfl, o⟩ := oprL1 a
    obtain ⟨p, us, rfl, hp, r⟩ := opr_items s o rfl
    exact ⟨p, us, rfl, hp, by rw [r.length]; exact k.flat s (.int _)⟩
theorem semTuple : SemC c (rTupleOf c.K) sTuple := fun G H vs ds d Q s a e k => by
  match ds, e with
  | [.lst xs], e =>
    cases e
    obtain ⟨v, rfl, o⟩ := oprL1 a
    obtain ⟨p, us, rfl, hp, r⟩ := o.lst s
    exact ⟨p, us, rfl, .inl ⟨hp.sq, fun q its hq => k.tup s hq r⟩⟩
  | [.tup xs], e =>
    cases e
    obtain ⟨v, rfl, o⟩ := oprL1 a
    obtain ⟨p, us, rfl, hp, r, R⟩ := o.tup s
    exact ⟨p, us, rfl, .inr ⟨hp.sq, k.flat s R⟩⟩
theorem semList : SemCF c (fun xs H Q => ∃ p ys, xs = [.ref p] ∧ (SqL c.K H p ys ∨ SqT c.K H p ys) ∧ ∀ l, H l = none → Q (.ref l) (upd H l (.lst ys))) sList := fun G H vs ds d Q s a e k => by
  match ds, e with
  | [.lst xs], e =>
    cases e
    obtain ⟨v, rfl, o⟩ := oprL1 a
    obtain ⟨p, us, rfl, hp, r⟩ := opr_items s o rfl
    exact ⟨p, us, rfl, hp, fun q hq => k.lst hq r⟩
  | [.tup xs], e =>
    cases e
    obtain ⟨v, rfl, o⟩ := oprL1 a
    obtain ⟨p, us, rfl, hp, r⟩ := opr_items s o rfl
    exact ⟨p, us, rfl, hp, fun q hq => k.lst hq r⟩
theorem semInt : SemC c (fun xs H Q => (∃ i, xs = [.int i] ∧ Q (.int i) H) ∨ ∃ k, xs = [.bl k] ∧ Q (.int (if k then 1 else 0)) H) sInt := fun G H vs ds d Q s a e k => by
  match ds, e with
  | [.int i], e =>
    cases e
    obtain ⟨v, rfl, o⟩ := oprL1 a
    exact .inl ⟨i, by rw [o.int], k.flat s (.int _)⟩
  | [.bl i], e =>
    cases e
    obtain ⟨v, rfl, o⟩ := oprL1 a
    exact .inr ⟨i, by rw [o.bl], k.flat s (.int _)⟩
theorem semSum : SemC c (rSum c.K) sSum := fun G H vs ds d Q s a e k => by
  match ds, e with
  | [.lst xs], e =>
    simp only [sSum] at e
    cases hi : intsOf xs with
    | none => rw [hi] at e; cases e
    | some is =>
      rw [hi] at e
      cases e
      obtain ⟨v, rfl, o⟩ := oprL1 a
      obtain ⟨p, us, rfl, hp, r⟩ := o.lst s
      cases repI r hi
      exact ⟨p, is, rfl, hp.sq, k.flat s (.int _)⟩
theorem semAll : SemC c (rAll c.K) sAll := fun G H vs ds d Q s a e k => by
  match ds, e with
  | [.lst xs], e =>
    simp only [sAll] at e
    cases hi : blsOf xs with
    | none => rw [hi] at e; cases e
    | some is =>
      rw [hi] at e
      cases e
      obtain ⟨v, rfl, o⟩ := oprL1 a
      obtain ⟨p, us, rfl, hp, r⟩ := o.lst s
      cases repB r hi
      exact ⟨p, is, rfl, hp.sq, k.flat s (.bl _)⟩
theorem foldMax : ∀ (as : List Int) (a : Int), as.foldl (fun m x => if m < x then x else m) a ∈ a :: as ∧ ∀ y ∈ a :: as, y ≤ as.foldl (fun m x => if m < x then x else m) a
  | [], a => ⟨by simp, fun y hy => by simp at hy; subst hy; exact Int.le_refl _⟩
  | b :: bs, a => by
    rw [List.foldl_cons]
    obtain ⟨h1, h2⟩ := foldMax bs (if a < b then b else a)
    refine ⟨?_, fun y hy => ?_⟩
    · rcases List.mem_cons.mp h1 with h | h
      · rw [h]; split <;> simp
      · simp [h]
    · have h3 := h2 _ List.mem_cons_self
      rcases List.mem_cons.mp hy with h | h
      · subst h
        refine Int.le_trans ?_ h3
        split <;> omega
      · rcases List.mem_cons.mp h with h | h
        · subst h
          refine Int.le_trans ?_ h3
          split <;> omega
        · exact h2 y (List.mem_cons_of_mem _ h)
theorem foldMin : ∀ (as : List Int) (a : Int), as.foldl (fun m x => if x < m then x else m) a ∈ a :: as ∧ ∀ y ∈ a :: as, as.foldl (fun m x => if x < m then x else m) a ≤ y
  | [], a => ⟨by simp, fun y hy => by simp at hy; subst hy; exact Int.le_refl _⟩
  | b :: bs, a => by
    rw [List.foldl_cons]
    obtain ⟨h1, h2⟩ := foldMin bs (if b < a then b else a)
    refine ⟨?_, fun y hy => ?_⟩
    · rcases List.mem_cons.mp h1 with h | h
      · rw [h]; split <;> simp
      · simp [h]
    · have h3 := h2 _ List.mem_cons_self
      rcases List.mem_cons.mp hy with h | h
      · subst h
        refine Int.le_trans h3 ?_
        split <;> omega
      · rcases List.mem_cons.mp h with h | h
        · subst h
          refine Int.le_trans h3 ?_
          split <;> omega
        · exact h2 y (List.mem_cons_of_mem _ h)
theorem maxI_spec {is : List Int} {m : Int} (h : maxI is = some m) : m ∈ is ∧ ∀ y ∈ is, y ≤ m := by
  cases is with
  | nil => cases h
  | cons a as => cases h; exact foldMax as a
theorem minI_spec {is : List Int} {m : Int} (h : minI is = some m) : m ∈ is ∧ ∀ y ∈ is, m ≤ y := by
  cases is with
  | nil => cases h
  | cons a as => cases h; exact foldMin as a
def rMx (K : PySem.W.Frag) : List V → Hp → VK → Prop := fun xs H Q => rMax K xs H Q ∨ ∃ i j, xs = [.int i, .int j] ∧ Q (.int (if j > i then j else i)) H
def rMn (K : PySem.W.Frag) : List V → Hp → VK → Prop := fun xs H Q => rMin K xs H Q ∨ ∃ i j, xs = [.int i, .int j] ∧ Q (.int (if j < i then j else i)) H
theorem call_mx {X : Cx} (hc : X.calm = true) : CallR X (.builtin "max") (rMx X.K) := orC (cr_max hc) (call_max2 hc)
theorem call_mn {X : Cx} (hc : X.calm = true) : CallR X (.builtin "min") (rMn X.K) := orC (cr_min hc) (call_min2 hc)
theorem semMax : SemC c (rMx c.K) sMax := fun G H vs ds d Q s a e k => by
  match ds, e with
  | [.lst xs], e =>
    simp only [sMax] at e
    cases hi : intsOf xs with
    | none => rw [hi] at e; cases e
    | some is =>
      rw [hi, Option.bind_some] at e
      cases hm : maxI is with
      | none => rw [hm] at e; cases e
      | some m =>
        rw [hm] at e
        cases e
        obtain ⟨v, rfl, o⟩ := oprL1 a
        obtain ⟨p, us, rfl, hp, r⟩ := o.lst s
        cases repI r hi
        obtain ⟨h1, h2⟩ := maxI_spec hm
        refine .inl ⟨p, is, rfl, hp.sq, List.length_pos_of_mem h1, fun m' h3 h4 => ?_⟩
        have : m' = m := by have := h2 m' h3; have := h4 m h1; omega
        rw [this]
        exact k.flat s (.int _)
  | [.int i, .int j], e =>
    cases e
    obtain ⟨v, w, rfl, o, o'⟩ := oprL2 a
    exact .inr ⟨i, j, by rw [o.int, o'.int], k.flat s (.int _)⟩
theorem semMin : SemC c (rMn c.K) sMin := fun G H vs ds d Q s a e k => by
  match ds, e with
  | [.lst xs], e =>
    simp only [sMin] at e
    cases hi : intsOf xs with
    | none => rw [hi] at e; cases e
    | some is =>
      rw [hi, Option.bind_some] at e
      cases hm : minI is with
      | none => rw [hm] at e; cases e
      | some m =>
        rw [hm] at e
        cases e
        obtain ⟨v, rfl, o⟩ := oprL1 a
        obtain ⟨p, us, rfl, hp, r⟩ := o.lst s
        cases repI r hi
        obtain ⟨h1, h2⟩ := minI_spec hm
        refine .inl ⟨p, is, rfl, hp.sq, List.length_pos_of_mem h1, fun m' h3 h4 => ?_⟩
        have : m' = m := by have := h2 m' h3; have := h4 m h1; omega
        rw [this]
        exact k.flat s (.int _)
  | [.int i, .int j], e =>
    cases e
    obtain ⟨v, w, rfl, o, o'⟩ := oprL2 a
    exact .inr ⟨i, j, by rw [o.int, o'.int], k.flat s (.int _)⟩
/-! sorted -/
theorem insI_perm (a : Int) : ∀ l, (insI a l).Perm (a :: l)
  | [] => .refl _
  | b :: bs => by
    unfold insI
    split
    · exact .refl _
    · exact ((insI_perm a bs).cons b).trans (.swap a b bs)
theorem sortI_perm : ∀ l, (sortI l).Perm l
  | [] => .refl _
  | a :: as => by unfold sortI; exact (insI_perm a _).trans ((sortI_perm as).cons a)
theorem insI_sorted (a : Int) : ∀ l : List Int, l.Pairwise (· ≤ ·) → (insI a l).Pairwise (· ≤ ·)
  | [], _ => by unfold insI; exact List.pairwise_singleton _ _
  | b :: bs, h => by
    obtain ⟨h1, h2⟩ := List.pairwise_cons.mp h
    unfold insI
    split
    · rename_i hab
      refine List.pairwise_cons.mpr ⟨fun y hy => ?_, h⟩
      rcases List.mem_cons.mp hy with e | e
      · subst e; exact hab
      · exact Int.le_trans hab (h1 y e)
    · rename_i hab
      refine List.pairwise_cons.mpr ⟨fun y hy => ?_, insI_sorted a bs h2⟩
      rcases List.mem_cons.mp ((insI_perm a bs).mem_iff.mp hy) with e | e
      · subst e; omega
      · exact h1 y e
theorem sortI_sorted : ∀ l : List Int, (sortI l).Pairwise (· ≤ ·)
  | [] => .nil
  | a :: as => by unfold sortI; exact insI_sorted a _ (sortI_sorted as)
theorem sorted_unique : ∀ {l m : List Int}, l.Perm m → l.Pairwise (· ≤ ·) → m.Pairwise (· ≤ ·) → l = m
  | [], m, p, _, _ => by rw [List.nil_perm.mp p]
  | a :: as, [], p, _, _ => by have := p.length_eq; simp at this
  | a :: as, b :: bs, p, h1, h2 => by
    obtain ⟨k1, k2⟩ := List.pairwise_cons.mp h1
    obtain ⟨k3, k4⟩ := List.pairwise_cons.mp h2
    have e : a = b := by
      have m1 : b ∈ a :: as := p.mem_iff.mpr List.mem_cons_self
      have m2 : a ∈ b :: bs := p.mem_iff.mp List.mem_cons_self
      rcases List.mem_cons.mp m1 with e | e
      · exact e.symm
      · rcases List.mem_cons.mp m2 with e' | e'
        · exact e'
        · have := k1 b e; have := k3 a e'; omega
    subst e
    rw [sorted_unique (List.Perm.cons_inv p) k2 k4]
theorem semSorted : SemCF c (fx_rSorted c.K) sSorted := fun G H vs ds d Q s a e k => by
  match ds, e with
  | [dd], e =>
    simp only [sSorted] at e
    cases hx : itemsOf dd with
    | none => rw [hx] at e; cases e
    | some xs =>
      rw [hx] at e
      have e : ((intsOf xs).map fun is => D.lst ((sortI is).map .int)) = some d := e
      cases hi : intsOf xs with
      | none => rw [hi] at e; cases e
      | some is =>
        rw [hi] at e
        cases e
        obtain ⟨v, rfl, o⟩ := oprL1 a
        obtain ⟨p, us, rfl, hp, r⟩ := opr_items s o hx
        cases repI r hi
        refine ⟨p, is, rfl, hp, fun ns' q pm so hq => ?_⟩
        rw [sorted_unique (pm.trans (sortI_perm is).symm) so (sortI_sorted is)]
        exact k.lst hq (repInts _)
theorem opr_ty {x : V} {d : D} {t : String} (s : Same G H) (a : Opr c G H x d) (h : tyName d = some t) : TyX c.K H x (.type t) := by
  rcases a with a | ⟨p, rfl, a⟩
  · cases a <;> first | (cases h; done) | skip
    · cases h; exact .base .non
    · cases h; exact .base (.bl _)
    · cases h; exact .base (.int _)
    · cases h; exact .base (.str _)
    · rename_i q r
      cases h
      rcases q.mono s with ⟨o, q, _⟩ | ⟨o, its, n, h1, h2, _⟩
      · exact .fTuple q
      · exact .kTuple h1 h2
    · rename_i q r
      cases h
      rcases q.mono s with (q | ⟨o, q⟩) | ⟨its, n, q, _⟩
      · exact .base (.lst q)
      · exact .base (.frz q)
      · exact .kList q rfl
    · rename_i q l r
      cases h
      rcases same_rd s q with q | ⟨o, q⟩
      · exact .base (.dK q)
      · exact .fDict q
  · cases d <;> first | exact a.elim | (cases h; done) | skip
    · cases h
      obtain ⟨xs, e, _⟩ := a
      exact .base (.lst e)
    · cases h
      obtain ⟨xs, e, _⟩ := a
      exact .base (.dK e)
theorem semIsi : SemC c (rIsi c.K) sIsi := fun G H vs ds d Q s a e k => by
  match ds, e with
  | [x, .raw (.ty n)], e =>
    simp only [sIsi] at e
    cases ht : tyName x with
    | none => rw [ht] at e; cases e
    | some t =>
      rw [ht, Option.bind_some] at e
      cases hk : kitB t n with
      | none => rw [hk] at e; cases e
      | some b =>
        rw [hk] at e
        cases e
        obtain ⟨v, w, rfl, o, o'⟩ := oprL2 a
        have ew : w = .ty n := by
          have r := o'.rep fun o z => z
          cases r; rfl
        exact ⟨v, w, _, _, b, rfl, by rw [ew]; exact .ty n, opr_ty s o ht, kit_ty hk, k.flat s (.bl _)⟩
/-! index, count -/
theorem idxF_spec {e : D} : ∀ {xs : List D} {j : Nat}, idxF e xs = some j → ∃ z, xs[j]? = some z ∧ eqF z e = true ∧ ∀ m z', m < j → xs[m]? = some z' → eqF z' e = false
  | x :: xs, j, h => by
    unfold idxF at h
    split at h
    · rename_i hx
      cases h
      exact ⟨x, rfl, hx, fun m z' hm => absurd hm (Nat.not_lt_zero _)⟩
    · rename_i hx
      cases hj : idxF e xs with
      | none => rw [hj] at h; cases h
      | some i =>
        rw [hj] at h
        cases h
        obtain ⟨z, h1, h2, h3⟩ := idxF_spec hj
        refine ⟨z, h1, h2, fun m z' hm hz => ?_⟩
        cases m with
        | zero =>
          cases hz
          exact Bool.eq_false_iff.mpr hx
        | succ m => exact h3 m z' (Nat.lt_of_succ_lt_succ hm) hz
theorem idx_core {us : List V} {xs : List D} {w : V} {e : D} {j : Nat} (r : RepL c G us xs) (rw' : Rep c G w e) (fe : flatD e = true) (fx : xs.all flatD = true) (h : idxF e xs = some j) :
    ∃ z, us[j]? = some z ∧ eqV z w = true ∧ ∀ (m : Nat) (z' : V), m < j → us[m]? = some z' → eqV z' w = false := by
  obtain ⟨z, h1, h2, h3⟩ := idxF_spec h
  obtain ⟨v, e1, r1⟩ := r.get h1
  refine ⟨v, e1, ?_, fun m z' hm hz => ?_⟩
  · rw [rep_eqF r1 rw' (List.all_eq_true.mp fx z (List.mem_of_getElem? h1)) fe]; exact h2
  · obtain ⟨d, e2, r2⟩ := r.getV hz
    rw [rep_eqF r2 rw' (List.all_eq_true.mp fx d (List.mem_of_getElem? e2)) fe]
    exact h3 m d hm e2
theorem opr_flat {v : V} {e : D} (o : Opr c G H v e) (f : flatD e = true) : Rep c G v e := o.rep fun u z => by cases e <;> first | exact z.elim | cases f
def sTix : D → List D → Option D
  | .tup xs, ds => sIndex (.tup xs) ds
  | _, _ => none
def sLix : D → List D → Option D
  | .lst xs, ds => sIndex (.lst xs) ds
  | _, _ => none
def sTcount : D → List D → Option D
  | .tup xs, ds => sCount (.tup xs) ds
  | _, _ => none
theorem semTix : SemM c (rTix c.K) sTix := fun G H x vs d ds e Q s a b h k => by
  cases d <;> first | (cases h; done) | skip
  rename_i xs
  replace h : sIndex (.tup xs) ds = some e := h
  match ds, h with
  | [y], h =>
    simp only [sIndex, itemsOf, Option.bind_some] at h
    split at h
    · rename_i hf
      rw [Bool.and_eq_true] at hf
      cases hj : idxF y xs with
      | none => rw [hj] at h; cases h
      | some j =>
        rw [hj] at h
        cases h
        obtain ⟨p, us, rfl, hp, r, _⟩ := a.tup s
        obtain ⟨w, rfl, ow⟩ := oprL1 b
        have rw' := opr_flat ow hf.1
        obtain ⟨z, h1, h2, h3⟩ := idx_core r rw' hf.1 hf.2 hj
        exact ⟨p, us, w, j, z, rfl, rfl, hp.sq, rep_flat rw' hf.1, repL_flat r hf.2, h1, h2, h3, k.flat s (.int _)⟩
    · cases h
theorem semLix : SemM c (rIndex c.K) sLix := fun G H x vs d ds e Q s a b h k => by
  cases d <;> first | (cases h; done) | skip
  rename_i xs
  replace h : sIndex (.lst xs) ds = some e := h
  match ds, h with
  | [y], h =>
    simp only [sIndex, itemsOf, Option.bind_some] at h
    split at h
    · rename_i hf
      rw [Bool.and_eq_true] at hf
      cases hj : idxF y xs with
      | none => rw [hj] at h; cases h
      | some j =>
        rw [hj] at h
        cases h
        obtain ⟨p, us, rfl, hp, r⟩ := a.lst s
        obtain ⟨w, rfl, ow⟩ := oprL1 b
        have rw' := opr_flat ow hf.1
        obtain ⟨z, h1, h2, h3⟩ := idx_core r rw' hf.1 hf.2 hj
        exact ⟨p, us, w, j, z, rfl, rfl, hp.sq, rep_flat rw' hf.1, repL_flat r hf.2, h1, h2, h3, k.flat s (.int _)⟩
    · cases h
theorem count_core {us : List V} {xs : List D} {w : V} {e : D} (r : RepL c G us xs) (rw' : Rep c G w e) (fe : flatD e = true) (fx : xs.all flatD = true) : us.countP (fun z => eqV z w) = xs.countP fun z => eqF z e := by
  induction us generalizing xs with
  | nil => cases r; rfl
  | cons u us ih =>
    cases r with
    | cons h t =>
      rw [List.all_cons, Bool.and_eq_true] at fx
      rw [List.countP_cons, List.countP_cons, ih t fx.2, rep_eqF h rw' fx.1 fe]
theorem semTcount : SemM c (rTcount c.K) sTcount := fun G H x vs d ds e Q s a b h k => by
  cases d <;> first | (cases h; done) | skip
  rename_i xs
  replace h : sCount (.tup xs) ds = some e := h
  match ds, h with
  | [y], h =>
    simp only [sCount, itemsOf, Option.bind_some] at h
    split at h
    · rename_i hf
      rw [Bool.and_eq_true] at hf
      cases h
      obtain ⟨p, us, rfl, hp, r, _⟩ := a.tup s
      obtain ⟨w, rfl, ow⟩ := oprL1 b
      have rw' := opr_flat ow hf.1
      exact ⟨p, us, w, rfl, rfl, hp.sq, rep_flat rw' hf.1, repL_flat r hf.2, by rw [count_core r rw' hf.1 hf.2]; exact k.flat s (.int _)⟩
    · cases h
/-! methods that change a list -/
def SemWR (c : Cf) (r : V → List V → Hp → VK → Prop) (sem : D → List D → Option (D × D)) : Prop := ∀ (G H : Hp) (p : Addr) (vs : List V) (d : D) (ds : List D) (e d' : D) (Q : VK), Same G H → Own c G (H p) d → RepL c G vs ds → sem d ds = some (e, d') →
  (∀ o v, Own c G (some o) d' → Rep c G v e → Q v (upd H p o)) → r (.ref p) vs H Q
theorem repL1 {vs : List V} {d : D} (h : RepL c G vs [d]) : ∃ v, vs = [v] ∧ Rep c G v d := by
  cases h with
  | cons a t => cases t; exact ⟨_, rfl, a⟩
theorem repL0 {vs : List V} (h : RepL c G vs []) : vs = [] := by cases h; rfl
theorem semAppend : SemWR c rAppend wAppend := fun G H p vs d ds e d' Q s a b h k => by
  match d, ds, h with
  | .lst xs, [y], h =>
    simp only [wAppend] at h
    split at h
    · rename_i hz
      cases h
      obtain ⟨us, hu, r⟩ := a
      obtain ⟨w, rfl, ow⟩ := repL1 b
      exact ⟨p, us, w, rfl, rfl, hu, by rw [r.length, sl]; exact hz, k _ _ ⟨_, rfl, r.append (.one ow)⟩ .non⟩
    · cases h
theorem semExtend : SemW c (rExtR c.K) wExtend := fun G H p vs d ds e d' Q s a b h k => by
  match d, ds, h with
  | .lst xs, [.lst ys], h =>
    simp only [wExtend] at h
    split at h
    · rename_i hz
      cases h
      obtain ⟨us, hu, r⟩ := a
      obtain ⟨w, rfl, ow⟩ := oprL1 b
      obtain ⟨q, ws, rfl, hq, r2⟩ := ow.lst s
      exact ⟨p, q, us, ws, rfl, rfl, hu, hq, by rw [r.length, r2.length, sl]; exact hz, k _ _ ⟨_, rfl, r.append r2⟩ .non⟩
    · cases h
theorem semPopAt : SemWR c rPopAt wPopAt := fun G H p vs d ds e d' Q s a b h k => by
  match d, ds, h with
  | .lst xs, [.int i], h =>
    simp only [wPopAt] at h
    split at h
    · rename_i hz
      cases hk : seqIndex? i xs.length with
      | none => rw [hk] at h; cases h
      | some j =>
        rw [hk, Option.bind_some] at h
        cases hy : xs[j]? with
        | none => rw [hy] at h; cases h
        | some y =>
          rw [hy] at h
          cases h
          obtain ⟨us, hu, r⟩ := a
          obtain ⟨w, rfl, ow⟩ := repL1 b
          obtain ⟨v, h1, h2⟩ := r.get hy
          exact ⟨p, us, i, j, v, rfl, by rw [rep_int ow], hu, by omega, by omega, by rw [r.length]; exact hk, h1, k _ _ ⟨_, rfl, r.eraseIdx j⟩ h2⟩
    · cases h
theorem repL_dropLast {us : List V} {xs : List D} (r : RepL c G us xs) : RepL c G us.dropLast xs.dropLast := by
  rw [List.dropLast_eq_take, List.dropLast_eq_take, r.length]
  exact r.take _
theorem semPop : SemWR c rPop wPop := fun G H p vs d ds e d' Q s a b h k => by
  match d, ds, h with
  | .lst xs, [], h =>
    simp only [wPop] at h
    cases hy : xs[xs.length - 1]? with
    | none => rw [hy] at h; cases h
    | some y =>
      rw [hy] at h
      cases h
      obtain ⟨us, hu, r⟩ := a
      cases repL0 b
      obtain ⟨v, h1, h2⟩ := r.get hy
      exact ⟨p, us, v, rfl, rfl, hu, by rw [r.length]; exact h1, k _ _ ⟨_, rfl, repL_dropLast r⟩ h2⟩
theorem intsOf_some : ∀ {ds : List D} {is : List Int}, intsOf ds = some is → ds = is.map D.int
  | [], _, h => by cases h; rfl
  | d :: ds, is, h => by
    cases d <;> first | (cases h; done) | skip
    unfold intsOf at h
    cases e : intsOf ds with
    | none => rw [e] at h; cases h
    | some js =>
      rw [e] at h
      cases h
      rw [intsOf_some e]
      rfl
theorem intsOf_map : ∀ is : List Int, intsOf (is.map D.int) = some is
  | [] => rfl
  | i :: is => by
    show (intsOf (is.map D.int)).map _ = _
    rw [intsOf_map is]
    rfl
theorem erase_mapD : ∀ (l : List Int) (j : Nat), (l.map D.int).eraseIdx j = (l.eraseIdx j).map D.int
  | [], _ => rfl
  | _ :: _, 0 => rfl
  | a :: as, j + 1 => by
    show D.int a :: (as.map D.int).eraseIdx j = D.int a :: (as.eraseIdx j).map D.int
    rw [erase_mapD as j]
theorem semRemove : SemWR c rRemI wRemove := fun G H p vs d ds e d' Q s a b h k => by
  match d, ds, h with
  | .lst xs, [.int i], h =>
    simp only [wRemove] at h
    cases hi : intsOf xs with
    | none => rw [hi] at h; cases h
    | some is =>
      rw [hi, Option.bind_some] at h
      cases hj : is.findIdx? (· == i) with
      | none => rw [hj] at h; cases h
      | some j =>
        rw [hj] at h
        cases h
        obtain ⟨us, hu, r⟩ := a
        obtain ⟨w, rfl, ow⟩ := repL1 b
        have es := repI r hi
        subst es
        obtain ⟨hlt, he, hno⟩ := List.findIdx?_eq_some_iff_getElem.mp hj
        refine ⟨p, is, i, j, rfl, by rw [rep_int ow], hu, ?_, fun m hm hz => ?_, ?_⟩
        · rw [List.getElem?_eq_getElem hlt]
          exact congrArg some (eq_of_beq he)
        · have hlm : m < is.length := Nat.lt_trans hm hlt
          rw [List.getElem?_eq_getElem hlm] at hz
          exact hno m hm (by rw [Option.some.inj hz]; exact beq_self_eq_true i)
        · refine k _ _ ⟨_, rfl, ?_⟩ .non
          rw [intsOf_some hi]
          rw [erase_mapD]
          exact repInts _
end
section
variable {c : Cf} {B : List (Nat × Addr)} {W : WX} {X : Cx}
def mMethWR (sem : D → List D → Option (D × D)) (i : Nat) (fs : List (M D)) : M D := (ownAt i).bind fun d0 => if isLst d0 = true then (seqM fs).bind fun ds => (ownAt i).bind fun d => (M.lift (sem d ds)).bind fun r => (setOwn i r.2).bind fun _ => M.pure r.1 else M.stuck
theorem pm_methWR (i : Nat) {e : Expr} {r : V → List V → Hp → VK → Prop} {sem : D → List D → Option (D × D)} {fs : List (M D)} (hs : SemWR c r sem) (h : PE X e (tBM X.K "list" r (tVar i) (tD c B W fs))) : PE X e (tM c B W (mMethWR sem i fs)) :=
  pe_imp h fun σ H Q ⟨G, A, ρ, R, a⟩ => by
    obtain ⟨d0, e0, a1⟩ := After.ownAt a
    obtain ⟨p, es, hA, hO⟩ := R.own i d0 e0
    cases d0 <;> first | exact a1.elim | skip
    rename_i ds0
    obtain ⟨xs, hp, _⟩ := hO
    refine ⟨_, es, .inl ⟨rfl, xs, SqL.of hp⟩, G, A, ρ, R, (show After c B W G A H σ (((seqM fs).bind _) ρ) _ from a1).split.imp fun ds ρ2 G2 H2 s2 _ R2 a2 vs rv => ?_⟩
    obtain ⟨d, e3, a2⟩ := a2.ownAt
    obtain ⟨⟨r1, d'⟩, e4, a2⟩ := a2.liftB
    obtain ⟨p', es', hA', hO'⟩ := R2.own i d e3
    rw [es] at es'; cases es'
    refine hs G2 H2 p vs d ds r1 d' Q R2.same hO' rv e4 fun o v ho hr => ?_
    obtain ⟨R3, k3, s3⟩ := R2.setOwn e3 es ho
    exact After.ok (After.of (Same.refl _) k3 a2) R3 v hr
theorem pm_methWR0 (i : Nat) {e : Expr} {r : V → List V → Hp → VK → Prop} {sem : D → List D → Option (D × D)} (hs : SemWR c r sem) (h : PE X e (tBM0 X.K "list" r (tVar i))) : PE X e (tM c B W (mMethWR sem i [])) :=
  pe_imp h fun σ H Q ⟨G, A, ρ, R, a⟩ => by
    obtain ⟨d0, e0, a1⟩ := After.ownAt a
    obtain ⟨p, es, hA, hO⟩ := R.own i d0 e0
    cases d0 <;> first | exact a1.elim | skip
    rename_i ds0
    obtain ⟨xs, hp, _⟩ := id hO
    have a2 := After.ok (show After c B W G A H σ (((seqM []).bind _) ρ) _ from a1).split R
    obtain ⟨d, e3, a2⟩ := a2.ownAt
    obtain ⟨⟨r1, d'⟩, e4, a2⟩ := a2.liftB
    obtain ⟨p', es', hA', hO'⟩ := R.own i d e3
    rw [es] at es'; cases es'
    refine ⟨_, es, .inl ⟨rfl, xs, SqL.of hp⟩, hs G H p [] d [] r1 d' Q R.same hO' .nil e4 fun o v ho hr => ?_⟩
    obtain ⟨R3, k3, s3⟩ := R.setOwn e3 es ho
    exact After.ok (After.of (Same.refl _) k3 a2) R3 v hr
end
end Fx
set_option Elab.async false
set_option linter.all false
set_option maxRecDepth 100000
set_option maxHeartbeats 4000000
/-! FxE: loops over a list or a tuple, enumerate of either. -/
namespace PySem
open Sem (wp)
open AutoSeq1 (wpAny_loadPart')
theorem fx_enum_new {v : Value} {o : Obj} {H : Heap → Prop} (B : Begins v o H) :
    Meets (Builtin.«enumerate.__new__» ⟨[.type "enumerate", v], []⟩) (fun _ R s => H s.heap ∧
      R (.ok (.ret (.ref (s.heap.push o).objs.size))) { s with heap := (s.heap.push o).push { cls := .type "enumerate", data := .fields #[.none, .bool false, .ref s.heap.objs.size, rawInt 0, .none, .none] } }) :=
  .of_wp fun prog w A R s h => by
    obtain ⟨hp, g, d, tk, os⟩ := s; obtain ⟨h1, h⟩ := h
    have hsub := sub_enumerate
    have q1 : ∀ {A' : Around} {E : Value → Shared → Prop} {Q : Value → Shared → Prop}, Q (.ref hp.objs.size) ⟨hp.push o, g, d, tk, os⟩ → wpAny (model prog w) A' (pyIter v) Q E ⟨hp, g, d, tk, os⟩ :=
      fun q => B.iter prog w _ _ ⟨hp, g, d, tk, os⟩ _ h1 q
    wp_walk using q1
    refine wpAny_stack_any fun st => wpAny_pure ?_
    split
    · rename_i c _ _ _ _ _
      cases (c == Value.type "enumerate")
      · wp_walk using q1
        exact ⟨_, rfl, h⟩
      · wp_walk using q1
        exact ⟨_, rfl, h⟩
    · wp_walk using q1
      exact ⟨_, rfl, h⟩
section
variable {prog : Program} {w : World} {A : Around} {E : Value → Shared → Prop} {s : Shared}
theorem fx_enum_begins {v : Value} {o : Obj} {H : Heap → Prop} {Q : Value → Shared → Prop} (B : Begins v o H) (h1 : H s.heap)
    (h : ∀ h', IsEnum h' (s.heap.objs.size + 1) s.heap.objs.size 0 .none → h'.get? s.heap.objs.size = some o → h'.objs.size = s.heap.objs.size + 2 →
      (∀ b o, s.heap.get? b = some o → h'.get? b = some o) → Q (.ref (s.heap.objs.size + 1)) { s with heap := h' }) :
    wpAny (model prog w) A (call (.type "enumerate") [v]) Q E s := by
  refine callType_new F.called_enumerate (by decide) (F.typeCall_enumerate_1 _) (F.newCall_enumerate_1 _) (fun obj => F.args_object_init_2 obj _) F.entry_enumerate_new
    (fx_enum_new B) ⟨h1, ?_⟩
  have hz : (s.heap.push o).objs.size = s.heap.objs.size + 1 := Heap.size_push ..
  show _ ∧ _
  rw [hz]
  have he : IsEnum ((s.heap.push o).push { cls := .type "enumerate", data := .fields #[.none, .bool false, .ref s.heap.objs.size, rawInt 0, .none, .none] }) (s.heap.objs.size + 1) s.heap.objs.size 0 .none := by
    have := Heap.get?_push_size (s.heap.push o) (o := { cls := .type "enumerate", data := .fields #[.none, .bool false, .ref s.heap.objs.size, rawInt 0, .none, .none] }) rfl
    rw [hz] at this; exact this
  refine ⟨⟨_, he, rfl⟩, h _ he (Heap.get?_push_of_some _ (Heap.get?_push_size _ B.free)) (by rw [Heap.size_push, hz]) fun b o x => Heap.get?_push_of_some _ (Heap.get?_push_of_some _ x)⟩
theorem fx_enum_end {e it l : Addr} {i : Nat} {items : Array Value} {old : Value} {Q : Option Value → Shared → Prop} (hh : A.in1.handled = none)
    (he : IsEnum s.heap e it i old) (hit : s.heap.IsTupleIter it l i) (hl : s.heap.IsTuple l items) (hx : items[i]? = none)
    (hQ : ∀ h', Heap.ExtBut it s.heap h' → Q none { s with heap := h' }) : wpAny (model prog w) A (pyNext (.ref e)) Q E s := by
  have hT : s.TypeIs (.ref e) "enumerate" := ⟨_, he, rfl⟩
  unfold pyNext
  refine wpAny_bind (wpAny_attempt (wpAny_callSpecial?_slot (name := Str.ofString "__next__") hT F.slot_enumerate_next
    (wpAny_call_entry F.slot_enumerate_next hT F.entry_enumerate_next ?_ (F.args_enumerate_next_1 _))))
  show wpAny _ _ (field (.ref e) 2 >>= _) _ _ _
  refine wpAny_bind (wpAny_field he rfl (x := .ref it) rfl ?_)
  refine wpAny_bind (wpAny_nextOf_tuple_end hh hit hl hx fun h' x he' hx' => ?_)
  obtain ⟨o, ho, hc⟩ := hx'
  refine wpAny_bind (wpAny_isInstance (T := "StopIteration") (b := true) ⟨o, ho, hc⟩ isSubtype_stop ?_)
  exact wpAny_pure (hQ _ he')
end
end PySem
namespace Fx
open PySem PySem.Spec PyProof.Rows L2
def Iet (K : PySem.W.Frag) (a : Addr) : It :=
  ⟨fun i H => ∃ (xs : List V) (x : V), SqT K H a xs ∧ xs[i]? = some x, fun i H v H' => ∃ T x, v = .ref T ∧ H T = none ∧ H' = upd H T (.tup [.int (i : Nat), x]) ∧ ∀ xs, SqT K H a xs → xs[i]? = some x, fun i H => ∃ xs : List V, SqT K H a xs ∧ xs.length ≤ i⟩
theorem turn_enumT {P : Program} {w : World} {K : PySem.W.Frag} {elts : List Expr} {kk : Nat} {tpos : Pos} (a e it : Addr) :
    Turn P w K (.Tuple elts kk tpos) (Iet K a) [e, it] e (fun i h => (∃ old, IsEnum h e it ((i : Nat) : Int) old) ∧ h.IsTupleIter it a i ∧ e ≠ it ∧ a ≠ it ∧ e ≠ a) where
  mem := by simp
  obj := fun i h st b hb => by
    obtain ⟨⟨old, he⟩, ⟨o, ho, hc, hd⟩, _⟩ := st
    have e' : b = e ∨ b = it := by simpa using hb
    rcases e' with z | z
    · rw [z]; exact ⟨_, he, fun v q => nomatch q⟩
    · rw [z]; exact ⟨o, ho, fun v q => by rw [hd] at q; cases q⟩
  keep := fun i h h' st k => let ⟨⟨old, he⟩, hi, hne⟩ := st; ⟨⟨old, k e (by simp) _ he⟩, hi.at fun o q => k it (by simp) o q, hne⟩
  item := by
    intro X hP hw hK hc i pins s σ H E I hf st hg
    subst hP hw hK
    obtain ⟨⟨old, he⟩, hit, hne, hai, hea⟩ := st
    obtain ⟨xs, x, hq, hx⟩ := hg
    obtain ⟨its, rv, p, hz⟩ := I.tuple hq
    obtain ⟨u, hu, ru⟩ := rv.get hx
    have hel : e < s.heap.objs.size := Heap.lt_size he
    have hil : it < s.heap.objs.size := by obtain ⟨_, q, _⟩ := hit; exact Heap.lt_size q
    have hlen : i < its.toArray.size := by
      have := (List.getElem?_eq_some_iff.mp hu).1
      rw [List.size_toArray]; exact this
    have hh : X.A.in1.handled = none := I.ok.hd hc
    refine wpAny_pyNext_enum_itemD (Draws.tuple hh it a hai its.toArray) he ⟨hit, p⟩ hlen hne (by simp [hne, hea]) fun y h' tk hy ho st' hT hsz hk => ?_
    have ey : y = u := by
      have : its.toArray[i]? = some y := hy
      have h2 : its[i]? = some y := by simpa using this
      rw [hu] at h2; exact (Option.some.inj h2).symm
    subst ey
    refine ⟨_, rfl, wpAny_letOwnedTupleGo_enum (s := { s with heap := h', toks := tk + 1 }) ho fun h'' he' sb => ?_⟩
    have hT2 : h''.get? s.heap.objs.size = some { cls := .type "tuple", data := .seq #[.int i tk, y] } := (sb.2 _ (Nat.ne_of_gt hel)).trans hT
    have new : ObjOk X.prog X.w (upd H s.heap.objs.size (.tup [.int (i : Nat), x])) h'' s.heap.objs.size (.tup [.int (i : Nat), x]) :=
      ⟨by show 2 ≤ sizeLine; decide, [.int i tk, y], .cons ⟨_, rfl⟩ (.cons ru .nil), ⟨_, hT2, rfl, _, rfl⟩⟩
    have I1 : Inv X pins σ (upd H s.heap.objs.size (.tup [.int (i : Nat), x])) { s with heap := h'', toks := tk + 1 } :=
      I.turnedNew (ch := [e, it]) (fun b ob hb q => (sb.2 b (fun z => hb (by simp [z]))).trans (hk b ob (fun z => hb (by simp [z])) (fun z => hb (by simp [z])) q)) hf (Nat.le_refl _) new
    refine ⟨.ref s.heap.objs.size, _, I1, rfl, ⟨_, x, rfl, I.hok.fresh (Nat.le_refl _), rfl, fun ys hy => by rw [I.tuple_inj hy hq]; exact hx⟩, ⟨⟨y, ?_⟩, st'.1.at fun o q => (sb.2 it (Ne.symm hne)).trans q, hne, hai, hea⟩, fun b hb => ?_⟩
    · have e1 : ((i + 1 : Nat) : Int) = (i : Int) + 1 := by omega
      rw [e1]; exact he'
    · have hb' : b < s.heap.objs.size := by
        have e' : b = e ∨ b = it := by simpa using hb
        rcases e' with z | z
        · rw [z]; exact hel
        · rw [z]; exact hil
      rw [upd_ne (Nat.ne_of_lt hb')]
      exact (hf b hb).1
  done := by
    intro X hP hw hK hc i pins s σ H E I hf st hg
    subst hP hw hK
    obtain ⟨⟨old, he⟩, hit, hne, hai, hea⟩ := st
    obtain ⟨xs, hq, hx⟩ := hg
    obtain ⟨its, rv, p, hz⟩ := I.tuple hq
    obtain ⟨f0, f1, f2, f3, f4, f5⟩ := hf it (by simp)
    have hl := rv.length
    have hh : X.A.in1.handled = none := I.ok.hd hc
    exact fx_enum_end hh he hit p (by simp; omega) fun h' eb => ⟨rfl, I.turned (t' := s.toks) (fun b o hb q => eb b o hb q) f0 f1 f3 f4 f5⟩
  self := fun A i s Q E st h => let ⟨⟨_, he⟩, _⟩ := st; wpAny_pyIter_enum he h
section
variable {X : Cx} {tg : Expr}
/-- enumerate of a list or of a tuple -/
def iEnumS (K : PySem.W.Frag) (ta : TA) : TI := fun σ H R => ta σ H fun vs H1 => ∃ a xs, vs = [.ref a] ∧ ((SqL K H1 a xs ∧ R (Ite K a) H1) ∨ (SqT K H1 a xs ∧ R (Iet K a) H1))
theorem pi_enumS {e : Expr} {ta : TA} {p pos tpos : Pos} {elts : List Expr} {kk : Nat} (hg : Gl X "enumerate") (hm : X.mg "enumerate" = none) (ha : PA X [e] ta) (hs : starEach [e] X.env = [(false, eval e X.env)] := by rfl) :
    PI X (.Tuple elts kk tpos) (.Call (.Name "enumerate" p) [e] [] pos) (iEnumS X.K ta) := by
  refine ⟨fun pins s σ H R I h => ?_⟩
  refine Call_ (ld_blt I hg hm boot_enumerate (PyProof.Rows.callWith_type1 (thn (ha.run pos pins s σ H _ I h) fun us s1 ⟨vs, H1, I1, r1, q1⟩ => ?_) hs rfl))
  obtain ⟨a, xs, ex, q⟩ := q1
  subst ex
  cases r1 with
  | cons r rr =>
    cases rr
    cases r
    rcases q with ⟨hq, q⟩ | ⟨hq, q⟩
    · obtain ⟨its, rv, p', hz⟩ := I1.list hq
      refine call_enumerate_list p'.isList fun h' he hit hsz hk => wpAny_pyIter_enum he ?_
      have I2 : Inv X pins σ H1 { s1 with heap := h' } := I1.kept (t' := s1.toks) hk
      refine ⟨s1.heap.objs.size + 1, [s1.heap.objs.size + 1, s1.heap.objs.size], _, _, H1, rfl, I2, turn_enum a (s1.heap.objs.size + 1) s1.heap.objs.size, ⟨⟨.none, he⟩, hit, Nat.succ_ne_self _⟩, fun b hb => ?_, q⟩
      have e' : b = s1.heap.objs.size + 1 ∨ b = s1.heap.objs.size := by simpa using hb
      have hle : s1.heap.objs.size ≤ b := by
        rcases e' with z | z
        · rw [z]; exact Nat.le_add_right _ _
        · rw [z]; exact Nat.le_refl _
      exact I1.fpOk hle (I1.hok.fresh hle)
    · obtain ⟨its, rv, p', hz⟩ := I1.tuple hq
      refine fx_enum_begins (begins_tuple a its.toArray) p' fun h' he hit hsz hk => wpAny_pyIter_enum he ?_
      have I2 : Inv X pins σ H1 { s1 with heap := h' } := I1.kept (t' := s1.toks) hk
      have hal : a < s1.heap.objs.size := p'.lt
      refine ⟨s1.heap.objs.size + 1, [s1.heap.objs.size + 1, s1.heap.objs.size], _, _, H1, rfl, I2, turn_enumT a (s1.heap.objs.size + 1) s1.heap.objs.size, ⟨⟨.none, he⟩, ⟨_, hit, rfl, rfl⟩, Nat.succ_ne_self _, Nat.ne_of_lt hal, Ne.symm (Nat.ne_of_lt (Nat.lt_succ_of_lt hal))⟩, fun b hb => ?_, q⟩
      have e' : b = s1.heap.objs.size + 1 ∨ b = s1.heap.objs.size := by simpa using hb
      have hle : s1.heap.objs.size ≤ b := by
        rcases e' with z | z
        · rw [z]; exact Nat.le_add_right _ _
        · rw [z]; exact Nat.le_refl _
      exact I1.fpOk hle (I1.hok.fresh hle)
/-- a list or a tuple, walked -/
def iSeq (K : PySem.W.Frag) (tl : TE) : TI := fun σ H R => tl σ H fun x H1 => ∃ a xs, x = .ref a ∧ ((SqL K H1 a xs ∧ R (Itl K a) H1) ∨ (SqT K H1 a xs ∧ R (Itt K a) H1))
theorem pi_seq {l : Expr} {tl : TE} (hl : PE X l tl) : PI X tg l (iSeq X.K tl) := by
  refine ⟨fun pins s σ H R I h => ?_⟩
  refine thn (hl.run pins s σ H _ I h) fun v s1 ⟨x, H1, I1, r1, q1⟩ => ?_
  obtain ⟨a, xs, e, q⟩ := q1
  subst e
  cases r1
  rcases q with ⟨hq, q⟩ | ⟨hq, q⟩
  · obtain ⟨its, rv, p, hz⟩ := I1.list hq
    refine wpAny_pyIter_list p.isList ?_
    refine ⟨s1.heap.objs.size, [s1.heap.objs.size], _, _, H1, rfl, I1.kept (t' := s1.toks) fun b o e => Heap.get?_push_of_some _ e, turn_list a _, ⟨_, Heap.get?_push_size _ rfl, rfl, rfl⟩, fun b hb => ?_, q⟩
    have e : b = s1.heap.objs.size := by simpa using hb
    subst e
    exact I1.fpOk (Nat.le_refl _) (I1.hok.fresh (Nat.le_refl _))
  · obtain ⟨its, rv, p, hz⟩ := I1.tuple hq
    refine wpAny_pyIter_tuple (show s1.heap.IsTuple a its.toArray from p) ?_
    refine ⟨s1.heap.objs.size, [s1.heap.objs.size], _, _, H1, rfl, I1.kept (t' := s1.toks) fun b o e => Heap.get?_push_of_some _ e, turn_tuple a _, ⟨_, Heap.get?_push_size _ rfl, rfl, rfl⟩, fun b hb => ?_, q⟩
    have e : b = s1.heap.objs.size := by simpa using hb
    subst e
    exact I1.fpOk (Nat.le_refl _) (I1.hok.fresh (Nat.le_refl _))
end
end Fx
set_option Elab.async false
set_option linter.all false
set_option maxRecDepth 100000
set_option maxHeartbeats 4000000
/-! Fx6: statements. -/
namespace Fx
open PySem L2
/-- a step of statements: A what is owned ahead, A' behind -/
structure Stp (G : Hp) (A : Addr → Prop) (H G' : Hp) (A' : Addr → Prop) (H' : Hp) : Prop where
  gg : Same G G'
  kp : Keep A G H G' H'
  aa : ∀ b, A' b → A b ∨ H b = none
section
variable {G G1 G2 H H1 H2 : Hp} {A A1 A2 : Addr → Prop}
theorem Stp.refl : Stp G A H G A H := ⟨Same.refl _, Keep.refl _ _, fun _ h => .inl h⟩
theorem Stp.trans (a : Stp G A H G1 A1 H1) (b : Stp G1 A1 H1 G2 A2 H2) (hA : ∀ b, A b → ∃ o, H b = some o) : Stp G A H G2 A2 H2 where
  gg := a.gg.trans b.gg
  kp := fun x o h n => by
    have h1 := a.kp x o h n
    have h2 := b.kp x o h1.1 fun z => (a.aa x z).elim n fun w => by rw [w] at h; cases h
    exact ⟨h2.1, h2.2.trans h1.2⟩
  aa := fun x h => (b.aa x h).elim (a.aa x) fun w => by
    by_cases n : A x
    · exact .inl n
    · refine .inr ?_
      cases q : H x with
      | none => rfl
      | some o => have := (a.kp x o q n).1; rw [w] at this; cases this
theorem Stp.same (s : Same G G1) (k : Keep A G H G1 H1) : Stp G A H G1 A H1 := ⟨s, k, fun _ h => .inl h⟩
end
def AfterS (c : Cf) (B : List (Nat × Addr)) (W : WX) (G : Hp) (A : Addr → Prop) (H : Hp) (o : OutS) (D : Ends) : Prop := match o with
  | .stuck => False
  | .next ρ' => ∀ G' A' H' σ', Stp G A H G' A' H' → Rel c B G' A' H' σ' ρ' → D.nx σ' H'
  | .ret d ρ' => ∀ G' A' H' σ' v, Stp G A H G' A' H' → Rel c B G' A' H' σ' ρ' → Rep c G' v d → D.rt v H'
  | .brk ρ' => ∀ G' A' H' σ', Stp G A H G' A' H' → Rel c B G' A' H' σ' ρ' → D.bk σ' H'
  | .cont ρ' => ∀ G' A' H' σ', Stp G A H G' A' H' → Rel c B G' A' H' σ' ρ' → D.ct σ' H'
  | .exc x ρ' => ∀ G' A' H' σ' dd, Stp G A H G' A' H' → Rel c B G' A' H' σ' ρ' → ExcAt c G' x dd → W (.ref (c.exc x.c)) (some dd) σ' H'
def tS (c : Cf) (B : List (Nat × Addr)) (W : WX) (m : MS) : TS := fun D σ H => ∃ G A ρ, Rel c B G A H σ ρ ∧ AfterS c B W G A H (m ρ) D
section
variable {c : Cf} {B : List (Nat × Addr)} {W : WX} {X : Cx} {G H : Hp} {A : Addr → Prop} {σ : L2.St} {ρ : Cells} {Z : Ends}
theorem Rel.own_there (R : Rel c B G A H σ ρ) : ∀ b, A b → ∃ o, H b = some o := fun b h => (R.ownA b h).2
theorem AfterS.of {o : OutS} {G' H' : Hp} {A' : Addr → Prop} (hA : ∀ b, A b → ∃ o, H b = some o) (s : Stp G A H G' A' H') (h : AfterS c B W G A H o Z) : AfterS c B W G' A' H' o Z := by
  cases o with
  | stuck => exact h
  | next ρ' => exact fun G2 A2 H2 σ2 s2 R => h G2 A2 H2 σ2 (s.trans s2 hA) R
  | ret d ρ' => exact fun G2 A2 H2 σ2 v s2 R r => h G2 A2 H2 σ2 v (s.trans s2 hA) R r
  | brk ρ' => exact fun G2 A2 H2 σ2 s2 R => h G2 A2 H2 σ2 (s.trans s2 hA) R
  | cont ρ' => exact fun G2 A2 H2 σ2 s2 R => h G2 A2 H2 σ2 (s.trans s2 hA) R
  | exc x ρ' => exact fun G2 A2 H2 σ2 dd s2 R r => h G2 A2 H2 σ2 dd (s.trans s2 hA) R r
theorem AfterS.nx (h : AfterS c B W G A H (.next ρ) Z) (R : Rel c B G A H σ ρ) : Z.nx σ H := h G A H σ Stp.refl R
/-- an expression's outcome inside a statement -/
def mDo {α : Type} (f : M α) (k : α → MS) : MS := fun ρ => match f ρ with
  | .stuck => .stuck
  | .ok a ρ' => k a ρ'
  | .exc x ρ' => .exc x ρ'
theorem AfterS.split {α : Type} {f : M α} {k : α → MS} (h : AfterS c B W G A H (mDo f k ρ) Z) (R : Rel c B G A H σ ρ) : After c B W G A H σ (f ρ) fun a ρ' G' H' => AfterS c B W G' A H' (k a ρ') Z := by
  unfold mDo at h
  cases e : f ρ with
  | stuck => rw [e] at h; exact h
  | ok a ρ' =>
    rw [e] at h
    exact fun G' H' s kk R' => AfterS.of R.own_there (Stp.same s kk) h
  | exc x ρ' =>
    rw [e] at h
    exact fun G' H' dd s kk R' r => h G' A H' σ dd (Stp.same s kk) R' r

/-! ### blocks -/
def mSkip : MS := fun ρ => .next ρ
def mSeq (m n : MS) : MS := fun ρ => match m ρ with
  | .next ρ' => n ρ'
  | o => o
theorem pss_nilM : PSs X [] (tS c B W mSkip) := pss_imp pss_nil fun D σ H ⟨G, A, ρ, R, a⟩ => a.nx R
theorem AfterS.seq {m n : MS} (h : AfterS c B W G A H (mSeq m n ρ) Z) (R : Rel c B G A H σ ρ) : AfterS c B W G A H (m ρ) { Z with nx := tS c B W n Z } := by
  unfold mSeq at h
  cases e : m ρ with
  | next ρ' =>
    rw [e] at h
    exact fun G' A' H' σ' s R' => ⟨G', A', ρ', R', AfterS.of R.own_there s h⟩
  | stuck => rw [e] at h; exact h
  | ret d ρ' => rw [e] at h; exact h
  | brk ρ' => rw [e] at h; exact h
  | cont ρ' => rw [e] at h; exact h
  | exc x ρ' => rw [e] at h; exact h
theorem pss_consM {st : Stmt} {rest : List Stmt} {m n : MS} (h1 : PS X st (tS c B W m)) (h2 : PSs X rest (tS c B W n)) : PSs X (st :: rest) (tS c B W (mSeq m n)) :=
  pss_imp (pss_cons h1 h2) fun D σ H ⟨G, A, ρ, R, a⟩ => ⟨G, A, ρ, R, a.seq R⟩
theorem pss_oneM {st : Stmt} {m : MS} (h1 : PS X st (tS c B W m)) : PSs X [st] (tS c B W m) := pss_one h1

/-! ### return, expressions, if, pass, break, continue -/
def mRet (f : M D) : MS := mDo f fun d ρ => .ret d ρ
theorem ps_retM {e : Expr} {f : M D} {pos : Pos} (he : PE X e (tM c B W f)) : PS X (.Return (some e) pos) (tS c B W (mRet f)) :=
  ps_imp (ps_ret he) fun D σ H ⟨G, A, ρ, R, a⟩ => ⟨G, A, ρ, R, (a.split R).imp fun d ρ' G' H' _ _ R' q v r => q G' A H' σ v Stp.refl R' r⟩
def mRetN : MS := fun ρ => .ret .non ρ
theorem ps_retNM {pos : Pos} : PS X (.Return none pos) (tS c B W mRetN) := ps_imp ps_retN fun D σ H ⟨G, A, ρ, R, a⟩ => a G A H σ .non Stp.refl R .non
def mExpr (f : M D) : MS := mDo f fun _ ρ => .next ρ
theorem ps_exprM {e : Expr} {f : M D} {pos : Pos} (he : PE X e (tM c B W f)) (hs : swapsWith e none pos.line X.env = pure false := by rfl) : PS X (.Expr e pos) (tS c B W (mExpr f)) :=
  ps_imp (ps_expr he hs) fun D σ H ⟨G, A, ρ, R, a⟩ => ⟨G, A, ρ, R, (a.split R).imp fun d ρ' G' H' _ _ R' q v r => q.nx R'⟩
theorem ps_docM {x : Str} {j pos pos'} : PS X (.Expr (.Constant (.str x) j pos) pos') (tS c B W mSkip) := ps_imp ps_doc fun D σ H ⟨G, A, ρ, R, a⟩ => a.nx R
theorem ps_passM {pos : Pos} : PS X (.Pass pos) (tS c B W mSkip) := ps_imp ps_pass fun D σ H ⟨G, A, ρ, R, a⟩ => a.nx R
def mBrk : MS := fun ρ => .brk ρ
def mCont : MS := fun ρ => .cont ρ
theorem ps_brkM {pos : Pos} : PS X (.Break pos) (tS c B W mBrk) := ps_imp ps_break fun D σ H ⟨G, A, ρ, R, a⟩ => a G A H σ Stp.refl R
theorem ps_contM {pos : Pos} : PS X (.Continue pos) (tS c B W mCont) := ps_imp ps_continue fun D σ H ⟨G, A, ρ, R, a⟩ => a G A H σ Stp.refl R
def mIfS (b : M Bool) (m n : MS) : MS := mDo b fun b ρ => if b = true then m ρ else n ρ
theorem ps_ifM {t : Expr} {a b : List Stmt} {pos : Pos} {f : M Bool} {m n : MS} (ht : PT X t (tT c B W f)) (ha : PSs X a (tS c B W m)) (hb : PSs X b (tS c B W n)) : PS X (.If t a b pos) (tS c B W (mIfS f m n)) :=
  ps_imp (ps_if ht ha hb) fun D σ H ⟨G, A, ρ, R, a⟩ => by
    refine ⟨G, A, ρ, R, (a.split R).imp fun x ρ' G' H' _ _ R' q => ite_prop (fun e => ?_) (fun e => ?_)⟩
    · rw [if_pos e] at q; exact ⟨G', A, ρ', R', q⟩
    · rw [if_neg (by rw [e]; exact Bool.false_ne_true)] at q; exact ⟨G', A, ρ', R', q⟩

/-! ### targets -/
/-- a slot is filled with data -/
theorem Rel.setDat (R : Rel c B G A H σ ρ) {i : Nat} {d : D} {v : V} (r : Rep c G v d) (hb : B.all (fun q => q.1 != i) = true) : Rel c B G A H (σ.set i (some v)) (ρ.set i (.dat d)) := by
  refine ⟨R.same, by rw [List.length_set, List.length_set]; exact R.len, R.ownA, fun j x h => ?_, fun j x h => ?_, fun j k x y q hjk h1 h2 h3 h4 => ?_, fun q hq => ?_⟩
  · by_cases z : j = i
    · subst z
      have hi : j < ρ.length := by
        have := (List.getElem?_eq_some_iff.mp h).1
        rwa [List.length_set] at this
      rw [List.getElem?_set_self hi] at h; cases h
      exact ⟨v, by rw [List.getElem?_set_self (by rw [R.len]; exact hi)], r⟩
    · rw [List.getElem?_set_ne (Ne.symm z)] at h
      obtain ⟨w, h1, h2⟩ := R.dat j x h
      exact ⟨w, by rw [List.getElem?_set_ne (Ne.symm z)]; exact h1, h2⟩
  · by_cases z : j = i
    · subst z
      have hi : j < ρ.length := by
        have := (List.getElem?_eq_some_iff.mp h).1
        rwa [List.length_set] at this
      rw [List.getElem?_set_self hi] at h; cases h
    · rw [List.getElem?_set_ne (Ne.symm z)] at h
      obtain ⟨p, h1, h2, h3⟩ := R.own j x h
      exact ⟨p, by rw [List.getElem?_set_ne (Ne.symm z)]; exact h1, h2, h3⟩
  · have g : ∀ (j : Nat) (x : D), (ρ.set i (.dat d))[j]? = some (.own x) → j ≠ i ∧ ρ[j]? = some (.own x) := fun j x h => by
      by_cases z : j = i
      · subst z
        have hi : j < ρ.length := by
          have := (List.getElem?_eq_some_iff.mp h).1
          rwa [List.length_set] at this
        rw [List.getElem?_set_self hi] at h; cases h
      · rw [List.getElem?_set_ne (Ne.symm z)] at h; exact ⟨z, h⟩
    obtain ⟨n1, h1'⟩ := g j x h1
    obtain ⟨n2, h2'⟩ := g k y h2
    rw [List.getElem?_set_ne (Ne.symm n1)] at h3
    rw [List.getElem?_set_ne (Ne.symm n2)] at h4
    exact R.dis j k x y q hjk h1' h2' h3 h4
  · obtain ⟨h1, h2, x, h3⟩ := R.byr q hq
    have z : q.1 ≠ i := by
      have := List.all_eq_true.mp hb q hq
      simpa using this
    exact ⟨by rw [List.getElem?_set_ne (Ne.symm z)]; exact h1, h2, x, by rw [List.getElem?_set_ne (Ne.symm z)]; exact h3⟩
/-- what a target does with data -/
abbrev TgM := D → Cells → Option Cells
/-- only the slots ts have changed -/
def Only (ts : List Nat) (σ σ' : L2.St) : Prop := σ'.length = σ.length ∧ ∀ j, j ∉ ts → σ'[j]? = σ[j]?
/-- what stands for an item: data, or a pair that is about to be unpacked -/
abbrev VP := Cf → Hp → Hp → V → D → Prop
def vRep : VP := fun c G _ v d => Rep c G v d
def vAny : VP := fun c G H v d => Rep c G v d ∨ ∃ a xs es, v = .ref a ∧ SqT c.K H a xs ∧ d = .tup es ∧ RepL c G xs es
def tG (c : Cf) (B : List (Nat × Addr)) (P : VP) (ts : List Nat) (g : TgM) : TG := fun v σ H Q => ∃ G A ρ d ρ', Rel c B G A H σ ρ ∧ P c G H v d ∧ g d ρ = some ρ' ∧ ∀ σ', Rel c B G A H σ' ρ' → Only ts σ σ' → Q σ' H
def gNm (i : Nat) : TgM := fun d ρ => some (ρ.set i (.dat d))
theorem pg_nm (i : Nat) {x : Str} {pos : Pos} (hN : X.N.Nodup) (hb : B.all (fun q => q.1 != i) = true) (hi : X.N[i]? = some x := by rfl) (hx : Loc X.env.scope x := by first | exact Or.inl rfl | exact Or.inr rfl) (hf : X.fn x = true ∨ X.env.scope.names.lookup x = some .local := by first | exact .inl rfl | exact .inr rfl) : PG X (.Name x pos) (tG c B vRep [i] (gNm i)) :=
  pg_imp (pg_name hN hi hx hf) fun v σ H Q ⟨G, A, ρ, d, ρ', R, r, e, q⟩ => by
    cases e
    exact q _ (R.setDat r hb) ⟨List.length_set, fun j hj => List.getElem?_set_ne (fun z => hj (by simp [z]))⟩
/-- two or more names -/
def gNms : List Nat → List D → Cells → Option Cells
  | [], [], ρ => some ρ
  | i :: is, d :: ds, ρ => gNms is ds (ρ.set i (.dat d))
  | _, _, _ => none
def gTp (is : List Nat) : TgM := fun d ρ => match d with
  | .tup ds => gNms is ds ρ
  | _ => none
def tGs (c : Cf) (B : List (Nat × Addr)) (is : List Nat) : TGs := fun vs σ H Q => ∃ G A ρ ds ρ', Rel c B G A H σ ρ ∧ RepL c G vs ds ∧ gNms is ds ρ = some ρ' ∧ ∀ σ', Rel c B G A H σ' ρ' → Only is σ σ' → Q σ' H
theorem pgs_imp {es : List Expr} {t t' : TGs} (h : PGs X es t) (k : ∀ v σ H Q, t' v σ H Q → t v σ H Q) : PGs X es t' := ⟨fun pins s σ H v u Q I r q => h.run pins s σ H v u Q I r (k v σ H Q q)⟩
theorem pgs_nilM : PGs X [] (tGs c B []) := pgs_imp pgs_nil fun vs σ H Q ⟨G, A, ρ, ds, ρ', R, r, e, q⟩ => by
  cases r with
  | nil => cases e; exact ⟨rfl, q σ R ⟨rfl, fun _ _ => rfl⟩⟩
  | cons _ _ => cases e
theorem pgs_consM {e : Expr} {es : List Expr} {i : Nat} {is : List Nat} (h1 : PG X e (tG c B vRep [i] (gNm i))) (h2 : PGs X es (tGs c B is)) (hs : (assignEach (e :: es) X.env).map (·.2) = assign e X.env :: (assignEach es X.env).map (·.2) := by rfl) : PGs X (e :: es) (tGs c B (i :: is)) :=
  pgs_imp (pgs_cons h1 h2 hs) fun vs σ H Q ⟨G, A, ρ, ds, ρ', R, r, e, q⟩ => by
    cases r with
    | nil => cases e
    | cons h t => exact ⟨_, _, rfl, G, A, ρ, _, _, R, h, rfl, fun σ' R' o' => ⟨G, A, _, _, ρ', R', t, e, fun σ2 R2 o2 => q σ2 R2 ⟨o2.1.trans o'.1, fun j hj => (o2.2 j fun z => hj (List.mem_cons_of_mem _ z)).trans (o'.2 j fun z => hj (by simp at z; simp [z]))⟩⟩⟩
theorem gNms_len : ∀ {is : List Nat} {ds : List D} {ρ ρ' : Cells}, gNms is ds ρ = some ρ' → ds.length = is.length
  | [], [], _, _, _ => rfl
  | [], _ :: _, _, _, h => by cases h
  | _ :: _, [], _, _, h => by cases h
  | _ :: is, _ :: ds, _, _, h => by rw [List.length_cons, List.length_cons, gNms_len (is := is) (ds := ds) h]
theorem vAny.tup {G H : Hp} {v : V} {ds : List D} (s : Same G H) (h : vAny c G H v (.tup ds)) : ∃ a xs, v = .ref a ∧ SqT c.K H a xs ∧ RepL c G xs ds := by
  rcases h with h | ⟨a, xs, es, rfl, h1, h2, h3⟩
  · cases h with
    | tup e r => exact ⟨_, _, rfl, (e.mono s).sq, r⟩
  · cases h2; exact ⟨a, xs, rfl, h1, h3⟩
theorem pg_tpM {es : List Expr} {k : Nat} {pos : Pos} {is : List Nat} (hK : c.K = X.K) (hc : X.calm = true) (h : PGs X es (tGs c B is)) (hn : (assignEach es X.env).length = is.length := by rfl) (hst : (assignEach es X.env).findIdx? (·.1) = none := by rfl) : PG X (.Tuple es k pos) (tG c B vAny is (gTp is)) :=
  pg_imp (pg_tup hc h hn hst) fun v σ H Q ⟨G, A, ρ, d, ρ', R, r, e, q⟩ => by
    cases d <;> first | (cases e; done) | skip
    rename_i ds
    have e' : gNms is ds ρ = some ρ' := e
    obtain ⟨a, xs, rfl, h1, h2⟩ := vAny.tup R.same r
    exact ⟨a, xs, rfl, by rw [← hK]; exact h1, by rw [h2.length, gNms_len e'], G, A, ρ, ds, ρ', R, h2, e', q⟩
theorem pg_any {e : Expr} {ts : List Nat} {g : TgM} (h : PG X e (tG c B vAny ts g)) : PG X e (tG c B vRep ts g) :=
  pg_imp h fun v σ H Q ⟨G, A, ρ, d, ρ', R, r, q⟩ => ⟨G, A, ρ, d, ρ', R, .inl r, q⟩

/-! ### assignments -/
def mAsg (f : M D) (g : TgM) : MS := mDo f fun d ρ => match g d ρ with
  | some ρ' => .next ρ'
  | none => .stuck
theorem ps_asgM {tg e : Expr} {f : M D} {ts : List Nat} {g : TgM} {pos : Pos} (he : PE X e (tM c B W f)) (hg : PG X tg (tG c B vRep ts g)) (hs : swapsWithSole [tg] e pos.line X.env = pure false := by rfl) (hw : swappedStores [tg] e X.env = pure none := by rfl) (h1 : (assignEach [tg] X.env).map (·.2) = [assign tg X.env] := by rfl) :
    PS X (.Assign [tg] e pos) (tS c B W (mAsg f g)) :=
  ps_imp (ps_asg he hg hs hw h1) fun Z σ H ⟨G, A, ρ, R, a⟩ => by
    refine ⟨G, A, ρ, R, (a.split R).imp fun d ρ' G' H' _ _ R' q v r => ?_⟩
    cases e : g d ρ' with
    | none => rw [e] at q; exact q.elim
    | some ρ2 =>
      rw [e] at q
      exact ⟨G', A, ρ', d, ρ2, R', r, e, fun σ' R2 _ => q.nx R2⟩
/-- a new list or dict at a slot, owned -/
theorem Rel.newOwn (R : Rel c B G A H σ ρ) {i : Nat} {d : D} {p : Addr} {H2 : Hp} (hp : H p = none) (hh : Same H H2) (ho : Own c G (H2 p) d) (hb : B.all (fun q => q.1 != i) = true) :
    Rel c B G (fun b => A b ∨ b = p) H2 (σ.set i (some (.ref p))) (ρ.set i (.own d)) := by
  have gp : G p = none := R.same.free hp
  have na : ∀ b, A b → b ≠ p := fun b h z => by obtain ⟨_, o, q⟩ := R.ownA b h; rw [z, hp] at q; cases q
  refine ⟨R.same.trans hh, by rw [List.length_set, List.length_set]; exact R.len, fun b hb' => ?_, fun j x h => ?_, fun j x h => ?_, fun j k x y q hjk h1 h2 h3 h4 => ?_, fun q hq => ?_⟩
  · rcases hb' with h | h
    · obtain ⟨h1, o, h2⟩ := R.ownA b h
      exact ⟨h1, o, hh b o h2⟩
    · rw [h]; exact ⟨gp, ho.some⟩
  · by_cases z : j = i
    · subst z
      have hi : j < ρ.length := by
        have := (List.getElem?_eq_some_iff.mp h).1
        rwa [List.length_set] at this
      rw [List.getElem?_set_self hi] at h; cases h
    · rw [List.getElem?_set_ne (Ne.symm z)] at h
      obtain ⟨w, h1, h2⟩ := R.dat j x h
      exact ⟨w, by rw [List.getElem?_set_ne (Ne.symm z)]; exact h1, h2⟩
  · by_cases z : j = i
    · subst z
      have hi : j < ρ.length := by
        have := (List.getElem?_eq_some_iff.mp h).1
        rwa [List.length_set] at this
      rw [List.getElem?_set_self hi] at h; cases h
      exact ⟨p, by rw [List.getElem?_set_self (by rw [R.len]; exact hi)], .inr rfl, ho⟩
    · rw [List.getElem?_set_ne (Ne.symm z)] at h
      obtain ⟨q, h1, h2, h3⟩ := R.own j x h
      obtain ⟨u, hu⟩ := h3.some
      exact ⟨q, by rw [List.getElem?_set_ne (Ne.symm z)]; exact h1, .inl h2, by rw [hh q u hu, ← hu]; exact h3⟩
  · have g : ∀ (j : Nat) (x : D) (q : Addr), (ρ.set i (.own d))[j]? = some (.own x) → (σ.set i (some (.ref p)))[j]? = some (some (.ref q)) → (j = i ∧ q = p) ∨ (j ≠ i ∧ q ≠ p ∧ ρ[j]? = some (.own x) ∧ σ[j]? = some (some (.ref q))) := fun j x q h h' => by
      by_cases z : j = i
      · subst z
        have hi : j < σ.length := by
          have := (List.getElem?_eq_some_iff.mp h').1
          rwa [List.length_set] at this
        rw [List.getElem?_set_self hi] at h'; cases h'
        exact .inl ⟨rfl, rfl⟩
      · rw [List.getElem?_set_ne (Ne.symm z)] at h h'
        obtain ⟨r, h1, h2, _⟩ := R.own j x h
        rw [h'] at h1; cases h1
        exact .inr ⟨z, na q h2, h, h'⟩
    rcases g j x q h1 h3 with ⟨e1, e2⟩ | ⟨e1, e2, e3, e4⟩
    · rcases g k y q h2 h4 with ⟨f1, f2⟩ | ⟨f1, f2, f3, f4⟩
      · exact hjk (e1.trans f1.symm)
      · exact f2 e2
    · rcases g k y q h2 h4 with ⟨f1, f2⟩ | ⟨f1, f2, f3, f4⟩
      · exact e2 f2
      · exact R.dis j k x y q hjk e3 f3 e4 f4
  · obtain ⟨h1, h2, x, h3⟩ := R.byr q hq
    have z : q.1 ≠ i := by
      have := List.all_eq_true.mp hb q hq
      simpa using this
    exact ⟨by rw [List.getElem?_set_ne (Ne.symm z)]; exact h1, .inl h2, x, by rw [List.getElem?_set_ne (Ne.symm z)]; exact h3⟩
def mNew (f : M D) (i : Nat) : MS := mDo f fun d ρ => .next (ρ.set i (.own d))
theorem ps_newM (i : Nat) {x : Str} {e : Expr} {f : M D} {np pos : Pos} (hN : X.N.Nodup) (he : PE X e (tF c B W f)) (hb : B.all (fun q => q.1 != i) = true) (hi : X.N[i]? = some x := by rfl) (hx : Loc X.env.scope x := by first | exact Or.inl rfl | exact Or.inr rfl) (hf : X.fn x = true ∨ X.env.scope.names.lookup x = some .local := by first | exact .inl rfl | exact .inr rfl) (hs : swapsWithSole [.Name x np] e pos.line X.env = pure false := by rfl) (hw : swappedStores [.Name x np] e X.env = pure none := by rfl) :
    PS X (.Assign [.Name x np] e pos) (tS c B W (mNew f i)) :=
  ps_imp (ps_asg he (pg_name hN hi hx hf) hs hw) fun Z σ H ⟨G, A, ρ, R, a⟩ => by
    refine ⟨G, A, ρ, R, (a.split R).imp fun d ρ' G' H' _ _ R' q p H2 hp hh ho => ?_⟩
    have R2 := R'.newOwn hp hh ho hb
    exact q G' _ H2 _ ⟨Same.refl _, fun b o h _ => ⟨hh b o h, rfl⟩, fun b h => h.elim .inl fun z => .inr (by rw [z]; exact hp)⟩ R2
/-- what a slot owns is frozen -/
theorem Rel.freeze (R : Rel c B G A H σ ρ) {i : Nat} {d : D} {p : Addr} {u : HO} (e : ρ[i]? = some (.own d)) (es : σ[i]? = some (some (.ref p))) (hu : H p = some u) (hb : B.all (fun q => q.1 != i) = true) :
    Rel c B (upd G p u) (fun b => A b ∧ b ≠ p) H σ (ρ.set i (.dat d)) := by
  obtain ⟨p', es', hA, hO⟩ := R.own i d e
  rw [es] at es'; cases es'
  obtain ⟨gp, _⟩ := R.ownA p hA
  have gg : Same G (upd G p u) := same_upd gp
  have hi : i < ρ.length := (List.getElem?_eq_some_iff.mp e).1
  refine ⟨fun b w q => ?_, by rw [List.length_set]; exact R.len, fun b ⟨h1, h2⟩ => ?_, fun j x h => ?_, fun j x h => ?_, fun j k x y q hjk h1 h2 h3 h4 => ?_, fun q hq => ?_⟩
  · by_cases z : b = p
    · subst z; rw [upd_same] at q; cases q; exact hu
    · rw [upd_ne z] at q; exact R.same b w q
  · obtain ⟨h3, h4⟩ := R.ownA b h1
    exact ⟨by rw [upd_ne h2]; exact h3, h4⟩
  · by_cases z : j = i
    · subst z
      rw [List.getElem?_set_self hi] at h; cases h
      refine ⟨.ref p, es, ?_⟩
      have o' : Own c G ((upd G p u) p) d := by rw [upd_same, ← hu]; exact hO
      exact o'.rep gg
    · rw [List.getElem?_set_ne (Ne.symm z)] at h
      obtain ⟨w, h1, h2⟩ := R.dat j x h
      exact ⟨w, h1, h2.mono gg⟩
  · by_cases z : j = i
    · subst z; rw [List.getElem?_set_self hi] at h; cases h
    · rw [List.getElem?_set_ne (Ne.symm z)] at h
      obtain ⟨q, h1, h2, h3⟩ := R.own j x h
      exact ⟨q, h1, ⟨h2, fun w => R.dis j i x d p z h e (by rw [← w]; exact h1) es⟩, h3.mono gg⟩
  · have g : ∀ (j : Nat) (x : D), (ρ.set i (.dat d))[j]? = some (.own x) → ρ[j]? = some (.own x) := fun j x h => by
      by_cases z : j = i
      · subst z; rw [List.getElem?_set_self hi] at h; cases h
      · rw [List.getElem?_set_ne (Ne.symm z)] at h; exact h
    exact R.dis j k x y q hjk (g j x h1) (g k y h2) h3 h4
  · obtain ⟨h1, h2, x, h3⟩ := R.byr q hq
    have z : q.1 ≠ i := by
      have := List.all_eq_true.mp hb q hq
      simpa using this
    refine ⟨h1, ⟨h2, fun w => ?_⟩, x, by rw [List.getElem?_set_ne (Ne.symm z)]; exact h3⟩
    exact R.dis q.1 i x d p z h3 e (by rw [← w]; exact h1) es
def mFrz (i : Nat) (m : MS) : MS := fun ρ => match ρ[i]? with
  | some (.own d) => m (ρ.set i (.dat d))
  | _ => m ρ
theorem AfterS.frz {i : Nat} {m : MS} (R : Rel c B G A H σ ρ) (hb : B.all (fun q => q.1 != i) = true) (a : AfterS c B W G A H (mFrz i m ρ) Z) : ∃ G' A' ρ', Rel c B G' A' H σ ρ' ∧ AfterS c B W G' A' H (m ρ') Z := by
  unfold mFrz at a
  cases e : ρ[i]? with
  | none => rw [e] at a; exact ⟨G, A, ρ, R, a⟩
  | some cl =>
    rw [e] at a
    cases cl with
    | no => exact ⟨G, A, ρ, R, a⟩
    | dat d => exact ⟨G, A, ρ, R, a⟩
    | own d =>
      obtain ⟨p, es, hA, hO⟩ := R.own i d e
      obtain ⟨u, hu⟩ := hO.some
      have gp := (R.ownA p hA).1
      refine ⟨_, _, _, R.freeze e es hu hb, AfterS.of R.own_there ⟨same_upd gp, fun b o h n => ⟨h, upd_ne fun z => n (by rw [z]; exact hA)⟩, fun b h => .inl h.1⟩ a⟩
theorem ps_frz (i : Nat) {st : Stmt} {m : MS} (hb : B.all (fun q => q.1 != i) = true) (h : PS X st (tS c B W m)) : PS X st (tS c B W (mFrz i m)) := ps_imp h fun Z σ H ⟨G, A, ρ, R, a⟩ => a.frz R hb
end
end Fx
set_option Elab.async false
set_option linter.all false
set_option maxRecDepth 100000
set_option maxHeartbeats 4000000
/-! Fx7: loops, comprehensions. -/
namespace Fx
open PySem L2
/-! ### what is walked -/
structure ItOk (c : Cf) (P : VP) (J : It) (ds : List D) (G : Hp) : Prop where
  len : ds.length ≤ sizeLine
  go : ∀ i H', i < ds.length → Same G H' → J.go i H'
  yld : ∀ i G' H' x H'', i < ds.length → Same G G' → Same G' H' → J.yld i H' x H'' → ∃ G'' d, ds[i]? = some d ∧ Ext G' H' G'' H'' ∧ P c G'' H'' x d
  stop : ∀ H', Same G H' → J.stop ds.length H'
def tI (c : Cf) (B : List (Nat × Addr)) (W : WX) (P : VP) (f : M (List D)) : TI := fun σ H R => ∃ G A ρ, Rel c B G A H σ ρ ∧ After c B W G A H σ (f ρ) fun ds _ G' H' => ∀ J, ItOk c P J ds G' → R J H'
/-- a value's list or tuple is not longer than the line -/
def LenOk (v : V) (H : Hp) : Prop := ∀ a xs, v = .ref a → (Rd H a (.lst xs) ∨ Rd H a (.tup xs)) → xs.length ≤ sizeLine
section
variable {c : Cf} {B : List (Nat × Addr)} {W : WX} {X : Cx} {G H : Hp} {A : Addr → Prop} {σ : L2.St} {ρ : Cells} {Z : Ends}
theorem lenOk_of {pins : List (Addr × Obj)} {s : Shared} (I : Inv X pins σ H s) (v : V) : LenOk v H := fun a xs _ h => by
  rcases h with h | h
  · have q := h.ok I.hok; exact q.1
  · have q := h.ok I.hok; exact q.1
theorem pe_len {e : Expr} {t : TE} (h : PE X e t) : PE X e (fun σ H Q => t σ H fun v H' => LenOk v H' → Q v H') :=
  ⟨fun pins s σ H Q I q => thn (h.run pins s σ H _ I q) fun u s1 ⟨v, H1, I1, r, k⟩ => ⟨v, H1, I1, r, k (lenOk_of I1 v)⟩⟩
theorem pa_len {es : List Expr} {t : TA} (h : PA X es t) : PA X es (fun σ H Q => t σ H fun vs H' => (∀ v ∈ vs, LenOk v H') → Q vs H') :=
  ⟨fun pos pins s σ H Q I q => thn (h.run pos pins s σ H _ I q) fun u s1 ⟨v, H1, I1, r, k⟩ => ⟨v, H1, I1, r, k fun w _ => lenOk_of I1 w⟩⟩

/-! a list, a tuple -/
def mSeqI (f : M D) : M (List D) := f.bind fun d => M.lift (itemsOf d)
theorem rd_inj {K : PySem.W.Frag} {a : Addr} {xs ys : List V} {pins : List (Addr × Obj)} {s : Shared} (I : Inv X pins σ H s) (h : SqL X.K H a xs) (h' : SqL X.K H a ys) : xs = ys := I.list_inj h h'
theorem rep_seq {v : V} {d : D} {ds : List D} (s : Same G H) (r : Rep c G v d) (h : itemsOf d = some ds) (lo : LenOk v H) :
    ∃ a us, v = .ref a ∧ RepL c G us ds ∧ us.length ≤ sizeLine ∧ (LsG c.K G a us ∨ TupAt c.K G a us) := by
  cases r <;> first | (cases h; done) | skip
  · rename_i a xs es e rl
    cases h
    refine ⟨a, xs, rfl, rl, ?_, .inr e⟩
    rcases e with ⟨o, e, _⟩ | ⟨o, its, n, h1, h2, h3, h4, h5, h6⟩
    · exact lo a xs rfl (.inr (.inr ⟨o, s _ _ e⟩))
    · have e6 : xs.length = its.size := by rw [h6.length]; exact Array.length_toList
      rw [e6]
      exact h5
  · rename_i a xs es e rl
    cases h
    refine ⟨a, xs, rfl, rl, ?_, .inl e⟩
    rcases e with e | ⟨its, n, h1, h2, h3⟩
    · exact lo a xs rfl (.inl (same_rd s e))
    · rw [h3.length]; exact h2
theorem itl_ok {K : PySem.W.Frag} {a : Addr} {us : List V} {ds : List D} (r : RepL c G us ds) (hl : us.length ≤ sizeLine) (hr : LsG K G a us) : ItOk c vRep (Itl K a) ds G where
  len := by rw [← r.length]; exact hl
  go := fun i H' hi s => by
    obtain ⟨v, h1, _⟩ := r.get (List.getElem?_eq_getElem hi)
    exact ⟨us, v, (hr.mono s).sq, h1⟩
  yld := fun i G' H' x H'' hi s1 s2 ⟨e, h⟩ => by
    have hx := h us (hr.mono (s1.trans s2)).sq
    obtain ⟨d, h1, h2⟩ := r.getV hx
    subst e
    exact ⟨G', d, h1, Ext.refl s2, h2.mono s1⟩
  stop := fun H' s => ⟨us, (hr.mono s).sq, by rw [r.length]; exact Nat.le_refl _⟩
theorem itt_ok {K : PySem.W.Frag} (hK : c.K = K) {a : Addr} {us : List V} {ds : List D} (r : RepL c G us ds) (hl : us.length ≤ sizeLine) (hr : TupAt K G a us) : ItOk c vRep (Itt K a) ds G where
  len := by rw [← r.length]; exact hl
  go := fun i H' hi s => by
    obtain ⟨v, h1, _⟩ := r.get (List.getElem?_eq_getElem hi)
    exact ⟨us, v, (hr.mono s).sq, h1⟩
  yld := fun i G' H' x H'' hi s1 s2 ⟨e, h⟩ => by
    have hx := h us ((hr.mono (s1.trans s2)).sq)
    obtain ⟨d, h1, h2⟩ := r.getV hx
    subst e
    exact ⟨G', d, h1, Ext.refl s2, h2.mono s1⟩
  stop := fun H' s => ⟨us, (hr.mono s).sq, by rw [r.length]; exact Nat.le_refl _⟩
theorem pi_seqM (hK : c.K = X.K) {tg l : Expr} {f : M D} (h : PE X l (tM c B W f)) : PI X tg l (tI c B W vRep (mSeqI f)) :=
  pi_imp (pi_seq (pe_len h)) fun σ H R ⟨G, A, ρ, Rl, a⟩ => by
    refine ⟨G, A, ρ, Rl, a.split.imp fun d ρ' G' H' _ _ R' q v r lo => ?_⟩
    obtain ⟨ds, e, k⟩ := q.lift R'
    obtain ⟨p, us, rfl, rl, hl, hr | hr⟩ := rep_seq R'.same r e lo
    · exact ⟨p, us, rfl, .inl ⟨by rw [← hK]; exact (hr.mono R'.same).sq, k _ (itl_ok rl hl (by rw [← hK]; exact hr))⟩⟩
    · exact ⟨p, us, rfl, .inr ⟨by rw [← hK]; exact (hr.mono R'.same).sq, k _ (itt_ok hK rl hl (by rw [← hK]; exact hr))⟩⟩
/-! enumerate -/
def enumD : Nat → List D → List D
  | _, [] => []
  | n, d :: ds => .tup [.int (n : Int), d] :: enumD (n + 1) ds
theorem enumD_len : ∀ (n : Nat) (ds : List D), (enumD n ds).length = ds.length
  | _, [] => rfl
  | n, d :: ds => by rw [enumD, List.length_cons, List.length_cons, enumD_len]
theorem enumD_get : ∀ (n i : Nat) (ds : List D) (d : D), ds[i]? = some d → (enumD n ds)[i]? = some (.tup [.int ((n + i : Nat) : Int), d])
  | n, 0, e :: ds, d, h => by simp at h; subst h; rfl
  | n, i + 1, e :: ds, d, h => by
    have := enumD_get (n + 1) i ds d (by simpa using h)
    rw [enumD, List.getElem?_cons_succ, this]
    congr 4
    omega
def mEnum (f : M D) : M (List D) := f.bind fun d => (M.lift (itemsOf d)).bind fun ds => M.pure (enumD 0 ds)
theorem enum_yld {G' H' H'' : Hp} {x y : V} {d : D} {i : Nat} {T : Addr} (s2 : Same G' H') (hT : H' T = none) (e : H'' = upd H' T (.tup [.int (i : Nat), y])) (ex : x = .ref T) (r : Rep c G' y d) :
    ∃ G'', Ext G' H' G'' H'' ∧ vAny c G'' H'' x (.tup [.int (i : Nat), d]) := by
  subst e ex
  refine ⟨G', Ext.updH s2 hT, .inr ⟨T, _, _, rfl, SqT.of upd_same, rfl, .cons (.int _) (.one r)⟩⟩
theorem ite_ok {K : PySem.W.Frag} (hK : c.K = K) {a : Addr} {us : List V} {ds : List D} (r : RepL c G us ds) (hl : us.length ≤ sizeLine) (hr : LsG K G a us) : ItOk c vAny (Ite K a) (enumD 0 ds) G where
  len := by rw [enumD_len, ← r.length]; exact hl
  go := fun i H' hi s => by
    rw [enumD_len] at hi
    obtain ⟨v, h1, _⟩ := r.get (List.getElem?_eq_getElem hi)
    exact ⟨us, v, (hr.mono s).sq, h1⟩
  yld := fun i G' H' x H'' hi s1 s2 ⟨T, y, ex, hT, e, h⟩ => by
    have hx := h us (hr.mono (s1.trans s2)).sq
    obtain ⟨d, h1, h2⟩ := r.getV hx
    obtain ⟨G'', q1, q2⟩ := enum_yld s2 hT e ex (h2.mono s1)
    exact ⟨G'', _, by rw [enumD_get 0 i ds d h1, Nat.zero_add], q1, q2⟩
  stop := fun H' s => ⟨us, (hr.mono s).sq, by rw [enumD_len, r.length]; exact Nat.le_refl _⟩
theorem iet_ok {K : PySem.W.Frag} (hK : c.K = K) {a : Addr} {us : List V} {ds : List D} (r : RepL c G us ds) (hl : us.length ≤ sizeLine) (hr : TupAt K G a us) : ItOk c vAny (Iet K a) (enumD 0 ds) G where
  len := by rw [enumD_len, ← r.length]; exact hl
  go := fun i H' hi s => by
    rw [enumD_len] at hi
    obtain ⟨v, h1, _⟩ := r.get (List.getElem?_eq_getElem hi)
    exact ⟨us, v, (hr.mono s).sq, h1⟩
  yld := fun i G' H' x H'' hi s1 s2 ⟨T, y, ex, hT, e, h⟩ => by
    have hx := h us ((hr.mono (s1.trans s2)).sq)
    obtain ⟨d, h1, h2⟩ := r.getV hx
    obtain ⟨G'', q1, q2⟩ := enum_yld s2 hT e ex (h2.mono s1)
    exact ⟨G'', _, by rw [enumD_get 0 i ds d h1, Nat.zero_add], q1, q2⟩
  stop := fun H' s => ⟨us, (hr.mono s).sq, by rw [enumD_len, r.length]; exact Nat.le_refl _⟩
theorem pi_enumM {e : Expr} {f : M D} {p pos tpos : Pos} {elts : List Expr} {kk : Nat} (hK : c.K = X.K) (hm : X.mg "enumerate" = none) (h : PE X e (tM c B W f)) (hg : Gl X "enumerate" := by rfl) (hs : starEach [e] X.env = [(false, eval e X.env)] := by rfl) :
    PI X (.Tuple elts kk tpos) (.Call (.Name "enumerate" p) [e] [] pos) (tI c B W vAny (mEnum f)) :=
  pi_imp (pi_enumS hg hm (pa_len (pd_cons h pd_nil (by rw [hs]; rfl))) hs) fun σ H R ⟨G, A, ρ, Rl, a⟩ => by
    refine ⟨G, A, ρ, Rl, ?_⟩
    have a' : After c B W G A H σ ((seqM [f]) ρ) fun ds _ G' H' => ∀ vs, RepL c G' vs ds → (∀ v ∈ vs, LenOk v H') → ∃ a xs, vs = [V.ref a] ∧ ((SqL X.K H' a xs ∧ R (Ite X.K a) H') ∨ (SqT X.K H' a xs ∧ R (Iet X.K a) H')) := by
      have b := (show After c B W G A H σ ((f.bind _) ρ) _ from a).split
      show After c B W G A H σ ((f.bind fun d => M.pure [d]) ρ) _
      unfold M.bind
      cases hf : f ρ with
      | stuck => rw [hf] at b; exact b
      | exc x r => rw [hf] at b; exact b
      | ok d ρ1 =>
        rw [hf] at b
        intro G' H' s k R1 vs rs lo
        have q := b G' H' s k R1
        have q2 := q.split
        obtain ⟨ds, ed, q3⟩ := q.liftB
        have q4 := After.ok q3 R1
        obtain ⟨v, rfl, r⟩ := repL1 rs
        obtain ⟨p, us, rfl, rl, hl, hr | hr⟩ := rep_seq R1.same r ed (lo v (by simp))
        · exact ⟨p, us, rfl, .inl ⟨by rw [← hK]; exact (hr.mono R1.same).sq, q4 _ (ite_ok hK rl hl (by rw [← hK]; exact hr))⟩⟩
        · exact ⟨p, us, rfl, .inr ⟨by rw [← hK]; exact (hr.mono R1.same).sq, q4 _ (iet_ok hK rl hl (by rw [← hK]; exact hr))⟩⟩
    exact a'
/-! range -/
def rangeD (lo : Int) (n : Nat) : List D := (List.range n).map fun (k : Nat) => D.int (lo + (k : Int))
theorem rangeD_len (lo : Int) (n : Nat) : (rangeD lo n).length = n := by unfold rangeD; rw [List.length_map, List.length_range]
def mRange1 (f : M D) : M (List D) := f.bind fun d => match d with
  | .int j => if j ≤ 16777216 ∧ -16777216 ≤ j then M.pure (rangeD 0 j.toNat) else M.stuck
  | _ => M.stuck
def mRange2 (f g : M D) : M (List D) := f.bind fun d => g.bind fun e => match d, e with
  | .int i, .int j => if (j ≤ 16777216 ∧ -16777216 ≤ j) ∧ (i ≤ 16777216 ∧ 0 ≤ i) then M.pure (rangeD i (j - i).toNat) else M.stuck
  | _, _ => M.stuck
theorem itr_ok {lo : Int} {n : Nat} (hn : n ≤ 16777216) : ItOk c vRep (Itr lo n) (rangeD lo n) G where
  len := by rw [rangeD_len, sl]; exact hn
  go := fun i H' hi s => by rw [rangeD_len] at hi; exact hi
  yld := fun i G' H' x H'' hi s1 s2 ⟨e, h⟩ => by
    rw [rangeD_len] at hi
    subst e h
    refine ⟨G', .int (lo + (i : Int)), ?_, Ext.refl s2, .int _⟩
    unfold rangeD
    rw [List.getElem?_map, List.getElem?_range hi]
    rfl
  stop := fun H' s => by show n ≤ (rangeD lo n).length; rw [rangeD_len]; exact Nat.le_refl _
theorem pi_range1M {tg e : Expr} {f : M D} {p pos : Pos} (hm : X.mg "range" = none) (h : PE X e (tM c B W f)) (hg : Gl X "range" := by rfl) (hs : starEach [e] X.env = [(false, eval e X.env)] := by rfl) :
    PI X tg (.Call (.Name "range" p) [e] [] pos) (tI c B W vRep (mRange1 f)) :=
  pi_imp (pi_range1 hg hm (pd_cons h pd_nil (by rw [hs]; rfl)) hs) fun σ H R ⟨G, A, ρ, Rl, a⟩ => by
    refine ⟨G, A, ρ, Rl, ?_⟩
    have b := (show After c B W G A H σ ((f.bind _) ρ) _ from a).split
    show After c B W G A H σ ((f.bind fun d => M.pure [d]) ρ) _
    unfold M.bind
    cases hf : f ρ with
    | stuck => rw [hf] at b; exact b
    | exc x r => rw [hf] at b; exact b
    | ok d ρ1 =>
      rw [hf] at b
      intro G' H' s k R1 vs rs
      have q := b G' H' s k R1
      cases d <;> first | exact q.elim | skip
      rename_i j
      obtain ⟨v, rfl, r⟩ := repL1 rs
      have q : After c B W G' A H' σ ((if j ≤ 16777216 ∧ -16777216 ≤ j then M.pure (rangeD 0 j.toNat) else M.stuck) ρ1) _ := q
      split at q
      · rename_i hj
        exact ⟨j, by rw [rep_int r], by omega, by omega, After.ok q R1 _ (itr_ok (by omega))⟩
      · exact q.elim

/-! ### for -/
def loopM (g : TgM) (body : MS) : List D → MS
  | [], ρ => .next ρ
  | d :: ds, ρ => match g d ρ with
    | none => .stuck
    | some ρ1 => match body ρ1 with
      | .next ρ2 => loopM g body ds ρ2
      | .cont ρ2 => loopM g body ds ρ2
      | .brk ρ2 => .next ρ2
      | .stuck => .stuck
      | .ret d ρ2 => .ret d ρ2
      | .exc x ρ2 => .exc x ρ2
def mFor (fi : M (List D)) (g : TgM) (body : MS) : MS := mDo fi fun ds => loopM g body ds
theorem ps_forM {tg iter : Expr} {body : List Stmt} {fi : M (List D)} {P : VP} {ts : List Nat} {g : TgM} {m : MS} {pos : Pos} (hp : PassesOwn (model X.prog X.w) X.A X.env X.xe) (hc : X.calm = true) (hi : PI X tg iter (tI c B W P fi)) (hg : PG X tg (tG c B P ts g)) (hb : PSs X body (tS c B W m))
    (hs : ∀ x, foldedSetIterable iter X.env x = pure x := by intro _; rfl) : PS X (.For tg iter body [] pos) (tS c B W (mFor fi g m)) :=
  ps_imp (ps_for hp hc hi hg hb hs) fun Z σ H ⟨G, A, ρ, R, a⟩ => by
    refine ⟨G, A, ρ, R, (a.split R).imp fun ds ρ1 G1 H1 _ _ R1 a1 J ok => ?_⟩
    refine ⟨fun i n σ2 H2 => n = ds.length - i ∧ i ≤ ds.length ∧ ∃ G2 A2 ρ2, Same G1 G2 ∧ Rel c B G2 A2 H2 σ2 ρ2 ∧ AfterS c B W G2 A2 H2 (loopM g m (ds.drop i) ρ2) Z, ⟨_, rfl, Nat.zero_le _, G1, A, ρ1, Same.refl _, R1, a1⟩, ?_⟩
    rintro i n σ2 H2 ⟨rfl, hi, G2, A2, ρ2, s2, R2, a2⟩
    by_cases hlt : i < ds.length
    · refine .inr ⟨ok.go i H2 hlt (s2.trans R2.same), fun σ3 H3 => ∃ G3 A3 ρ3, Same G1 G3 ∧ Rel c B G3 A3 H3 σ3 ρ3 ∧ AfterS c B W G3 A3 H3 (loopM g m (ds.drop (i + 1)) ρ3) Z, fun σ3 H3 q => ⟨_, by omega, rfl, hlt, q⟩, fun x H3 hy => ?_⟩
      obtain ⟨G3, d, e1, x3, pr⟩ := ok.yld i G2 H2 x H3 hlt s2 R2.same hy
      have R3 := R2.ext x3
      have a3 := AfterS.of R2.own_there (Stp.same x3.gg x3.keep) a2
      have ed : ds.drop i = d :: ds.drop (i + 1) := by
        rw [List.drop_eq_getElem_cons hlt]
        congr 1
        rw [List.getElem?_eq_getElem hlt] at e1
        exact Option.some.inj e1
      rw [ed] at a3
      unfold loopM at a3
      cases eg : g d ρ2 with
      | none => rw [eg] at a3; exact a3.elim
      | some ρ3 =>
        rw [eg] at a3
        have a3 : AfterS c B W G3 A2 H3 (match m ρ3 with
          | .next ρ2 => loopM g m (ds.drop (i + 1)) ρ2
          | .cont ρ2 => loopM g m (ds.drop (i + 1)) ρ2
          | .brk ρ2 => .next ρ2
          | .stuck => .stuck
          | .ret d ρ2 => .ret d ρ2
          | .exc x ρ2 => .exc x ρ2) Z := a3
        refine ⟨G3, A2, ρ2, d, ρ3, R3, pr, eg, fun σ3 R4 _ => ⟨G3, A2, ρ3, R4, ?_⟩⟩
        have sG : Same G1 G3 := s2.trans x3.gg
        cases em : m ρ3 with
        | stuck => rw [em] at a3; exact a3.elim
        | next ρ4 => rw [em] at a3; exact fun G5 A5 H5 σ5 s5 R5 => ⟨G5, A5, ρ4, sG.trans s5.gg, R5, AfterS.of R4.own_there s5 a3⟩
        | cont ρ4 => rw [em] at a3; exact fun G5 A5 H5 σ5 s5 R5 => ⟨G5, A5, ρ4, sG.trans s5.gg, R5, AfterS.of R4.own_there s5 a3⟩
        | brk ρ4 => rw [em] at a3; exact fun G5 A5 H5 σ5 s5 R5 => a3 G5 A5 H5 σ5 s5 R5
        | ret d' ρ4 => rw [em] at a3; exact a3
        | exc x ρ4 => rw [em] at a3; exact a3
    · have ei : i = ds.length := by omega
      subst ei
      rw [List.drop_length] at a2
      exact .inl ⟨ok.stop H2 (s2.trans R2.same), a2.nx R2⟩
/-! ### while -/
def whileM (t : M Bool) (body : MS) : Nat → MS
  | 0, _ => .stuck
  | n + 1, ρ => match t ρ with
    | .stuck => .stuck
    | .exc x ρ1 => .exc x ρ1
    | .ok b ρ1 => if b = true then (match body ρ1 with
      | .next ρ2 => whileM t body n ρ2
      | .cont ρ2 => whileM t body n ρ2
      | .brk ρ2 => .next ρ2
      | .stuck => .stuck
      | .ret d ρ2 => .ret d ρ2
      | .exc x ρ2 => .exc x ρ2) else .next ρ1
theorem ps_whileM (n : Nat) {t : Expr} {body : List Stmt} {f : M Bool} {m : MS} {pos : Pos} (hp : PassesOwn (model X.prog X.w) X.A X.env X.xe) (ht : PT X t (tT c B W f)) (hb : PSs X body (tS c B W m)) : PS X (.While t body [] pos) (tS c B W (whileM f m n)) :=
  ps_imp (ps_while hp ht hb) fun Z σ H ⟨G, A, ρ, R, a⟩ => by
    refine ⟨fun n σ2 H2 => ∃ G2 A2 ρ2, Rel c B G2 A2 H2 σ2 ρ2 ∧ AfterS c B W G2 A2 H2 (whileM f m n ρ2) Z, ⟨n, G, A, ρ, R, a⟩, ?_⟩
    rintro n σ2 H2 ⟨G2, A2, ρ2, R2, a2⟩
    cases n with
    | zero => exact a2.elim
    | succ n =>
      unfold whileM at a2
      refine ⟨G2, A2, ρ2, R2, ?_⟩
      have a3 := (show AfterS c B W G2 A2 H2 (mDo f (fun b ρ1 => if b = true then (match m ρ1 with
        | .next ρ2 => whileM f m n ρ2
        | .cont ρ2 => whileM f m n ρ2
        | .brk ρ2 => .next ρ2
        | .stuck => .stuck
        | .ret d ρ2 => .ret d ρ2
        | .exc x ρ2 => .exc x ρ2) else .next ρ1) ρ2) Z from by
          unfold mDo
          cases e : f ρ2 <;> rw [e] at a2 <;> exact a2).split R2
      refine a3.imp fun b ρ3 G3 H3 _ _ R3 q => ite_prop (fun e => ?_) (fun e => ?_)
      · rw [if_pos e] at q
        refine ⟨fun σ4 H4 => ∃ G4 A4 ρ4, Rel c B G4 A4 H4 σ4 ρ4 ∧ AfterS c B W G4 A4 H4 (whileM f m n ρ4) Z, fun σ4 H4 q => ⟨n, Nat.lt_succ_self n, q⟩, G3, A2, ρ3, R3, ?_⟩
        cases em : m ρ3 with
        | stuck => rw [em] at q; exact q.elim
        | next ρ4 => rw [em] at q; exact fun G5 A5 H5 σ5 s5 R5 => ⟨G5, A5, ρ4, R5, AfterS.of R3.own_there s5 q⟩
        | cont ρ4 => rw [em] at q; exact fun G5 A5 H5 σ5 s5 R5 => ⟨G5, A5, ρ4, R5, AfterS.of R3.own_there s5 q⟩
        | brk ρ4 => rw [em] at q; exact fun G5 A5 H5 σ5 s5 R5 => q G5 A5 H5 σ5 s5 R5
        | ret d' ρ4 => rw [em] at q; exact q
        | exc x ρ4 => rw [em] at q; exact q
      · rw [if_neg (by rw [e]; exact Bool.false_ne_true)] at q
        exact q.nx R3
end
end Fx
set_option Elab.async false
set_option linter.all false
set_option maxRecDepth 100000
set_option maxHeartbeats 4000000
/-! Fx8: list comprehensions. -/
namespace Fx
open PySem L2
def wipeC (ρ : Cells) : List Nat → Cells
  | [] => ρ
  | v :: vs => (wipeC ρ vs).set v .no
def cellOr : Option Cell → Cell
  | some x => x
  | none => .no
def unwipe (ρ0 ρ : Cells) : List Nat → Cells
  | [] => ρ
  | v :: vs => (unwipe ρ0 ρ vs).set v (cellOr ρ0[v]?)
def isOwn : Option Cell → Bool
  | some (.own _) => true
  | _ => false
def lcM (g : TgM) (tt : M Bool) (fe : M D) (vs : List Nat) : List D → Cells → Option (List D × Cells)
  | [], ρ => some ([], ρ)
  | d :: ds, ρ => match g d (wipeC ρ vs) with
    | none => none
    | some ρ1 => match tt ρ1 with
      | .ok b ρ2 => if b = true then (match fe ρ2 with
        | .ok e ρ3 => (lcM g tt fe vs ds ρ3).map fun r => (e :: r.1, r.2)
        | _ => none) else lcM g tt fe vs ds ρ2
      | _ => none
def mLc (fi : M (List D)) (g : TgM) (tt : M Bool) (fe : M D) (vs : List Nat) : M D := fi.bind fun ds => fun ρ => if vs.all (fun v => !isOwn ρ[v]?) = true then (match lcM g tt fe vs ds ρ with
  | some (es, ρ') => .ok (.lst es) (unwipe ρ ρ' vs)
  | none => .stuck) else .stuck
theorem wipeC_len (ρ : Cells) : ∀ vs : List Nat, (wipeC ρ vs).length = ρ.length
  | [] => rfl
  | v :: vs => by unfold wipeC; rw [List.length_set, wipeC_len]
theorem unwipe_len (ρ0 ρ : Cells) : ∀ vs : List Nat, (unwipe ρ0 ρ vs).length = ρ.length
  | [] => rfl
  | v :: vs => by unfold unwipe; rw [List.length_set, unwipe_len]
theorem wipeC_out {ρ : Cells} {i : Nat} : ∀ {vs : List Nat}, i ∉ vs → (wipeC ρ vs)[i]? = ρ[i]?
  | [], _ => rfl
  | v :: vs, h => by
    simp only [List.mem_cons, not_or] at h
    unfold wipeC
    rw [List.getElem?_set_ne (Ne.symm h.1), wipeC_out h.2]
theorem wipeC_in {ρ : Cells} {i : Nat} : ∀ {vs : List Nat}, i ∈ vs → (wipeC ρ vs)[i]? = none ∨ (wipeC ρ vs)[i]? = some .no
  | v :: vs, h => by
    unfold wipeC
    by_cases z : v = i
    · subst z
      by_cases hl : v < (wipeC ρ vs).length
      · exact .inr (List.getElem?_set_self hl)
      · exact .inl (List.getElem?_eq_none (by rw [List.length_set]; omega))
    · rw [List.getElem?_set_ne z]
      rcases List.mem_cons.mp h with e | e
      · exact absurd e.symm z
      · exact wipeC_in e
theorem wipe_out {σ : L2.St} {i : Nat} : ∀ {vs : List Nat}, i ∉ vs → (wipe σ vs)[i]? = σ[i]?
  | [], _ => rfl
  | v :: vs, h => by
    simp only [List.mem_cons, not_or] at h
    unfold wipe
    rw [List.getElem?_set_ne (Ne.symm h.1), wipe_out h.2]
theorem wipe_in {σ : L2.St} {i : Nat} (hl : i < σ.length) : ∀ {vs : List Nat}, i ∈ vs → (wipe σ vs)[i]? = some none
  | v :: vs, h => by
    unfold wipe
    by_cases z : v = i
    · subst z; exact List.getElem?_set_self (by rw [wipe_length]; exact hl)
    · rw [List.getElem?_set_ne z]
      rcases List.mem_cons.mp h with e | e
      · exact absurd e.symm z
      · exact wipe_in hl e
theorem wipe_only {σ σ' : L2.St} {ts vs : List Nat} (h : Only ts (wipe σ vs) σ') (ht : ∀ t ∈ ts, t ∈ vs) : wipe σ' vs = wipe σ vs := by
  have hl : σ'.length = σ.length := h.1.trans (wipe_length σ vs)
  apply List.ext_getElem?
  intro i
  by_cases hi : i ∈ vs
  · by_cases hlt : i < σ.length
    · rw [wipe_in hlt hi, wipe_in (by rw [hl]; exact hlt) hi]
    · rw [List.getElem?_eq_none (by rw [wipe_length, hl]; omega), List.getElem?_eq_none (by rw [wipe_length]; omega)]
  · rw [wipe_out hi, h.2 i fun z => hi (ht i z)]
theorem unwipe_out {ρ0 ρ : Cells} {i : Nat} : ∀ {vs : List Nat}, i ∉ vs → (unwipe ρ0 ρ vs)[i]? = ρ[i]?
  | [], _ => rfl
  | v :: vs, h => by
    simp only [List.mem_cons, not_or] at h
    unfold unwipe
    rw [List.getElem?_set_ne (Ne.symm h.1), unwipe_out h.2]
theorem unwipe_in {ρ0 ρ : Cells} {i : Nat} (hl : i < ρ.length) : ∀ {vs : List Nat}, i ∈ vs → (unwipe ρ0 ρ vs)[i]? = some (cellOr ρ0[i]?)
  | v :: vs, h => by
    unfold unwipe
    by_cases z : v = i
    · subst z; exact List.getElem?_set_self (by rw [unwipe_len]; exact hl)
    · rw [List.getElem?_set_ne z]
      rcases List.mem_cons.mp h with e | e
      · exact absurd e.symm z
      · exact unwipe_in hl e
section
variable {c : Cf} {B : List (Nat × Addr)} {W : WX} {X : Cx} {G H : Hp} {A : Addr → Prop} {σ : L2.St} {ρ : Cells} {Z : Ends}
theorem Rel.wipe (R : Rel c B G A H σ ρ) {vs : List Nat} (hB : B.all (fun q => !vs.contains q.1) = true) : Rel c B G A H (wipe σ vs) (wipeC ρ vs) := by
  have nin : ∀ (i : Nat) (x : Cell), (wipeC ρ vs)[i]? = some x → x ≠ .no → i ∉ vs ∧ ρ[i]? = some x := fun i x h hx => by
    by_cases hi : i ∈ vs
    · rcases wipeC_in (ρ := ρ) hi with e | e
      · rw [e] at h; cases h
      · rw [e] at h; cases h; exact absurd rfl hx
    · exact ⟨hi, by rw [wipeC_out hi] at h; exact h⟩
  refine ⟨R.same, by rw [wipe_length, wipeC_len]; exact R.len, R.ownA, fun i d h => ?_, fun i d h => ?_, fun i j d e p hij h1 h2 h3 h4 => ?_, fun q hq => ?_⟩
  · obtain ⟨hi, h'⟩ := nin i _ h (fun z => by cases z)
    obtain ⟨v, h1, h2⟩ := R.dat i d h'
    exact ⟨v, by rw [wipe_out hi]; exact h1, h2⟩
  · obtain ⟨hi, h'⟩ := nin i _ h (fun z => by cases z)
    obtain ⟨v, h1, h2⟩ := R.own i d h'
    exact ⟨v, by rw [wipe_out hi]; exact h1, h2⟩
  · obtain ⟨hi, h1'⟩ := nin i _ h1 (fun z => by cases z)
    obtain ⟨hj, h2'⟩ := nin j _ h2 (fun z => by cases z)
    rw [wipe_out hi] at h3
    rw [wipe_out hj] at h4
    exact R.dis i j d e p hij h1' h2' h3 h4
  · obtain ⟨h1, h2, x, h3⟩ := R.byr q hq
    have hi : q.1 ∉ vs := by
      have := List.all_eq_true.mp hB q hq
      simpa using this
    exact ⟨by rw [wipe_out hi]; exact h1, h2, x, by rw [wipeC_out hi]; exact h3⟩
theorem Rel.unwipe (R : Rel c B G A H σ ρ) {G' H' : Hp} {ρ' : Cells} {vs : List Nat} (s : Same G G') (hv : vs.all (fun v => !isOwn ρ[v]?) = true) (hB : B.all (fun q => !vs.contains q.1) = true) (R' : Rel c B G' A H' (L2.wipe σ vs) (wipeC ρ' vs)) : Rel c B G' A H' σ (Fx.unwipe ρ ρ' vs) := by
  have hl : ρ'.length = σ.length := by
    have := R'.len
    rw [wipe_length, wipeC_len] at this
    exact this.symm
  have get : ∀ (i : Nat) (x : Cell), (Fx.unwipe ρ ρ' vs)[i]? = some x → x ≠ .no → (i ∈ vs ∧ ρ[i]? = some x ∧ ∀ d, x ≠ .own d) ∨ (i ∉ vs ∧ (wipeC ρ' vs)[i]? = some x) := fun i x h hx => by
    by_cases hi : i ∈ vs
    · have hlt : i < ρ'.length := by
        have := (List.getElem?_eq_some_iff.mp h).1
        rwa [unwipe_len] at this
      rw [unwipe_in hlt hi] at h
      refine .inl ⟨hi, ?_, fun d z => ?_⟩
      · cases e : ρ[i]? with
        | none => rw [e] at h; cases h; exact absurd rfl hx
        | some y => rw [e] at h; exact h
      · subst z
        have := List.all_eq_true.mp hv i hi
        cases e : ρ[i]? with
        | none => rw [e] at h; cases h
        | some y =>
          rw [e] at h this
          cases h
          cases this
    · exact .inr ⟨hi, by rw [wipeC_out hi]; rw [unwipe_out hi] at h; exact h⟩
  refine ⟨R'.same, by rw [unwipe_len, hl], R'.ownA, fun i d h => ?_, fun i d h => ?_, fun i j d e p hij h1 h2 h3 h4 => ?_, fun q hq => ?_⟩
  · rcases get i _ h (fun z => by cases z) with ⟨hi, h', _⟩ | ⟨hi, h'⟩
    · obtain ⟨v, h1, h2⟩ := R.dat i d h'
      exact ⟨v, h1, h2.mono s⟩
    · obtain ⟨v, h1, h2⟩ := R'.dat i d h'
      rw [wipe_out hi] at h1
      exact ⟨v, h1, h2⟩
  · rcases get i _ h (fun z => by cases z) with ⟨hi, h', n⟩ | ⟨hi, h'⟩
    · exact absurd rfl (n d)
    · obtain ⟨v, h1, h2⟩ := R'.own i d h'
      rw [wipe_out hi] at h1
      exact ⟨v, h1, h2⟩
  · rcases get i _ h1 (fun z => by cases z) with ⟨hi, h', n⟩ | ⟨hi, h1'⟩
    · exact absurd rfl (n d)
    · rcases get j _ h2 (fun z => by cases z) with ⟨hj, h', n⟩ | ⟨hj, h2'⟩
      · exact absurd rfl (n e)
      · exact R'.dis i j d e p hij h1' h2' (by rw [wipe_out hi]; exact h3) (by rw [wipe_out hj]; exact h4)
  · have hi : q.1 ∉ vs := by
      have := List.all_eq_true.mp hB q hq
      simpa using this
    obtain ⟨h1, h2, x, h3⟩ := R'.byr q hq
    rw [wipe_out hi] at h1
    rw [wipeC_out hi] at h3
    exact ⟨h1, h2, x, by rw [unwipe_out hi]; exact h3⟩
/-- a cell that nobody speaks of is changed, or forgotten -/
theorem Rel.other (R : Rel c B G A H σ ρ) {H' : Hp} {p : Addr} (gp : G p = none) (na : ¬ A p) (k : ∀ b, b ≠ p → H' b = H b) : Rel c B G A H' σ ρ := by
  refine ⟨fun b o e => ?_, R.len, fun b h => ?_, R.dat, fun i d h => ?_, R.dis, R.byr⟩
  · rw [k b (ne_of_none e gp)]; exact R.same b o e
  · obtain ⟨h1, o, h2⟩ := R.ownA b h
    exact ⟨h1, o, by rw [k b fun z => na (by rw [← z]; exact h)]; exact h2⟩
  · obtain ⟨q, h1, h2, h3⟩ := R.own i d h
    exact ⟨q, h1, h2, by rw [k q fun z => na (by rw [← z]; exact h2)]; exact h3⟩
abbrev W0 : WX := fun _ _ _ _ => False
/-- the heart of a comprehension -/
theorem lc_read {fi : M (List D)} {P : VP} {ts vs : List Nat} {g : TgM} {tt : M Bool} {fe : M D} {Q : VK} (ht : ts.all (fun t => vs.contains t) = true) (hB : B.all (fun q => !vs.contains q.1) = true) (h : tF c B W (mLc fi g tt fe vs) σ H Q) :
    tLc (tI c B W P fi) (tG c B P ts g) (tT c B W0 tt) (tM c B W0 fe) vs σ H Q := by
  have ht' : ∀ t ∈ ts, t ∈ vs := fun t h => by
    have := List.all_eq_true.mp ht t h
    simpa using this
  obtain ⟨G, A, ρ, R, a⟩ := h
  refine ⟨G, A, ρ, R, a.split.imp fun ds ρ1 G1 H1 _ _ R1 a1 J okJ D hD => ?_⟩
  cases hv : vs.all (fun v => !isOwn ρ1[v]?) with
  | false => 
    have a1 : After c B W G1 A H1 σ (if vs.all (fun v => !isOwn ρ1[v]?) = true then (match lcM g tt fe vs ds ρ1 with | some (es, ρ') => Out.ok (Fx.D.lst es) (Fx.unwipe ρ1 ρ' vs) | none => .stuck) else .stuck) _ := a1
    rw [if_neg (by rw [hv]; exact Bool.false_ne_true)] at a1
    exact a1.elim
  | true =>
    have a1 : After c B W G1 A H1 σ (if vs.all (fun v => !isOwn ρ1[v]?) = true then (match lcM g tt fe vs ds ρ1 with | some (es, ρ') => Out.ok (Fx.D.lst es) (Fx.unwipe ρ1 ρ' vs) | none => .stuck) else .stuck) _ := a1
    rw [if_pos hv] at a1
    cases hl : lcM g tt fe vs ds ρ1 with
    | none => rw [hl] at a1; exact a1.elim
    | some r =>
      obtain ⟨es, ρe⟩ := r
      rw [hl] at a1
      have gD : G1 D = none := R1.same.free hD
      have nD : ¬ A D := fun z => by obtain ⟨_, o, q⟩ := R1.ownA D z; rw [hD] at q; cases q
      refine ⟨fun i n H2 => n = ds.length - i ∧ i ≤ ds.length ∧ ∃ G2 ρ2 acc es1 es2, Same G1 G2 ∧ G2 D = none ∧ Keep A G1 H1 G2 H2 ∧ Rel c B G2 A H2 (L2.wipe σ vs) (wipeC ρ2 vs) ∧ H2 D = some (.lst acc) ∧ RepL c G2 acc es1 ∧ acc.length ≤ i ∧
        lcM g tt fe vs (ds.drop i) ρ2 = some (es2, ρe) ∧ es1 ++ es2 = es, ⟨_, rfl, Nat.zero_le _, G1, ρ1, [], [], es, Same.refl _, gD, fun b o e n => ⟨by rw [upd_ne (ne_of_none e hD)]; exact e, rfl⟩, (R1.other gD nD fun b hb => upd_ne hb).wipe hB, upd_same, .nil, Nat.le_refl _, hl, rfl⟩, ?_⟩
      rintro i n H2 ⟨rfl, hi, G2, ρ2, acc, es1, es2, s2, g2, k2, R2, hacc, racc, hlen, hlc, hes⟩
      by_cases hlt : i < ds.length
      · refine .inr ⟨okJ.go i H2 hlt (s2.trans R2.same), fun H' => ∃ G2 ρ2 acc es1 es2, Same G1 G2 ∧ G2 D = none ∧ Keep A G1 H1 G2 H' ∧ Rel c B G2 A H' (L2.wipe σ vs) (wipeC ρ2 vs) ∧ H' D = some (.lst acc) ∧ RepL c G2 acc es1 ∧ acc.length ≤ i + 1 ∧
          lcM g tt fe vs (ds.drop (i + 1)) ρ2 = some (es2, ρe) ∧ es1 ++ es2 = es, fun H' q => ⟨_, by omega, rfl, hlt, q⟩, fun x H3 hy => ?_⟩
        obtain ⟨G3, d, e1, x3, pr⟩ := okJ.yld i G2 H2 x H3 hlt s2 R2.same hy
        have R3 := R2.ext x3
        have hacc3 := x3.hh D _ hacc
        have g3 : G3 D = none := (x3.new D _ hacc).trans g2
        have k3 : Keep A G1 H1 G3 H3 := k2.trans x3.keep
        have ed : ds.drop i = d :: ds.drop (i + 1) := by
          rw [List.drop_eq_getElem_cons hlt]
          congr 1
          rw [List.getElem?_eq_getElem hlt] at e1
          exact Option.some.inj e1
        rw [ed] at hlc
        unfold lcM at hlc
        cases eg : g d (wipeC ρ2 vs) with
        | none => rw [eg] at hlc; cases hlc
        | some ρ3 =>
          rw [eg] at hlc
          refine ⟨G3, A, _, d, ρ3, R3, pr, eg, fun σ4 R4 o4 => ⟨wipe_only o4 ht', G3, A, ρ3, R4, ?_⟩⟩
          have ew := wipe_only o4 ht'
          cases et : tt ρ3 with
          | stuck => simp only [et] at hlc; cases hlc
          | exc x r => simp only [et] at hlc; cases hlc
          | ok b ρ4 =>
            simp only [et] at hlc
            intro G4 H4 s4 k4 R5
            have hacc4 := k4 D _ hacc3 nD
            refine ite_prop (fun eb => ?_) (fun eb => ?_)
            · rw [if_pos eb] at hlc
              refine ⟨G4, A, ρ4, R5, ?_⟩
              cases ef : fe ρ4 with
              | stuck => simp only [ef] at hlc; cases hlc
              | exc x r => simp only [ef] at hlc; cases hlc
              | ok e ρ5 =>
                simp only [ef] at hlc
                intro G5 H5 s5 k5 R6 v rv
                have hacc5 := k5 D _ hacc4.1 nD
                cases er : lcM g tt fe vs (ds.drop (i + 1)) ρ5 with
                | none => rw [er] at hlc; cases hlc
                | some r =>
                  obtain ⟨es3, ρe'⟩ := r
                  rw [er] at hlc
                  have hlc' : some (e :: es3, ρe') = some (es2, ρe) := hlc
                  cases hlc'
                  have g5 : G5 D = none := hacc5.2.trans (hacc4.2.trans g3)
                  have hsl := okJ.len
                  refine ⟨acc, hacc5.1, by omega, G5, ρ5, acc ++ [v], es1 ++ [e], es3, s2.trans (x3.gg.trans (s4.trans s5)), g5, ?_, ?_, upd_same, (racc.mono (x3.gg.trans (s4.trans s5))).append (.one rv), by rw [List.length_append]; simp; exact hlen, er, by rw [List.append_assoc]; exact hes⟩
                  · intro b o hb hn
                    have q := (k3.trans (k4.trans k5)) b o hb hn
                    exact ⟨by rw [upd_ne (ne_of_none hb hD)]; exact q.1, q.2⟩
                  · rw [← ew]
                    exact (R6.other g5 nD fun b hb => upd_ne hb).wipe hB
            · rw [if_neg (by rw [eb]; exact Bool.false_ne_true)] at hlc
              refine ⟨G4, ρ4, acc, es1, es2, s2.trans (x3.gg.trans s4), hacc4.2.trans g3, k3.trans k4, ?_, hacc4.1, racc.mono (x3.gg.trans s4), by omega, hlc, hes⟩
              rw [← ew]
              exact R5.wipe hB
      · have ei : i = ds.length := by omega
        subst ei
        rw [List.drop_length] at hlc
        cases hlc
        rw [List.append_nil] at hes
        subst hes
        have R3 : Rel c B G2 A (fun b => if b = D then none else H2 b) (L2.wipe σ vs) (wipeC ρe vs) := R2.other g2 nD fun b hb => if_neg hb
        have R4 := R1.unwipe s2 hv hB R3
        refine .inl ⟨okJ.stop H2 (s2.trans R2.same), a1 G2 _ s2 (fun b o hb hn => ?_) R4 D H2 (if_pos rfl) (fun b o hb => ?_) ⟨acc, hacc, racc⟩⟩
        · have q := k2 b o hb hn
          exact ⟨by show (if b = D then none else H2 b) = some o; rw [if_neg (ne_of_none hb hD)]; exact q.1, q.2⟩
        · have hb : (if b = D then none else H2 b) = some o := hb
          by_cases z : b = D
          · rw [if_pos z] at hb; cases hb
          · rw [if_neg z] at hb; exact hb
theorem pts_nilM : PTs X [] (tT c B W (M.pure true)) := ⟨fun pins s σ H Q I ⟨G, A, ρ, R, a⟩ => pts_nil.run pins s σ H Q I (After.ok a R)⟩
theorem pts_oneM {t : Expr} {f : M Bool} (h : PT X t (tT c B W f)) : PTs X [t] (tT c B W f) := pts_one h
theorem pf_lc {elt tg iter : Expr} {ifs : List Expr} {scope : Scope} (own : List (Str × Nat)) {pos : Pos} {fi : M (List D)} {P : VP} {ts : List Nat} {g : TgM} {tt : M Bool} {fe : M D} (hc : X.calm = true) (hN : X.N.Nodup) (hi : PI X tg iter (tI c B W P fi)) (ok : BlkOk X.N X.env.scope scope own)
    (ht : ts.all (fun t => (own.map (·.2)).contains t) = true) (hB : B.all (fun q => !(own.map (·.2)).contains q.1) = true)
    (hg : ∀ (s : Shared) (H : Hp) (C : Addr) (cl : List (Str × Addr)) (fp : List Addr), PG (X.blk s H scope (compEnvC scope cl C X.env) fp) tg (tG c B P ts g)) (htt : ∀ (s : Shared) (H : Hp) (C : Addr) (cl : List (Str × Addr)) (fp : List Addr), PTs (X.blk s H scope (compEnvC scope cl C X.env) fp) ifs (tT c B W0 tt))
    (he : ∀ (s : Shared) (H : Hp) (C : Addr) (cl : List (Str × Addr)) (fp : List Addr), PE (X.blk s H scope (compEnvC scope cl C X.env) fp) elt (tM c B W0 fe)) (hs : ∀ x, foldedSetIterable iter X.env x = pure x := by intro _; rfl) :
    PE X (.ListComp elt [⟨tg, iter, ifs, 0⟩] scope pos) (tF c B W (mLc fi g tt fe (own.map (·.2)))) :=
  pe_imp (pe_lc hc hN hi ok hg htt he hs) fun σ H Q h => lc_read ht hB h
/-- y = [..] on one line, y a local that no inner block reads -/
theorem ps_asgLc (i : Nat) {y : Str} {py : Pos} {elt tg iter : Expr} {ifs : List Expr} {scope : Scope} (own : List (Str × Nat)) {pos spos : Pos} {fi : M (List D)} {P : VP} {ts : List Nat} {g : TgM} {tt : M Bool} {fe : M D} (hc : X.calm = true) (hN : X.N.Nodup) (hy : X.N[i]? = some y) (hyl : X.env.scope.names.lookup y = some .local)
    (hsw : swapsWith (.ListComp elt [⟨tg, iter, ifs, 0⟩] scope pos) (some (.Name y py)) spos.line X.env = pure true) (hb : B.all (fun q => q.1 != i) = true) (hi : PI X tg iter (tI c B W P fi)) (ok : BlkOk X.N X.env.scope scope own)
    (ht : ts.all (fun t => (own.map (·.2)).contains t) = true) (hB : B.all (fun q => !(own.map (·.2)).contains q.1) = true)
    (hg : ∀ (s : Shared) (H : Hp) (C : Addr) (cl : List (Str × Addr)) (fp : List Addr), PG (X.blk s H scope (compEnvC scope cl C X.env) fp) tg (tG c B P ts g)) (htt : ∀ (s : Shared) (H : Hp) (C : Addr) (cl : List (Str × Addr)) (fp : List Addr), PTs (X.blk s H scope (compEnvC scope cl C X.env) fp) ifs (tT c B W0 tt))
    (he : ∀ (s : Shared) (H : Hp) (C : Addr) (cl : List (Str × Addr)) (fp : List Addr), PE (X.blk s H scope (compEnvC scope cl C X.env) fp) elt (tM c B W0 fe)) (hs : ∀ x, foldedSetIterable iter X.env x = pure x := by intro _; rfl) :
    PS X (.Assign [.Name y py] (.ListComp elt [⟨tg, iter, ifs, 0⟩] scope pos) spos) (tS c B W (mAsg (mLc fi g tt fe (own.map (·.2))) (gNm i))) :=
  ps_imp (ps_setLc hc hN hy hyl hsw hi ok hg htt he hs) fun Z σ H ⟨G, A, ρ, R, a⟩ => by
    refine lc_read (W := W) ht hB ⟨G, A, ρ, R, (a.split R).imp fun d ρ' G' H' _ _ R' q p H2 hp hh ho => ?_⟩
    obtain ⟨G2, x2, r2⟩ := ext_own R'.same hp hh ho
    exact AfterS.nx (AfterS.of R'.own_there (Stp.same x2.gg x2.keep) q) ((R'.ext x2).setDat r2 hb)
theorem ps_newLc (i : Nat) {y : Str} {py : Pos} {elt tg iter : Expr} {ifs : List Expr} {scope : Scope} (own : List (Str × Nat)) {pos spos : Pos} {fi : M (List D)} {P : VP} {ts : List Nat} {g : TgM} {tt : M Bool} {fe : M D} (hc : X.calm = true) (hN : X.N.Nodup) (hy : X.N[i]? = some y) (hyl : X.env.scope.names.lookup y = some .local)
    (hsw : swapsWith (.ListComp elt [⟨tg, iter, ifs, 0⟩] scope pos) (some (.Name y py)) spos.line X.env = pure true) (hb : B.all (fun q => q.1 != i) = true) (hi : PI X tg iter (tI c B W P fi)) (ok : BlkOk X.N X.env.scope scope own)
    (ht : ts.all (fun t => (own.map (·.2)).contains t) = true) (hB : B.all (fun q => !(own.map (·.2)).contains q.1) = true)
    (hg : ∀ (s : Shared) (H : Hp) (C : Addr) (cl : List (Str × Addr)) (fp : List Addr), PG (X.blk s H scope (compEnvC scope cl C X.env) fp) tg (tG c B P ts g)) (htt : ∀ (s : Shared) (H : Hp) (C : Addr) (cl : List (Str × Addr)) (fp : List Addr), PTs (X.blk s H scope (compEnvC scope cl C X.env) fp) ifs (tT c B W0 tt))
    (he : ∀ (s : Shared) (H : Hp) (C : Addr) (cl : List (Str × Addr)) (fp : List Addr), PE (X.blk s H scope (compEnvC scope cl C X.env) fp) elt (tM c B W0 fe)) (hs : ∀ x, foldedSetIterable iter X.env x = pure x := by intro _; rfl) :
    PS X (.Assign [.Name y py] (.ListComp elt [⟨tg, iter, ifs, 0⟩] scope pos) spos) (tS c B W (mNew (mLc fi g tt fe (own.map (·.2))) i)) :=
  ps_imp (ps_setLc hc hN hy hyl hsw hi ok hg htt he hs) fun Z σ H ⟨G, A, ρ, R, a⟩ => by
    refine lc_read (W := W) ht hB ⟨G, A, ρ, R, (a.split R).imp fun d ρ' G' H' _ _ R' q p H2 hp hh ho => ?_⟩
    have R2 := R'.newOwn hp hh ho hb
    exact q G' _ H2 _ ⟨Same.refl _, fun b o h _ => ⟨hh b o h, rfl⟩, fun b h => h.elim .inl fun z => .inr (by rw [z]; exact hp)⟩ R2
end
end Fx
set_option Elab.async false
set_option linter.all false
set_option maxRecDepth 100000
set_option maxHeartbeats 4000000
/-! Fx9: calls of defs; what a def keeps. -/
namespace Fx
open PySem L2
inductive FOut where
  | stuck | ret (d : D) (outs : List D) | exc (x : Exc) (outs : List D)
abbrev Fn := List D → FOut
/-- the arguments as they lie; bs: the places by reference -/
structure ArgsOk (c : Cf) (bs : List Nat) (G : Hp) (A : Addr → Prop) (H : Hp) (vs : List V) (ds : List D) : Prop where
  same : Same G H
  ownA : ∀ b, A b → G b = none ∧ ∃ o, H b = some o
  len : vs.length = ds.length
  dat : ∀ (i : Nat) (d : D), ds[i]? = some d → i ∉ bs → ∃ v, vs[i]? = some v ∧ Rep c G v d
  own : ∀ (i : Nat) (d : D), ds[i]? = some d → i ∈ bs → ∃ p, vs[i]? = some (.ref p) ∧ A p ∧ Own c G (H p) d
  dis : ∀ (i j : Nat) (p : Addr), i ≠ j → i ∈ bs → j ∈ bs → vs[i]? = some (.ref p) → vs[j]? = some (.ref p) → False
def Outs (c : Cf) (bs : List Nat) (G H : Hp) (vs : List V) (outs : List D) : Prop := outs.length = bs.length ∧ ∀ (k i : Nat) (d : D), bs[k]? = some i → outs[k]? = some d → ∃ p, vs[i]? = some (.ref p) ∧ Own c G (H p) d
/-- behind a call -/
structure Ret (c : Cf) (bs : List Nat) (G : Hp) (A : Addr → Prop) (H : Hp) (vs : List V) (outs : List D) (G' H' : Hp) : Prop where
  gg : Same G G'
  kp : Keep A G H G' H'
  gh : Same G' H'
  ownA : ∀ b, A b → G' b = none ∧ ∃ o, H' b = some o
  outs : Outs c bs G' H' vs outs
def AfterF (c : Cf) (bs : List Nat) (G : Hp) (A : Addr → Prop) (H : Hp) (vs : List V) (o : FOut) (Q : VK) (E : XK) : Prop := match o with
  | .stuck => False
  | .ret d outs => ∀ G' H' v, Ret c bs G A H vs outs G' H' → Rep c G' v d → Q v H'
  | .exc x outs => ∀ G' H' dd, Ret c bs G A H vs outs G' H' → ExcAt c G' x dd → E (.ref (c.exc x.c)) (some dd) H'
/-- a def keeps its meaning F -/
def spM (c : Cf) (bs : List Nat) (n : Nat) (F : Fn) : Sp := fun vs H Q E => ∃ G A ds, ds.length = n ∧ ArgsOk c bs G A H vs ds ∧ AfterF c bs G A H vs (F ds) Q E

/-! ### the call -/
def ownPos : Nat → List Opn → List Nat
  | _, [] => []
  | n, .dat _ :: os => ownPos (n + 1) os
  | n, .own _ :: os => n :: ownPos (n + 1) os
def ownSlots : List Opn → List Nat
  | [] => []
  | .dat _ :: os => ownSlots os
  | .own k :: os => k :: ownSlots os
def rdA : List Opn → List D → Cells → Option (List D)
  | [], [], _ => some []
  | .dat _ :: os, a :: as, ρ => (rdA os as ρ).map fun ds => a :: ds
  | .own k :: os, _ :: as, ρ => match ρ[k]? with
    | some (.own d) => (rdA os as ρ).map fun ds => d :: ds
    | _ => none
  | _, _, _ => none
def setOuts : List Nat → List D → Cells → Cells
  | k :: ks, o :: outs, ρ => setOuts ks outs (ρ.set k (.own o))
  | _, _, ρ => ρ
def mCallF (F : Fn) (os : List Opn) : M D := (preL os).bind fun as => fun ρ => match rdA os as ρ with
  | none => .stuck
  | some ds => match F ds with
    | .stuck => .stuck
    | .ret d outs => .ok d (setOuts (ownSlots os) outs ρ)
    | .exc x outs => .exc x (setOuts (ownSlots os) outs ρ)
inductive ArgV (c : Cf) (G : Hp) (σ : L2.St) : List Opn → List D → List V → Prop
  | nil : ArgV c G σ [] [] []
  | dat {f : M D} {os as vs a v} : Rep c G v a → ArgV c G σ os as vs → ArgV c G σ (.dat f :: os) (a :: as) (v :: vs)
  | own {k : Nat} {v : V} {os as vs a} : σ[k]? = some (some v) → ArgV c G σ os as vs → ArgV c G σ (.own k :: os) (a :: as) (v :: vs)
theorem ArgV.mono {c : Cf} {G G' : Hp} {σ : L2.St} (e : Same G G') : ∀ {os as vs}, ArgV c G σ os as vs → ArgV c G' σ os as vs
  | _, _, _, .nil => .nil
  | _, _, _, .dat r t => .dat (r.mono e) (t.mono e)
  | _, _, _, .own r t => .own r (t.mono e)
def tR (c : Cf) (B : List (Nat × Addr)) (W : WX) (os : List Opn) : TA := fun σ H Q => ∃ G A ρ, Rel c B G A H σ ρ ∧ After c B W G A H σ (preL os ρ) fun as _ G' H' => ∀ vs, ArgV c G' σ os as vs → Q vs H'
section
variable {c : Cf} {B : List (Nat × Addr)} {W : WX} {X : Cx} {G H : Hp} {A : Addr → Prop} {σ : L2.St} {ρ : Cells}
theorem pr_nil : PA X [] (tR c B W []) := pa_imp pa_nil fun σ H Q ⟨G, A, ρ, R, a⟩ => After.ok a R [] .nil
theorem pr_dat {e : Expr} {es : List Expr} {f : M D} {os : List Opn} (ha : PE X e (tM c B W f)) (hr : PA X es (tR c B W os)) (hs : starEach (e :: es) X.env = (false, eval e X.env) :: starEach es X.env := by rfl) : PA X (e :: es) (tR c B W (.dat f :: os)) :=
  pa_imp (pa_cons ha hr hs) fun σ H Q ⟨G, A, ρ, R, a⟩ => by
    refine ⟨G, A, ρ, R, (show After c B W G A H σ ((f.bind _) ρ) _ from a).split.imp fun d ρ1 G1 H1 _ _ R1 a1 v r => ?_⟩
    refine ⟨G1, A, ρ1, R1, a1.split.imp fun ds ρ2 G2 H2 s2 _ R2 a2 vs rs => ?_⟩
    exact After.ok a2 R2 (v :: vs) (.dat (r.mono s2) rs)
theorem pr_own (i : Nat) {x : Str} {pos : Pos} {es : List Expr} {os : List Opn} (hr : PA X es (tR c B W os)) (hN : X.N[i]? = some x := by rfl) (hv : Vis X.env.scope x := by first | exact Or.inl rfl | exact Or.inr (Or.inl rfl) | exact Or.inr (Or.inr rfl)) (hd : (x == ("__debug__" : Str)) = false := by decide)
    (hcd : (x == ("__classdict__" : Str)) = false := by decide) (hs : starEach (.Name x pos :: es) X.env = (false, eval (.Name x pos) X.env) :: starEach es X.env := by rfl) : PA X (.Name x pos :: es) (tR c B W (.own i :: os)) :=
  pa_imp (pa_cons (pe_var hN hv hd hcd) hr hs) fun σ H Q ⟨G, A, ρ, R, a⟩ => by
    have a' := (show After c B W G A H σ (((Opn.own i).pre.bind _) ρ) _ from a).split
    unfold Opn.pre at a'
    cases e : cellD ρ[i]? with
    | none => simp only [e] at a'; exact a'.elim
    | some d =>
      simp only [e] at a'
      obtain ⟨v, hv, o⟩ := R.cell e
      refine ⟨v, hv, G, A, ρ, R, (After.ok a' R).split.imp fun ds ρ2 G2 H2 s2 k2 R2 q vs rs => ?_⟩
      exact After.ok q R2 (v :: vs) (.own hv rs)
theorem wOwn_all (R : Rel c B G A H σ ρ) : ∀ b, A b → G b = none ∧ ∃ o, H b = some o := R.ownA
/-- the addresses that a call may change -/
def callA (σ : L2.St) (ks : List Nat) : Addr → Prop := fun b => ∃ k ∈ ks, σ[k]? = some (some (.ref b))
theorem mem_ownPos : ∀ {os : List Opn} {n i : Nat}, i ∈ ownPos n os → n ≤ i
  | .dat _ :: os, n, i, h => by have := mem_ownPos (os := os) (n := n + 1) h; omega
  | .own _ :: os, n, i, h => by
    rcases List.mem_cons.mp h with e | e
    · omega
    · have := mem_ownPos (os := os) (n := n + 1) e; omega
/-- the arguments as the callee finds them -/
theorem argV_at (R : Rel c B G A H σ ρ) : ∀ {os : List Opn} {as ds : List D} {vs : List V} (n : Nat), ArgV c G σ os as vs → rdA os as ρ = some ds →
    vs.length = ds.length ∧ vs.length = os.length ∧ (∀ (i : Nat) (d : D), ds[i]? = some d → n + i ∉ ownPos n os → ∃ v, vs[i]? = some v ∧ Rep c G v d) ∧
      (∀ (i : Nat) (d : D), ds[i]? = some d → n + i ∈ ownPos n os → ∃ k p, k ∈ ownSlots os ∧ σ[k]? = some (some (.ref p)) ∧ ρ[k]? = some (.own d) ∧ vs[i]? = some (.ref p) ∧ A p ∧ Own c G (H p) d)
  | _, _, _, _, n, .nil, h => by cases h; exact ⟨rfl, rfl, fun i d e => by simp at e, fun i d e => by simp at e⟩
  | _, _, ds, _, n, @ArgV.dat _ _ _ f os as vs a v r t, h => by
    unfold rdA at h
    cases e : rdA os as ρ with
    | none => rw [e] at h; cases h
    | some ds' =>
      rw [e] at h
      cases h
      obtain ⟨h1, h2, h3, h4⟩ := argV_at R (n + 1) t e
      refine ⟨by simp [h1], by simp [h2], fun i d hd hn => ?_, fun i d hd hn => ?_⟩
      · cases i with
        | zero => simp at hd; subst hd; exact ⟨v, rfl, r⟩
        | succ i =>
          obtain ⟨w, k1, k2⟩ := h3 i d (by simpa using hd) (fun z => hn (by show n + (i + 1) ∈ ownPos (n + 1) os; rw [show n + (i + 1) = n + 1 + i by omega]; exact z))
          exact ⟨w, by simpa using k1, k2⟩
      · cases i with
        | zero => have := mem_ownPos (os := os) (n := n + 1) (i := n + 0) hn; omega
        | succ i =>
          obtain ⟨k, p, q1, q2, q3, q4, q5⟩ := h4 i d (by simpa using hd) (by have hn' : n + (i + 1) ∈ ownPos (n + 1) os := hn; rw [show n + (i + 1) = n + 1 + i by omega] at hn'; exact hn')
          exact ⟨k, p, q1, q2, q3, by simpa using q4, q5⟩
  | _, _, ds, _, n, @ArgV.own _ _ _ k v os as vs a r t, h => by
    unfold rdA at h
    cases ek : ρ[k]? with
    | none => simp only [ek] at h; cases h
    | some cl =>
      simp only [ek] at h
      cases cl with
      | no => cases h
      | dat d => cases h
      | own d0 =>
        obtain ⟨p, es, hA, hO⟩ := R.own k d0 ek
        rw [r] at es; cases es
        cases e : rdA os as ρ with
        | none => simp only [e] at h; cases h
        | some ds' =>
          simp only [e] at h
          cases h
          obtain ⟨h1, h2, h3, h4⟩ := argV_at R (n + 1) t e
          refine ⟨by simp [h1], by simp [h2], fun i d hd hn => ?_, fun i d hd hn => ?_⟩
          · cases i with
            | zero => exact absurd (List.mem_cons_self : n ∈ n :: ownPos (n + 1) os) hn
            | succ i =>
              obtain ⟨w, k1, k2⟩ := h3 i d (by simpa using hd) (fun z => hn (List.mem_cons_of_mem _ (by rw [show n + (i + 1) = n + 1 + i by omega]; exact z)))
              exact ⟨w, by simpa using k1, k2⟩
          · cases i with
            | zero => simp at hd; subst hd; exact ⟨k, p, List.mem_cons_self, r, ek, rfl, hA, hO⟩
            | succ i =>
              have hn' : n + (i + 1) ∈ n :: ownPos (n + 1) os := hn
              rcases List.mem_cons.mp hn' with e | e
              · omega
              · rw [show n + (i + 1) = n + 1 + i by omega] at e
                obtain ⟨k, p, q1, q2, q3, q4, q5⟩ := h4 i d (by simpa using hd) e
                exact ⟨k, p, List.mem_cons_of_mem _ q1, q2, q3, by simpa using q4, q5⟩
/-- the outs go to the slots -/
theorem argV_slots : ∀ {os : List Opn} {as : List D} {vs : List V} (n : Nat), ArgV c G σ os as vs → ∀ (j i : Nat), (ownPos n os)[j]? = some i → ∃ k v, (ownSlots os)[j]? = some k ∧ n ≤ i ∧ vs[i - n]? = some v ∧ σ[k]? = some (some v)
  | _, _, _, n, .nil, j, i, h => by simp [ownPos] at h
  | _, _, _, n, @ArgV.dat _ _ _ f os as vs a v r t, j, i, h => by
    obtain ⟨k, w, h1, h2, h3, h4⟩ := argV_slots (n + 1) t j i h
    refine ⟨k, w, h1, by omega, ?_, h4⟩
    rw [show i - n = (i - (n + 1)) + 1 by omega]
    simpa using h3
  | _, _, _, n, @ArgV.own _ _ _ k v os as vs a r t, 0, i, h => by
    have h' : some n = some i := h
    cases h'
    exact ⟨k, v, rfl, Nat.le_refl _, by simp, r⟩
  | _, _, _, n, @ArgV.own _ _ _ k v os as vs a r t, j + 1, i, h => by
    obtain ⟨k', w, h1, h2, h3, h4⟩ := argV_slots (n + 1) t j i (by simpa [ownPos] using h)
    refine ⟨k', w, by simpa [ownSlots] using h1, by omega, ?_, h4⟩
    rw [show i - n = (i - (n + 1)) + 1 by omega]
    simpa using h3
theorem setOuts_len : ∀ (ks : List Nat) (outs : List D) (ρ : Cells), (setOuts ks outs ρ).length = ρ.length
  | [], _, _ => rfl
  | _ :: _, [], _ => rfl
  | k :: ks, o :: outs, ρ => by unfold setOuts; rw [setOuts_len, List.length_set]
theorem setOuts_out : ∀ {ks : List Nat} {outs : List D} {ρ : Cells} {i : Nat}, i ∉ ks → (setOuts ks outs ρ)[i]? = ρ[i]?
  | [], _, _, _, _ => rfl
  | _ :: _, [], _, _, _ => rfl
  | k :: ks, o :: outs, ρ, i, h => by
    simp only [List.mem_cons, not_or] at h
    unfold setOuts
    rw [setOuts_out h.2, List.getElem?_set_ne (Ne.symm h.1)]
theorem setOuts_in : ∀ {ks : List Nat} {outs : List D} {ρ : Cells} {i : Nat}, ks.Nodup → ks.length = outs.length → i ∈ ks → i < ρ.length → ∃ (j : Nat) (d : D), ks[j]? = some i ∧ outs[j]? = some d ∧ (setOuts ks outs ρ)[i]? = some (.own d)
  | k :: ks, o :: outs, ρ, i, nd, hl, h, hi => by
    obtain ⟨n1, n2⟩ := List.nodup_cons.mp nd
    unfold setOuts
    rcases List.mem_cons.mp h with e | e
    · subst e
      exact ⟨0, o, rfl, rfl, by rw [setOuts_out n1, List.getElem?_set_self hi]⟩
    · obtain ⟨j, d, h1, h2, h3⟩ := setOuts_in (ρ := ρ.set k (.own o)) n2 (by simpa using hl) e (by rw [List.length_set]; exact hi)
      exact ⟨j + 1, d, by simpa using h1, by simpa using h2, h3⟩
/-- behind a call the cells are as the outs say -/
theorem Rel.ret (R : Rel c B G A H σ ρ) {os : List Opn} {as : List D} {ds outs : List D} {vs : List V} {G' H' : Hp} (nd : (ownSlots os).Nodup) (hv : ArgV c G σ os as vs) (hd : rdA os as ρ = some ds) (hr : Ret c (ownPos 0 os) G (callA σ (ownSlots os)) H vs outs G' H') :
    Same G G' ∧ Keep A G H G' H' ∧ Rel c B G' A H' σ (setOuts (ownSlots os) outs ρ) := by
  have sub : ∀ b, callA σ (ownSlots os) b → ∃ k d, k ∈ ownSlots os ∧ σ[k]? = some (some (.ref b)) ∧ ρ[k]? = some (.own d) ∧ A b := by
    intro b ⟨k, hk, hs⟩
    have : ∀ {os : List Opn} {as : List D} {vs : List V} {ds : List D}, ArgV c G σ os as vs → rdA os as ρ = some ds → k ∈ ownSlots os → ∃ d, ρ[k]? = some (.own d) := by
      intro os as vs ds hv
      induction hv generalizing ds with
      | nil => intro _ h; cases h
      | @dat f os as vs a v r t ih =>
        intro h hk
        unfold rdA at h
        cases e : rdA os as ρ with
        | none => rw [e] at h; cases h
        | some ds' => exact ih e hk
      | @own k' v os as vs a r t ih =>
        intro h hk
        unfold rdA at h
        cases ek : ρ[k']? with
        | none => simp only [ek] at h; cases h
        | some cl =>
          simp only [ek] at h
          cases cl with
          | no => cases h
          | dat d => cases h
          | own d0 =>
            cases e : rdA os as ρ with
            | none => simp only [e] at h; cases h
            | some ds' =>
              rcases List.mem_cons.mp hk with z | z
              · subst z; exact ⟨d0, ek⟩
              · exact ih e z
    obtain ⟨d, e⟩ := this hv hd hk
    obtain ⟨p, es, hA, _⟩ := R.own k d e
    rw [hs] at es; cases es
    exact ⟨k, d, hk, hs, e, hA⟩
  have kp : Keep A G H G' H' := fun b o h n => hr.kp b o h fun z => by obtain ⟨_, _, _, _, _, q⟩ := sub b z; exact n q
  refine ⟨hr.gg, kp, hr.gh, by rw [setOuts_len]; exact R.len, fun b hb => ?_, fun i d h => ?_, fun i d h => ?_, fun i j d e p hij h1 h2 h3 h4 => ?_, fun q hq => ?_⟩
  · by_cases z : callA σ (ownSlots os) b
    · exact hr.ownA b z
    · obtain ⟨h1, o, h2⟩ := R.ownA b hb
      obtain ⟨k1, k2⟩ := hr.kp b o h2 z
      exact ⟨k2.trans h1, o, k1⟩
  · have ni : i ∉ ownSlots os := fun z => by
      have hl : (ownSlots os).length = outs.length := by
        have h1 := hr.outs.1
        have h2 : ∀ (n : Nat) (os : List Opn), (ownPos n os).length = (ownSlots os).length := by
          intro n os
          induction os generalizing n with
          | nil => rfl
          | cons o os ih => cases o with
            | dat f => exact ih (n + 1)
            | own k => show _ + 1 = _ + 1; rw [ih (n + 1)]
        rw [← h2 0 os, h1]
      have hi : i < ρ.length := by
        have := (List.getElem?_eq_some_iff.mp h).1
        rwa [setOuts_len] at this
      obtain ⟨j, d', _, _, h3⟩ := setOuts_in nd hl z hi
      rw [h3] at h; cases h
    rw [setOuts_out ni] at h
    obtain ⟨v, h1, h2⟩ := R.dat i d h
    exact ⟨v, h1, h2.mono hr.gg⟩
  · have hlen : ∀ (n : Nat) (os : List Opn), (ownPos n os).length = (ownSlots os).length := by
      intro n os
      induction os generalizing n with
      | nil => rfl
      | cons o os ih => cases o with
        | dat f => exact ih (n + 1)
        | own k => show _ + 1 = _ + 1; rw [ih (n + 1)]
    have hl : (ownSlots os).length = outs.length := by rw [← hlen 0 os, hr.outs.1]
    by_cases z : i ∈ ownSlots os
    · have hi : i < ρ.length := by
        have := (List.getElem?_eq_some_iff.mp h).1
        rwa [setOuts_len] at this
      obtain ⟨j, d', h1, h2, h3⟩ := setOuts_in nd hl z hi
      rw [h3] at h; cases h
      have hj : j < (ownPos 0 os).length := by rw [hlen]; exact (List.getElem?_eq_some_iff.mp h1).1
      obtain ⟨k, v, k1, k2, k3, k4⟩ := argV_slots 0 hv j _ (List.getElem?_eq_getElem hj)
      rw [h1] at k1; cases k1
      obtain ⟨p, p1, p2⟩ := hr.outs.2 j _ d (List.getElem?_eq_getElem hj) h2
      rw [Nat.sub_zero] at k3
      rw [p1] at k3; cases k3
      obtain ⟨_, _, _, _, _, hA⟩ := sub p ⟨i, z, k4⟩
      exact ⟨p, k4, hA, p2⟩
    · rw [setOuts_out z] at h
      obtain ⟨p, h1, h2, h3⟩ := R.own i d h
      have np : ¬ callA σ (ownSlots os) p := fun w => by
        obtain ⟨k, e, q1, q2, q3, _⟩ := sub p w
        exact R.dis i k d e p (fun y => z (by rw [y]; exact q1)) h q3 h1 q2
      obtain ⟨u, hu⟩ := h3.some
      obtain ⟨k1, k2⟩ := hr.kp p u hu np
      exact ⟨p, h1, h2, by rw [k1, ← hu]; exact h3.mono hr.gg⟩
  · have old : ∀ (i : Nat) (d : D), (setOuts (ownSlots os) outs ρ)[i]? = some (.own d) → ∃ d', ρ[i]? = some (.own d') := fun i d h => by
      by_cases z : i ∈ ownSlots os
      · have hi : i < ρ.length := by
          have := (List.getElem?_eq_some_iff.mp h).1
          rwa [setOuts_len] at this
        have : ∀ {os : List Opn} {as : List D} {vs : List V} {ds : List D}, ArgV c G σ os as vs → rdA os as ρ = some ds → i ∈ ownSlots os → ∃ d, ρ[i]? = some (.own d) := by
          intro os as vs ds hv
          induction hv generalizing ds with
          | nil => intro _ h; cases h
          | @dat f os as vs a v r t ih =>
            intro h hk
            unfold rdA at h
            cases e : rdA os as ρ with
            | none => rw [e] at h; cases h
            | some ds' => exact ih e hk
          | @own k' v os as vs a r t ih =>
            intro h hk
            unfold rdA at h
            cases ek : ρ[k']? with
            | none => simp only [ek] at h; cases h
            | some cl =>
              simp only [ek] at h
              cases cl with
              | no => cases h
              | dat d => cases h
              | own d0 =>
                cases e : rdA os as ρ with
                | none => simp only [e] at h; cases h
                | some ds' =>
                  rcases List.mem_cons.mp hk with z | z
                  · subst z; exact ⟨d0, ek⟩
                  · exact ih e z
        exact this hv hd z
      · rw [setOuts_out z] at h; exact ⟨d, h⟩
    obtain ⟨d', h1'⟩ := old i d h1
    obtain ⟨e', h2'⟩ := old j e h2
    exact R.dis i j d' e' p hij h1' h2' h3 h4
  · obtain ⟨h1, h2, x, h3⟩ := R.byr q hq
    refine ⟨h1, h2, ?_⟩
    by_cases z : q.1 ∈ ownSlots os
    · have hi : q.1 < ρ.length := (List.getElem?_eq_some_iff.mp h3).1
      have hlen : ∀ (n : Nat) (os : List Opn), (ownPos n os).length = (ownSlots os).length := by
        intro n os
        induction os generalizing n with
        | nil => rfl
        | cons o os ih => cases o with
          | dat f => exact ih (n + 1)
          | own k => show _ + 1 = _ + 1; rw [ih (n + 1)]
      obtain ⟨j, d', _, _, h5⟩ := setOuts_in (ρ := ρ) nd (by rw [← hlen 0 os, hr.outs.1]) z hi
      exact ⟨d', h5⟩
    · exact ⟨x, by rw [setOuts_out z]; exact h3⟩
/-- what a call asks -/
theorem args_ok (R : Rel c B G A H σ ρ) {os : List Opn} {as : List D} {ds : List D} {vs : List V} (nd : (ownSlots os).Nodup) (hv : ArgV c G σ os as vs) (hd : rdA os as ρ = some ds) : ArgsOk c (ownPos 0 os) G (callA σ (ownSlots os)) H vs ds := by
  obtain ⟨h1, h2, h3, h4⟩ := argV_at R 0 hv hd
  have aa : ∀ b, callA σ (ownSlots os) b → A b := by
    intro b ⟨k, hk, hs⟩
    have : ∀ {os : List Opn} {as : List D} {vs : List V} {ds : List D}, ArgV c G σ os as vs → rdA os as ρ = some ds → k ∈ ownSlots os → ∃ d, ρ[k]? = some (.own d) := by
      intro os as vs ds hv
      induction hv generalizing ds with
      | nil => intro _ h; cases h
      | @dat f os as vs a v r t ih =>
        intro h hk
        unfold rdA at h
        cases e : rdA os as ρ with
        | none => rw [e] at h; cases h
        | some ds' => exact ih e hk
      | @own k' v os as vs a r t ih =>
        intro h hk
        unfold rdA at h
        cases ek : ρ[k']? with
        | none => simp only [ek] at h; cases h
        | some cl =>
          simp only [ek] at h
          cases cl with
          | no => cases h
          | dat d => cases h
          | own d0 =>
            cases e : rdA os as ρ with
            | none => simp only [e] at h; cases h
            | some ds' =>
              rcases List.mem_cons.mp hk with z | z
              · subst z; exact ⟨d0, ek⟩
              · exact ih e z
    obtain ⟨d, e⟩ := this hv hd hk
    obtain ⟨p, es, hA, _⟩ := R.own k d e
    rw [hs] at es; cases es
    exact hA
  refine ⟨R.same, fun b hb => R.ownA b (aa b hb), h1, fun i d hi hn => h3 i d hi (by rw [Nat.zero_add]; exact hn), fun i d hi hn => ?_, fun i j p hij hi hj e1 e2 => ?_⟩
  · obtain ⟨k, p, q1, q2, q3, q4, q5, q6⟩ := h4 i d hi (by rw [Nat.zero_add]; exact hn)
    exact ⟨p, q4, ⟨k, q1, q2⟩, q6⟩
  · obtain ⟨a, ha⟩ := List.mem_iff_getElem?.mp hi
    obtain ⟨b, hb⟩ := List.mem_iff_getElem?.mp hj
    obtain ⟨k, v, k1, _, k3, k4⟩ := argV_slots 0 hv a i ha
    obtain ⟨l, w, l1, _, l3, l4⟩ := argV_slots 0 hv b j hb
    rw [Nat.sub_zero, e1] at k3; cases k3
    rw [Nat.sub_zero, e2] at l3; cases l3
    have li : i < ds.length := by rw [← h1]; exact (List.getElem?_eq_some_iff.mp e1).1
    have lj : j < ds.length := by rw [← h1]; exact (List.getElem?_eq_some_iff.mp e2).1
    obtain ⟨k', p', _, k6, k7, k8, _⟩ := h4 i _ (List.getElem?_eq_getElem li) (by rw [Nat.zero_add]; exact hi)
    obtain ⟨l', p'', _, l6, l7, l8, _⟩ := h4 j _ (List.getElem?_eq_getElem lj) (by rw [Nat.zero_add]; exact hj)
    rw [e1] at k8; cases k8
    rw [e2] at l8; cases l8
    have kl : k ≠ l := fun z => by
      subst z
      have := nd_ix nd k1 l1
      subst this
      rw [ha] at hb; cases hb; exact hij rfl
    -- both slots own the same address
    have own_at : ∀ (k : Nat), k ∈ ownSlots os → ∃ d, ρ[k]? = some (.own d) := by
      intro k hk
      have : ∀ {os : List Opn} {as : List D} {vs : List V} {ds : List D}, ArgV c G σ os as vs → rdA os as ρ = some ds → k ∈ ownSlots os → ∃ d, ρ[k]? = some (.own d) := by
        intro os as vs ds hv
        induction hv generalizing ds with
        | nil => intro _ h; cases h
        | @dat f os as vs a v r t ih =>
          intro h hk
          unfold rdA at h
          cases e : rdA os as ρ with
          | none => rw [e] at h; cases h
          | some ds' => exact ih e hk
        | @own k' v os as vs a r t ih =>
          intro h hk
          unfold rdA at h
          cases ek : ρ[k']? with
          | none => simp only [ek] at h; cases h
          | some cl =>
            simp only [ek] at h
            cases cl with
            | no => cases h
            | dat d => cases h
            | own d0 =>
              cases e : rdA os as ρ with
              | none => simp only [e] at h; cases h
              | some ds' =>
                rcases List.mem_cons.mp hk with z | z
                · subst z; exact ⟨d0, ek⟩
                · exact ih e z
      exact this hv hd hk
    obtain ⟨d1, f1⟩ := own_at k (List.mem_of_getElem? k1)
    obtain ⟨d2, f2⟩ := own_at l (List.mem_of_getElem? l1)
    exact R.dis k l d1 d2 p kl f1 f2 k4 l4
end
end Fx
set_option Elab.async false
set_option linter.all false
set_option maxRecDepth 100000
set_option maxHeartbeats 4000000
/-! Fx10: the rule for a call, the rule for a def. -/
namespace Fx
open PySem L2
section
variable {c : Cf} {B : List (Nat × Addr)} {W : WX} {X : Cx} {G H : Hp} {A : Addr → Prop} {σ : L2.St} {ρ : Cells}
/-- further data behind the arguments -/
theorem ArgsOk.app {bs : List Nat} {vs ws : List V} {ds es : List D} (h : ArgsOk c bs G A H vs ds) (r : RepL c G ws es) (hb : ∀ i ∈ bs, i < ds.length) : ArgsOk c bs G A H (vs ++ ws) (ds ++ es) := by
  refine ⟨h.same, h.ownA, by rw [List.length_append, List.length_append, h.len, r.length], fun i d e n => ?_, fun i d e n => ?_, fun i j p hij hi hj e1 e2 => ?_⟩
  · by_cases hi : i < ds.length
    · rw [List.getElem?_append_left hi] at e
      obtain ⟨v, h1, h2⟩ := h.dat i d e n
      exact ⟨v, by rw [List.getElem?_append_left (by rw [h.len]; exact hi)]; exact h1, h2⟩
    · rw [List.getElem?_append_right (by omega)] at e
      obtain ⟨v, h1, h2⟩ := r.get e
      exact ⟨v, by rw [List.getElem?_append_right (by rw [h.len]; omega), h.len]; exact h1, h2⟩
  · have hi := hb i n
    rw [List.getElem?_append_left hi] at e
    obtain ⟨p, h1, h2⟩ := h.own i d e n
    exact ⟨p, by rw [List.getElem?_append_left (by rw [h.len]; exact hi)]; exact h1, h2⟩
  · rw [List.getElem?_append_left (by rw [h.len]; exact hb i hi)] at e1
    rw [List.getElem?_append_left (by rw [h.len]; exact hb j hj)] at e2
    exact h.dis i j p hij hi hj e1 e2
theorem Ret.app {bs : List Nat} {vs ws : List V} {outs : List D} {G' H' : Hp} (hb : ∀ i ∈ bs, i < vs.length) (h : Ret c bs G A H (vs ++ ws) outs G' H') : Ret c bs G A H vs outs G' H' :=
  ⟨h.gg, h.kp, h.gh, h.ownA, h.outs.1, fun k i d e1 e2 => by
    obtain ⟨p, h1, h2⟩ := h.outs.2 k i d e1 e2
    rw [List.getElem?_append_left (hb i (List.mem_of_getElem? e1))] at h1
    exact ⟨p, h1, h2⟩⟩
theorem ownPos_lt {os : List Opn} : ∀ {n i : Nat}, i ∈ ownPos n os → i < n + os.length := by
  induction os with
  | nil => intro n i h; cases h
  | cons o os ih =>
    intro n i h
    cases o with
    | dat f => have := ih (n := n + 1) h; rw [List.length_cons]; omega
    | own k =>
      rcases List.mem_cons.mp h with e | e
      · rw [List.length_cons]; omega
      · have := ih (n := n + 1) e; rw [List.length_cons]; omega
theorem rdA_len : ∀ {os : List Opn} {as ds : List D} {ρ : Cells}, rdA os as ρ = some ds → ds.length = os.length
  | [], [], _, _, h => by cases h; rfl
  | [], _ :: _, _, _, h => by cases h
  | .dat _ :: _, [], _, _, h => by cases h
  | .own _ :: _, [], _, _, h => by cases h
  | .dat _ :: os, a :: as, ds, ρ, h => by
    unfold rdA at h
    cases e : rdA os as ρ with
    | none => rw [e] at h; cases h
    | some ds' => rw [e] at h; cases h; rw [List.length_cons, List.length_cons, rdA_len e]
  | .own k :: os, _ :: as, ds, ρ, h => by
    unfold rdA at h
    cases ek : ρ[k]? with
    | none => simp only [ek] at h; cases h
    | some cl =>
      simp only [ek] at h
      cases cl with
      | no => cases h
      | dat d => cases h
      | own d0 =>
        cases e : rdA os as ρ with
        | none => simp only [e] at h; cases h
        | some ds' => simp only [e] at h; cases h; rw [List.length_cons, List.length_cons, rdA_len e]
/-- f(e, ..), the defaults behind -/
theorem pm_callF {F : Fn} {os : List Opn} {k n : Nat} {f : Addr} {fd : FuncData} {ps : List Str} {dvs : List V} {vds : List Value} {dds : List D} {x : Str} {p pos : Pos} {e : Expr} {es : List Expr}
    (Fo : FnOk X.prog X.w X.K X.mg X.base (L2.CX X.prog X.w) k f fd ps (spM c (ownPos 0 os) n F)) (hr : Room k X.A) (tk : Takes X W) (hm : X.mg x = some (.ref f)) (hk : PySem.W.keepIn X.K (.ref f) = true) (hb : Binds X.K fd ps vds) (hd : Vals dvs vds) (hdd : ∀ G, RepL c G dvs dds)
    (ha : PA X (e :: es) (tR c B W os)) (nd : (ownSlots os).Nodup := by decide) (hn : os.length + dds.length = n := by rfl) (hg : Gl X x := by rfl) (hdb : (x == ("__debug__" : Str)) = false := by decide)
    (he : starEach (e :: es) X.env = (false, eval e X.env) :: starEach es X.env := by rfl) (hpl : (backTo pos (starEach es X.env)).any (·.1) = false := by rfl) :
    PE X (.Call (.Name x p) (e :: es) [] pos) (tM c B W (mCallF (fun ds => F (ds ++ dds)) os)) :=
  pe_imp (pe_callSD Fo hr hg hm hk hb hd (fun σ => passAt tk σ) ha hdb he hpl) fun σ H Q ⟨G, A, ρ, R, a⟩ => by
    refine ⟨G, A, ρ, R, a.split.imp fun as ρ1 G1 H1 _ _ R1 q vs hv => ?_⟩
    have q : After c B W G1 A H1 σ (match rdA os as ρ1 with
      | none => .stuck
      | some ds => match F (ds ++ dds) with
        | .stuck => .stuck
        | .ret d outs => .ok d (setOuts (ownSlots os) outs ρ1)
        | .exc x outs => .exc x (setOuts (ownSlots os) outs ρ1)) (fun d x G' H' => ∀ v, Rep c G' v d → Q v H') := q
    cases ed : rdA os as ρ1 with
    | none => rw [ed] at q; exact q.elim
    | some ds =>
      rw [ed] at q
      have ok := args_ok R1 nd hv ed
      have hlen := rdA_len ed
      have hlt : ∀ i ∈ ownPos 0 os, i < ds.length := fun i hi => by have := ownPos_lt hi; rw [hlen]; omega
      have hlv : ∀ i ∈ ownPos 0 os, i < vs.length := fun i hi => by rw [ok.len]; exact hlt i hi
      refine ⟨G1, _, ds ++ dds, by rw [List.length_append, hlen]; exact hn, ok.app (hdd G1) hlt, ?_⟩
      cases ef : F (ds ++ dds) with
      | stuck => simp only [ef] at q; exact q.elim
      | ret d outs =>
        simp only [ef] at q
        intro G' H' v r rv
        obtain ⟨s1, k1, R2⟩ := R1.ret nd hv ed (r.app hlv)
        exact q G' H' s1 k1 R2 v rv
      | exc y outs =>
        simp only [ef] at q
        intro G' H' dd r rx
        obtain ⟨s1, k1, R2⟩ := R1.ret nd hv ed (r.app hlv)
        exact q G' H' dd s1 k1 R2 rx
/-- keywords -/
theorem pkd_nil : PK X [] (tD c B W []) := ⟨fun pos pins s σ H Q I ⟨G, A, ρ, R, a⟩ => pk_nil.run pos pins s σ H Q I (After.ok a R [] .nil)⟩
theorem pkd_cons {nm : Option Str} {e : Expr} {kpos : Pos} {kws : List Keyword} {f : M D} {fs : List (M D)} (ha : PE X e (tM c B W f)) (hr : PK X kws (tD c B W fs)) : PK X (⟨nm, e, kpos⟩ :: kws) (tD c B W (f :: fs)) :=
  ⟨fun pos pins s σ H Q I ⟨G, A, ρ, R, a⟩ => (pk_cons ha hr).run pos pins s σ H Q I (by
    refine ⟨G, A, ρ, R, a.split.imp fun d ρ1 G1 H1 _ _ R1 a1 v r => ?_⟩
    refine ⟨G1, A, ρ1, R1, a1.split.imp fun ds ρ2 G2 H2 s2 _ R2 a2 vs rs => ?_⟩
    exact After.ok a2 R2 (v :: vs) (.cons (r.mono s2) rs))⟩
def tCallNS (n m : Nat) (sp : Sp) (gV : List V → List V → List V) (E : L2.St → XK) (t tk : TA) : TE := fun σ H Q => t σ H fun vs H1 => tk σ H1 fun zs H2 => vs.length = n ∧ zs.length = m ∧ sp (gV vs zs) H2 Q (E σ)
theorem pe_callNS {CX : CXT} {k n : Nat} {f : Addr} {fd : FuncData} {ps ks : List Str} {sp : Sp} {E : L2.St → XK} {x : Str} {p pos : Pos} {e : Expr} {es : List Expr} {kws : List Keyword} {t tk : TA} {g : List Value → List Value → List Value} {gV : List V → List V → List V}
    (F : FnOk X.prog X.w X.K X.mg X.base CX k f fd ps sp) (hr : Room k X.A) (hg : Gl X x) (hm : X.mg x = some (.ref f)) (hk : PySem.W.keepIn X.K (.ref f) = true) (hb : KBn X.K fd ps n ks g gV) (hx : ∀ σ, PassesAt CX X σ (E σ))
    (ha : PA X (e :: es) t) (hkw : PK X kws tk) (hall : (backToKw pos (keywordEach kws X.env)).all (·.1.isSome) = true := by rfl) (hks : (backToKw pos (keywordEach kws X.env)).filterMap (·.1) = ks := by rfl)
    (hdb : (x == ("__debug__" : Str)) = false := by decide) (he : starEach (e :: es) X.env = (false, eval e X.env) :: starEach es X.env := by rfl)
    (hpl : ((backTo pos (starEach (e :: es) X.env)).any (·.1) || (backToKw pos (keywordEach kws X.env)).any (·.1.isNone)) = false := by rfl) :
    PE X (.Call (.Name x p) (e :: es) kws pos) (tCallNS n ks.length sp gV E t tk) := by
  refine ⟨fun pins s σ H Q I h => ?_⟩
  refine wpAny_Call_Name_kw (ld_glob I hg hm ?_ hdb)
  refine PySem.W.callWith_KW (h₀ := X.base) I.ok.mod.kin hk hall (thn (ha.run pos pins s σ H _ I h) fun us s1 ⟨vs, H1, I1, r, q⟩ => ?_) hpl he
  refine thn (hkw.run pos pins s1 σ H1 _ I1 q) fun ws s2 ⟨zs, H2, I2, rz, l1, l2, q2⟩ => ⟨I2.kIn, ?_⟩
  rw [hks]
  have r2 := hb.rel r rz
  refine wpAny_call (codeAny_mono (F.run X.A X.stack s2 H2 ⟨us, ks.zip ws⟩ (g us ws) (gV vs zs) Q (E σ) hr I2.env0 (hb.to s2 us ws I2.kIn (r.length.symm.trans l1) (rz.length.symm.trans l2)) r2 q2) fun r s' hq => ?_)
  cases r with
  | error e => exact hx σ pins H2 s2 e s' I2 hq
  | ok fl =>
    cases fl with
    | ret u => exact I2.after hq
    | next => exact False.elim hq
    | brk => exact False.elim hq
    | cont => exact False.elim hq
def appF (F : Fn) (ds : List D) : M D := fun ρ => match F ds with
  | .stuck => .stuck
  | .ret d _ => .ok d ρ
  | .exc x _ => .exc x ρ
def mCallK (F : Fn) (g : List D → List D → List D) (fs ks : List (M D)) : M D := (seqM fs).bind fun ds => (seqM ks).bind fun es => appF F (g ds es)
theorem argsOk_rep (s : Same G H) {vs : List V} {ds : List D} (r : RepL c G vs ds) : ArgsOk c [] G (fun _ => False) H vs ds :=
  ⟨s, fun _ h => h.elim, r.length, fun i d e _ => r.get e, fun i d e n => by simp at n, fun i j p _ hi => by simp at hi⟩
theorem Ret.rel (R : Rel c B G A H σ ρ) {vs : List V} {outs : List D} {G' H' : Hp} (r : Ret c [] G (fun _ => False) H vs outs G' H') : Same G G' ∧ Keep A G H G' H' ∧ Rel c B G' A H' σ ρ := by
  have hh : ∀ b o, H b = some o → H' b = some o ∧ G' b = G b := fun b o e => r.kp b o e (fun z => z)
  exact ⟨r.gg, fun b o e _ => hh b o e, R.ext ⟨r.gg, fun b o e => (hh b o e).1, r.gh, fun b o e => (hh b o e).2⟩⟩
theorem pm_callK {F : Fn} {fs gs : List (M D)} {k n m : Nat} {f : Addr} {fd : FuncData} {ps ks : List Str} {x : Str} {p pos : Pos} {e : Expr} {es : List Expr} {kws : List Keyword} {g : List Value → List Value → List Value} {gV : List V → List V → List V} {gD : List D → List D → List D}
    (Fo : FnOk X.prog X.w X.K X.mg X.base (L2.CX X.prog X.w) k f fd ps (spM c [] m F)) (hr : Room k X.A) (tk : Takes X W) (hm : X.mg x = some (.ref f)) (hk : PySem.W.keepIn X.K (.ref f) = true) (hb : KBn X.K fd ps n ks g gV)
    (hgD : ∀ G vs zs ds es, vs.length = n → zs.length = ks.length → RepL c G vs ds → RepL c G zs es → RepL c G (gV vs zs) (gD ds es) ∧ (gD ds es).length = m)
    (ha : PA X (e :: es) (tD c B W fs)) (hkw : PK X kws (tD c B W gs)) (hn : fs.length = n := by rfl) (hn2 : gs.length = ks.length := by rfl) (hg : Gl X x := by rfl) (hall : (backToKw pos (keywordEach kws X.env)).all (·.1.isSome) = true := by rfl) (hks : (backToKw pos (keywordEach kws X.env)).filterMap (·.1) = ks := by rfl)
    (hdb : (x == ("__debug__" : Str)) = false := by decide) (he : starEach (e :: es) X.env = (false, eval e X.env) :: starEach es X.env := by rfl)
    (hpl : ((backTo pos (starEach (e :: es) X.env)).any (·.1) || (backToKw pos (keywordEach kws X.env)).any (·.1.isNone)) = false := by rfl) :
    PE X (.Call (.Name x p) (e :: es) kws pos) (tM c B W (mCallK F gD fs gs)) :=
  pe_imp (pe_callNS Fo hr hg hm hk hb (fun σ => passAt tk σ) ha hkw hall hks hdb he hpl) fun σ H Q ⟨G, A, ρ, R, a⟩ => by
    refine ⟨G, A, ρ, R, a.split.len.imp fun ds ρ1 G1 H1 _ _ R1 ⟨hl, a1⟩ vs rv => ?_⟩
    refine ⟨G1, A, ρ1, R1, a1.split.len.imp fun es ρ2 G2 H2 s2 _ R2 ⟨hl2, a2⟩ zs rz => ?_⟩
    have l1 : vs.length = n := by rw [rv.length, hl, hn]
    have l2 : zs.length = ks.length := by rw [rz.length, hl2, hn2]
    obtain ⟨q1, q2⟩ := hgD G2 vs zs ds es l1 l2 (rv.mono s2) rz
    refine ⟨l1, l2, G2, _, _, q2, argsOk_rep R2.same q1, ?_⟩
    unfold appF at a2
    cases ef : F (gD ds es) with
    | stuck => rw [ef] at a2; exact a2.elim
    | ret d outs =>
      rw [ef] at a2
      intro G' H' v r rv
      obtain ⟨s1, k1, R3⟩ := r.rel R2
      exact a2 G' H' s1 k1 R3 v rv
    | exc y outs =>
      rw [ef] at a2
      intro G' H' dd r rx
      obtain ⟨s1, k1, R3⟩ := r.rel R2
      exact a2 G' H' dd s1 k1 R3 rx
end

/-! ### a def -/
def initAt (bs : List Nat) : Nat → List D → Cells
  | _, [] => []
  | i, d :: ds => (if bs.contains i = true then Cell.own d else Cell.dat d) :: initAt bs (i + 1) ds
def initC (len : Nat) (bs : List Nat) (ds : List D) : Cells := initAt bs 0 ds ++ List.replicate (len - ds.length) .no
def outAt (ρ : Cells) (i : Nat) : D := match ρ[i]? with
  | some (Cell.own d) => d
  | _ => D.non
def outsOf (bs : List Nat) (ρ : Cells) : List D := bs.map (outAt ρ)
def mkFn (len : Nat) (bs : List Nat) (m : MS) : Fn := fun ds => match m (initC len bs ds) with
  | .next ρ => .ret .non (outsOf bs ρ)
  | .ret d ρ => .ret d (outsOf bs ρ)
  | .exc x ρ => .exc x (outsOf bs ρ)
  | _ => .stuck
theorem initAt_get (bs : List Nat) : ∀ (n i : Nat) (ds : List D) (x : Cell), (initAt bs n ds)[i]? = some x → ∃ d, ds[i]? = some d ∧ x = if bs.contains (n + i) = true then Cell.own d else Cell.dat d
  | n, i, [], x, h => by simp [initAt] at h
  | n, 0, d :: ds, x, h => by
    simp [initAt] at h
    exact ⟨d, rfl, by rw [Nat.add_zero]; simp [← h]⟩
  | n, i + 1, d :: ds, x, h => by
    obtain ⟨e, h1, h2⟩ := initAt_get bs (n + 1) i ds x (by simpa [initAt] using h)
    exact ⟨e, by simpa using h1, by rw [show n + (i + 1) = n + 1 + i by omega]; exact h2⟩
theorem initAt_put (bs : List Nat) : ∀ (n i : Nat) (ds : List D) (d : D), ds[i]? = some d → (initAt bs n ds)[i]? = some (if bs.contains (n + i) = true then Cell.own d else Cell.dat d)
  | n, i, [], d, h => by simp at h
  | n, 0, e :: ds, d, h => by simp at h; subst h; rfl
  | n, i + 1, e :: ds, d, h => by
    have := initAt_put bs (n + 1) i ds d (by simpa using h)
    rw [show n + (i + 1) = n + 1 + i by omega]
    simpa [initAt] using this
theorem initAt_len (bs : List Nat) : ∀ (n : Nat) (ds : List D), (initAt bs n ds).length = ds.length
  | _, [] => rfl
  | n, d :: ds => by unfold initAt; rw [List.length_cons, List.length_cons, initAt_len]
section
variable {c : Cf} {G H : Hp} {A : Addr → Prop}
theorem initC_get {len : Nat} {bs : List Nat} {ds : List D} {i : Nat} {x : Cell} (h : (initC len bs ds)[i]? = some x) (hx : x ≠ .no) : ∃ d, ds[i]? = some d ∧ i < ds.length ∧ x = if bs.contains i = true then Cell.own d else Cell.dat d := by
  unfold initC at h
  by_cases hi : i < ds.length
  · rw [List.getElem?_append_left (by rw [initAt_len]; exact hi)] at h
    obtain ⟨d, h1, h2⟩ := initAt_get bs 0 i ds x h
    exact ⟨d, h1, hi, by rw [Nat.zero_add] at h2; exact h2⟩
  · rw [List.getElem?_append_right (by rw [initAt_len]; omega)] at h
    have := List.mem_of_getElem? h
    exact absurd (List.eq_of_mem_replicate this) hx
/-- the cells at a def's start -/
theorem rel_start {N : List Str} {bs : List Nat} {vs : List V} {ds : List D} (h : ArgsOk c bs G A H vs ds) (hl : vs.length ≤ N.length) (B : List (Nat × Addr)) (hB : ∀ q ∈ B, q.1 ∈ bs ∧ vs[q.1]? = some (.ref q.2)) (hbs : ∀ i ∈ bs, i < ds.length) :
    Rel c B G (fun b => ∃ i ∈ bs, vs[i]? = some (.ref b)) H (L2.start N vs) (initC N.length bs ds) := by
  have st : ∀ (i : Nat) (v : V), vs[i]? = some v → (L2.start N vs)[i]? = some (some v) := fun i v e => by
    have hi := (List.getElem?_eq_some_iff.mp e).1
    unfold L2.start
    rw [List.getElem?_append_left (by rw [List.length_map]; exact hi), List.getElem?_map, e]
    rfl
  have aa : ∀ b, (∃ i ∈ bs, vs[i]? = some (V.ref b)) → A b := fun b ⟨i, hi, e⟩ => by
    have hlt := hbs i hi
    obtain ⟨p, h1, h2, _⟩ := h.own i _ (List.getElem?_eq_getElem hlt) hi
    rw [e] at h1; cases h1; exact h2
  refine ⟨h.same, ?_, fun b hb => h.ownA b (aa b hb), fun i d e => ?_, fun i d e => ?_, fun i j d e p hij h1 h2 h3 h4 => ?_, fun q hq => ?_⟩
  · unfold L2.start initC
    rw [List.length_append, List.length_append, List.length_map, List.length_replicate, List.length_replicate, initAt_len, h.len]
  · obtain ⟨d', h1, hi, h2⟩ := initC_get e (fun z => by cases z)
    by_cases hb : bs.contains i = true
    · rw [if_pos hb] at h2; cases h2
    · rw [if_neg hb] at h2; cases h2
      obtain ⟨v, k1, k2⟩ := h.dat i d h1 (fun z => hb (by simpa using z))
      exact ⟨v, st i v k1, k2⟩
  · obtain ⟨d', h1, hi, h2⟩ := initC_get e (fun z => by cases z)
    by_cases hb : bs.contains i = true
    · rw [if_pos hb] at h2; cases h2
      have hm : i ∈ bs := by simpa using hb
      obtain ⟨p, k1, k2, k3⟩ := h.own i d h1 hm
      exact ⟨p, st i _ k1, ⟨i, hm, k1⟩, k3⟩
    · rw [if_neg hb] at h2; cases h2
  · obtain ⟨d', e1, hi, f1⟩ := initC_get h1 (fun z => by cases z)
    obtain ⟨e', e2, hj, f2⟩ := initC_get h2 (fun z => by cases z)
    have hb1 : bs.contains i = true := by
      by_cases hb : bs.contains i = true
      · exact hb
      · rw [if_neg hb] at f1; cases f1
    have hb2 : bs.contains j = true := by
      by_cases hb : bs.contains j = true
      · exact hb
      · rw [if_neg hb] at f2; cases f2
    have hm1 : i ∈ bs := by simpa using hb1
    have hm2 : j ∈ bs := by simpa using hb2
    obtain ⟨p1, k1, _⟩ := h.own i d' e1 hm1
    obtain ⟨p2, k2, _⟩ := h.own j e' e2 hm2
    have q1 := st i _ k1
    have q2 := st j _ k2
    rw [h3] at q1; cases q1
    rw [h4] at q2; cases q2
    exact h.dis i j p hij hm1 hm2 k1 k2
  · obtain ⟨h1, h2⟩ := hB q hq
    have hlt := hbs q.1 h1
    refine ⟨st _ _ h2, ⟨q.1, h1, h2⟩, ds[q.1], ?_⟩
    · unfold initC
      rw [List.getElem?_append_left (by rw [initAt_len]; exact hlt), initAt_put bs 0 q.1 ds _ (List.getElem?_eq_getElem hlt), Nat.zero_add, if_pos (by simpa using h1)]
/-- behind a body -/
theorem ret_of {bs : List Nat} {vs : List V} {ds : List D} {B : List (Nat × Addr)} {G' H' : Hp} {A' : Addr → Prop} {σ' : L2.St} {ρ' : Cells} (h : ArgsOk c bs G A H vs ds) (hbs : ∀ i ∈ bs, i < ds.length) (hB : ∀ i ∈ bs, ∃ p, (i, p) ∈ B ∧ vs[i]? = some (.ref p))
    (s : Stp G (fun b => ∃ i ∈ bs, vs[i]? = some (.ref b)) H G' A' H') (R : Rel c B G' A' H' σ' ρ') : Ret c bs G A H vs (outsOf bs ρ') G' H' := by
  have aa : ∀ b, (∃ i ∈ bs, vs[i]? = some (V.ref b)) → A b := fun b ⟨i, hi, e⟩ => by
    have hlt := hbs i hi
    obtain ⟨p, h1, h2, _⟩ := h.own i _ (List.getElem?_eq_getElem hlt) hi
    rw [e] at h1; cases h1; exact h2
  refine ⟨s.gg, fun b o e n => s.kp b o e fun z => n (aa b z), R.same, fun b hb => ?_, by unfold outsOf; rw [List.length_map], fun k i d e1 e2 => ?_⟩
  · by_cases z : ∃ i ∈ bs, vs[i]? = some (V.ref b)
    · obtain ⟨i, hi, e⟩ := z
      obtain ⟨p, hp, e'⟩ := hB i hi
      rw [e] at e'; cases e'
      exact R.ownA b (R.byr _ hp).2.1
    · obtain ⟨h1, o, h2⟩ := h.ownA b hb
      obtain ⟨k1, k2⟩ := s.kp b o h2 z
      exact ⟨k2.trans h1, o, k1⟩
  · have hi : i ∈ bs := List.mem_of_getElem? e1
    obtain ⟨p, hp, e⟩ := hB i hi
    obtain ⟨q1, q2, x, q3⟩ := R.byr _ hp
    have ed : d = x := by
      unfold outsOf at e2
      rw [List.getElem?_map, e1] at e2
      have e2 : some (match ρ'[i]? with | some (Cell.own d) => d | _ => D.non) = some d := e2
      have q3 : ρ'[i]? = some (.own x) := q3
      rw [q3] at e2
      exact (Option.some.inj e2).symm
    subst ed
    obtain ⟨p', h1, h2, h3⟩ := R.own i d q3
    rw [show σ'[i]? = some (some (V.ref p)) from q1] at h1
    cases h1
    exact ⟨p, e, h3⟩
end
section
variable {P : Program} {w : World} {K : PySem.W.Frag} {mg : Str → Option Value} {base : Heap} {c : Cf}
/-- THE RULE for a def: its body's meaning is m -/
theorem fn_ok {x qual : Str} {st : Stmt} {f : Addr} {fd : FuncData} {N ps : List Str} {k : Nat} {dvs : List V} {kws : List (Str × V)} {m : MS} (bs : List Nat) (F : FunD K x qual (defArgs st) (defBody st) (defScope st) dvs kws f fd) (S : FnScope N ps (defScope st)) (hN : ps.length ≤ N.length) (hbs : ∀ i ∈ bs, i < ps.length)
    (body : ∀ (B : List (Nat × Addr)), B.map (·.1) = bs → ∀ (cdv : Value) (A : Around) (outer : List Env) (s : Shared) (H : Hp) (E : XK), Room k (A.deeper (PyProof.Rows.envOfC qual (defScope st) s.heap.objs.size f cdv)) →
      PSs (cxOf (L2.CX P w) P w K mg base N qual (defScope st) f cdv A outer s H E) (defBody st) (tS c B (fun cls d _ H => E cls d H) m)) :
    FnOk P w K mg base (L2.CX P w) (k + 1) f fd ps (spM c bs ps.length (mkFn N.length bs m)) := by
  refine F.ok S (fun vs H Q E h => ?_) (fun cdv A outer s H vs Q E hr h => ?_)
  · obtain ⟨G, A, ds, hn, ok, _⟩ := h
    rw [ok.len, hn]
  · obtain ⟨G, A0, ds, hn, ok, a⟩ := h
    have hl : vs.length = ps.length := by rw [ok.len, hn]
    have hlt : ∀ i ∈ bs, i < ds.length := fun i hi => by rw [hn]; exact hbs i hi
    -- the addresses of what is handed by reference
    have : ∃ B : List (Nat × Addr), B.map (·.1) = bs ∧ ∀ q ∈ B, vs[q.1]? = some (.ref q.2) := by
      have : ∀ l : List Nat, (∀ i ∈ l, i ∈ bs) → ∃ B : List (Nat × Addr), B.map (·.1) = l ∧ ∀ q ∈ B, vs[q.1]? = some (.ref q.2) := by
        intro l
        induction l with
        | nil => intro _; exact ⟨[], rfl, fun q h => by cases h⟩
        | cons i l ih =>
          intro hi
          obtain ⟨B, h1, h2⟩ := ih fun j hj => hi j (List.mem_cons_of_mem _ hj)
          have him := hi i List.mem_cons_self
          obtain ⟨p, e, _⟩ := ok.own i _ (List.getElem?_eq_getElem (hlt i him)) him
          refine ⟨(i, p) :: B, by rw [List.map_cons, h1], fun q hq => ?_⟩
          rcases List.mem_cons.mp hq with z | z
          · subst z; exact e
          · exact h2 q z
      exact this bs fun _ h => h
    obtain ⟨B, hB1, hB2⟩ := this
    have hBm : ∀ q ∈ B, q.1 ∈ bs ∧ vs[q.1]? = some (.ref q.2) := fun q hq => ⟨by rw [← hB1]; exact List.mem_map_of_mem hq, hB2 q hq⟩
    have hBi : ∀ i ∈ bs, ∃ p, (i, p) ∈ B ∧ vs[i]? = some (.ref p) := fun i hi => by
      rw [← hB1] at hi
      obtain ⟨q, hq, e⟩ := List.mem_map.mp hi
      subst e
      exact ⟨q.2, hq, hB2 q hq⟩
    refine ⟨_, body B hB1 cdv A outer s H E hr, G, _, _, rel_start ok (by rw [hl]; exact hN) B hBm hlt, ?_⟩
    have a : AfterF c bs G A0 H vs (match m (initC N.length bs ds) with
      | .next ρ => .ret .non (outsOf bs ρ)
      | .ret d ρ => .ret d (outsOf bs ρ)
      | .exc x ρ => .exc x (outsOf bs ρ)
      | _ => .stuck) Q E := a
    cases e : m (initC N.length bs ds) with
    | stuck => rw [e] at a; exact a.elim
    | brk ρ => rw [e] at a; exact a.elim
    | cont ρ => rw [e] at a; exact a.elim
    | next ρ => rw [e] at a; exact fun G' A' H' σ' s' R' => a G' H' .non (ret_of ok hlt hBi s' R') .non
    | ret d ρ => rw [e] at a; exact fun G' A' H' σ' v s' R' r => a G' H' v (ret_of ok hlt hBi s' R') r
    | exc x ρ => rw [e] at a; exact fun G' A' H' σ' dd s' R' r => a G' H' dd (ret_of ok hlt hBi s' R') r
theorem fn_ok0 {x qual : Str} {st : Stmt} {f : Addr} {fd : FuncData} {N ps : List Str} {k : Nat} {dvs : List V} {kws : List (Str × V)} {m : MS} (F : FunD K x qual (defArgs st) (defBody st) (defScope st) dvs kws f fd) (S : FnScope N ps (defScope st)) (hN : ps.length ≤ N.length)
    (body : ∀ (cdv : Value) (A : Around) (outer : List Env) (s : Shared) (H : Hp) (E : XK), Room k (A.deeper (PyProof.Rows.envOfC qual (defScope st) s.heap.objs.size f cdv)) →
      PSs (cxOf (L2.CX P w) P w K mg base N qual (defScope st) f cdv A outer s H E) (defBody st) (tS c [] (fun cls d _ H => E cls d H) m)) :
    FnOk P w K mg base (L2.CX P w) (k + 1) f fd ps (spM c [] ps.length (mkFn N.length [] m)) :=
  fn_ok [] F S hN (fun i h => by simp at h) fun B hB => by
    have : B = [] := by simpa using hB
    subst this
    exact body
theorem fn_ok1 (i : Nat) {x qual : Str} {st : Stmt} {f : Addr} {fd : FuncData} {N ps : List Str} {k : Nat} {dvs : List V} {kws : List (Str × V)} {m : MS} (F : FunD K x qual (defArgs st) (defBody st) (defScope st) dvs kws f fd) (S : FnScope N ps (defScope st)) (hN : ps.length ≤ N.length) (hi : i < ps.length)
    (body : ∀ (a : Addr) (cdv : Value) (A : Around) (outer : List Env) (s : Shared) (H : Hp) (E : XK), Room k (A.deeper (PyProof.Rows.envOfC qual (defScope st) s.heap.objs.size f cdv)) →
      PSs (cxOf (L2.CX P w) P w K mg base N qual (defScope st) f cdv A outer s H E) (defBody st) (tS c [(i, a)] (fun cls d _ H => E cls d H) m)) :
    FnOk P w K mg base (L2.CX P w) (k + 1) f fd ps (spM c [i] ps.length (mkFn N.length [i] m)) :=
  fn_ok [i] F S hN (fun j h => by simp at h; subst h; exact hi) fun B hB => by
    match B, hB with
    | [(j, a)], hB =>
      have : j = i := by simpa using hB
      subst this
      exact body a
end
end Fx
set_option Elab.async false
set_option linter.all false
set_option maxRecDepth 100000
set_option maxHeartbeats 4000000
/-! Fx11: errors made and raised. -/
namespace Fx
open PySem L2
/-- what the written part says of FarmError -/
structure BaseX (K : PySem.W.Frag) (mg : Str → Option Value) (CB : Addr) : Prop where
  gB : mg "FarmError" = some (.ref CB)
  sB : PySem.W.specialIn K (.ref CB) "__getattribute__" = some (some (.builtin "type.__getattribute__"))
  rB : PySem.W.readsIn K CB (.type "type") = true
  vB : PySem.W.findCls K (.ref CB) (.type "type") "__init__" = some (.val (.builtin "ValueError.__init__"))
section
variable {X : Cx} {o e : Expr} {es : List Expr} {to te : TE} {ta : TA} {f : Str} {p p' p1 p2 pos : Pos}
theorem pe_feinit {CB : Addr} {pl : Sem Bool} (T : BaseX X.K X.mg CB) (ha : PA X (e :: es) ta) (hg : Gl X "FarmError" := by rfl)
    (hc : eval (.Call (.Attribute (.Name "FarmError" p1) "__init__" p2) (e :: es) [] pos) X.env = (do
      let ov ← eval (.Name "FarmError" p1) X.env
      standAt p2.atName
      let (f, first) ← holding [ov] (getMethod ov "__init__" pl)
      callWith pos f first (backTo pos (starEach (e :: es) X.env)) (backToKw pos (keywordEach [] X.env))) := by rfl)
    (he : starEach (e :: es) X.env = (false, eval e X.env) :: starEach es X.env := by rfl) (hpl : (backTo pos (starEach es X.env)).any (·.1) = false := by rfl) :
    PE X (.Call (.Attribute (.Name "FarmError" p1) "__init__" p2) (e :: es) [] pos) (tVeI X.K ta) := by
  refine ⟨fun pins s σ H Q I h => ?_⟩
  refine PySem.W.methodCall_KW (ld_glob I hg T.gB ?_ (by decide)) hc
  refine PySem.W.method_cls I.kIn T.sB (PySem.W.cls_value I.kIn T.rB T.vB (by decide +kernel) ?_)
  show wpAny _ _ (callWith pos (Value.builtin "ValueError.__init__") [] (backTo pos (starEach (e :: es) X.env)) []) _ _ _
  refine PyProof.Rows.callWith_method1 (thn (ha.run pos pins _ σ H _ (I.tok _) h) fun us s1 ⟨vs, H1, I1, r1, a, C, ws, ev, hl, T, ea, q⟩ => ?_) he hpl
  subst ev
  cases r1 with
  | @cons _ u0 _ ur ra rw' =>
    obtain rfl : u0 = Value.ref a := ra
    have hlen : ur.length ≤ sizeLine := by
      rw [← Paired.length rw', sizeLine_eq]
      omega
    exact oinit_ok T I1 ea hlen fun s' J => ⟨.non, H1, J, rfl, q⟩
end
/-- __init__ with one field, with two -/
def spI1 (C : Addr) (f : Str) : Sp := fun vs H Q _ => ∃ a y, vs = [.ref a, y] ∧ H a = some (exo a C none) ∧ ∀ dx, H dx = none → dx ≠ a → Q .non (upd (upd H dx (exd dx [(f, y)])) a (exo a C (some dx)))
def spI2 (C : Addr) (f g : Str) : Sp := fun vs H Q _ => ∃ a y z, vs = [.ref a, y, z] ∧ H a = some (exo a C none) ∧ ∀ dx, H dx = none → dx ≠ a → Q .non (upd (upd (upd H dx (exd dx [(f, y)])) a (exo a C (some dx))) dx (exd dx [(g, z), (f, y)]))
theorem read1 {K : PySem.W.Frag} {C : Addr} {f msg : Str} {N : List Str} (hN : N.length = 2) (T : OexC K C) (hf : PySem.W.findIn K (.ref C) f = some none) {vs : List V} {H : Hp} {Q : VK} {E : XK} (h : spI1 C f vs H Q E) :
    tSeq (tDrop (tVeI K (tCons (tVar 0) (tCons (tC (.str msg)) tNil)))) (tOst K f (tVar 0) (tVar 1)) { nx := fun _ H' => Q .non H', rt := Q } (L2.start N vs) H := by
  obtain ⟨a, y, rfl, ha, k⟩ := h
  have e0 : (L2.start N [V.ref a, y])[0]? = some (some (V.ref a)) := rfl
  have e1 : (L2.start N [V.ref a, y])[1]? = some (some y) := rfl
  exact ⟨_, e0, a, C, [.str msg], rfl, by simp, T, ha, _, e1, _, e0, a, C, rfl, T, hf, .inl ⟨ha, fun dx n ne => k dx n ne⟩⟩
theorem read2 {K : PySem.W.Frag} {C : Addr} {f g msg : Str} {N : List Str} (hN : N.length = 3) (T : OexC K C) (hf : PySem.W.findIn K (.ref C) f = some none) (hg : PySem.W.findIn K (.ref C) g = some none) {vs : List V} {H : Hp} {Q : VK} {E : XK} (h : spI2 C f g vs H Q E) :
    tSeq (tDrop (tVeI K (tCons (tVar 0) (tCons (tC (.str msg)) tNil)))) (tSeq (tOst K f (tVar 0) (tVar 1)) (tOst K g (tVar 0) (tVar 2))) { nx := fun _ H' => Q .non H', rt := Q } (L2.start N vs) H := by
  obtain ⟨a, y, z, rfl, ha, k⟩ := h
  have e0 : (L2.start N [V.ref a, y, z])[0]? = some (some (V.ref a)) := rfl
  have e1 : (L2.start N [V.ref a, y, z])[1]? = some (some y) := rfl
  have e2 : (L2.start N [V.ref a, y, z])[2]? = some (some z) := rfl
  refine ⟨_, e0, a, C, [.str msg], rfl, by simp, T, ha, _, e1, _, e0, a, C, rfl, T, hf, .inl ⟨ha, fun dx n ne => ?_⟩⟩
  exact ⟨_, e2, _, e0, a, C, rfl, T, hg, .inr ⟨dx, _, upd_same, by rw [upd_ne ne, upd_same], by simp, k dx n ne⟩⟩
theorem del_upd_new {H : Hp} {a : Addr} {o : HO} (h : H a = none) : del (upd H a o) a = H := by
  funext b
  by_cases z : b = a
  · subst z; rw [del_same, h]
  · rw [del_ne z, upd_ne z]
section
variable {c : Cf} {B : List (Nat × Addr)} {W : WX} {X : Cx} {G H : Hp} {A : Addr → Prop} {σ : L2.St} {ρ : Cells} {Z : Ends}
/-- a class of errors as the written part has it: its code x -/
structure XcK (c : Cf) (K : PySem.W.Frag) (mg : Str → Option Value) (x : Nat) (nm : Str) (fI : Addr) : Prop where
  gC : mg nm = some (.ref (c.exc x))
  oex : OexC K (c.exc x)
  iC : PySem.W.findIn K (.ref (c.exc x)) "__init__" = some (some (.ref fI))
  tI : PySem.W.typeIn K (.ref fI) = some (.type "function")
def mRaise (x : Nat) (fs : List (M D)) : MS := mDo (seqM fs) fun ds ρ => .exc ⟨x, ds.reverse⟩ ρ
theorem raise_end (R : Rel c B G A H σ ρ) {x : Nat} {ds : List D} {d : Addr} {vs : List V} (hd : H d = none) (r : RepL c G vs ds.reverse) (a : AfterS c B W G A H (.exc ⟨x, ds.reverse⟩ ρ) Z) :
    W (.ref (c.exc x)) (some d) σ (upd H d (.xd ((c.flds x).zip vs))) := by
  have e := Ext.upd (o := .xd ((c.flds x).zip vs)) R.same hd
  exact a _ A _ σ d (Stp.same e.gg e.keep) (R.ext e) ⟨vs, upd_same, r.mono e.gg⟩
theorem ps_raise1 {x : Nat} {nm f : Str} {fI : Addr} {k : Nat} {fd : FuncData} {ps : List Str} {e : Expr} {fe : M D} {p pos pos2 : Pos} (hc : X.calm = true) (tk : Takes X W) (T : XcK c X.K X.mg x nm fI) (hf : c.flds x = [f])
    (F1 : FnOk X.prog X.w X.K X.mg X.base (L2.CX X.prog X.w) k fI fd ps (spI1 (c.exc x) f)) (hr : Room (k + 1) X.A) (hb : Binds X.K fd ps []) (ha : PE X e (tM c B W fe)) (hg : Gl X nm := by rfl)
    (hdb : (nm == ("__debug__" : Str)) = false := by decide) (he : starEach (e :: []) X.env = (false, eval e X.env) :: starEach [] X.env := by rfl) (hpl : (backTo pos (starEach [] X.env)).any (·.1) = false := by rfl) :
    PS X (.Raise (some (.Call (.Name nm p) [e] [] pos)) none pos2) (tS c B W (mRaise x [fe])) :=
  ps_imp (ps_raise hc tk (pmk_oex T.oex T.iC T.tI F1 hr hb .nil passL hg T.gC (pd_cons ha pd_nil he) hdb he hpl)) fun Z σ H ⟨G, A, ρ, R, a⟩ => by
    refine ⟨G, A, ρ, R, (a.split R).len.imp fun ds ρ' G' H' _ _ R' ⟨hl, q⟩ vs r => ?_⟩
    match ds, hl with
    | [d1], _ =>
      obtain ⟨v, rfl, rv⟩ := repL1 r
      refine ⟨by simp, fun a na => ⟨a, v, rfl, upd_same, fun dx n ne => ⟨rfl, dx, [(f, v)], upd_same, by rw [upd_ne ne, upd_same], ?_, ?_⟩⟩⟩
      · rw [upd_ne ne] at n; exact n
      · have n' : H' dx = none := by rw [upd_ne ne] at n; exact n
        have z := raise_end (vs := [v]) (ds := [d1]) R' n' (.one rv) q
        rw [hf] at z
        have ee : upd (del (upd (upd (upd H' a (exo a (c.exc x) none)) dx (exd dx [(f, v)])) a (exo a (c.exc x) (some dx))) a) dx (.xd [(f, v)]) = upd H' dx (.xd [(f, v)]) := by
          funext b
          by_cases hb : b = dx
          · subst hb; rw [upd_same, upd_same]
          · rw [upd_ne hb, upd_ne hb]
            by_cases hba : b = a
            · subst hba; rw [del_same, na]
            · rw [del_ne hba, upd_ne hba, upd_ne hb, upd_ne hba]
        rw [ee]
        exact z
theorem ps_raise2 {x : Nat} {nm f g : Str} {fI : Addr} {k : Nat} {fd : FuncData} {ps : List Str} {e e2 : Expr} {fe fe2 : M D} {p pos pos2 : Pos} (hc : X.calm = true) (tk : Takes X W) (T : XcK c X.K X.mg x nm fI) (hf : c.flds x = [g, f])
    (F1 : FnOk X.prog X.w X.K X.mg X.base (L2.CX X.prog X.w) k fI fd ps (spI2 (c.exc x) f g)) (hr : Room (k + 1) X.A) (hb : Binds X.K fd ps []) (ha : PE X e (tM c B W fe)) (ha2 : PE X e2 (tM c B W fe2)) (hg : Gl X nm := by rfl)
    (hdb : (nm == ("__debug__" : Str)) = false := by decide) (he : starEach (e :: [e2]) X.env = (false, eval e X.env) :: starEach [e2] X.env := by rfl) (he2 : starEach [e2] X.env = (false, eval e2 X.env) :: starEach [] X.env := by rfl) (hpl : (backTo pos (starEach [e2] X.env)).any (·.1) = false := by rfl) :
    PS X (.Raise (some (.Call (.Name nm p) [e, e2] [] pos)) none pos2) (tS c B W (mRaise x [fe, fe2])) :=
  ps_imp (ps_raise hc tk (pmk_oex T.oex T.iC T.tI F1 hr hb .nil passL hg T.gC (pd_cons ha (pd_cons ha2 pd_nil he2) he) hdb he hpl)) fun Z σ H ⟨G, A, ρ, R, a⟩ => by
    refine ⟨G, A, ρ, R, (a.split R).len.imp fun ds ρ' G' H' _ _ R' ⟨hl, q⟩ vs r => ?_⟩
    match ds, hl with
    | [d1, d2], _ =>
      cases r with
      | @cons v _ _ _ rv rt =>
        obtain ⟨w, rfl, rw'⟩ := repL1 rt
        refine ⟨by simp, fun a na => ⟨a, v, w, rfl, upd_same, fun dx n ne => ⟨rfl, dx, [(g, w), (f, v)], by rw [upd_ne (Ne.symm ne), upd_same], upd_same, ?_, ?_⟩⟩⟩
        · rw [upd_ne ne] at n; exact n
        · have n' : H' dx = none := by rw [upd_ne ne] at n; exact n
          have z := raise_end (vs := [w, v]) (ds := [d1, d2]) R' n' (.cons rw' (.one rv)) q
          rw [hf] at z
          have ee : upd (del (upd (upd (upd (upd H' a (exo a (c.exc x) none)) dx (exd dx [(f, v)])) a (exo a (c.exc x) (some dx))) dx (exd dx [(g, w), (f, v)])) a) dx (.xd [(g, w), (f, v)]) = upd H' dx (.xd [(g, w), (f, v)]) := by
            funext b
            by_cases hb : b = dx
            · subst hb; rw [upd_same, upd_same]
            · rw [upd_ne hb, upd_ne hb]
              by_cases hba : b = a
              · subst hba; rw [del_same, na]
              · rw [del_ne hba, upd_ne hb, upd_ne hba, upd_ne hb, upd_ne hba]
          rw [ee]
          exact z
end
end Fx
set_option Elab.async false
set_option linter.all false
set_option maxRecDepth 100000
set_option maxHeartbeats 4000000
/-! Fx12: farms: fields, making, methods, len. -/
namespace Fx
open PySem L2
section
variable {c : Cf} {B : List (Nat × Addr)} {W : WX} {X : Cx} {G H : Hp} {A : Addr → Prop} {σ : L2.St} {ρ : Cells} {Z : Ends}
theorem zip_lookup {f : Str} {d : D} : ∀ {ns : List Str} {vs : List V} {ds : List D}, RepL c G vs ds → ns.length = vs.length → (ns.zip ds).lookup f = some d → ∃ v, (ns.zip vs).lookup f = some v ∧ Rep c G v d
  | [], [], _, .nil, _, h => by cases h
  | n :: ns, v :: vs, e :: ds, .cons r t, hl, h => by
    rw [List.zip_cons_cons, List.lookup_cons] at h ⊢
    cases hq : f == n with
    | true => simp only [hq] at h ⊢; cases h; exact ⟨v, rfl, r⟩
    | false => simp only [hq] at h ⊢; exact zip_lookup t (by simpa using hl) h
  | n :: ns, [], _, .nil, hl, _ => by cases hl
def mFld (fe : M D) (f : Str) : M D := fe.bind fun d => match d with
  | .rcd ns ds => M.lift ((ns.zip ds).lookup f)
  | _ => M.stuck
theorem pm_fld {e : Expr} {f : Str} {fe : M D} {pos : Pos} (T : Cls X.K c.farm) (n : NoAttr X.K c.farm f) (he : PE X e (tM c B W fe)) (hb : attributeBase e f X.env (eval e X.env) = eval e X.env := by rfl) : PE X (.Attribute e f pos) (tM c B W (mFld fe f)) :=
  pe_imp (pe_fld he hb) fun σ H Q ⟨G, A, ρ, R, a⟩ => by
    refine ⟨G, A, ρ, R, a.split.imp fun d ρ1 G1 H1 _ _ R1 q v r => ?_⟩
    cases d <;> first | exact q.elim | skip
    obtain ⟨d, e1, q⟩ := q.lift R1
    cases r with
    | rcd h l rl =>
      obtain ⟨v, h1, h2⟩ := zip_lookup rl l e1
      exact ⟨_, _, _, _, v, rfl, R1.same _ _ h, T, n, h1, q v h2⟩
theorem putF_new {f : Str} {v : V} : ∀ {ns : List Str} {vs : List V}, ns.length = vs.length → ns.contains f = false → putF f v (ns.zip vs) = (ns ++ [f]).zip (vs ++ [v])
  | [], [], _, _ => rfl
  | n :: ns, w :: vs, hl, h => by
    have hn : ¬ n = f := fun z => by subst z; simp at h
    rw [List.zip_cons_cons, List.cons_append, List.cons_append, List.zip_cons_cons]
    show (if n = f then (n, v) :: ns.zip vs else (n, w) :: putF f v (ns.zip vs)) = _
    rw [if_neg hn, putF_new (by simpa using hl) (by simp at h ⊢; exact h.2)]
  | [], _ :: _, hl, _ => by cases hl
  | _ :: _, [], hl, _ => by cases hl
def mSetF (i : Nat) (f : Str) (fe : M D) : MS := mDo fe fun d => mDo (ownAt i) fun o ρ => match o with
  | .rcd ns ds => if ns.contains f = false ∧ ns.length < 100 then .next (ρ.set i (.own (.rcd (ns ++ [f]) (ds ++ [d])))) else .stuck
  | _ => .stuck
theorem ps_setF (i : Nat) {x f : Str} {e : Expr} {fe : M D} {np p pos : Pos} (T : Cls X.K c.farm) (n : NoAttr X.K c.farm f) (he : PE X e (tM c B W fe)) (hN : X.N[i]? = some x := by rfl) (hv : Vis X.env.scope x := by first | exact Or.inl rfl | exact Or.inr (Or.inl rfl) | exact Or.inr (Or.inr rfl)) (hd : (x == ("__debug__" : Str)) = false := by decide)
    (hcd : (x == ("__classdict__" : Str)) = false := by decide) (hs : swapsWith e (some (.Attribute (.Name x np) f p)) pos.line X.env = pure false := by rfl) : PS X (.Assign [.Attribute (.Name x np) f p] e pos) (tS c B W (mSetF i f fe)) :=
  ps_imp (ps_fld (pe_var hN hv hd hcd) he hs) fun Z σ H ⟨G, A, ρ, R, a⟩ => by
    refine ⟨G, A, ρ, R, (a.split R).imp fun d ρ1 G1 H1 _ _ R1 q v r => ?_⟩
    unfold mDo ownAt at q
    cases e1 : ρ1[i]? with
    | none => simp only [e1] at q; exact q.elim
    | some cl =>
      simp only [e1] at q
      cases cl with
      | no => exact q.elim
      | dat d => exact q.elim
      | own o =>
        simp only at q
        obtain ⟨p, es, hA, hO⟩ := R1.own i o e1
        cases o <;> first | exact q.elim | skip
        rename_i ns ds
        obtain ⟨dx, xs, h1, h2, h3⟩ := hO
        have q : AfterS c B W G1 A H1 (if ns.contains f = false ∧ ns.length < 100 then .next (ρ1.set i (.own (.rcd (ns ++ [f]) (ds ++ [d])))) else .stuck) Z := q
        split at q
        · rename_i hc
          refine ⟨_, es, p, _, dx, _, rfl, h1, T, n, by rw [List.length_zip]; omega, ?_⟩
          rw [putF_new h2 hc.1]
          obtain ⟨R2, k2, s2⟩ := R1.setOwn (d' := .rcd (ns ++ [f]) (ds ++ [d])) (o := .ins c.farm dx ((ns ++ [f]).zip (xs ++ [v]))) e1 es ⟨dx, _, rfl, by simp [h2], h3.append (.one r)⟩
          exact AfterS.nx (AfterS.of R1.own_there (Stp.same (Same.refl _) k2) q) R2
        · exact q.elim
/-! ### a farm is made -/
def mMake (F : Fn) (fs : List (M D)) : M D := (seqM fs).bind fun ds ρ => match F (.rcd [] [] :: ds) with
  | .ret .non [.rcd ns es] => .ok (.rcd ns es) ρ
  | .exc x _ => .exc x ρ
  | _ => .stuck
theorem pm_make {F : Fn} {fs : List (M D)} {k n : Nat} {fI : Addr} {fd : FuncData} {ps : List Str} {E : XK} {x : Str} {p pos : Pos} {e : Expr} {es : List Expr} (Mk' : Mk X.K c.farm fI)
    (Fo : FnOk X.prog X.w X.K X.mg X.base (L2.CX X.prog X.w) k fI fd ps (spM c [0] n F)) (hr : Room (k + 1) X.A) (hx : Passes (L2.CX X.prog X.w) X E) (hm : X.mg x = some (.ref c.farm)) (hb : Binds X.K fd ps [])
    (ha : PA X (e :: es) (tD c B (fun cls d _ H => E cls d H) fs)) (hn : fs.length + 1 = n := by rfl) (hg : Gl X x := by rfl) (hdb : (x == ("__debug__" : Str)) = false := by decide)
    (he : starEach (e :: es) X.env = (false, eval e X.env) :: starEach es X.env := by rfl) (hpl : (backTo pos (starEach es X.env)).any (·.1) = false := by rfl) :
    PE X (.Call (.Name x p) (e :: es) [] pos) (tM c B (fun cls d _ H => E cls d H) (mMake F fs)) :=
  pe_imp (pe_make Mk' Fo hr hg hm hb .nil hx ha hdb he hpl) fun σ H Q ⟨G, A, ρ, R, a⟩ => by
    refine ⟨G, A, ρ, R, a.split.len.imp fun ds ρ1 G1 H1 _ _ R1 ⟨hl, q⟩ vs rv x dx hx hdx hne => ?_⟩
    have hsm : Same H1 (upd (upd H1 dx (.own x)) x (.ins c.farm dx [])) := fun b o e => by
      rw [upd_ne (ne_of_none e hx), upd_ne (ne_of_none e hdx)]; exact e
    have gx : G1 x = none := R1.same.free hx
    refine ⟨G1, fun b => b = x, .rcd [] [] :: ds, by rw [List.length_cons, hl]; exact hn, ⟨R1.same.trans hsm, fun b hb => by rw [hb]; exact ⟨gx, _, upd_same⟩, ?_, fun i d hd hi => ?_, fun i d hd hi => ?_, fun i j p hij hi hj => ?_⟩, ?_⟩
    · rw [List.append_nil, List.length_cons, List.length_cons, rv.length]
    · rw [List.append_nil]
      cases i with
      | zero => simp at hi
      | succ i =>
        obtain ⟨v, h1, h2⟩ := rv.get (i := i) (d := d) (by simpa using hd)
        exact ⟨v, by simpa using h1, h2⟩
    · have hi0 : i = 0 := by simpa using hi
      subst hi0
      have hd' : D.rcd [] [] = d := by simpa using hd
      subst hd'
      exact ⟨x, rfl, rfl, dx, [], upd_same, rfl, .nil⟩
    · have h1 : i = 0 := by simpa using hi
      have h2 : j = 0 := by simpa using hj
      exact absurd (h1.trans h2.symm) hij
    · have q : After c B (fun cls d _ H => E cls d H) G1 A H1 σ (match F (.rcd [] [] :: ds) with
        | .ret .non [.rcd ns es] => .ok (.rcd ns es) ρ1
        | .exc x _ => .exc x ρ1
        | _ => .stuck) (fun d _ G' H' => ∀ v, Rep c G' v d → Q v H') := q
      have ext : ∀ {outs : List D} {G' H' : Hp}, Ret c [0] G1 (fun b => b = x) (upd (upd H1 dx (.own x)) x (.ins c.farm dx [])) (V.ref x :: (vs ++ [])) outs G' H' → ∀ b o, H1 b = some o → H' b = some o ∧ G' b = G1 b := fun {outs G' H'} r b o e => r.kp b o (hsm b o e) (ne_of_none e hx)
      cases ef : F (.rcd [] [] :: ds) with
      | stuck => rw [ef] at q; exact q.elim
      | exc y outs =>
        rw [ef] at q
        intro G' H' dd r rx
        have ee : Ext G1 H1 G' H' := ⟨r.gg, fun b o e => (ext r b o e).1, r.gh, fun b o e => (ext r b o e).2⟩
        exact q G' H' dd r.gg ee.keep (R1.ext ee) rx
      | ret d0 outs =>
        rw [ef] at q
        cases d0 <;> first | exact q.elim | skip
        match outs, q with
        | [.rcd ns es], q =>
          intro G' H' v r rv0
          obtain rfl : v = .non := by cases rv0; rfl
          refine ⟨rfl, ?_⟩
          obtain ⟨p, hp, ho⟩ := r.outs.2 0 0 _ rfl rfl
          have hpx : p = x := by
            have : V.ref x = V.ref p := by simpa using hp
            cases this; rfl
          subst hpx
          obtain ⟨dx', xs, h1, h2, h3⟩ := ho
          have gn : G' p = none := (r.ownA p rfl).1
          have ee : Ext G1 H1 (upd G' p (.ins c.farm dx' (ns.zip xs))) H' := ⟨r.gg.trans (same_upd gn), fun b o e => (ext r b o e).1, fun b o e => by
            by_cases z : b = p
            · subst z; rw [upd_same] at e; cases e; exact h1
            · rw [upd_ne z] at e; exact r.gh b o e, fun b o e => by rw [upd_ne (ne_of_none e hx)]; exact (ext r b o e).2⟩
          exact q _ H' ee.gg ee.keep (R1.ext ee) _ (.rcd upd_same h2 (h3.mono (same_upd gn)))
/-! ### methods of a farm -/
def noName (m : Str) : D → Bool
  | .rcd ns _ => !ns.contains m
  | _ => false
def mMethF (F : Fn) (m : Str) (fo : M D) (fs : List (M D)) : M D := fo.bind fun d => if noName m d = true then (seqM fs).bind fun ds => appF F (d :: ds) else M.stuck
theorem zip_none {m : Str} : ∀ {ns : List Str} {vs : List V}, ns.contains m = false → (ns.zip vs).lookup m = none
  | [], _, _ => rfl
  | _ :: _, [], _ => rfl
  | n :: ns, v :: vs, h => by
    rw [List.zip_cons_cons, List.lookup_cons]
    simp at h
    have : (m == n) = false := by simpa using h.1
    rw [this]
    exact zip_none (by simpa using h.2)
theorem meth_core {F : Fn} {m : Str} {fo : M D} {fs : List (M D)} {n : Nat} {E : XK} {Q : VK} (hn : fs.length + 1 = n) (h : tM c B (fun cls d _ H => E cls d H) (mMethF F m fo fs) σ H Q) :
    tMeth c.farm m (spM c [] n F) [] E (tM c B (fun cls d _ H => E cls d H) fo) (tD c B (fun cls d _ H => E cls d H) fs) σ H Q := by
  obtain ⟨G, A, ρ, R, a⟩ := h
  refine ⟨G, A, ρ, R, a.split.imp fun d ρ1 G1 H1 _ _ R1 q v r => ?_⟩
  cases hd : noName m d with
  | false => rw [hd, if_neg Bool.false_ne_true] at q; exact q.elim
  | true =>
    rw [hd, if_pos rfl] at q
    cases d <;> first | (cases hd; done) | skip
    rename_i ns ds0
    have r0 := r
    cases r with
    | rcd h l rl =>
      refine ⟨_, _, _, rfl, R1.same _ _ h, zip_none (by simpa [noName] using hd), G1, A, ρ1, R1, q.split.len.imp fun ds ρ2 G2 H2 s2 _ R2 ⟨hl, q2⟩ vs rv => ?_⟩
      simp only [List.append_nil]
      refine ⟨G2, _, .rcd ns ds0 :: ds, by rw [List.length_cons, hl]; exact hn, argsOk_rep R2.same (.cons (r0.mono s2) rv), ?_⟩
      unfold appF at q2
      cases ef : F (.rcd ns ds0 :: ds) with
      | stuck => rw [ef] at q2; exact q2.elim
      | ret d outs =>
        rw [ef] at q2
        intro G' H' v r rv
        obtain ⟨s1, k1, R3⟩ := r.rel R2
        exact q2 G' H' s1 k1 R3 v rv
      | exc y outs =>
        rw [ef] at q2
        intro G' H' dd r rx
        obtain ⟨s1, k1, R3⟩ := r.rel R2
        exact q2 G' H' dd s1 k1 R3 rx
theorem pm_methF {F : Fn} {fs : List (M D)} {fo : M D} {k n : Nat} {f : Addr} {fd : FuncData} {ps : List Str} {E : XK} {m : Str} {apos pos : Pos} {o e : Expr} {es : List Expr} {pl : Sem Bool} (he : PE X o (tM c B (fun cls d _ H => E cls d H) fo)) (T : Cls X.K c.farm) (hm : Meth X.K c.farm m f)
    (Fo : FnOk X.prog X.w X.K X.mg X.base (L2.CX X.prog X.w) k f fd ps (spM c [] n F)) (hr : Room k X.A) (hx : Passes (L2.CX X.prog X.w) X E) (hb : Binds X.K fd ps [])
    (ha : PA X (e :: es) (tD c B (fun cls d _ H => E cls d H) fs)) (hn : fs.length + 1 = n := by rfl)
    (hst : starEach (e :: es) X.env = (false, eval e X.env) :: starEach es X.env := by rfl) (hpl : (backTo pos (starEach es X.env)).any (·.1) = false := by rfl)
    (ht : eval (.Call (.Attribute o m apos) (e :: es) [] pos) X.env = (do
      let ov ← eval o X.env
      standAt apos.atName
      let (f, first) ← holding [ov] (getMethod ov m pl)
      callWith pos f first (backTo pos (starEach (e :: es) X.env)) (backToKw pos (keywordEach [] X.env))) := by rfl) :
    PE X (.Call (.Attribute o m apos) (e :: es) [] pos) (tM c B (fun cls d _ H => E cls d H) (mMethF F m fo fs)) :=
  pe_imp (pe_meth he T hm Fo hr hb .nil hx ha hst hpl ht) fun σ H Q h => meth_core hn h
theorem pm_methF0 {F : Fn} {fo : M D} {k : Nat} {f : Addr} {fd : FuncData} {ps : List Str} {E : XK} {m : Str} {apos pos : Pos} {o : Expr} {pl : Sem Bool} (he : PE X o (tM c B (fun cls d _ H => E cls d H) fo)) (T : Cls X.K c.farm) (hm : Meth X.K c.farm m f)
    (Fo : FnOk X.prog X.w X.K X.mg X.base (L2.CX X.prog X.w) k f fd ps (spM c [] 1 F)) (hr : Room k X.A) (hx : Passes (L2.CX X.prog X.w) X E) (hb : Binds X.K fd ps [])
    (ht : eval (.Call (.Attribute o m apos) [] [] pos) X.env = (do
      let ov ← eval o X.env
      standAt apos.atName
      let (f, first) ← holding [ov] (getMethod ov m pl)
      callWith pos f first (backTo pos (starEach [] X.env)) (backToKw pos (keywordEach [] X.env))) := by rfl) :
    PE X (.Call (.Attribute o m apos) [] [] pos) (tM c B (fun cls d _ H => E cls d H) (mMethF F m fo [])) :=
  pe_imp (pe_meth0 he T hm Fo hr hb .nil hx ht) fun σ H Q h => by
    have h := meth_core (n := 1) rfl h
    obtain ⟨G, A, ρ, R, a⟩ := h
    exact ⟨G, A, ρ, R, a.imp fun d ρ1 G1 H1 _ _ R1 q v r => by
      obtain ⟨a, dx, fs, h1, h2, h3, G2, A2, ρ2, R2, q2⟩ := q v r
      exact ⟨a, dx, fs, h1, h2, h3, After.ok q2 R2 [] .nil⟩⟩
end
end Fx
set_option Elab.async false
set_option linter.all false
set_option maxRecDepth 100000
set_option maxHeartbeats 4000000
/-! Fx13: a negated int, two names at once, len of a farm, len of a set, dicts made by comprehension, a new list handed in. -/
namespace Fx
open PySem L2
section
variable {c : Cf} {B : List (Nat × Addr)} {W : WX} {X : Cx} {G H : Hp} {A : Addr → Prop} {σ : L2.St} {ρ : Cells} {Z : Ends}
def mNeg (f : M D) : M D := f.bind fun d => match d with
  | .int i => M.pure (.int (-i))
  | _ => M.stuck
theorem pm_neg {a : Expr} {f : M D} {pos : Pos} (h : PE X a (tM c B W f)) : PE X (.UnaryOp .USub a pos) (tM c B W (mNeg f)) :=
  pe_imp (pe_un un_neg h) fun σ H Q ⟨G, A, ρ, R, a⟩ => by
    refine ⟨G, A, ρ, R, a.split.imp fun d ρ1 G1 H1 _ _ R1 q v r => ?_⟩
    cases d <;> first | exact q.elim | skip
    obtain rfl := rep_int r
    exact ⟨_, rfl, After.ok q R1 _ (.int _)⟩
/-! ### a, b = x, y -/
def mPar (f g : M D) (i j : Nat) : MS := mDo f fun d => mDo g fun e ρ => .next ((ρ.set i (.dat d)).set j (.dat e))
theorem ps_parM (i j : Nat) {x y : Str} {a b : Expr} {f g : M D} {px py pt pos : Pos} {kt k2 pt2} (hc : X.calm = true) (hN : X.N.Nodup) (hb1 : B.all (fun q => q.1 != i) = true) (hb2 : B.all (fun q => q.1 != j) = true) (ha : PE X a (tM c B W f)) (hb : PE X b (tM c B W g))
    (hi : X.N[i]? = some x := by rfl) (hj : X.N[j]? = some y := by rfl) (hij : i ≠ j := by decide)
    (hx : X.env.scope.names.lookup x = some .local := by rfl) (hy : X.env.scope.names.lookup y = some .local := by rfl)
    (hw : swappedStores [.Tuple [.Name x px, .Name y py] kt pt] (.Tuple [a, b] k2 pt2) X.env = pure (some [x, y]) := by rfl)
    (hs : swapsWithSole [.Tuple [.Name x px, .Name y py] kt pt] (.Tuple [a, b] k2 pt2) pos.line X.env = pure false := by rfl)
    (hs1 : starEach [a, b] X.env = (false, eval a X.env) :: starEach [b] X.env := by rfl) (hs2 : starEach [b] X.env = (false, eval b X.env) :: starEach [] X.env := by rfl) :
    PS X (.Assign [.Tuple [.Name x px, .Name y py] kt pt] (.Tuple [a, b] k2 pt2) pos) (tS c B W (mPar f g i j)) :=
  ps_imp (ps_par hc hN hi hj hij hx hy (pa_cons ha (pa_cons hb pa_nil hs2) hs1) hw hs) fun Z σ H ⟨G, A, ρ, R, a⟩ => by
    refine ⟨G, A, ρ, R, (a.split R).imp fun d ρ1 G1 H1 _ _ R1 a1 v r => ?_⟩
    refine ⟨G1, A, ρ1, R1, (a1.split R1).imp fun e ρ2 G2 H2 s2 _ R2 a2 w r2 => ?_⟩
    exact ⟨v, w, rfl, AfterS.nx a2 ((R2.setDat (r.mono s2) hb1).setDat r2 hb2)⟩
/-! ### len(farm) -/
def isRcd : D → Bool
  | .rcd _ _ => true
  | _ => false
def mLenF (F : Fn) (fe : M D) : M D := fe.bind fun d ρ => if isRcd d = true then (match F [d] with
  | .ret (.int n) _ => if 0 ≤ n ∧ n < 2 ^ 63 then .ok (.int n) ρ else .stuck
  | _ => .stuck) else .stuck
theorem pm_lenF {F : Fn} {fe : M D} {k : Nat} {f : Addr} {fd : FuncData} {ps : List Str} {E : XK} {e : Expr} {p pos : Pos} (hs : PySem.W.findIn X.K (.ref c.farm) "__len__" = some (some (.ref f))) (hf : PySem.W.isFn X.K (.ref f) = true)
    (Fo : FnOk X.prog X.w X.K X.mg X.base (L2.CX X.prog X.w) k f fd ps (spM c [] 1 F)) (hr : Room (k + 1) X.A) (tk : Takes X W) (hb : Binds X.K fd ps []) (hm : X.mg "len" = none)
    (he : PE X e (tM c B W fe)) (hg : Gl X "len" := by rfl)
    (hst : starEach [e] X.env = (false, eval e X.env) :: starEach [] X.env := by rfl) (hpl : (backTo pos (starEach [] X.env)).any (·.1) = false := by rfl) :
    PE X (.Call (.Name "len" p) [e] [] pos) (tM c B W (mLenF F fe)) := by
  refine ⟨fun pins s σ H Q I ⟨G, A, ρ, R, a⟩ => ?_⟩
  refine wpAny_Call_Name_kw (ld_blt I hg hm boot_len ?_)
  refine PyProof.Rows.callWith_builtin1 (thn ((pa_cons he pa_nil hst).run pos pins s σ H (fun vs H2 => ∃ v d G' ρ', vs = [v] ∧ Rel c B G' A H2 σ ρ' ∧ Rep c G' v d ∧ After c B W G' A H2 σ (if isRcd d = true then (match F [d] with
    | .ret (.int n) _ => if 0 ≤ n ∧ n < 2 ^ 63 then .ok (.int n) ρ' else .stuck
    | _ => .stuck) else .stuck) fun d _ G' H' => ∀ v, Rep c G' v d → Q v H') I ?_) fun us s1 ⟨vs, H1, I1, r1, q1⟩ => ?_) hst hpl
  · exact ⟨G, A, ρ, R, a.split.imp fun d ρ1 G1 H1 _ _ R1 q v r => ⟨v, d, G1, ρ1, rfl, R1, r, q⟩⟩
  · obtain ⟨v, d, G', ρ', rfl, R', r, q⟩ := q1
    cases d <;> first | exact q.elim | skip
    rename_i ns ds
    have r0 := r
    cases r with
    | rcd h l rl =>
      rename_i x dx xs
      rw [show isRcd (D.rcd ns ds) = true from rfl, if_pos rfl] at q
      cases ef : F [.rcd ns ds] with
      | stuck => rw [ef] at q; exact q.elim
      | exc y outs => rw [ef] at q; exact q.elim
      | ret d0 outs =>
        rw [ef] at q
        cases d0 <;> first | exact q.elim | skip
        rename_i n
        have q : After c B W G' A H1 σ (if 0 ≤ n ∧ n < 2 ^ 63 then .ok (.int n) ρ' else .stuck) fun d _ G' H' => ∀ v, Rep c G' v d → Q v H' := q
        split at q
        · rename_i hn
          cases r1 with
          | cons rv rn =>
            cases rn
            obtain rfl : _ = Value.ref x := rv
            obtain ⟨mA, O, _⟩ := ins_get I1.hok (R'.same _ _ h)
            obtain ⟨od, J, _⟩ := ObjM.look O
            refine Calls.call_function_entry kind_len plain_len entry_len (args_len1 _) ?_
            unfold Builtin.«len»
            refine wpAny_bind (m := oneArg "len" _) (wpAny_pure ?_)
            refine wpAny_bind (m := callSpecial? (.ref x) (Str.ofString "__len__")) (PySem.W.special_fn I1.kIn J hs (beq_iff_eq.mp hf) ?_)
            have hsp : spM c [] 1 F [V.ref x] H1 (fun v H' => v = .int n ∧ Q v H') (fun cls d H => W cls d σ H) := by
              refine ⟨G', _, [.rcd ns ds], rfl, argsOk_rep R'.same (.cons r0 .nil), ?_⟩
              rw [ef]
              intro G2 H2 v r rv
              obtain ⟨s1, k1, R3⟩ := r.rel R'
              obtain rfl := rep_int rv
              exact ⟨rfl, q G2 H2 s1 k1 R3 _ (.int _)⟩
            refine wpAny_call (codeAny_mono (Fo.run X.A.in1 X.stack s1 H1 ⟨[.ref x], []⟩ [.ref x] [.ref x] _ (fun cls d H => W cls d σ H) hr.in1 I1.env0.in1 (hb s1 [.ref x] I1.kIn (Fo.len _ _ _ _ hsp)) (.cons rfl .nil) hsp) fun r s' hq => ?_)
            cases r with
            | error e => exact passAt tk σ pins H1 s1 e s' I1 hq
            | ok fl =>
              cases fl with
              | ret u =>
                obtain ⟨v, H2, I2, ru, ev, qv⟩ := I1.after hq
                subst ev
                obtain ⟨tk2, rfl⟩ := ru
                refine wpAny_bind (wpAny_holding (wpAny_pure ?_))
                refine wpAny_bind (wpAny_letGo ?_)
                show wpAny _ _ (if n < 0 then _ else _) _ _ _
                rw [if_neg (by omega)]
                show wpAny _ _ (if n ≥ 2 ^ 63 then _ else _) _ _ _
                rw [if_neg (by omega)]
                exact wpAny_bind (wpAny_mkInt (wpAny_pure ⟨_, rfl, V.int n, H2, I2.tok _, ⟨_, rfl⟩, qv⟩))
              | next => exact False.elim hq
              | brk => exact False.elim hq
              | cont => exact False.elim hq
        · exact q.elim
end
end Fx
set_option Elab.async false
set_option linter.all false
set_option maxRecDepth 100000
set_option maxHeartbeats 4000000
/-! Fx14: len(set(x)); dicts: by comprehension, read at a key; a new list handed in. -/
namespace Fx
open PySem L2
section
variable {c : Cf} {B : List (Nat × Addr)} {W : WX} {X : Cx} {G H : Hp} {A : Addr → Prop} {σ : L2.St} {ρ : Cells} {Z : Ends}
/-! ### len(set(x)) -/
def dedupI : List Int → List Int
  | [] => []
  | a :: l => if l.contains a = true then dedupI l else a :: dedupI l
theorem mem_dedupI {a : Int} : ∀ {l : List Int}, a ∈ dedupI l ↔ a ∈ l
  | [] => Iff.rfl
  | b :: l => by
    unfold dedupI
    split
    · rename_i h
      have h : b ∈ l := by simpa using h
      rw [mem_dedupI]
      constructor
      · exact List.mem_cons_of_mem _
      · intro z
        rcases List.mem_cons.mp z with e | e
        · subst e; exact h
        · exact e
    · rw [List.mem_cons, List.mem_cons, mem_dedupI]
theorem nodup_dedupI : ∀ l : List Int, (dedupI l).Nodup
  | [] => List.nodup_nil
  | b :: l => by
    unfold dedupI
    split
    · exact nodup_dedupI l
    · rename_i h
      exact List.nodup_cons.mpr ⟨fun z => h (by simpa using mem_dedupI.mp z), nodup_dedupI l⟩
theorem len_sub : ∀ {l m : List Int}, l.Nodup → (∀ x ∈ l, x ∈ m) → l.length ≤ m.length
  | [], _, _, _ => Nat.zero_le _
  | a :: l, m, nd, h => by
    obtain ⟨h1, h2⟩ := List.nodup_cons.mp nd
    have ha := h a List.mem_cons_self
    have q := len_sub (l := l) (m := m.erase a) h2 fun x hx => (List.mem_erase_of_ne (fun e => h1 (by rw [← e]; exact hx))).mpr (h x (List.mem_cons_of_mem _ hx))
    rw [List.length_erase_of_mem ha] at q
    have := List.length_pos_of_mem ha
    rw [List.length_cons]
    omega
def sLenSet : D → Option D
  | .tup ds => (intsOf ds).bind fun is => if is.length ≤ 4000 then some (.int (dedupI is).length) else none
  | _ => none
def mLenSet (fe : M D) : M D := fe.bind fun d => M.lift (sLenSet d)
theorem pm_lenSet {a : Expr} {f : M D} {p p2 q pos : Pos} (hc : X.calm = true) (hm : X.mg "len" = none) (hm2 : X.mg "set" = none) (ha : PE X a (tM c B W f)) (hK : c.K = X.K) (hg : Gl X "len" := by rfl) (hg2 : Gl X "set" := by rfl)
    (na : starEach [a] X.env = (false, eval a X.env) :: starEach [] X.env := by rfl) : PE X (.Call (.Name "len" p) [.Call (.Name "set" p2) [a] [] q] [] pos) (tM c B W (mLenSet f)) := by
  refine ⟨fun pins s σ H Q I ⟨G, A, ρ, R, h⟩ => ?_⟩
  refine PyProof.Rows.Call_ (ld_blt I hg hm boot_len ?_)
  refine PyProof.Rows.callWith_builtin1 (PyProof.Rows.args_cons ?_ rfl) rfl rfl
  refine PyProof.Rows.Call_ (ld_blt I hg2 hm2 PyProof.Rows.boot_set ?_)
  refine PyProof.Rows.callWith_type1 (PyProof.Rows.args_cons (thn (ha.run pins s σ H (fun x H2 => ∃ d G' ρ', Rel c B G' A H2 σ ρ' ∧ Rep c G' x d ∧ After c B W G' A H2 σ (M.lift (sLenSet d) ρ') fun d _ G' H' => ∀ v, Rep c G' v d → Q v H') I ?_) fun v s1 ⟨x, H1, I1, r1, q1⟩ => PyProof.Rows.args_nil ?_) na) na rfl
  · exact ⟨G, A, ρ, R, h.split.imp fun d ρ1 G1 H1 _ _ R1 q v r => ⟨d, G1, ρ1, R1, r, q⟩⟩
  · obtain ⟨d, G', ρ', R', r, q⟩ := q1
    obtain ⟨e, he, q⟩ := q.lift R'
    cases d <;> first | (cases he; done) | skip
    rename_i ds
    have he : ((intsOf ds).bind fun is => if is.length ≤ 4000 then some (D.int (dedupI is).length) else none) = some e := he
    cases hi : intsOf ds with
    | none => rw [hi] at he; cases he
    | some ns =>
      rw [hi] at he
      have he : (if ns.length ≤ 4000 then some (D.int (dedupI ns).length) else none) = some e := he
      split at he
      · rename_i hl4
        cases he
        cases r with
        | tup h1 rl =>
          rename_i l xs
          have ex := repI rl hi
          subst ex
          cases r1
          have hS : SqT X.K H1 l (ns.map V.int) := by rw [← hK]; exact (h1.mono R'.same).sq
          obtain ⟨its, rv, pl, hz⟩ := I1.tuple hS
          have hii : PyProof.Rows.IntsAre its.toArray.toList ns := ints_of_vals rv
          refine call_set_tupI ns (I1.ok.hd hc) (show s1.heap.IsTuple l its.toArray from pl) hii (by unfold scanBound; omega) fun h' tk c0 R1 hcn hk => ?_
          refine PyProof.Rows.args_nil ?_
          obtain ⟨o, es, ep, t, ho, hex, hd, g, nd, hm3, hb, hf, hn, _⟩ := R1
          have I2 : Inv X pins σ H1 { s1 with heap := h', toks := tk } := I1.kept fun b o e => hk b o e
          have el : es.size = (dedupI ns).length := by
            have e1 : es.size = (es.toList.map keyOf).length := by simp
            rw [e1]
            have m1 : ∀ k, k ∈ es.toList.map keyOf ↔ k ∈ dedupI ns := fun k => by rw [mem_dedupI, ← hm3 k, decide_eq_true_eq]
            exact Nat.le_antisymm (len_sub nd fun x hx => (m1 x).mp hx) (len_sub (nodup_dedupI ns) fun x hx => (m1 x).mpr hx)
          refine call_len_set ho hex hd hf (by rw [hn]; omega) ⟨.int es.size, H1, I2.tok _, ⟨_, rfl⟩, ?_⟩
          rw [el]
          exact q _ (.int _)
      · cases he
/-! ### dicts -/
def keyD : D → Option Key
  | .int i => some (.inl i)
  | .str x => some (.inr x)
  | _ => none
theorem rep_key {v : V} {d : D} {k : Key} (r : Rep c G v d) (h : keyD d = some k) : v = kV k := by
  cases r <;> cases h <;> rfl
def valD (ks : List Key) (ds : List D) (k : Key) : Option D := ((ks.zip ds).find? fun p => decide (p.1 = k)).map (·.2)
theorem rep_val {k : Key} {d : D} : ∀ {ks : List Key} {vs : List V} {ds : List D}, RepL c G vs ds → ks.length = vs.length → valD ks ds k = some d → ∃ v, valV (ks.zip vs) k = some v ∧ Rep c G v d
  | [], _, _, _, _, h => by simp [valD] at h
  | k' :: ks, [], _, _, hl, _ => by cases hl
  | k' :: ks, v :: vs, e :: ds, .cons r t, hl, h => by
    unfold valD at h
    unfold valV
    rw [List.zip_cons_cons, List.find?_cons] at h ⊢
    by_cases hk : k' = k
    · simp only [hk, decide_true, Option.map_some] at h ⊢
      cases h
      exact ⟨v, rfl, r⟩
    · simp only [hk, decide_false] at h ⊢
      exact rep_val t (by simpa using hl) h
def rDix : R2 := fun x y H Q => ∃ a v, x = .ref a ∧ DGet H a y (some v) ∧ Q v H
def sDix : D → D → Option D
  | .dic ks ds, k => (keyD k).bind (valD ks ds)
  | _, _ => none
theorem Opr.dic {v : V} {ks : List Key} {ds : List D} (s : Same G H) (h : Opr c G H v (.dic ks ds)) : ∃ p xs, v = .ref p ∧ Rd H p (.dK (ks.zip xs)) ∧ ks.length = xs.length ∧ RepL c G xs ds := by
  rcases h with h | ⟨p, rfl, xs, h1, h2, h3⟩
  · cases h with
    | dic h1 h2 h3 => exact ⟨_, _, rfl, same_rd s h1, h2, h3⟩
  · exact ⟨p, xs, rfl, .inl h1, h2, h3⟩
theorem Opr.key {x : V} {d : D} {k : Key} (a : Opr c G H x d) (h : keyD d = some k) : x = kV k := by
  refine rep_key (a.rep fun o z => ?_) h
  cases d <;> first | exact z.elim | cases h
theorem semDix : Sem2 c rDix sDix := fun G H x y d1 d2 d Q s a b e k => by
  cases d1 <;> first | (cases e; done) | skip
  rename_i ks ds
  have e : ((keyD d2).bind (valD ks ds)) = some d := e
  cases hk : keyD d2 with
  | none => rw [hk] at e; cases e
  | some kk =>
    rw [hk] at e
    obtain ⟨p, xs, rfl, h1, h2, h3⟩ := a.dic s
    obtain ⟨v, h4, h5⟩ := rep_val h3 h2 e
    have := b.key hk
    subst this
    exact ⟨p, v, rfl, .inl ⟨_, kk, h1, rfl, h4.symm⟩, k.flat s h5⟩
theorem pe_dix {o i : Expr} {td ty : TE} {pos : Pos} (hu : X.A.units + 1 < cLine) (ho : PE X o td) (hi : PE X i ty) (hs : NoSl i := by intro _ _; rfl) : PE X (.Subscript o i pos) (tOp rDix td ty) := pe_imp (pe_dget hu ho hi hs) fun σ H Q h => h
def dcM (g : TgM) (tt : M Bool) (fk fe : M D) (vs : List Nat) : List D → List Key → Cells → Option ((List Key × List D) × Cells)
  | [], _, ρ => some (([], []), ρ)
  | d :: ds, ks, ρ => match g d (wipeC ρ vs) with
    | none => none
    | some ρ1 => match tt ρ1 with
      | .ok b ρ2 => if b = true then (match fk ρ2 with
        | .ok kd ρ3 => match keyD kd with
          | none => none
          | some k => match fe ρ3 with
            | .ok e ρ4 => if (ks.any fun x => decide (x = k)) = true then none else (dcM g tt fk fe vs ds (ks ++ [k]) ρ4).map fun r => ((k :: r.1.1, e :: r.1.2), r.2)
            | _ => none
        | _ => none) else dcM g tt fk fe vs ds ks ρ2
      | _ => none
def mDc (fi : M (List D)) (g : TgM) (tt : M Bool) (fk fe : M D) (vs : List Nat) : M D := fi.bind fun ds => fun ρ => if vs.all (fun v => !isOwn ρ[v]?) = true then (match dcM g tt fk fe vs ds [] ρ with
  | some (r, ρ') => .ok (.dic r.1 r.2) (unwipe ρ ρ' vs)
  | none => .stuck) else .stuck
theorem putK_fresh {ks : List Key} {xs : List V} {k : Key} {v : V} (hl : ks.length = xs.length) (hn : ¬ (ks.any fun x => decide (x = k)) = true) : putK (ks.zip xs) k v = (ks ++ [k]).zip (xs ++ [v]) := by
  unfold putK
  rw [if_neg ?_]
  · rw [List.zip_append hl]; rfl
  · intro z
    obtain ⟨p, hp, e⟩ := List.any_eq_true.mp z
    have e : p.1 = k := of_decide_eq_true e
    exact hn (List.any_eq_true.mpr ⟨p.1, (List.of_mem_zip hp).1, decide_eq_true e⟩)
theorem dc_read {fi : M (List D)} {P : VP} {ts vs : List Nat} {g : TgM} {tt : M Bool} {fk fe : M D} {Q : VK} (ht : ts.all (fun t => vs.contains t) = true) (hB : B.all (fun q => !vs.contains q.1) = true) (h : tF c B W (mDc fi g tt fk fe vs) σ H Q) :
    tDc (tI c B W P fi) (tG c B P ts g) (tT c B W0 tt) (tM c B W0 fk) (tM c B W0 fe) vs σ H Q := by
  have ht' : ∀ t ∈ ts, t ∈ vs := fun t h => by
    have := List.all_eq_true.mp ht t h
    simpa using this
  obtain ⟨G, A, ρ, R, a⟩ := h
  refine ⟨G, A, ρ, R, a.split.imp fun ds ρ1 G1 H1 _ _ R1 a1 J okJ D hD => ?_⟩
  have a1 : After c B W G1 A H1 σ (if vs.all (fun v => !isOwn ρ1[v]?) = true then (match dcM g tt fk fe vs ds [] ρ1 with | some (r, ρ') => Out.ok (Fx.D.dic r.1 r.2) (Fx.unwipe ρ1 ρ' vs) | none => .stuck) else .stuck) _ := a1
  cases hv : vs.all (fun v => !isOwn ρ1[v]?) with
  | false =>
    rw [if_neg (by rw [hv]; exact Bool.false_ne_true)] at a1
    exact a1.elim
  | true =>
    rw [if_pos hv] at a1
    cases hl : dcM g tt fk fe vs ds [] ρ1 with
    | none => rw [hl] at a1; exact a1.elim
    | some r =>
      obtain ⟨⟨kf, es⟩, ρe⟩ := r
      rw [hl] at a1
      have gD : G1 D = none := R1.same.free hD
      have nD : ¬ A D := fun z => by obtain ⟨_, o, q⟩ := R1.ownA D z; rw [hD] at q; cases q
      refine ⟨fun i n H2 => n = ds.length - i ∧ i ≤ ds.length ∧ ∃ G2 ρ2 acc ks1 ks2 es1 es2, Same G1 G2 ∧ G2 D = none ∧ Keep A G1 H1 G2 H2 ∧ Rel c B G2 A H2 (L2.wipe σ vs) (wipeC ρ2 vs) ∧ H2 D = some (.dK (ks1.zip acc)) ∧ ks1.length = acc.length ∧ RepL c G2 acc es1 ∧ acc.length ≤ i ∧
        dcM g tt fk fe vs (ds.drop i) ks1 ρ2 = some ((ks2, es2), ρe) ∧ ks1 ++ ks2 = kf ∧ es1 ++ es2 = es, ⟨_, rfl, Nat.zero_le _, G1, ρ1, [], [], kf, [], es, Same.refl _, gD, fun b o e n => ⟨by rw [upd_ne (ne_of_none e hD)]; exact e, rfl⟩, (R1.other gD nD fun b hb => upd_ne hb).wipe hB, upd_same, rfl, .nil, Nat.le_refl _, hl, rfl, rfl⟩, ?_⟩
      rintro i n H2 ⟨rfl, hi, G2, ρ2, acc, ks1, ks2, es1, es2, s2, g2, k2, R2, hacc, hkl, racc, hlen, hlc, hks, hes⟩
      by_cases hlt : i < ds.length
      · refine .inr ⟨okJ.go i H2 hlt (s2.trans R2.same), fun H' => ∃ G2 ρ2 acc ks1 ks2 es1 es2, Same G1 G2 ∧ G2 D = none ∧ Keep A G1 H1 G2 H' ∧ Rel c B G2 A H' (L2.wipe σ vs) (wipeC ρ2 vs) ∧ H' D = some (.dK (ks1.zip acc)) ∧ ks1.length = acc.length ∧ RepL c G2 acc es1 ∧ acc.length ≤ i + 1 ∧
          dcM g tt fk fe vs (ds.drop (i + 1)) ks1 ρ2 = some ((ks2, es2), ρe) ∧ ks1 ++ ks2 = kf ∧ es1 ++ es2 = es, fun H' q => ⟨_, by omega, rfl, hlt, q⟩, fun x H3 hy => ?_⟩
        obtain ⟨G3, d, e1, x3, pr⟩ := okJ.yld i G2 H2 x H3 hlt s2 R2.same hy
        have R3 := R2.ext x3
        have hacc3 := x3.hh D _ hacc
        have g3 : G3 D = none := (x3.new D _ hacc).trans g2
        have k3 : Keep A G1 H1 G3 H3 := k2.trans x3.keep
        have ed : ds.drop i = d :: ds.drop (i + 1) := by
          rw [List.drop_eq_getElem_cons hlt]
          congr 1
          rw [List.getElem?_eq_getElem hlt] at e1
          exact Option.some.inj e1
        rw [ed] at hlc
        unfold dcM at hlc
        cases eg : g d (wipeC ρ2 vs) with
        | none => rw [eg] at hlc; cases hlc
        | some ρ3 =>
          rw [eg] at hlc
          refine ⟨G3, A, _, d, ρ3, R3, pr, eg, fun σ4 R4 o4 => ⟨wipe_only o4 ht', G3, A, ρ3, R4, ?_⟩⟩
          have ew := wipe_only o4 ht'
          cases et : tt ρ3 with
          | stuck => simp only [et] at hlc; cases hlc
          | exc x r => simp only [et] at hlc; cases hlc
          | ok b ρ4 =>
            simp only [et] at hlc
            intro G4 H4 s4 k4 R5
            have hacc4 := k4 D _ hacc3 nD
            refine ite_prop (fun eb => ?_) (fun eb => ?_)
            · rw [if_pos eb] at hlc
              refine ⟨G4, A, ρ4, R5, ?_⟩
              cases ek : fk ρ4 with
              | stuck => simp only [ek] at hlc; cases hlc
              | exc x r => simp only [ek] at hlc; cases hlc
              | ok kd ρ4' =>
                simp only [ek] at hlc
                intro G4' H4' s4' k4' R5' y ry
                have hacc4' := k4' D _ hacc4.1 nD
                cases hkd : keyD kd with
                | none => simp only [hkd] at hlc; cases hlc
                | some k =>
                  simp only [hkd] at hlc
                  have ey := rep_key ry hkd
                  subst ey
                  refine ⟨G4', A, ρ4', R5', ?_⟩
                  cases ef : fe ρ4' with
                  | stuck => simp only [ef] at hlc; cases hlc
                  | exc x r => simp only [ef] at hlc; cases hlc
                  | ok e ρ5 =>
                    simp only [ef] at hlc
                    intro G5 H5 s5 k5 R6 v rv
                    have hacc5 := k5 D _ hacc4'.1 nD
                    by_cases hct : (ks1.any fun x => decide (x = k)) = true
                    · rw [if_pos hct] at hlc; cases hlc
                    · rw [if_neg hct] at hlc
                      cases er : dcM g tt fk fe vs (ds.drop (i + 1)) (ks1 ++ [k]) ρ5 with
                      | none => rw [er] at hlc; cases hlc
                      | some r =>
                        obtain ⟨⟨ks3, es3⟩, ρe'⟩ := r
                        rw [er] at hlc
                        have hlc' : some ((k :: ks3, e :: es3), ρe') = some ((ks2, es2), ρe) := hlc
                        cases hlc'
                        have g5 : G5 D = none := hacc5.2.trans (hacc4'.2.trans (hacc4.2.trans g3))
                        have hsl := okJ.len
                        have sg : Same G2 G5 := x3.gg.trans (s4.trans (s4'.trans s5))
                        refine ⟨ks1.zip acc, k, rfl, hacc5.1, by rw [List.length_zip]; omega, G5, ρ5, acc ++ [v], ks1 ++ [k], ks3, es1 ++ [e], es3, s2.trans sg, g5, ?_, ?_, ?_, by simp [hkl], (racc.mono sg).append (.one rv), by rw [List.length_append]; simp; exact hlen, er, by rw [List.append_assoc]; exact hks, by rw [List.append_assoc]; exact hes⟩
                        · intro b o hb hn
                          have q := (k3.trans (k4.trans (k4'.trans k5))) b o hb hn
                          exact ⟨by rw [upd_ne (ne_of_none hb hD)]; exact q.1, q.2⟩
                        · rw [← ew]
                          exact (R6.other g5 nD fun b hb => upd_ne hb).wipe hB
                        · rw [upd_same, putK_fresh hkl hct]
            · rw [if_neg (by rw [eb]; exact Bool.false_ne_true)] at hlc
              refine ⟨G4, ρ4, acc, ks1, ks2, es1, es2, s2.trans (x3.gg.trans s4), hacc4.2.trans g3, k3.trans k4, ?_, hacc4.1, hkl, racc.mono (x3.gg.trans s4), by omega, hlc, hks, hes⟩
              rw [← ew]
              exact R5.wipe hB
      · have ei : i = ds.length := by omega
        subst ei
        rw [List.drop_length] at hlc
        cases hlc
        rw [List.append_nil] at hes hks
        subst hes
        subst hks
        have R3 : Rel c B G2 A (fun b => if b = D then none else H2 b) (L2.wipe σ vs) (wipeC ρe vs) := R2.other g2 nD fun b hb => if_neg hb
        have R4 := R1.unwipe s2 hv hB R3
        refine .inl ⟨okJ.stop H2 (s2.trans R2.same), a1 G2 _ s2 (fun b o hb hn => ?_) R4 D H2 (if_pos rfl) (fun b o hb => ?_) ⟨acc, hacc, hkl, racc⟩⟩
        · have q := k2 b o hb hn
          exact ⟨by show (if b = D then none else H2 b) = some o; rw [if_neg (ne_of_none hb hD)]; exact q.1, q.2⟩
        · have hb : (if b = D then none else H2 b) = some o := hb
          by_cases z : b = D
          · rw [if_pos z] at hb; cases hb
          · rw [if_neg z] at hb; exact hb
end
end Fx
set_option Elab.async false
set_option linter.all false
set_option maxRecDepth 100000
set_option maxHeartbeats 4000000
/-! Fx15: dict comprehensions as statements, a new list handed in, callees by name. -/
namespace Fx
open PySem L2
section
variable {c : Cf} {B : List (Nat × Addr)} {W : WX} {X : Cx} {G H : Hp} {A : Addr → Prop} {σ : L2.St} {ρ : Cells} {Z : Ends}
theorem pf_dc {kx vx tg iter : Expr} {ifs : List Expr} {scope : Scope} (own : List (Str × Nat)) {pos : Pos} {fi : M (List D)} {P : VP} {ts : List Nat} {g : TgM} {tt : M Bool} {fk fe : M D} (hc : X.calm = true) (hN : X.N.Nodup) (hi : PI X tg iter (tI c B W P fi)) (ok : BlkOk X.N X.env.scope scope own)
    (ht : ts.all (fun t => (own.map (·.2)).contains t) = true) (hB : B.all (fun q => !(own.map (·.2)).contains q.1) = true)
    (hg : ∀ (s : Shared) (H : Hp) (C : Addr) (cl : List (Str × Addr)) (fp : List Addr), PG (X.blk s H scope (compEnvC scope cl C X.env) fp) tg (tG c B P ts g)) (htt : ∀ (s : Shared) (H : Hp) (C : Addr) (cl : List (Str × Addr)) (fp : List Addr), PTs (X.blk s H scope (compEnvC scope cl C X.env) fp) ifs (tT c B W0 tt))
    (hk : ∀ (s : Shared) (H : Hp) (C : Addr) (cl : List (Str × Addr)) (fp : List Addr), PE (X.blk s H scope (compEnvC scope cl C X.env) fp) kx (tM c B W0 fk))
    (he : ∀ (s : Shared) (H : Hp) (C : Addr) (cl : List (Str × Addr)) (fp : List Addr), PE (X.blk s H scope (compEnvC scope cl C X.env) fp) vx (tM c B W0 fe)) (hs : ∀ x, foldedSetIterable iter X.env x = pure x := by intro _; rfl) :
    PE X (.DictComp kx vx [⟨tg, iter, ifs, 0⟩] scope pos) (tF c B W (mDc fi g tt fk fe (own.map (·.2)))) :=
  pe_imp (pe_dc hc hN hi ok hg htt hk he hs) fun σ H Q h => dc_read ht hB h
theorem ps_setDc {i : Nat} {y : Str} {py : Pos} {kx vx tg iter : Expr} {ifs : List Expr} {scope : Scope} {own : List (Str × Nat)} {pos spos : Pos} {wi : TI} {g : TG} {tt : TT} {tk tv : TE} (hc : X.calm = true) (hN : X.N.Nodup) (hy : X.N[i]? = some y) (hyl : X.env.scope.names.lookup y = some .local)
    (hsw : swapsWith (.DictComp kx vx [⟨tg, iter, ifs, 0⟩] scope pos) (some (.Name y py)) spos.line X.env = pure true) (hi : PI X tg iter wi) (ok : BlkOk X.N X.env.scope scope own)
    (hg : ∀ (s : Shared) (H : Hp) (C : Addr) (cl : List (Str × Addr)) (fp : List Addr), PG (X.blk s H scope (compEnvC scope cl C X.env) fp) tg g) (ht : ∀ (s : Shared) (H : Hp) (C : Addr) (cl : List (Str × Addr)) (fp : List Addr), PTs (X.blk s H scope (compEnvC scope cl C X.env) fp) ifs tt)
    (hk : ∀ (s : Shared) (H : Hp) (C : Addr) (cl : List (Str × Addr)) (fp : List Addr), PE (X.blk s H scope (compEnvC scope cl C X.env) fp) kx tk)
    (he : ∀ (s : Shared) (H : Hp) (C : Addr) (cl : List (Str × Addr)) (fp : List Addr), PE (X.blk s H scope (compEnvC scope cl C X.env) fp) vx tv) (hs : ∀ x, foldedSetIterable iter X.env x = pure x := by intro _; rfl) :
    PS X (.Assign [.Name y py] (.DictComp kx vx [⟨tg, iter, ifs, 0⟩] scope pos) spos) (tAsg (tDc wi g tt tk tv (own.map (·.2))) (gName i)) := by
  refine ⟨fun pins s σ H D I h => ?_⟩
  rw [exec_Assign_Name_used _ _ _ _ hsw]
  refine wpAny_bind (wpAny_standAt (wpAny_bind ?_))
  show wpAny _ X.A (do let _ ← comprehension (.DictComp kx vx [⟨tg, iter, ifs, 0⟩] scope pos) scope X.env (firstIterPos [⟨tg, iter, ifs, 0⟩] pos) newDict false (eval iter X.env) (some (assign (.Name y py) X.env))) _ _ s
  have h : tDc wi g tt tk tv (own.map (·.2)) σ H (fun x H1 => gName i x σ H1 D.nx) := h
  refine wpAny_bind (thn (dc_core (Qf := fun _ s' => SP X pins D .next s') hc hN I hi ok hg ht hk he hs h fun L C s' m H' I' q hn f => ?_) fun _ s' hq => wpAny_pure (wpAny_pure hq))
  show wpAny _ _ (assign (.Name y py) X.env (.ref L)) _ _ _
  refine wpAny_assign_Name (store_ok2 (v := V.ref L) I' hN hy (.inl hyl) rfl (fun s2 I2 ⟨a, sb, ha⟩ => ?_) (.inr hyl))
  obtain ⟨f0, f1, f2, f3, f4, f5⟩ := f
  have haC : C ≠ a := by
    rcases ha with z | z
    · rw [z]; exact f1
    · exact fun e => f4 y a z e.symm
  refine ⟨m, hn.sameBut sb haC, fun h3 sb3 => ?_⟩
  exact ⟨_, H', I2.turned (t' := s2.toks) (fun b o hb e => (sb3.2 b hb).trans e) f0 f1 f3 f4 f5, q⟩
theorem ps_asgDc (i : Nat) {y : Str} {py : Pos} {kx vx tg iter : Expr} {ifs : List Expr} {scope : Scope} (own : List (Str × Nat)) {pos spos : Pos} {fi : M (List D)} {P : VP} {ts : List Nat} {g : TgM} {tt : M Bool} {fk fe : M D} (hc : X.calm = true) (hN : X.N.Nodup) (hy : X.N[i]? = some y) (hyl : X.env.scope.names.lookup y = some .local)
    (hsw : swapsWith (.DictComp kx vx [⟨tg, iter, ifs, 0⟩] scope pos) (some (.Name y py)) spos.line X.env = pure true) (hb : B.all (fun q => q.1 != i) = true) (hi : PI X tg iter (tI c B W P fi)) (ok : BlkOk X.N X.env.scope scope own)
    (ht : ts.all (fun t => (own.map (·.2)).contains t) = true) (hB : B.all (fun q => !(own.map (·.2)).contains q.1) = true)
    (hg : ∀ (s : Shared) (H : Hp) (C : Addr) (cl : List (Str × Addr)) (fp : List Addr), PG (X.blk s H scope (compEnvC scope cl C X.env) fp) tg (tG c B P ts g)) (htt : ∀ (s : Shared) (H : Hp) (C : Addr) (cl : List (Str × Addr)) (fp : List Addr), PTs (X.blk s H scope (compEnvC scope cl C X.env) fp) ifs (tT c B W0 tt))
    (hk : ∀ (s : Shared) (H : Hp) (C : Addr) (cl : List (Str × Addr)) (fp : List Addr), PE (X.blk s H scope (compEnvC scope cl C X.env) fp) kx (tM c B W0 fk))
    (he : ∀ (s : Shared) (H : Hp) (C : Addr) (cl : List (Str × Addr)) (fp : List Addr), PE (X.blk s H scope (compEnvC scope cl C X.env) fp) vx (tM c B W0 fe)) (hs : ∀ x, foldedSetIterable iter X.env x = pure x := by intro _; rfl) :
    PS X (.Assign [.Name y py] (.DictComp kx vx [⟨tg, iter, ifs, 0⟩] scope pos) spos) (tS c B W (mAsg (mDc fi g tt fk fe (own.map (·.2))) (gNm i))) :=
  ps_imp (ps_setDc hc hN hy hyl hsw hi ok hg htt hk he hs) fun Z σ H ⟨G, A, ρ, R, a⟩ => by
    refine dc_read (W := W) ht hB ⟨G, A, ρ, R, (a.split R).imp fun d ρ' G' H' _ _ R' q p H2 hp hh ho => ?_⟩
    obtain ⟨G2, x2, r2⟩ := ext_own R'.same hp hh ho
    exact AfterS.nx (AfterS.of R'.own_there (Stp.same x2.gg x2.keep) q) ((R'.ext x2).setDat r2 hb)
/-! ### f([..], e, ..): a new list by reference, dropped behind the call -/
def mCallN (F : Fn) (f : M D) (fs : List (M D)) : M D := f.bind fun d => (seqM fs).bind fun ds ρ => match F (d :: ds) with
  | .stuck => .stuck
  | .ret e _ => .ok e ρ
  | .exc x _ => .exc x ρ
theorem pm_callN {F : Fn} {g : M D} {fs : List (M D)} {k n : Nat} {f : Addr} {fd : FuncData} {ps : List Str} {x : Str} {p pos : Pos} {e : Expr} {es : List Expr}
    (Fo : FnOk X.prog X.w X.K X.mg X.base (L2.CX X.prog X.w) k f fd ps (spM c [0] n F)) (hr : Room k X.A) (tk : Takes X W) (hm : X.mg x = some (.ref f)) (hk : PySem.W.keepIn X.K (.ref f) = true) (hb : Binds X.K fd ps [])
    (he0 : PE X e (tF c B W g)) (ha : PA X es (tD c B W fs)) (hn : fs.length + 1 = n := by rfl) (hg : Gl X x := by rfl) (hdb : (x == ("__debug__" : Str)) = false := by decide)
    (he : starEach (e :: es) X.env = (false, eval e X.env) :: starEach es X.env := by rfl) (hpl : (backTo pos (starEach es X.env)).any (·.1) = false := by rfl) :
    PE X (.Call (.Name x p) (e :: es) [] pos) (tM c B W (mCallN F g fs)) :=
  pe_imp (pe_callSD Fo hr hg hm hk hb .nil (fun σ => passAt tk σ) (pa_cons he0 ha he) hdb he hpl) fun σ H Q ⟨G, A, ρ, R, a⟩ => by
    refine ⟨G, A, ρ, R, a.split.imp fun d ρ1 G1 H1 _ _ R1 a1 p0 H2 hp hh ho => ?_⟩
    have R2 : Rel c B G1 A H2 σ ρ1 := R1.ext ⟨Same.refl _, hh, R1.same.trans hh, fun _ _ _ => rfl⟩
    refine ⟨G1, A, ρ1, R2, ?_⟩
    have a2 := a1.split.len
    have np : ¬ A p0 := fun z => by obtain ⟨_, o, q⟩ := R1.ownA p0 z; rw [hp] at q; cases q
    have gp : G1 p0 = none := R1.same.free hp
    obtain ⟨o0, ho0⟩ := ho.some
    cases es' : seqM fs ρ1 with
    | stuck => rw [es'] at a2; exact a2.elim
    | exc y ρ3 =>
      rw [es'] at a2
      exact After.of (Same.refl _) (fun b o e _ => ⟨hh b o e, rfl⟩) (show After c B W G1 A H1 σ (.exc y ρ3) _ from a2)
    | ok ds ρ3 =>
      rw [es'] at a2
      intro G3 H3 s3 k3 R3 vs rv
      have hp3 := k3 p0 o0 ho0 np
      have g3 : G3 p0 = none := hp3.2.trans gp
      have R3' : Rel c B G3 A (fun b => if b = p0 then none else H3 b) σ ρ3 := R3.other g3 np fun b hb => if_neg hb
      obtain ⟨hl, q⟩ := a2 G3 _ s3 (fun b o hb hn => by
        have q := k3 b o (hh b o hb) hn
        exact ⟨by show (if b = p0 then none else H3 b) = some o; rw [if_neg (ne_of_none hb hp)]; exact q.1, q.2⟩) R3'
      simp only [List.append_nil]
      refine ⟨G3, fun b => b = p0, d :: ds, by rw [List.length_cons, hl]; exact hn, ⟨R3.same, fun b hb => by rw [hb]; exact ⟨g3, _, hp3.1⟩, by rw [List.length_cons, List.length_cons, rv.length], fun i d' hd hi => ?_, fun i d' hd hi => ?_, fun i j p hij hi hj => ?_⟩, ?_⟩
      · cases i with
        | zero => simp at hi
        | succ i =>
          obtain ⟨v, h1, h2⟩ := rv.get (i := i) (d := d') (by simpa using hd)
          exact ⟨v, by simpa using h1, h2⟩
      · have hi0 : i = 0 := by simpa using hi
        subst hi0
        have hd' : d = d' := by simpa using hd
        subst hd'
        refine ⟨p0, rfl, rfl, ?_⟩
        rw [hp3.1, ← ho0]
        exact ho.mono s3
      · have h1 : i = 0 := by simpa using hi
        have h2 : j = 0 := by simpa using hj
        exact absurd (h1.trans h2.symm) hij
      · have ext : ∀ {outs : List D} {G' H' : Hp}, Ret c [0] G3 (fun b => b = p0) H3 (V.ref p0 :: vs) outs G' H' → Ext G3 (fun b => if b = p0 then none else H3 b) G' H' := fun {outs G' H'} r =>
          ⟨r.gg, fun b o e => by
            by_cases z : b = p0
            · rw [if_pos z] at e; cases e
            · rw [if_neg z] at e; exact (r.kp b o e z).1, r.gh, fun b o e => by
            by_cases z : b = p0
            · rw [if_pos z] at e; cases e
            · rw [if_neg z] at e; exact (r.kp b o e z).2⟩
        have q : After c B W G3 A (fun b => if b = p0 then none else H3 b) σ (match F (d :: ds) with
          | .stuck => .stuck
          | .ret e _ => .ok e ρ3
          | .exc x _ => .exc x ρ3) (fun d _ G' H' => ∀ v, Rep c G' v d → Q v H') := q
        cases ef : F (d :: ds) with
        | stuck => rw [ef] at q; exact q.elim
        | ret e outs =>
          rw [ef] at q
          intro G' H' v r rv
          have ee := ext r
          exact q G' H' ee.gg ee.keep (R3'.ext ee) v rv
        | exc y outs =>
          rw [ef] at q
          intro G' H' dd r rx
          have ee := ext r
          exact q G' H' dd ee.gg ee.keep (R3'.ext ee) rx
end
/-! ### callees -/
section
variable {P : Program} {w : World} {K : PySem.W.Frag} {mg : Str → Option Value} {base : Heap} {c : Cf}
/-- the def that stands under the name nm -/
structure Cal (P : Program) (w : World) (K : PySem.W.Frag) (mg : Str → Option Value) (base : Heap) (c : Cf) (k : Nat) (nm : Str) (bs : List Nat) (n : Nat) (F : Fn) : Prop where
  ex : ∃ f fd ps, FnOk P w K mg base (L2.CX P w) k f fd ps (spM c bs n F) ∧ mg nm = some (.ref f) ∧ PySem.W.keepIn K (.ref f) = true ∧ Binds K fd ps []
theorem Cal.mono {k j : Nat} {nm : Str} {bs : List Nat} {n : Nat} {F : Fn} (h : Cal P w K mg base c k nm bs n F) (hk : k ≤ j) : Cal P w K mg base c j nm bs n F := by
  obtain ⟨f, fd, ps, h1, h2⟩ := h.ex
  exact ⟨f, fd, ps, h1.mono hk, h2⟩
/-- n parameters ahead, one by keyword alone, its default: () -/
structure CalK (P : Program) (w : World) (K : PySem.W.Frag) (mg : Str → Option Value) (base : Heap) (c : Cf) (k : Nat) (nm : Str) (n : Nat) (ky : Str) (F : Fn) : Prop where
  ex : ∃ f fd ps vds dvs, FnOk P w K mg base (L2.CX P w) k f fd ps (spM c [] (n + 1) F) ∧ mg nm = some (.ref f) ∧ PySem.W.keepIn K (.ref f) = true ∧ Binds K fd ps vds ∧ Vals dvs vds ∧ (∀ G, RepL c G dvs [.tup []]) ∧
    KBn K fd ps n [ky] (fun us ws => us ++ ws) (fun vs zs => vs ++ zs)
theorem CalK.mono {k j : Nat} {nm : Str} {n : Nat} {ky : Str} {F : Fn} (h : CalK P w K mg base c k nm n ky F) (hk : k ≤ j) : CalK P w K mg base c j nm n ky F := by
  obtain ⟨f, fd, ps, vds, dvs, h1, h2⟩ := h.ex
  exact ⟨f, fd, ps, vds, dvs, h1.mono hk, h2⟩
end
section
variable {c : Cf} {B : List (Nat × Addr)} {W : WX} {X : Cx}
theorem pm_cal {F : Fn} {os : List Opn} {k j n : Nat} {x : Str} {p pos : Pos} {e : Expr} {es : List Expr} (C : Cal X.prog X.w X.K X.mg X.base c j x (ownPos 0 os) n F) (hr : Room k X.A) (tk : Takes X W) (ha : PA X (e :: es) (tR c B W os)) (hj : j ≤ k := by decide)
    (nd : (ownSlots os).Nodup := by decide) (hn : os.length + 0 = n := by rfl) (hg : Gl X x := by rfl) (hdb : (x == ("__debug__" : Str)) = false := by decide)
    (he : starEach (e :: es) X.env = (false, eval e X.env) :: starEach es X.env := by rfl) (hpl : (backTo pos (starEach es X.env)).any (·.1) = false := by rfl) :
    PE X (.Call (.Name x p) (e :: es) [] pos) (tM c B W (mCallF F os)) := by
  obtain ⟨f, fd, ps, h1, h2, h3, h4⟩ := C.ex
  have q := pm_callF (p := p) (dds := []) h1 (hr.mono hj) tk h2 h3 h4 .nil (fun _ => .nil) ha nd hn hg hdb he hpl
  simp only [List.append_nil] at q
  exact q
theorem pm_calN {F : Fn} {g : M D} {fs : List (M D)} {k j n : Nat} {x : Str} {p pos : Pos} {e : Expr} {es : List Expr} (C : Cal X.prog X.w X.K X.mg X.base c j x [0] n F) (hr : Room k X.A) (tk : Takes X W) (he0 : PE X e (tF c B W g)) (ha : PA X es (tD c B W fs)) (hj : j ≤ k := by decide)
    (hn : fs.length + 1 = n := by rfl) (hg : Gl X x := by rfl) (hdb : (x == ("__debug__" : Str)) = false := by decide)
    (he : starEach (e :: es) X.env = (false, eval e X.env) :: starEach es X.env := by rfl) (hpl : (backTo pos (starEach es X.env)).any (·.1) = false := by rfl) :
    PE X (.Call (.Name x p) (e :: es) [] pos) (tM c B W (mCallN F g fs)) := by
  obtain ⟨f, fd, ps, h1, h2, h3, h4⟩ := C.ex
  exact pm_callN h1 (hr.mono hj) tk h2 h3 h4 he0 ha hn hg hdb he hpl
/-- the keyword left out -/
theorem pm_calD {F : Fn} {os : List Opn} {k j n : Nat} {x ky : Str} {p pos : Pos} {e : Expr} {es : List Expr} (C : CalK X.prog X.w X.K X.mg X.base c j x n ky F) (hr : Room k X.A) (tk : Takes X W) (ha : PA X (e :: es) (tR c B W os)) (hj : j ≤ k := by decide)
    (h0 : ownPos 0 os = [] := by rfl) (nd : (ownSlots os).Nodup := by decide) (hn : os.length + 1 = n + 1 := by rfl) (hg : Gl X x := by rfl) (hdb : (x == ("__debug__" : Str)) = false := by decide)
    (he : starEach (e :: es) X.env = (false, eval e X.env) :: starEach es X.env := by rfl) (hpl : (backTo pos (starEach es X.env)).any (·.1) = false := by rfl) :
    PE X (.Call (.Name x p) (e :: es) [] pos) (tM c B W (mCallF (fun ds => F (ds ++ [.tup []])) os)) := by
  obtain ⟨f, fd, ps, vds, dvs, h1, h2, h3, h4, h5, h6, h7⟩ := C.ex
  exact pm_callF (by rw [h0]; exact h1) (hr.mono hj) tk h2 h3 h4 h5 h6 ha nd hn hg hdb he hpl
theorem pm_calK {F : Fn} {fs : List (M D)} {g : M D} {k j n : Nat} {x ky : Str} {p pos kpos : Pos} {e a : Expr} {es : List Expr} (C : CalK X.prog X.w X.K X.mg X.base c j x n ky F) (hr : Room k X.A) (tk : Takes X W) (ha : PA X (e :: es) (tD c B W fs)) (hkw : PE X a (tM c B W g)) (hj : j ≤ k := by decide)
    (hn : fs.length = n := by rfl) (hg : Gl X x := by rfl) (hall : (backToKw pos (keywordEach [⟨some ky, a, kpos⟩] X.env)).all (·.1.isSome) = true := by rfl) (hks : (backToKw pos (keywordEach [⟨some ky, a, kpos⟩] X.env)).filterMap (·.1) = [ky] := by rfl)
    (hdb : (x == ("__debug__" : Str)) = false := by decide) (he : starEach (e :: es) X.env = (false, eval e X.env) :: starEach es X.env := by rfl)
    (hpl : ((backTo pos (starEach (e :: es) X.env)).any (·.1) || (backToKw pos (keywordEach [⟨some ky, a, kpos⟩] X.env)).any (·.1.isNone)) = false := by rfl) :
    PE X (.Call (.Name x p) (e :: es) [⟨some ky, a, kpos⟩] pos) (tM c B W (mCallK F (fun ds es => ds ++ es) fs [g])) := by
  obtain ⟨f, fd, ps, vds, dvs, h1, h2, h3, h4, h5, h6, h7⟩ := C.ex
  exact pm_callK h1 (hr.mono hj) tk h2 h3 h7 (fun G vs zs ds es l1 l2 r1 r2 => ⟨r1.append r2, by rw [List.length_append, ← r1.length, ← r2.length, l1, l2]; rfl⟩) ha (pkd_cons hkw pkd_nil) hn rfl hg hall hks hdb he hpl
end
end Fx
set_option Elab.async false
set_option linter.all false
set_option maxRecDepth 100000
set_option maxHeartbeats 4000000
/-! Fx16: the constructs by one name each, for the printer. -/
namespace Fx
open PySem L2
/-- the built-in names that the module has not bound -/
structure Blt (mg : Str → Option Value) : Prop where
  zlen : mg "len" = none
  ztuple : mg "tuple" = none
  zlist : mg "list" = none
  zint : mg "int" = none
  zsum : mg "sum" = none
  zall : mg "all" = none
  zmax : mg "max" = none
  zmin : mg "min" = none
  zsorted : mg "sorted" = none
  zisinstance : mg "isinstance" = none
  zenumerate : mg "enumerate" = none
  zrange : mg "range" = none
  zset : mg "set" = none
  zbool : mg "bool" = none
  zstr : mg "str" = none
section
variable {c : Cf} {B : List (Nat × Addr)} {W : WX} {X : Cx} {G H : Hp} {A : Addr → Prop} {σ : L2.St} {ρ : Cells} {Z : Ends}
theorem takes0 : Takes X W0 := fun u s' ⟨_, _, _, _, _, _, _, _, _, _, _, _, _, _, _, _, w⟩ => w.elim
theorem passE {E : XK} (tk : Takes X (fun cls d _ H => E cls d H)) : Passes (L2.CX X.prog X.w) X E := fun pins σ H s e s' I h => passAt tk σ pins H s e s' I h
/-! operators -/
theorem o_add {a b : Expr} {oa ob : Opn} {pos : Pos} (ha : PE X a (tO c B W oa)) (hb : PE X b (tO c B W ob)) (hK : c.K = X.K := by rfl) : PE X (.BinOp a .Add b pos) (tM c B W (mOp2 sAdd oa ob)) := pm_op semAdd (by rw [hK]; exact pe_op op_addA ha hb)
theorem o_sub {a b : Expr} {oa ob : Opn} {pos : Pos} (ha : PE X a (tO c B W oa)) (hb : PE X b (tO c B W ob)) : PE X (.BinOp a .Sub b pos) (tM c B W (mOp2 sSub oa ob)) := pm_op semSub (pe_op op_sub ha hb)
theorem o_mul {a b : Expr} {oa ob : Opn} {pos : Pos} (ha : PE X a (tO c B W oa)) (hb : PE X b (tO c B W ob)) : PE X (.BinOp a .Mult b pos) (tM c B W (mOp2 sMul oa ob)) := pm_op semMul (pe_op op_mul ha hb)
theorem o_fdiv {a b : Expr} {oa ob : Opn} {pos : Pos} (ha : PE X a (tO c B W oa)) (hb : PE X b (tO c B W ob)) : PE X (.BinOp a .FloorDiv b pos) (tM c B W (mOp2 sFdiv oa ob)) := pm_op semFdiv (pe_op op_fdivN ha hb)
theorem o_mod {a b : Expr} {oa ob : Opn} {pos : Pos} (ha : PE X a (tO c B W oa)) (hb : PE X b (tO c B W ob)) : PE X (.BinOp a .Mod b pos) (tM c B W (mOp2 sMod oa ob)) := pm_op semMod (pe_op op_modN ha hb)
theorem o_pow {a b : Expr} {oa ob : Opn} {pos : Pos} (ha : PE X a (tO c B W oa)) (hb : PE X b (tO c B W ob)) : PE X (.BinOp a .Pow b pos) (tM c B W (mOp2 sPow oa ob)) := pm_op semPow (pe_op op_pow ha hb)
theorem f_add {a b : Expr} {oa ob : Opn} {pos : Pos} (ha : PE X a (tO c B W oa)) (hb : PE X b (tO c B W ob)) (hK : c.K = X.K := by rfl) : PE X (.BinOp a .Add b pos) (tF c B W (mOp2 sAddL oa ob)) := pf_op semAddL (by rw [hK]; exact pe_op op_catR ha hb)
theorem f_mul {a b : Expr} {oa ob : Opn} {pos : Pos} (ha : PE X a (tO c B W oa)) (hb : PE X b (tO c B W ob)) (hK : c.K = X.K := by rfl) : PE X (.BinOp a .Mult b pos) (tF c B W (mOp2 sMulL oa ob)) := pf_op semMulL (by rw [hK]; exact pe_op op_repR ha hb)
/-! comparisons, as values -/
theorem o_lt {a b : Expr} {oa ob : Opn} {pos : Pos} (ha : PE X a (tO c B W oa)) (hb : PE X b (tO c B W ob)) : PE X (.Compare a [.Lt] [b] pos) (tM c B W (mOp2 sLt oa ob)) := pm_op semLt (pe_cmpR op_lt ha hb (nomark _))
theorem o_le {a b : Expr} {oa ob : Opn} {pos : Pos} (ha : PE X a (tO c B W oa)) (hb : PE X b (tO c B W ob)) : PE X (.Compare a [.LtE] [b] pos) (tM c B W (mOp2 sLe oa ob)) := pm_op semLe (pe_cmpR op_le ha hb (nomark _))
theorem o_gt {a b : Expr} {oa ob : Opn} {pos : Pos} (ha : PE X a (tO c B W oa)) (hb : PE X b (tO c B W ob)) : PE X (.Compare a [.Gt] [b] pos) (tM c B W (mOp2 sGt oa ob)) := pm_op semGt (pe_cmpR op_gt ha hb (nomark _))
theorem o_ge {a b : Expr} {oa ob : Opn} {pos : Pos} (ha : PE X a (tO c B W oa)) (hb : PE X b (tO c B W ob)) : PE X (.Compare a [.GtE] [b] pos) (tM c B W (mOp2 sGe oa ob)) := pm_op semGe (pe_cmpR op_ge ha hb (nomark _))
theorem o_eq {a b : Expr} {oa ob : Opn} {pos : Pos} (hu : X.A.units + 64 < cLine) (ha : PE X a (tO c B W oa)) (hb : PE X b (tO c B W ob)) (hK : c.K = X.K := by rfl) : PE X (.Compare a [.Eq] [b] pos) (tM c B W (mOp2 sEq oa ob)) := pm_op semEq (by rw [hK]; exact pe_cmpR (op_eqN hu) ha hb (nomark _))
theorem o_ne {a b : Expr} {oa ob : Opn} {pos : Pos} (hu : X.A.units + 64 < cLine) (ha : PE X a (tO c B W oa)) (hb : PE X b (tO c B W ob)) (hK : c.K = X.K := by rfl) : PE X (.Compare a [.NotEq] [b] pos) (tM c B W (mOp2 sNe oa ob)) := pm_op semNe (by rw [hK]; exact pe_cmpR (op_neN hu) ha hb (nomark _))
theorem o_in {a b : Expr} {oa ob : Opn} {pos : Pos} (hu : X.A.units + 64 < cLine) (ha : PE X a (tO c B W oa)) (hb : PE X b (tO c B W ob)) (hK : c.K = X.K := by rfl) (hm : behindInMarks .In b = false := by rfl) : PE X (.Compare a [.In] [b] pos) (tM c B W (mOp2 sIn oa ob)) := pm_op semIn (by rw [hK]; exact pe_cmpR (op_inN hu) ha hb hm)
theorem o_nin {a b : Expr} {oa ob : Opn} {pos : Pos} (hu : X.A.units + 64 < cLine) (ha : PE X a (tO c B W oa)) (hb : PE X b (tO c B W ob)) (hK : c.K = X.K := by rfl) (hm : behindInMarks .NotIn b = false := by rfl) : PE X (.Compare a [.NotIn] [b] pos) (tM c B W (mOp2 sNin oa ob)) := pm_op semNin (by rw [hK]; exact pe_cmpR (op_ninN hu) ha hb hm)
theorem o_is {a b : Expr} {oa ob : Opn} {pos : Pos} (ha : PE X a (tO c B W oa)) (hb : PE X b (tO c B W ob)) : PE X (.Compare a [.Is] [b] pos) (tM c B W (mOp2 sIsN oa ob)) := pm_op semIsN (pe_cmpR op_isN ha hb (nomark _))
theorem o_isn {a b : Expr} {oa ob : Opn} {pos : Pos} (ha : PE X a (tO c B W oa)) (hb : PE X b (tO c B W ob)) : PE X (.Compare a [.IsNot] [b] pos) (tM c B W (mOp2 sNotN oa ob)) := pm_op semNotN (pe_cmpR op_notN ha hb (nomark _))
theorem o_chlele {a b d : Expr} {oa ob od : Opn} {pos : Pos} (ha : PE X a (tO c B W oa)) (hb : PE X b (tO c B W ob)) (hd : PE X d (tO c B W od)) (hm : lastMarks [CmpOp.LtE, CmpOp.LtE] [b, d] = false := by with_unfolding_all rfl) : PE X (.Compare a [.LtE, .LtE] [b, d] pos) (tM c B W (mChain sLe sLe oa ob od)) := pm_chain semLe semLe (pe_chain op_le op_le ha hb hd hm)
/-! tests -/
theorem t_lt {a b : Expr} {oa ob : Opn} {pos : Pos} (ha : PE X a (tO c B W oa)) (hb : PE X b (tO c B W ob)) : PT X (.Compare a [.Lt] [b] pos) (tT c B W (mB (mOp2 sLt oa ob))) := pt_op semLt (pt_cmpR op_lt ha hb (nomark _))
theorem t_le {a b : Expr} {oa ob : Opn} {pos : Pos} (ha : PE X a (tO c B W oa)) (hb : PE X b (tO c B W ob)) : PT X (.Compare a [.LtE] [b] pos) (tT c B W (mB (mOp2 sLe oa ob))) := pt_op semLe (pt_cmpR op_le ha hb (nomark _))
theorem t_gt {a b : Expr} {oa ob : Opn} {pos : Pos} (ha : PE X a (tO c B W oa)) (hb : PE X b (tO c B W ob)) : PT X (.Compare a [.Gt] [b] pos) (tT c B W (mB (mOp2 sGt oa ob))) := pt_op semGt (pt_cmpR op_gt ha hb (nomark _))
theorem t_ge {a b : Expr} {oa ob : Opn} {pos : Pos} (ha : PE X a (tO c B W oa)) (hb : PE X b (tO c B W ob)) : PT X (.Compare a [.GtE] [b] pos) (tT c B W (mB (mOp2 sGe oa ob))) := pt_op semGe (pt_cmpR op_ge ha hb (nomark _))
theorem t_eq {a b : Expr} {oa ob : Opn} {pos : Pos} (hu : X.A.units + 64 < cLine) (ha : PE X a (tO c B W oa)) (hb : PE X b (tO c B W ob)) (hK : c.K = X.K := by rfl) : PT X (.Compare a [.Eq] [b] pos) (tT c B W (mB (mOp2 sEq oa ob))) := pt_op semEq (by rw [hK]; exact pt_cmpR (op_eqN hu) ha hb (nomark _))
theorem t_ne {a b : Expr} {oa ob : Opn} {pos : Pos} (hu : X.A.units + 64 < cLine) (ha : PE X a (tO c B W oa)) (hb : PE X b (tO c B W ob)) (hK : c.K = X.K := by rfl) : PT X (.Compare a [.NotEq] [b] pos) (tT c B W (mB (mOp2 sNe oa ob))) := pt_op semNe (by rw [hK]; exact pt_cmpR (op_neN hu) ha hb (nomark _))
theorem t_in {a b : Expr} {oa ob : Opn} {pos : Pos} (hu : X.A.units + 64 < cLine) (ha : PE X a (tO c B W oa)) (hb : PE X b (tO c B W ob)) (hK : c.K = X.K := by rfl) (hm : behindInMarks .In b = false := by rfl) : PT X (.Compare a [.In] [b] pos) (tT c B W (mB (mOp2 sIn oa ob))) := pt_op semIn (by rw [hK]; exact pt_cmpR (op_inN hu) ha hb hm)
theorem t_nin {a b : Expr} {oa ob : Opn} {pos : Pos} (hu : X.A.units + 64 < cLine) (ha : PE X a (tO c B W oa)) (hb : PE X b (tO c B W ob)) (hK : c.K = X.K := by rfl) (hm : behindInMarks .NotIn b = false := by rfl) : PT X (.Compare a [.NotIn] [b] pos) (tT c B W (mB (mOp2 sNin oa ob))) := pt_op semNin (by rw [hK]; exact pt_cmpR (op_ninN hu) ha hb hm)
theorem t_is {a b : Expr} {oa ob : Opn} {pos : Pos} (ha : PE X a (tO c B W oa)) (hb : PE X b (tO c B W ob)) : PT X (.Compare a [.Is] [b] pos) (tT c B W (mB (mOp2 sIsN oa ob))) := pt_op semIsN (pt_cmpR op_isN ha hb (nomark _))
theorem t_isn {a b : Expr} {oa ob : Opn} {pos : Pos} (ha : PE X a (tO c B W oa)) (hb : PE X b (tO c B W ob)) : PT X (.Compare a [.IsNot] [b] pos) (tT c B W (mB (mOp2 sNotN oa ob))) := pt_op semNotN (pt_cmpR op_notN ha hb (nomark _))
theorem t_and {a b : Expr} {rest : List Expr} {pos : Pos} {f g : M Bool} (ha : PT X a (tT c B W f)) (hb : PW X (.BoolOp .And (b :: rest) pos) (tT c B W g)) : PT X (.BoolOp .And (a :: b :: rest) pos) (tT c B W (mAnd f g)) := (pw_andM ha hb).pt
theorem t_or {a b : Expr} {rest : List Expr} {pos : Pos} {f g : M Bool} (ha : PT X a (tT c B W f)) (hb : PW X (.BoolOp .Or (b :: rest) pos) (tT c B W g)) : PT X (.BoolOp .Or (a :: b :: rest) pos) (tT c B W (mOr f g)) := (pw_orM ha hb).pt
/-! subscripts -/
theorem o_ix {a b : Expr} {oa ob : Opn} {pos : Pos} (ha : PE X a (tO c B W oa)) (hb : PE X b (tO c B W ob)) (hK : c.K = X.K := by rfl) (hs : PlainIx b := by intro _ _; rfl) : PE X (.Subscript a b pos) (tM c B W (mOp2 sIx oa ob)) := pm_op semIx (by rw [hK]; exact pe_ix ix_N ha hb hs)
theorem o_dix {a b : Expr} {oa ob : Opn} {pos : Pos} (hu : X.A.units + 64 < cLine) (ha : PE X a (tO c B W oa)) (hb : PE X b (tO c B W ob)) (hs : NoSl b := by intro _ _; rfl) : PE X (.Subscript a b pos) (tM c B W (mOp2 sDix oa ob)) := pm_op semDix (pe_dix (by omega) ha hb hs)
theorem o_sl {a : Expr} {lo hi : Option Expr} {o : Opn} {l u : Option (M D)} {p2 pos : Pos} (ha : PE X a (tO c B W o)) (hl : L2.PO X lo (tPt c B W l)) (hu : L2.PO X hi (tPt c B W u)) (hK : c.K = X.K := by rfl) : PE X (.Subscript a (.Slice lo hi none p2) pos) (tM c B W (mSl sCut o l u)) := pm_sl semCut (by rw [hK]; exact pe_slice sl_N ha hl hu)
theorem f_sl {a : Expr} {lo hi : Option Expr} {o : Opn} {l u : Option (M D)} {p2 pos : Pos} (ha : PE X a (tO c B W o)) (hl : L2.PO X lo (tPt c B W l)) (hu : L2.PO X hi (tPt c B W u)) (hK : c.K = X.K := by rfl) : PE X (.Subscript a (.Slice lo hi none p2) pos) (tF c B W (mSl sCutL o l u)) := pf_sl semCutL (by rw [hK]; exact pe_slice sl_list ha hl hu)
/-! built-in calls -/
theorem b_len {e : Expr} {o : Opn} {p pos : Pos} (T : Blt X.mg) (h : PE X e (tO c B W o)) (hK : c.K = X.K := by rfl) (hg : Gl X "len" := by rfl) (hs : starEach [e] X.env = (false, eval e X.env) :: starEach [] X.env := by rfl) (hpl : (backTo pos (starEach [] X.env)).any (·.1) = false := by rfl) : PE X (.Call (.Name "len" p) [e] [] pos) (tM c B W (mCall sLen [o])) := pm_call semLen (by rw [hK]; exact pe_callB call_len_seq hg T.zlen boot_len (pa_consO h pa_nilO hs) (he := hs) (hpl := hpl))
theorem b_tuple {e : Expr} {o : Opn} {p pos : Pos} (T : Blt X.mg) (h : PE X e (tO c B W o)) (hK : c.K = X.K := by rfl) (hg : Gl X "tuple" := by rfl) (hs : starEach [e] X.env = (false, eval e X.env) :: starEach [] X.env := by rfl) (hpl : (backTo pos (starEach [] X.env)).any (·.1) = false := by rfl) : PE X (.Call (.Name "tuple" p) [e] [] pos) (tM c B W (mCall sTuple [o])) := pm_call semTuple (by rw [hK]; exact pe_callTy call_tupleN hg T.ztuple PyProof.Rows.boot_tuple (pa_consO h pa_nilO hs) (he := hs) (hpl := hpl))
theorem b_list {e : Expr} {o : Opn} {p pos : Pos} (T : Blt X.mg) (h : PE X e (tO c B W o)) (hK : c.K = X.K := by rfl) (hg : Gl X "list" := by rfl) (hs : starEach [e] X.env = (false, eval e X.env) :: starEach [] X.env := by rfl) (hpl : (backTo pos (starEach [] X.env)).any (·.1) = false := by rfl) : PE X (.Call (.Name "list" p) [e] [] pos) (tF c B W (mCall sList [o])) := pf_call semList (by rw [hK]; exact pe_callTy call_list_of hg T.zlist PyProof.Rows.boot_list (pa_consO h pa_nilO hs) (he := hs) (hpl := hpl))
theorem b_int {e : Expr} {o : Opn} {p pos : Pos} (T : Blt X.mg) (h : PE X e (tO c B W o)) (hg : Gl X "int" := by rfl) (hs : starEach [e] X.env = (false, eval e X.env) :: starEach [] X.env := by rfl) (hpl : (backTo pos (starEach [] X.env)).any (·.1) = false := by rfl) : PE X (.Call (.Name "int" p) [e] [] pos) (tM c B W (mCall sInt [o])) := pm_call semInt (pe_callTy call_int1 hg T.zint PyProof.Rows.boot_int (pa_consO h pa_nilO hs) (he := hs) (hpl := hpl))
theorem b_sum {e : Expr} {o : Opn} {p pos : Pos} (T : Blt X.mg) (hc : X.calm = true) (h : PE X e (tO c B W o)) (hK : c.K = X.K := by rfl) (hg : Gl X "sum" := by rfl) (hs : starEach [e] X.env = (false, eval e X.env) :: starEach [] X.env := by rfl) (hpl : (backTo pos (starEach [] X.env)).any (·.1) = false := by rfl) : PE X (.Call (.Name "sum" p) [e] [] pos) (tM c B W (mCall sSum [o])) := pm_call semSum (by rw [hK]; exact pe_callB (cr_sum hc) hg T.zsum PyProof.Rows.boot_sum (pa_consO h pa_nilO hs) (he := hs) (hpl := hpl))
theorem b_all {e : Expr} {o : Opn} {p pos : Pos} (T : Blt X.mg) (hc : X.calm = true) (h : PE X e (tO c B W o)) (hK : c.K = X.K := by rfl) (hg : Gl X "all" := by rfl) (hs : starEach [e] X.env = (false, eval e X.env) :: starEach [] X.env := by rfl) (hpl : (backTo pos (starEach [] X.env)).any (·.1) = false := by rfl) : PE X (.Call (.Name "all" p) [e] [] pos) (tM c B W (mCall sAll [o])) := pm_call semAll (by rw [hK]; exact pe_callB (cr_all hc) hg T.zall PyProof.Rows.boot_all (pa_consO h pa_nilO hs) (he := hs) (hpl := hpl))
theorem b_max {e : Expr} {es : List Expr} {os : List Opn} {p pos : Pos} (T : Blt X.mg) (hc : X.calm = true) (h : PA X (e :: es) (tA c B W os)) (hK : c.K = X.K := by rfl) (hg : Gl X "max" := by rfl) (hs : starEach (e :: es) X.env = (false, eval e X.env) :: starEach es X.env := by rfl) (hpl : (backTo pos (starEach es X.env)).any (·.1) = false := by rfl) : PE X (.Call (.Name "max" p) (e :: es) [] pos) (tM c B W (mCall sMax os)) := pm_call semMax (by rw [hK]; exact pe_callB (call_mx hc) hg T.zmax PyProof.Rows.boot_max h (he := hs) (hpl := hpl))
theorem b_min {e : Expr} {es : List Expr} {os : List Opn} {p pos : Pos} (T : Blt X.mg) (hc : X.calm = true) (h : PA X (e :: es) (tA c B W os)) (hK : c.K = X.K := by rfl) (hg : Gl X "min" := by rfl) (hs : starEach (e :: es) X.env = (false, eval e X.env) :: starEach es X.env := by rfl) (hpl : (backTo pos (starEach es X.env)).any (·.1) = false := by rfl) : PE X (.Call (.Name "min" p) (e :: es) [] pos) (tM c B W (mCall sMin os)) := pm_call semMin (by rw [hK]; exact pe_callB (call_mn hc) hg T.zmin PyProof.Rows.boot_min h (he := hs) (hpl := hpl))
theorem b_sorted {e : Expr} {o : Opn} {p pos : Pos} (T : Blt X.mg) (h : PE X e (tO c B W o)) (hK : c.K = X.K := by rfl) (hg : Gl X "sorted" := by rfl) (hs : starEach [e] X.env = (false, eval e X.env) :: starEach [] X.env := by rfl) (hpl : (backTo pos (starEach [] X.env)).any (·.1) = false := by rfl) : PE X (.Call (.Name "sorted" p) [e] [] pos) (tF c B W (mCall sSorted [o])) := pf_call semSorted (by rw [hK]; exact pe_callB fx_cr_sorted hg T.zsorted PyProof.Rows.boot_sorted (pa_consO h pa_nilO hs) (he := hs) (hpl := hpl))
theorem b_ty {x : Str} {n : String} {pos : Pos} (hm : X.mg x = none) (hv : bootBuiltins x = some (.type n)) (hg : Gl X x := by rfl) (hn : x ≠ "__name__" := by decide) (hdb : (x == ("__debug__" : Str)) = false := by decide) : PE X (.Name x pos) (tM c B W (M.pure (.raw (.ty n)))) :=
  pm_c (v := .ty n) ⟨fun pins s σ H Q I q => ld_blt I hg hm hv ⟨.ty n, H, I, rfl, q⟩ hn hdb⟩ fun _ => .raw _
theorem b_isi {e f : Expr} {o o2 : Opn} {p pos : Pos} (T : Blt X.mg) (h : PE X e (tO c B W o)) (h2 : PE X f (tO c B W o2)) (hK : c.K = X.K := by rfl) (hg : Gl X "isinstance" := by rfl) (hs : starEach [e, f] X.env = (false, eval e X.env) :: starEach [f] X.env := by rfl) (hs2 : starEach [f] X.env = (false, eval f X.env) :: starEach [] X.env := by rfl) (hpl : (backTo pos (starEach [f] X.env)).any (·.1) = false := by rfl) : PE X (.Call (.Name "isinstance" p) [e, f] [] pos) (tM c B W (mCall sIsi [o, o2])) := pm_call semIsi (by rw [hK]; exact pe_callB call_isi hg T.zisinstance PyProof.Rows.boot_isinstance (pa_consO h (pa_consO h2 pa_nilO hs2) hs) (he := hs) (hpl := hpl))
theorem b_lenset {a : Expr} {f : M D} {p p2 q pos : Pos} (T : Blt X.mg) (hc : X.calm = true) (ha : PE X a (tM c B W f)) (hK : c.K = X.K := by rfl) (hg : Gl X "len" := by rfl) (hg2 : Gl X "set" := by rfl) (na : starEach [a] X.env = (false, eval a X.env) :: starEach [] X.env := by rfl) : PE X (.Call (.Name "len" p) [.Call (.Name "set" p2) [a] [] q] [] pos) (tM c B W (mLenSet f)) := pm_lenSet hc T.zlen T.zset ha hK hg hg2 na
end
end Fx
set_option Elab.async false
set_option linter.all false
set_option maxRecDepth 100000
set_option maxHeartbeats 4000000
/-! Fx17: list(range(n)), xs[j] = e, methods by one name each. -/
namespace Fx
open PySem L2
section
variable {c : Cf} {B : List (Nat × Addr)} {W : WX} {X : Cx} {G H : Hp} {A : Addr → Prop} {σ : L2.St} {ρ : Cells} {Z : Ends}
theorem rep_range : ∀ l : List Nat, RepL c G (l.map fun i => V.int (0 + (i : Nat))) (l.map fun (k : Nat) => D.int (0 + (k : Int)))
  | [] => .nil
  | _ :: l => .cons (.int _) (rep_range l)
def mListRg (f : M D) : M D := f.bind fun d => match d with
  | .int n => if -(2 ^ 62) ≤ n ∧ n ≤ 16777216 then M.pure (.lst (rangeD 0 n.toNat)) else M.stuck
  | _ => M.stuck
theorem f_lrange {a : Expr} {f : M D} {p q pos pos2 : Pos} (T : Blt X.mg) (hc : X.calm = true) (ha : PE X a (tM c B W f)) (hg : Gl X "list" := by rfl) (hg2 : Gl X "range" := by rfl)
    (na : starEach [a] X.env = (false, eval a X.env) :: starEach [] X.env := by rfl) (na2 : starEach [.Call (.Name "range" q) [a] [] pos2] X.env = (false, eval (.Call (.Name "range" q) [a] [] pos2) X.env) :: starEach [] X.env := by rfl) :
    PE X (.Call (.Name "list" p) [.Call (.Name "range" q) [a] [] pos2] [] pos) (tF c B W (mListRg f)) :=
  pe_imp (pe_listRg hc hg T.zlist (prg_1 hg2 T.zrange ha na) na2) fun σ H Q ⟨G, A, ρ, R, h⟩ => by
    refine ⟨G, A, ρ, R, h.split.imp fun d ρ1 G1 H1 _ _ R1 q v r => ?_⟩
    cases d <;> first | exact q.elim | skip
    rename_i n
    obtain rfl := rep_int r
    have q : After c B W G1 A H1 σ ((if -(2 ^ 62) ≤ n ∧ n ≤ 16777216 then M.pure (D.lst (rangeD 0 n.toNat)) else M.stuck) ρ1) _ := q
    split at q
    · rename_i hn
      refine ⟨n, rfl, ⟨by omega, by omega, by omega, by omega, by omega⟩, fun p0 hp => ?_⟩
      have q := After.ok q R1
      refine q p0 _ hp (fun b o e => by rw [upd_ne (ne_of_none e hp)]; exact e) ⟨rgV 0 n, upd_same, ?_⟩
      unfold rgV rangeD
      rw [Int.sub_zero]
      exact rep_range _
    · exact q.elim
/-! ### xs[j] = e -/
def mSetIx (i : Nat) (fj fe : M D) : MS := mDo fe fun d => mDo (ownAt i) fun _ => mDo fj fun j => mDo (ownAt i) fun o ρ => match o, j with
  | .lst ds, .int k => match ixN ds.length k with
    | some n => .next (ρ.set i (.own (.lst (ds.set n d))))
    | none => .stuck
  | _, _ => .stuck
theorem AfterS.ownAt {i : Nat} {k : D → MS} (h : AfterS c B W G A H (mDo (ownAt i) k ρ) Z) : ∃ d, ρ[i]? = some (.own d) ∧ AfterS c B W G A H (k d ρ) Z := by
  unfold mDo Fx.ownAt at h
  cases e1 : ρ[i]? with
  | none => simp only [e1] at h; exact h.elim
  | some cl =>
    simp only [e1] at h
    cases cl with
    | no => exact h.elim
    | dat d => exact h.elim
    | own o => exact ⟨o, rfl, h⟩
theorem ps_setIx (i : Nat) {x : Str} {ie e : Expr} {fj fe : M D} {np p pos : Pos} (he : PE X e (tM c B W fe)) (hj : PE X ie (tM c B W fj)) (hN : X.N[i]? = some x := by rfl) (hv : Vis X.env.scope x := by first | exact Or.inl rfl | exact Or.inr (Or.inl rfl) | exact Or.inr (Or.inr rfl)) (hd : (x == ("__debug__" : Str)) = false := by decide)
    (hcd : (x == ("__classdict__" : Str)) = false := by decide) (hs : swapsWithSole [.Subscript (.Name x np) ie p] e pos.line X.env = pure false := by rfl) (hw : swappedStores [.Subscript (.Name x np) ie p] e X.env = pure none := by rfl)
    (h1 : (assignEach [.Subscript (.Name x np) ie p] X.env).map (·.2) = [assign (.Subscript (.Name x np) ie p) X.env] := by rfl)
    (ha : ∀ v, assign (.Subscript (.Name x np) ie p) X.env v = (do
      let ov ← holding [v] (eval (.Name x np) X.env)
      let iv ← holding [v, ov] (eval ie X.env)
      standAt p
      holding [v, ov, iv] (setItem ov iv v)
      release [v, ov, iv] []) := by intro _; rfl) :
    PS X (.Assign [.Subscript (.Name x np) ie p] e pos) (tS c B W (mSetIx i fj fe)) :=
  ps_imp (ps_asg he (pg_sub (pe_var hN hv hd hcd) hj set_list ha) hs hw h1) fun Z σ H ⟨G, A, ρ, R, a⟩ => by
    refine ⟨G, A, ρ, R, (a.split R).imp fun d ρ1 G1 H1 _ _ R1 a1 v r => ?_⟩
    obtain ⟨o1, e1, a1⟩ := a1.ownAt
    obtain ⟨p, es, hA, hO⟩ := R1.own i o1 e1
    refine ⟨_, es, G1, A, ρ1, R1, (a1.split R1).imp fun jd ρ2 G2 H2 s2 _ R2 a2 w rw' => ?_⟩
    obtain ⟨o2, e2, a2⟩ := a2.ownAt
    obtain ⟨p', es', hA', hO'⟩ := R2.own i o2 e2
    rw [es] at es'; cases es'
    cases o2 <;> first | exact a2.elim | skip
    rename_i ds
    cases jd <;> first | exact a2.elim | skip
    rename_i kk _
    obtain rfl := rep_int rw'
    obtain ⟨xs, h2, h3⟩ := hO'
    have a2 : AfterS c B W G2 A H2 (match ixN ds.length kk with
      | some n => .next (ρ2.set i (.own (.lst (ds.set n d))))
      | none => .stuck) Z := a2
    cases ej : ixN ds.length kk with
    | none => rw [ej] at a2; exact a2.elim
    | some n =>
      rw [ej] at a2
      refine ⟨p, xs, kk, n, rfl, rfl, h2, by rw [h3.length]; exact ej, ?_⟩
      obtain ⟨R3, k3, s3⟩ := R2.setOwn (d' := .lst (ds.set n d)) (o := .lst (xs.set n v)) e2 es ⟨_, rfl, h3.set (r.mono s2) n⟩
      exact AfterS.nx (AfterS.of R2.own_there (Stp.same (Same.refl _) k3) a2) R3
/-! ### methods -/
theorem m_append (i : Nat) {x : Str} {e : Expr} {fe : M D} {np apos cpos : Pos} (he : PE X e (tM c B W fe)) (hN : X.N[i]? = some x := by rfl) (hv : Vis X.env.scope x := by first | exact Or.inl rfl | exact Or.inr (Or.inl rfl) | exact Or.inr (Or.inr rfl)) (hd : (x == ("__debug__" : Str)) = false := by decide)
    (hcd : (x == ("__classdict__" : Str)) = false := by decide) (hbase : attributeBase (.Name x np) "append" X.env (eval (.Name x np) X.env) = eval (.Name x np) X.env := by rfl)
    (hfew : ((backTo cpos (starEach [e] X.env)).all (fun x => !x.1) && (backToKw cpos (keywordEach [] X.env)).all (fun x => x.1.isSome) && decide ([e].length + ([] : List Keyword).length + (if ([] : List Keyword).isEmpty then 0 else 1) < 30)) = true := by rfl)
    (hline : (apos.endLine == cpos.line) = true := by rfl) (hs : starEach [e] X.env = (false, eval e X.env) :: starEach [] X.env := by rfl) (hplain : (backTo cpos (starEach [] X.env)).any (·.1) = false := by rfl) :
    PE X (.Call (.Attribute (.Name x np) "append" apos) [e] [] cpos) (tM c B W (mMethWR wAppend i [fe])) := pm_methWR i semAppend (pe_bm PySem.F.plainAttrs_list PySem.F.slot_list_append PySem.F.type_list_append mt_append (pe_slot i hN hv hd hcd) (pd_cons he pd_nil hs) hbase hfew hline hs hplain)
theorem m_popAt (i : Nat) {x : Str} {e : Expr} {fe : M D} {np apos cpos : Pos} (he : PE X e (tM c B W fe)) (hN : X.N[i]? = some x := by rfl) (hv : Vis X.env.scope x := by first | exact Or.inl rfl | exact Or.inr (Or.inl rfl) | exact Or.inr (Or.inr rfl)) (hd : (x == ("__debug__" : Str)) = false := by decide)
    (hcd : (x == ("__classdict__" : Str)) = false := by decide) (hbase : attributeBase (.Name x np) "pop" X.env (eval (.Name x np) X.env) = eval (.Name x np) X.env := by rfl)
    (hfew : ((backTo cpos (starEach [e] X.env)).all (fun x => !x.1) && (backToKw cpos (keywordEach [] X.env)).all (fun x => x.1.isSome) && decide ([e].length + ([] : List Keyword).length + (if ([] : List Keyword).isEmpty then 0 else 1) < 30)) = true := by rfl)
    (hline : (apos.endLine == cpos.line) = true := by rfl) (hs : starEach [e] X.env = (false, eval e X.env) :: starEach [] X.env := by rfl) (hplain : (backTo cpos (starEach [] X.env)).any (·.1) = false := by rfl) :
    PE X (.Call (.Attribute (.Name x np) "pop" apos) [e] [] cpos) (tM c B W (mMethWR wPopAt i [fe])) := pm_methWR i semPopAt (pe_bm PySem.F.plainAttrs_list PySem.F.slot_list_pop PySem.F.type_list_pop mt_popAt (pe_slot i hN hv hd hcd) (pd_cons he pd_nil hs) hbase hfew hline hs hplain)
theorem m_extend (i : Nat) {x : Str} {e : Expr} {o : Opn} {np apos cpos : Pos} (he : PE X e (tO c B W o)) (hN : X.N[i]? = some x := by rfl) (hv : Vis X.env.scope x := by first | exact Or.inl rfl | exact Or.inr (Or.inl rfl) | exact Or.inr (Or.inr rfl)) (hd : (x == ("__debug__" : Str)) = false := by decide)
    (hcd : (x == ("__classdict__" : Str)) = false := by decide) (hK : c.K = X.K := by rfl) (hbase : attributeBase (.Name x np) "extend" X.env (eval (.Name x np) X.env) = eval (.Name x np) X.env := by rfl)
    (hfew : ((backTo cpos (starEach [e] X.env)).all (fun x => !x.1) && (backToKw cpos (keywordEach [] X.env)).all (fun x => x.1.isSome) && decide ([e].length + ([] : List Keyword).length + (if ([] : List Keyword).isEmpty then 0 else 1) < 30)) = true := by rfl)
    (hline : (apos.endLine == cpos.line) = true := by rfl) (hs : starEach [e] X.env = (false, eval e X.env) :: starEach [] X.env := by rfl) (hplain : (backTo cpos (starEach [] X.env)).any (·.1) = false := by rfl) :
    PE X (.Call (.Attribute (.Name x np) "extend" apos) [e] [] cpos) (tM c B W (mMethW wExtend i [o])) := pm_methW i semExtend (by rw [hK]; exact pe_bm PySem.F.plainAttrs_list PySem.F.slot_list_extend PySem.F.type_list_extend mt_extR (pe_slot i hN hv hd hcd) (pa_consO he pa_nilO hs) hbase hfew hline hs hplain)
theorem m_lindex {a e : Expr} {o o2 : Opn} {apos cpos : Pos} (ha : PE X a (tO c B W o)) (he : PE X e (tO c B W o2)) (hK : c.K = X.K := by rfl) (hbase : attributeBase a "index" X.env (eval a X.env) = eval a X.env := by rfl)
    (hfew : ((backTo cpos (starEach [e] X.env)).all (fun x => !x.1) && (backToKw cpos (keywordEach [] X.env)).all (fun x => x.1.isSome) && decide ([e].length + ([] : List Keyword).length + (if ([] : List Keyword).isEmpty then 0 else 1) < 30)) = true := by rfl)
    (hline : (apos.endLine == cpos.line) = true := by rfl) (hs : starEach [e] X.env = (false, eval e X.env) :: starEach [] X.env := by rfl) (hplain : (backTo cpos (starEach [] X.env)).any (·.1) = false := by rfl) :
    PE X (.Call (.Attribute a "index" apos) [e] [] cpos) (tM c B W (mMeth isLst sLix o [o2])) := pm_methL hK semLix (by rw [hK]; exact pe_bm PySem.F.plainAttrs_list PySem.F.slot_list_index PySem.F.type_list_index mt_index ha (pa_consO he pa_nilO hs) hbase hfew hline hs hplain)
theorem m_tindex {a e : Expr} {o o2 : Opn} {apos cpos : Pos} (ha : PE X a (tO c B W o)) (he : PE X e (tO c B W o2)) (hK : c.K = X.K := by rfl) (hbase : attributeBase a "index" X.env (eval a X.env) = eval a X.env := by rfl)
    (hfew : ((backTo cpos (starEach [e] X.env)).all (fun x => !x.1) && (backToKw cpos (keywordEach [] X.env)).all (fun x => x.1.isSome) && decide ([e].length + ([] : List Keyword).length + (if ([] : List Keyword).isEmpty then 0 else 1) < 30)) = true := by rfl)
    (hline : (apos.endLine == cpos.line) = true := by rfl) (hs : starEach [e] X.env = (false, eval e X.env) :: starEach [] X.env := by rfl) (hplain : (backTo cpos (starEach [] X.env)).any (·.1) = false := by rfl) :
    PE X (.Call (.Attribute a "index" apos) [e] [] cpos) (tM c B W (mMeth isTup sTix o [o2])) := pm_methT hK semTix (by rw [hK]; exact pe_bmT PySem.F.slot_tuple_index PySem.F.type_tuple_index mt_tix ha (pa_consO he pa_nilO hs) hbase hfew hline hs hplain)
end
end Fx
set_option Elab.async false
set_option linter.all false
set_option maxRecDepth 100000
set_option maxHeartbeats 4000000
/-! Fx18: the class of farms and the errors by one name each; blocks by a check. -/
namespace Fx
open PySem L2
section
variable {P : Program} {w : World} {K : PySem.W.Frag} {mg : Str → Option Value} {base : Heap} {c : Cf}
/-- Farm(..) -/
structure CalM (P : Program) (w : World) (K : PySem.W.Frag) (mg : Str → Option Value) (base : Heap) (c : Cf) (k : Nat) (nm : Str) (n : Nat) (F : Fn) : Prop where
  ex : ∃ fI fd ps, Mk K c.farm fI ∧ FnOk P w K mg base (L2.CX P w) k fI fd ps (spM c [0] n F) ∧ mg nm = some (.ref c.farm) ∧ Binds K fd ps []
theorem CalM.mono {k j : Nat} {nm : Str} {n : Nat} {F : Fn} (h : CalM P w K mg base c k nm n F) (hk : k ≤ j) : CalM P w K mg base c j nm n F := by
  obtain ⟨f, fd, ps, h1, h2, h3⟩ := h.ex
  exact ⟨f, fd, ps, h1, h2.mono hk, h3⟩
/-- farm.m(..) -/
structure CalF (P : Program) (w : World) (K : PySem.W.Frag) (mg : Str → Option Value) (base : Heap) (c : Cf) (k : Nat) (m : Str) (n : Nat) (F : Fn) : Prop where
  ex : ∃ f fd ps, Meth K c.farm m f ∧ FnOk P w K mg base (L2.CX P w) k f fd ps (spM c [] n F) ∧ Binds K fd ps []
/-- len(farm) -/
structure CalL (P : Program) (w : World) (K : PySem.W.Frag) (mg : Str → Option Value) (base : Heap) (c : Cf) (k : Nat) (F : Fn) : Prop where
  ex : ∃ f fd ps, PySem.W.findIn K (.ref c.farm) "__len__" = some (some (.ref f)) ∧ PySem.W.isFn K (.ref f) = true ∧ FnOk P w K mg base (L2.CX P w) k f fd ps (spM c [] 1 F) ∧ Binds K fd ps []
/-- an error with one field -/
structure CalX1 (P : Program) (w : World) (K : PySem.W.Frag) (mg : Str → Option Value) (base : Heap) (c : Cf) (k : Nat) (x : Nat) (nm f : Str) : Prop where
  ex : ∃ fI fd ps, XcK c K mg x nm fI ∧ FnOk P w K mg base (L2.CX P w) k fI fd ps (spI1 (c.exc x) f) ∧ Binds K fd ps []
  fl : c.flds x = [f]
structure CalX2 (P : Program) (w : World) (K : PySem.W.Frag) (mg : Str → Option Value) (base : Heap) (c : Cf) (k : Nat) (x : Nat) (nm f g : Str) : Prop where
  ex : ∃ fI fd ps, XcK c K mg x nm fI ∧ FnOk P w K mg base (L2.CX P w) k fI fd ps (spI2 (c.exc x) f g) ∧ Binds K fd ps []
  fl : c.flds x = [g, f]
end
section
variable {c : Cf} {B : List (Nat × Addr)} {W : WX} {X : Cx} {E : XK}
theorem pm_calM {F : Fn} {fs : List (M D)} {k j n : Nat} {x : Str} {p pos : Pos} {e : Expr} {es : List Expr} (C : CalM X.prog X.w X.K X.mg X.base c j x n F) (hr : Room k X.A) (tk : Takes X (fun cls d _ H => E cls d H)) (ha : PA X (e :: es) (tD c B (fun cls d _ H => E cls d H) fs)) (hj : j + 1 ≤ k := by decide)
    (hn : fs.length + 1 = n := by rfl) (hg : Gl X x := by rfl) (hdb : (x == ("__debug__" : Str)) = false := by decide)
    (he : starEach (e :: es) X.env = (false, eval e X.env) :: starEach es X.env := by rfl) (hpl : (backTo pos (starEach es X.env)).any (·.1) = false := by rfl) :
    PE X (.Call (.Name x p) (e :: es) [] pos) (tM c B (fun cls d _ H => E cls d H) (mMake F fs)) := by
  obtain ⟨f, fd, ps, h1, h2, h3, h4⟩ := C.ex
  exact pm_make h1 h2 (hr.mono hj) (passE tk) h3 h4 ha hn hg hdb he hpl
theorem pm_calF {F : Fn} {fs : List (M D)} {fo : M D} {k j n : Nat} {m : Str} {apos pos : Pos} {o e : Expr} {es : List Expr} {pl : Sem Bool} (T : Cls X.K c.farm) (C : CalF X.prog X.w X.K X.mg X.base c j m n F) (hr : Room k X.A) (tk : Takes X (fun cls d _ H => E cls d H)) (he : PE X o (tM c B (fun cls d _ H => E cls d H) fo))
    (ha : PA X (e :: es) (tD c B (fun cls d _ H => E cls d H) fs)) (hj : j ≤ k := by decide) (hn : fs.length + 1 = n := by rfl)
    (hst : starEach (e :: es) X.env = (false, eval e X.env) :: starEach es X.env := by rfl) (hpl : (backTo pos (starEach es X.env)).any (·.1) = false := by rfl)
    (ht : eval (.Call (.Attribute o m apos) (e :: es) [] pos) X.env = (do
      let ov ← eval o X.env
      standAt apos.atName
      let (f, first) ← holding [ov] (getMethod ov m pl)
      callWith pos f first (backTo pos (starEach (e :: es) X.env)) (backToKw pos (keywordEach [] X.env))) := by rfl) :
    PE X (.Call (.Attribute o m apos) (e :: es) [] pos) (tM c B (fun cls d _ H => E cls d H) (mMethF F m fo fs)) := by
  obtain ⟨f, fd, ps, h1, h2, h3⟩ := C.ex
  exact pm_methF he T h1 h2 (hr.mono hj) (passE tk) h3 ha hn hst hpl ht
theorem pm_calF0 {F : Fn} {fo : M D} {k j : Nat} {m : Str} {apos pos : Pos} {o : Expr} {pl : Sem Bool} (T : Cls X.K c.farm) (C : CalF X.prog X.w X.K X.mg X.base c j m 1 F) (hr : Room k X.A) (tk : Takes X (fun cls d _ H => E cls d H)) (he : PE X o (tM c B (fun cls d _ H => E cls d H) fo)) (hj : j ≤ k := by decide)
    (ht : eval (.Call (.Attribute o m apos) [] [] pos) X.env = (do
      let ov ← eval o X.env
      standAt apos.atName
      let (f, first) ← holding [ov] (getMethod ov m pl)
      callWith pos f first (backTo pos (starEach [] X.env)) (backToKw pos (keywordEach [] X.env))) := by rfl) :
    PE X (.Call (.Attribute o m apos) [] [] pos) (tM c B (fun cls d _ H => E cls d H) (mMethF F m fo [])) := by
  obtain ⟨f, fd, ps, h1, h2, h3⟩ := C.ex
  exact pm_methF0 he T h1 h2 (hr.mono hj) (passE tk) h3 ht
theorem pm_calL {F : Fn} {fe : M D} {k j : Nat} {p pos : Pos} {e : Expr} (T : Blt X.mg) (C : CalL X.prog X.w X.K X.mg X.base c j F) (hr : Room k X.A) (tk : Takes X W) (he : PE X e (tM c B W fe)) (hj : j + 1 ≤ k := by decide) (hg : Gl X "len" := by rfl)
    (hst : starEach [e] X.env = (false, eval e X.env) :: starEach [] X.env := by rfl) (hpl : (backTo pos (starEach [] X.env)).any (·.1) = false := by rfl) :
    PE X (.Call (.Name "len" p) [e] [] pos) (tM c B W (mLenF F fe)) := by
  obtain ⟨f, fd, ps, h1, h2, h3, h4⟩ := C.ex
  exact pm_lenF (E := fun _ _ _ => False) h1 h2 h3 (hr.mono hj) tk h4 T.zlen he hg hst hpl
theorem ps_x1 {x : Nat} {nm f : Str} {k j : Nat} {e : Expr} {fe : M D} {p pos pos2 : Pos} (C : CalX1 X.prog X.w X.K X.mg X.base c j x nm f) (hc : X.calm = true) (tk : Takes X W) (hr : Room k X.A) (ha : PE X e (tM c B W fe)) (hj : j + 1 ≤ k := by decide) (hg : Gl X nm := by rfl)
    (hdb : (nm == ("__debug__" : Str)) = false := by decide) (he : starEach (e :: []) X.env = (false, eval e X.env) :: starEach [] X.env := by rfl) (hpl : (backTo pos (starEach [] X.env)).any (·.1) = false := by rfl) :
    PS X (.Raise (some (.Call (.Name nm p) [e] [] pos)) none pos2) (tS c B W (mRaise x [fe])) := by
  obtain ⟨f, fd, ps, h1, h2, h3⟩ := C.ex
  exact ps_raise1 hc tk h1 C.fl h2 (hr.mono hj) h3 ha hg hdb he hpl
theorem ps_x2 {x : Nat} {nm f g : Str} {k j : Nat} {e e2 : Expr} {fe fe2 : M D} {p pos pos2 : Pos} (C : CalX2 X.prog X.w X.K X.mg X.base c j x nm f g) (hc : X.calm = true) (tk : Takes X W) (hr : Room k X.A) (ha : PE X e (tM c B W fe)) (ha2 : PE X e2 (tM c B W fe2)) (hj : j + 1 ≤ k := by decide) (hg : Gl X nm := by rfl)
    (hdb : (nm == ("__debug__" : Str)) = false := by decide) (he : starEach (e :: [e2]) X.env = (false, eval e X.env) :: starEach [e2] X.env := by rfl) (he2 : starEach [e2] X.env = (false, eval e2 X.env) :: starEach [] X.env := by rfl) (hpl : (backTo pos (starEach [e2] X.env)).any (·.1) = false := by rfl) :
    PS X (.Raise (some (.Call (.Name nm p) [e, e2] [] pos)) none pos2) (tS c B W (mRaise x [fe, fe2])) := by
  obtain ⟨f, fd, ps, h1, h2, h3⟩ := C.ex
  exact ps_raise2 hc tk h1 C.fl h2 (hr.mono hj) h3 ha ha2 hg hdb he he2 hpl
end
/-! ### blocks -/
def kFree : NameKind → Bool
  | .free => true
  | _ => false
def kCell : NameKind → Bool
  | .cell => true
  | _ => false
def kLoc : NameKind → Bool
  | .local => true
  | _ => false
def kEq : NameKind → NameKind → Bool
  | .local, .local => true
  | .cell, .cell => true
  | .free, .free => true
  | .globalImplicit, .globalImplicit => true
  | .globalExplicit, .globalExplicit => true
  | _, _ => false
def kFun : ScopeKind → Bool
  | .function => true
  | _ => false
def blkB (N : List Str) (sc scope : Scope) (own : List (Str × Nat)) : Bool :=
  kFun scope.kind && scope.names.all (fun y => match scope.names.lookup y.1 with | some k => kEq k y.2 | none => false) && own.all (fun p => match N[p.2]? with | some x => decide (x = p.1) | none => false) &&
    scope.names.all (fun y => !kFree y.2 || (match sc.names.lookup y.1 with | some k => kCell k || kFree k | none => false)) && scope.names.all (fun y => !(kLoc y.2 || kCell y.2) || (own.any (fun p => decide (p.1 = y.1)) || N.all (fun x => !decide (x = y.1))))
theorem kEq_eq {a b : NameKind} (h : kEq a b = true) : a = b := by cases a <;> cases b <;> first | rfl | cases h
theorem blk_of {N : List Str} {sc scope : Scope} {own : List (Str × Nat)} (h : blkB N sc scope own = true) : BlkOk N sc scope own := by
  unfold blkB at h
  simp only [Bool.and_eq_true, List.all_eq_true] at h
  obtain ⟨⟨⟨⟨h1, h2⟩, h3⟩, h4⟩, h5⟩ := h
  refine ⟨?_, fun y hy => ?_, fun p hp => ?_, fun y hy e => ?_, fun y hy e => ?_⟩
  · cases hk : scope.kind <;> rw [hk] at h1 <;> first | rfl | cases h1
  · have q := h2 y hy
    cases e : scope.names.lookup y.1 with
    | none => rw [e] at q; cases q
    | some k => rw [e] at q; rw [kEq_eq q]
  · have q := h3 p hp
    cases e : N[p.2]? with
    | none => rw [e] at q; cases q
    | some k => rw [e] at q; rw [of_decide_eq_true q]
  · have q := h4 y hy
    rw [e] at q
    simp only [kFree, Bool.not_true, Bool.false_or] at q
    cases e2 : sc.names.lookup y.1 with
    | none => rw [e2] at q; cases q
    | some k => rw [e2] at q; cases k <;> first | exact .inl rfl | exact .inr rfl | cases q
  · have q := h5 y hy
    have hk : (kLoc y.2 || kCell y.2) = true := by rcases e with e | e <;> rw [e] <;> rfl
    rw [hk] at q
    simp only [Bool.not_true, Bool.false_or, Bool.or_eq_true] at q
    rcases q with q | q
    · obtain ⟨p, hp, e3⟩ := List.any_eq_true.mp q
      exact .inl (List.mem_map.mpr ⟨p, hp, of_decide_eq_true e3⟩)
    · refine .inr fun hm => ?_
      have := List.all_eq_true.mp q y.1 hm
      simp at this
end Fx
set_option Elab.async false
set_option linter.all false
set_option maxRecDepth 100000
set_option maxHeartbeats 4000000
/-! Fx19: the law's end. -/
namespace Fx
open PySem L2
/-- the law's def: a list of at most 63 ints is handed in, True comes out -/
def spLaw (K : PySem.W.Frag) : Sp := fun vs H Q _ => ∃ (a : Addr) (ns : List Int), vs = [.ref a] ∧ LsG K H a (ns.map V.int) ∧ ns.length ≤ 63 ∧ ∀ H', Q (.bl true) H'
theorem law_imp {c : Cf} {F : Fn} (plain : ∀ ns : List Int, ns.length ≤ 63 → ∃ outs, F [.lst (ns.map .int)] = .ret (.bl true) outs) (vs : List V) (H : Hp) (Q : VK) (E : XK) (h : spLaw c.K vs H Q E) : spM c [] 1 F vs H Q E := by
  obtain ⟨a, ns, rfl, hL, hl, q⟩ := h
  obtain ⟨outs, e⟩ := plain ns hl
  refine ⟨H, fun _ => False, [.lst (ns.map .int)], rfl, argsOk_rep (Same.refl H) (.one (.lst hL (repInts ns))), ?_⟩
  rw [e]
  intro G' H' v _ rv
  obtain rfl := rep_bl rv
  exact q H'
theorem walk_fx {l : PySem.W.OpenLaw} {k : Nat} {q : Program} {loose : List Str} {XP : (Str → Option Value) → Heap → Prop} {YP : World → Heap → Prop} {d : DefRec} {K : Params → PySem.W.Frag} {x : Str}
    (hn : l.most = some 63) (hdf : d.params.defaults = []) (hr : Room k callerA) (hY : ∀ (w : World) (h : Heap), YP w h → (K w.params).In h)
    (F : ∀ (w : World) (mg : Str → Option Value) (fa : Addr) (h : Heap), (K w.params).In h → h.Ns mainGlobals mg → mg d.name = some (.ref fa) →
      ∃ fd : FuncData, (∀ (s : Shared) (u : Value), BindsTo s fd ⟨[u], []⟩ [(x, u)]) ∧ ∀ base : Heap, (K w.params).In base → base.Ns mainGlobals mg → FnOk l.prog w (K w.params) mg base (L2.CX l.prog w) k fa fd [x] (spLaw (K w.params))) :
    PySem.W.WalkO q loose XP YP l.row.toRowW d [] (fun f vs => PySem.call f vs) := by
  refine Att.attach_call hn hdf fun w s₀ s₁ mg mb fa o pm cd doc a vs ns G Y ho hd hcd hmg hobj hints hlen hg => ?_
  have KX := hY w _ Y
  obtain ⟨fd, hb, hF⟩ := F w mg fa _ KX G.T.g hmg
  have hlen2 : ns.length ≤ sizeLine := Nat.le_trans hlen (by decide)
  refine law_call KX G.T.g G.T.b G.T.builtins G.T.nolimit hg hobj hints hlen2 hr hF hb (fun H _ hS => ?_) fun H e s' z => ?_
  · refine ⟨a, ns, rfl, ?_, hlen, fun _ => rfl⟩
    rcases hS with hS | ⟨o', its, m, h1, _⟩
    · exact .inl hS
    · have e := KX _ _ h1
      rw [hobj] at e
      cases e
      have rv := vals_ints hints
      refine .inr ⟨vs, _, h1, ?_, rv⟩
      rw [← rv.length, List.length_map]
      exact hlen2
  · obtain ⟨_, _, _, _, _, _, _, _, _, _, _, _, z⟩ := z
    exact z.elim
theorem mro_ok {CB : Addr} : PySem.HandSPX.refsVE [.ref CB, .type "ValueError", .type "Exception", .type "BaseException", .type "object"] = true := by rfl
end Fx
set_option Elab.async false
set_option linter.all false
set_option maxRecDepth 100000
set_option maxHeartbeats 1000000
/-! Fx20: plain laws of the mirrors' loops and comprehensions (no program in sight). -/
namespace Fx
open PySem L2
/-! ### comprehensions -/
theorem lcM_pure {g : TgM} {tt : M Bool} {fe : M D} {vs : List Nat} {w : Cells} (P : D → Bool) (f : D → D) : ∀ (ds : List D) (ρ : Cells), wipeC ρ vs = w →
    (∀ d ∈ ds, ∃ ρ1, g d w = some ρ1 ∧ tt ρ1 = .ok (P d) ρ1 ∧ (P d = true → fe ρ1 = .ok (f d) ρ1) ∧ wipeC ρ1 vs = w) →
    ∃ ρ', lcM g tt fe vs ds ρ = some ((ds.filter P).map f, ρ') ∧ wipeC ρ' vs = w
  | [], ρ, hw, _ => ⟨ρ, rfl, hw⟩
  | d :: ds, ρ, hw, h => by
    obtain ⟨ρ1, h1, h2, h3, h4⟩ := h d List.mem_cons_self
    obtain ⟨ρ', e, hw'⟩ := lcM_pure P f ds ρ1 h4 fun x hx => h x (List.mem_cons_of_mem _ hx)
    refine ⟨ρ', ?_, hw'⟩
    unfold lcM
    rw [hw]
    simp only [h1, h2]
    cases hP : P d with
    | true => simp [hP, h3 hP, e]
    | false => simp [hP, e]
theorem wipeC_get {ρ : Cells} {vs : List Nat} {i : Nat} (h : i ∉ vs) : (wipeC ρ vs)[i]? = ρ[i]? := wipeC_out h
/-- the cells behind a comprehension are the cells ahead of it -/
theorem unwipe_same {ρ ρ' : Cells} {vs : List Nat} (hw : wipeC ρ' vs = wipeC ρ vs) : unwipe ρ ρ' vs = ρ := by
  have hl : ρ'.length = ρ.length := by
    have := congrArg List.length hw
    rwa [wipeC_len, wipeC_len] at this
  apply List.ext_getElem?
  intro i
  by_cases hi : i ∈ vs
  · by_cases hlt : i < ρ.length
    · rw [unwipe_in (by rw [hl]; exact hlt) hi, List.getElem?_eq_getElem hlt]
      rfl
    · rw [List.getElem?_eq_none (by rw [unwipe_len]; omega), List.getElem?_eq_none (by omega)]
  · rw [unwipe_out hi, ← wipeC_get (ρ := ρ') hi, hw, wipeC_get hi]
theorem mLc_pure {fi : M (List D)} {g : TgM} {tt : M Bool} {fe : M D} {vs : List Nat} {ρ : Cells} {ds : List D} (P : D → Bool) (f : D → D) (hi : fi ρ = .ok ds ρ) (ho : vs.all (fun v => !isOwn ρ[v]?) = true)
    (h : ∀ d ∈ ds, ∃ ρ1, g d (wipeC ρ vs) = some ρ1 ∧ tt ρ1 = .ok (P d) ρ1 ∧ (P d = true → fe ρ1 = .ok (f d) ρ1) ∧ wipeC ρ1 vs = wipeC ρ vs) :
    mLc fi g tt fe vs ρ = .ok (.lst ((ds.filter P).map f)) ρ := by
  obtain ⟨ρ', e, hw⟩ := lcM_pure P f ds ρ rfl h
  unfold mLc M.bind
  rw [hi]
  show (if vs.all (fun v => !isOwn ρ[v]?) = true then _ else _) = _
  rw [if_pos ho, e]
  show Out.ok _ (unwipe ρ ρ' vs) = _
  rw [unwipe_same hw]
/-! ### loops -/
theorem loop_inv {g : TgM} {body : MS} (I : Nat → Cells → Prop) : ∀ (ds : List D) (n : Nat) (ρ : Cells), I n ρ →
    (∀ (i : Nat) (d : D) (ρ : Cells), ds[i]? = some d → I (n + i) ρ → ∃ ρ1, g d ρ = some ρ1 ∧ ∃ ρ2, body ρ1 = .next ρ2 ∧ I (n + i + 1) ρ2) →
    ∃ ρ', loopM g body ds ρ = .next ρ' ∧ I (n + ds.length) ρ'
  | [], n, ρ, hI, _ => ⟨ρ, rfl, hI⟩
  | d :: ds, n, ρ, hI, h => by
    obtain ⟨ρ1, h1, ρ2, h2, h3⟩ := h 0 d ρ rfl hI
    obtain ⟨ρ', e, h4⟩ := loop_inv I ds (n + 1) ρ2 h3 fun i x ρ hx hi => by
      have := h (i + 1) x ρ (by simpa using hx) (by rw [show n + (i + 1) = n + 1 + i by omega]; exact hi)
      rwa [show n + (i + 1) + 1 = n + 1 + i + 1 by omega] at this
    refine ⟨ρ', ?_, by rw [List.length_cons, show n + (ds.length + 1) = n + 1 + ds.length by omega]; exact h4⟩
    unfold loopM
    simp only [h1, h2, e]
/-- a loop that returns at the first item with P -/
theorem loop_find {g : TgM} {body : MS} (I : Cells → Prop) (P : D → Bool) (f : D → D) : ∀ (ds : List D) (ρ : Cells), I ρ →
    (∀ (d : D) (ρ : Cells), d ∈ ds → I ρ → ∃ ρ1, g d ρ = some ρ1 ∧ ∃ ρ2, I ρ2 ∧ body ρ1 = if P d = true then .ret (f d) ρ2 else .next ρ2) →
    ∃ ρ', I ρ' ∧ loopM g body ds ρ = match ds.find? P with
      | some d => .ret (f d) ρ'
      | none => .next ρ'
  | [], ρ, hI, _ => ⟨ρ, hI, rfl⟩
  | d :: ds, ρ, hI, h => by
    obtain ⟨ρ1, h1, ρ2, h2, h3⟩ := h d ρ List.mem_cons_self hI
    cases hP : P d with
    | true =>
      refine ⟨ρ2, h2, ?_⟩
      unfold loopM
      simp [h1, h3, hP]
    | false =>
      obtain ⟨ρ', h4, e⟩ := loop_find I P f ds ρ2 h2 fun x ρ hx => h x ρ (List.mem_cons_of_mem _ hx)
      refine ⟨ρ', h4, ?_⟩
      unfold loopM
      simp [h1, h3, hP, e]
/-- while: a measure that falls -/
theorem while_inv {t : M Bool} {body : MS} (I : Nat → Cells → Prop) (E : Cells → Prop) (h : ∀ (m : Nat) (ρ : Cells), I m ρ → ∃ b ρ1, t ρ = .ok b ρ1 ∧ (b = false → E ρ1) ∧ (b = true → ∃ ρ2 m', body ρ1 = .next ρ2 ∧ m' < m ∧ I m' ρ2)) :
    ∀ (n m : Nat) (ρ : Cells), m < n → I m ρ → ∃ ρ', whileM t body n ρ = .next ρ' ∧ E ρ'
  | 0, _, _, hn, _ => by omega
  | n + 1, m, ρ, hn, hI => by
    obtain ⟨b, ρ1, h1, h2, h3⟩ := h m ρ hI
    unfold whileM
    simp only [h1]
    cases b with
    | false => exact ⟨ρ1, by simp, h2 rfl⟩
    | true =>
      obtain ⟨ρ2, m', h4, h5, h6⟩ := h3 rfl
      obtain ⟨ρ', e, h7⟩ := while_inv I E h n m' ρ2 (by omega) h6
      exact ⟨ρ', by simp [h4, e], h7⟩
end Fx
set_option Elab.async false
set_option linter.all false
set_option maxRecDepth 100000
set_option maxHeartbeats 4000000
/-! Fx21: xs[j] += e. -/
namespace Fx
open PySem L2
section
variable {c : Cf} {B : List (Nat × Addr)} {W : WX} {X : Cx} {G H : Hp} {A : Addr → Prop} {σ : L2.St} {ρ : Cells} {Z : Ends}
theorem pget_list : PGet X (rIxL X.K) := by
  intro pins s σ H x y v u Q I rx ry h
  obtain ⟨p, xs, i, z, rfl, rfl, hq, he, q⟩ := h
  cases rx
  obtain ⟨t, rfl⟩ := ry
  obtain ⟨its, r, pl, hz⟩ := I.list hq
  obtain ⟨j, h1, h2, h3, h4, h5⟩ := atI_get he
  obtain ⟨w, ew, rw'⟩ := r.get h2
  have hl := r.length
  have hn := line63
  have fin : EP X pins σ Q w s := ⟨z, H, I, rw', q⟩
  rcases Int.lt_or_le i 0 with h0 | h0
  · have hj : (i + (its.toArray.size : Int)).toNat = j := by
      rw [seqIndex_neg h0 h4] at h1
      rw [List.size_toArray, ← hl]
      exact Option.some.inj h1
    refine wpAny_getItem_list_neg pl.isList h0 ?_ ?_ ?_ fin
    · rw [List.size_toArray]; omega
    · omega
    · rw [hj]; simpa using ew
  · have hj : i.toNat = j := by
      rw [seqIndex_of h0 h5] at h1
      exact Option.some.inj h1
    refine wpAny_getItem_list pl.isList h0 ?_ ?_ fin
    · omega
    · rw [hj]; simpa using ew
def augPut (i : Nat) (k v : Int) (o : D) : MS := fun ρ => match o with
  | .lst ds => match ixN ds.length k with
    | some n => .next (ρ.set i (.own (.lst (ds.set n (.int v)))))
    | none => .stuck
  | _ => .stuck
def augAdd (i : Nat) (k a : Int) (d : D) : MS := match d with
  | .int b => mDo (ownAt i) fun o => augPut i k (a + b) o
  | _ => fun _ => .stuck
def augGet (i : Nat) (fe : M D) (j o : D) : MS := match o, j with
  | .lst ds, .int k => match atI ds k with
    | some (.int a) => mDo fe fun d => augAdd i k a d
    | _ => fun _ => .stuck
  | _, _ => fun _ => .stuck
/-- xs[j] += e of whole numbers -/
def mAugIx (i : Nat) (fj fe : M D) : MS := mDo (ownAt i) fun _ => mDo fj fun j => mDo (ownAt i) fun o => augGet i fe j o
theorem ps_augIx (i : Nat) {x : Str} {ie e : Expr} {fj fe : M D} {np p pos : Pos} (he : PE X e (tM c B W fe)) (hj : PE X ie (tM c B W fj)) (hN : X.N[i]? = some x := by rfl) (hv : Vis X.env.scope x := by first | exact Or.inl rfl | exact Or.inr (Or.inl rfl) | exact Or.inr (Or.inr rfl)) (hd : (x == ("__debug__" : Str)) = false := by decide)
    (hcd : (x == ("__classdict__" : Str)) = false := by decide) (hK : c.K = X.K := by rfl)
    (ha : ∀ ov iv new, augStore ie ov iv new = (do holding [new, ov, iv] (setItem ov iv new); release [new, ov, iv] []; pure .next) := by intros; rfl) :
    PS X (.AugAssign (.Subscript (.Name x np) ie p) .Add e pos) (tS c B W (mAugIx i fj fe)) :=
  ps_imp (ps_augS (pe_var hN hv hd hcd) hj pget_list he ip_add set_list ha) fun Z σ H ⟨G, A, ρ, R, a⟩ => by
    obtain ⟨o1, e1, a1⟩ := a.ownAt
    obtain ⟨p, es, hA, hO⟩ := R.own i o1 e1
    refine ⟨_, es, G, A, ρ, R, (a1.split R).imp fun jd ρ2 G2 H2 s2 _ R2 a2 w rw' => ?_⟩
    obtain ⟨o2, e2, a2⟩ := a2.ownAt
    obtain ⟨p', es', hA', hO'⟩ := R2.own i o2 e2
    rw [es] at es'; cases es'
    cases o2 <;> first | exact a2.elim | skip
    rename_i ds
    cases jd <;> first | exact a2.elim | skip
    rename_i kk _
    obtain rfl := rep_int rw'
    obtain ⟨xs, h2, h3⟩ := hO'
    have a2 : AfterS c B W G2 A H2 ((match atI ds kk with
      | some (.int a) => mDo fe fun d => augAdd i kk a d
      | _ => fun _ => .stuck) ρ2) Z := a2
    cases ej : atI ds kk with
    | none => rw [ej] at a2; exact a2.elim
    | some dd =>
      rw [ej] at a2
      cases dd <;> first | exact a2.elim | skip
      rename_i av
      have a2 : AfterS c B W G2 A H2 ((mDo fe fun d => augAdd i kk av d) ρ2) Z := a2
      obtain ⟨v, hv1, hv2⟩ := rep_atI h3 ej
      obtain rfl := rep_int hv2
      refine ⟨p, xs, kk, .int av, rfl, rfl, SqL.of h2, hv1, G2, A, ρ2, R2, (a2.split R2).imp fun bd ρ3 G3 H3 s3 _ R3 a3 w3 rw3 => ?_⟩
      cases bd <;> first | exact a3.elim | skip
      rename_i bv
      obtain rfl := rep_int rw3
      have a3 : AfterS c B W G3 A H3 ((mDo (ownAt i) fun o => augPut i kk (av + bv) o) ρ3) Z := a3
      obtain ⟨o4, e4, a4⟩ := a3.ownAt
      obtain ⟨p4, es4, hA4, hO4⟩ := R3.own i o4 e4
      rw [es] at es4; cases es4
      cases o4 <;> first | exact a4.elim | skip
      rename_i ds4
      obtain ⟨xs4, h24, h34⟩ := hO4
      have a4 : AfterS c B W G3 A H3 (match ixN ds4.length kk with
        | some n => .next (ρ3.set i (.own (.lst (ds4.set n (.int (av + bv))))))
        | none => .stuck) Z := a4
      cases en : ixN ds4.length kk with
      | none => rw [en] at a4; exact a4.elim
      | some n =>
        rw [en] at a4
        refine ⟨av, bv, rfl, rfl, p, xs4, kk, n, rfl, rfl, h24, by rw [h34.length]; exact en, ?_⟩
        obtain ⟨R5, k5, s5⟩ := R3.setOwn (d' := .lst (ds4.set n (.int (av + bv)))) (o := .lst (xs4.set n (.int (av + bv)))) e4 es ⟨_, rfl, h34.set (.int _) n⟩
        exact AfterS.nx (AfterS.of R3.own_there (Stp.same (Same.refl _) k5) a4) R5
end
end Fx
set_option Elab.async false
set_option linter.all false
set_option maxRecDepth 100000
set_option maxHeartbeats 4000000
/-! Fx22: x[::-1], a list or a tuple. -/
namespace Fx
open PySem PyProof.Rows
section
variable {prog : Program} {w : World} {A : Around} {E : Value → Shared → Prop} {s : Shared}
theorem revSlots (xs : Array Value) : ((List.range xs.size).filterMap fun (m : Nat) => xs[((xs.size : Int) - 1 + (m : Int) * -1).toNat]?).toArray = xs.toList.reverse.toArray := by
  have e : (fun (m : Nat) => xs[((xs.size : Int) - 1 + (m : Int) * -1).toNat]?) = (fun m => xs[m]?) ∘ fun m => xs.size - 1 - m := by
    funext m
    have : ((xs.size : Int) - 1 + (m : Int) * -1).toNat = xs.size - 1 - m := by omega
    show xs[((xs.size : Int) - 1 + (m : Int) * -1).toNat]? = xs[xs.size - 1 - m]?
    rw [this]
  rw [e, ← List.filterMap_map, PySem.W.krv_range, List.filterMap_reverse, PySem.W.krv_all]
theorem sliceBack {sl : Addr} {vl vu vs : Value} {n : Nat} {Q : Int × Int × Nat → Shared → Prop} (hs : s.heap.IsSliceOf sl vl vu vs) (pl : IsPart vl none) (pu : IsPart vu none) (pt : IsPart vs (some (-1))) (h : Q ((n : Int) - 1, -1, n) s) :
    wpAny (model prog w) A (Builtin.Slice.sliceApplied (.ref sl) (pure (n : Int))) Q E s := by
  obtain ⟨os, hos, _, hds⟩ := id hs
  unfold Builtin.Slice.sliceApplied Builtin.Slice.sliceFields
  refine wpAny_bind (wpAny_bind (wpAny_field hos hds (x := vl) rfl ?_))
  refine wpAny_bind (wpAny_field hos hds (x := vu) rfl ?_)
  refine wpAny_bind (wpAny_field hos hds (x := vs) rfl (wpAny_pure ?_))
  refine wpAny_bind (HT.slicePart_ pt ?_)
  show wpAny _ _ (if ((-1 : Int) == 0) = true then _ else _) _ _ s
  rw [if_neg (by decide)]
  refine wpAny_bind (HT.slicePart_ pl (wpAny_bind (HT.slicePart_ pu (wpAny_bind (wpAny_pure ?_)))))
  have hp : Builtin.Slice.slicePlaces ((n : Int) - 1) (-1) (-1) = n := by
    unfold Builtin.Slice.slicePlaces
    rw [if_neg (by decide)]
    split
    · rw [show (-(-1) : Int) = 1 by decide, Int.ediv_one]
      omega
    · omega
  show wpAny _ _ (pure ((n : Int) - 1, (-1 : Int), Builtin.Slice.slicePlaces ((n : Int) - 1) (-1) (-1))) _ _ s
  rw [hp]
  exact wpAny_pure h
theorem tupleBack {t sl : Addr} {items : Array Value} {vl vu vs : Value} {Q : Value → Shared → Prop} (ht : IsTup s.heap t items) (hs : s.heap.IsSliceOf sl vl vu vs) (pl : IsPart vl none) (pu : IsPart vu none) (pt : IsPart vs (some (-1)))
    (h : Q (.ref s.heap.objs.size) { s with heap := s.heap.push { cls := .type "tuple", data := .seq items.toList.reverse.toArray } }) (hsz : items.size ≤ sizeLine) : wpAny (model prog w) A (getItem (.ref t) (.ref sl)) Q E s := by
  have hok : sizeOk (.seq items.toList.reverse.toArray) := by
    show items.toList.reverse.toArray.size ≤ sizeLine
    rw [List.size_toArray, List.length_reverse, Array.length_toList]
    exact hsz
  have hTs : s.TypeIs (.ref sl) "slice" := by
    obtain ⟨os, hos, hcs, _⟩ := id hs
    exact ⟨os, hos, hcs⟩
  unfold getItem
  try with_reducible refine wpAny_holding ?_
  first | refine wpAny_bind (wpAny_pure ?_) | skip
  refine wpAny_bind (wpAny_sequenceKey ht.typeIs (by decide) ?_)
  refine wpAny_bind (wpAny_callSpecial?_slot (name := Str.ofString "__getitem__") ht.typeIs slot_tuple_getitem (wpAny_call_entry slot_tuple_getitem ht.typeIs entry_tuple_getitem ?_ (args_tuple_getitem _ _)))
  show wpAny _ _ (Builtin.Tuple.tupleItemsOf (.ref t) >>= _) _ _ s
  refine wpAny_bind (tupleItemsOf_ ht (wpAny_bind (wpAny_typeOf hTs ?_)))
  rw [if_pos (by decide)]
  refine wpAny_bind (sliceBack hs pl pu pt ?_)
  have hno : ¬ ((((items.size : Int) - 1) == 0 && (-1 : Int) == 1 && items.size == items.size) = true) := by
    intro q
    rw [Bool.and_eq_true, Bool.and_eq_true] at q
    exact absurd q.1.2 (by decide)
  show wpAny _ _ (if (((items.size : Int) - 1) == 0 && (-1 : Int) == 1 && items.size == items.size) = true then _ else _) _ _ s
  rw [if_neg hno, revSlots]
  first
    | exact wpAny_bind (m := Builtin.Tuple.tupleExact _) (wpAny_newObj_type (wpAny_pure ⟨_, rfl, wpAny_pure h⟩) hok)
    | exact wpAny_bind (wpAny_bind (m := Builtin.Tuple.tupleExact _) (wpAny_newObj_type (wpAny_pure (wpAny_pure ⟨_, rfl, wpAny_pure h⟩)) hok))
    | exact wpAny_bind (wpAny_bind (m := Builtin.Tuple.tupleExact _) (wpAny_newObj_type (wpAny_pure ⟨_, rfl, wpAny_pure h⟩) hok))
    | exact wpAny_bind (m := Builtin.Tuple.tupleExact _) (wpAny_newObj_type (wpAny_bind (wpAny_pure (wpAny_pure ⟨_, rfl, wpAny_pure h⟩))) hok)
end
end Fx
namespace Fx
open PySem L2 PyProof.Rows
section
variable {c : Cf} {B : List (Nat × Addr)} {W : WX} {X : Cx} {G H : Hp} {A : Addr → Prop} {σ : L2.St} {ρ : Cells} {Z : Ends}
/-- a tuple turned round is a new tuple -/
def tRevT (K : PySem.W.Frag) (te : TE) : TE := fun σ H Q => te σ H fun x H1 => ∃ a xs, x = .ref a ∧ SqT K H1 a xs ∧ ∀ p its, H1 p = none → Q (.ref p) (upd H1 p (.frz (tob its) (.tup xs.reverse)))
theorem pe_revT {e : Expr} {te : TE} {k : Nat} {p1 p2 p3 pos : Pos} (he : PE X e te) : PE X (.Subscript e (.Slice none none (some (.UnaryOp .USub (.Constant (.int 1) k p1) p2)) p3) pos) (tRevT X.K te) := by
  refine ⟨fun pins s σ H Q I h => ?_⟩
  refine Subscript_ (thn (he.run pins s σ H _ I h) fun v s1 ⟨x, H1, I1, r1, q1⟩ => ?_)
  obtain ⟨a, xs, ex, hx, q⟩ := q1
  subst ex
  cases r1
  have hst : PO X (some (.UnaryOp .USub (.Constant (.int 1) k p1) p2)) (tPart (tUn (rU fun i => .int (-i)) (tC (.int 1)))) := po_some (pe_un un_neg pe_int)
  refine wpAny_Slice (thn (po_none.run pins s1 σ H1 (fun o H2 => o = none ∧ H2 = H1) I1 ⟨rfl, rfl⟩) fun vl s2 ⟨l, H2, I2, pl, el, e2⟩ => ?_)
  subst el e2
  refine thn (po_none.run pins s2 σ H2 (fun o H3 => o = none ∧ H3 = H2) I2 ⟨rfl, rfl⟩) fun vu s3 ⟨u, H3, I3, pu, eu, e3⟩ => ?_
  subst eu e3
  refine thn (hst.run pins s3 σ H3 (fun o H4 => o = some (-1) ∧ H4 = H3) I3 ⟨1, rfl, -1, rfl, rfl, rfl⟩) fun vs s4 ⟨o, H4, I4, pt, eo, e4⟩ => ?_
  subst eo e4
  have I5 : Inv X pins σ H4 { s4 with heap := s4.heap.push { cls := .type "slice", data := .fields #[vl, vu, vs] } } := I4.kept (t' := s4.toks) fun b ob q => Heap.get?_push_of_some _ q
  obtain ⟨its, r, ht, hz⟩ := I5.tuple hx
  have hlen := r.length
  show wpAny (model X.prog X.w) X.A (subscriptTail e (.Slice none none (some (.UnaryOp .USub (.Constant (.int 1) k p1) p2)) p3) (.ref a) (.ref s4.heap.objs.size)) (EP X pins σ Q) X.xe { s4 with heap := s4.heap.push { cls := .type "slice", data := .fields #[vl, vu, vs] } }
  refine tail_any (ops := [.ref a, .ref s4.heap.objs.size]) ht.typeIs (PyProof.Rows.slot_tuple_getitem.lookup) ?_ (by with_unfolding_all rfl)
  refine tupleBack ht (Heap.IsSliceOf.new _ vl vu vs) pl pu pt ?_ (by rw [List.size_toArray]; omega)
  have I6 := tnew (t' := s4.toks) I5 r.reverse (by rw [List.length_reverse]; exact hz)
  exact ⟨.ref _, _, I6, rfl, q _ _ (fresh I5)⟩
def sRev : D → Option D
  | .lst ds => some (.lst ds.reverse)
  | _ => none
def sRevT : D → Option D
  | .tup ds => some (.tup ds.reverse)
  | _ => none
/-- x[::-1] -/
def mRev (sem : D → Option D) (o : Opn) : M D := o.pre.bind fun a => (rdM o a).bind fun d => M.lift (sem d)
theorem RepL.rev : ∀ {vs : List V} {ds : List D}, RepL c G vs ds → RepL c G vs.reverse ds.reverse
  | _, _, .nil => .nil
  | _, _, .cons r t => by
    rw [List.reverse_cons, List.reverse_cons]
    exact t.rev.append (.one r)
theorem rev_core {o : Opn} {sem : D → Option D} {Qd : D → Hp → Hp → Prop} (R : Rel c B G A H σ ρ) (a : After c B W G A H σ (mRev sem o ρ) fun d _ G' H' => Qd d G' H') {r : V → Hp → Prop}
    (k : ∀ G' H' x d e, Same G' H' → Opr c G' H' x d → sem d = some e → Qd e G' H' → r x H') : tO c B W o σ H fun x H1 => r x H1 := by
  refine ⟨G, A, ρ, R, a.split.imp fun a0 ρ1 G1 H1 _ _ R1 a1 x fx => ?_⟩
  obtain ⟨d, e1, a2⟩ := a1.rd
  obtain ⟨e, e2, q⟩ := a2.lift R1
  exact k G1 H1 x d e R1.same (fx G1 H1 ρ1 d (Same.refl _) R1 e1) e2 q
theorem f_revL {e : Expr} {o : Opn} {k : Nat} {p1 p2 p3 pos : Pos} (he : PE X e (tO c B W o)) (hK : c.K = X.K := by rfl) : PE X (.Subscript e (.Slice none none (some (.UnaryOp .USub (.Constant (.int 1) k p1) p2)) p3) pos) (tF c B W (mRev sRev o)) :=
  pe_imp (pe_revL he) fun σ H Q ⟨G, A, ρ, R, a⟩ => rev_core R a.k2 fun G' H' x d e s o1 e1 q => by
    cases d <;> first | (cases e1; done) | skip
    cases e1
    obtain ⟨p, us, rfl, hp, r1⟩ := o1.lst s
    rw [← hK]
    exact ⟨p, us, rfl, hp.sq, fun z hz => q.lst hz r1.rev⟩
theorem o_revL {e : Expr} {o : Opn} {k : Nat} {p1 p2 p3 pos : Pos} (he : PE X e (tO c B W o)) (hK : c.K = X.K := by rfl) : PE X (.Subscript e (.Slice none none (some (.UnaryOp .USub (.Constant (.int 1) k p1) p2)) p3) pos) (tM c B W (mRev sRev o)) := pm_of_pf (f_revL he hK)
theorem o_revT {e : Expr} {o : Opn} {k : Nat} {p1 p2 p3 pos : Pos} (he : PE X e (tO c B W o)) (hK : c.K = X.K := by rfl) : PE X (.Subscript e (.Slice none none (some (.UnaryOp .USub (.Constant (.int 1) k p1) p2)) p3) pos) (tM c B W (mRev sRevT o)) :=
  pe_imp (pe_revT he) fun σ H Q ⟨G, A, ρ, R, a⟩ => rev_core R a.k1 fun G' H' x d e s o1 e1 q => by
    cases d <;> first | (cases e1; done) | skip
    cases e1
    obtain ⟨p, us, rfl, hp, r1, _⟩ := o1.tup s
    rw [← hK]
    exact ⟨p, us, rfl, hp.sq, fun z its hz => q.tup s hz r1.rev⟩
end
end Fx
namespace Fx
open PySem L2
section
variable {c : Cf} {B : List (Nat × Addr)} {W : WX} {X : Cx} {G H : Hp} {A : Addr → Prop} {σ : L2.St} {ρ : Cells} {Z : Ends}
/-! ### a, b = x, y, each new -/
theorem Rel.cut {p : Addr} (R : Rel c B G A H σ ρ) (gp : G p = none) (na : ¬ A p) : Rel c B G A (fun b => if b = p then none else H b) σ ρ := by
  refine ⟨fun b o h => ?_, R.len, fun b hb => ?_, R.dat, fun i d h => ?_, R.dis, R.byr⟩
  · have hb : b ≠ p := fun z => by rw [z, gp] at h; cases h
    show (if b = p then none else H b) = some o
    rw [if_neg hb]
    exact R.same b o h
  · have hb' : b ≠ p := fun z => na (z ▸ hb)
    show G b = none ∧ ∃ o, (if b = p then none else H b) = some o
    rw [if_neg hb']
    exact R.ownA b hb
  · obtain ⟨q, h1, h2, h3⟩ := R.own i d h
    have hq : q ≠ p := fun z => na (z ▸ h2)
    refine ⟨q, h1, h2, ?_⟩
    show Own c G (if q = p then none else H q) d
    rw [if_neg hq]
    exact h3
theorem Rel.addOwn {p : Addr} {d : D} {i : Nat} (R : Rel c B G A H σ ρ) (gp : G p = none) (na : ¬ A p) (ho : Own c G (H p) d) (hb : B.all (fun q => q.1 != i) = true) : Rel c B G (fun b => A b ∨ b = p) H (σ.set i (some (.ref p))) (ρ.set i (.own d)) :=
  (R.cut gp na).newOwn (p := p) (if_pos rfl) (fun b o h => by
    have h : (if b = p then none else H b) = some o := h
    by_cases z : b = p
    · rw [if_pos z] at h; cases h
    · rw [if_neg z] at h; exact h) ho hb
def mNew2 (f g : M D) (i j : Nat) : MS := mDo f fun d => mDo g fun e ρ => .next ((ρ.set i (.own d)).set j (.own e))
theorem ps_new2 (i j : Nat) {x y : Str} {a b : Expr} {f g : M D} {px py pt pos : Pos} {kt k2 pt2} (hc : X.calm = true) (hN : X.N.Nodup) (hb1 : B.all (fun q => q.1 != i) = true) (hb2 : B.all (fun q => q.1 != j) = true) (ha : PE X a (tF c B W f)) (hb : PE X b (tF c B W g))
    (hi : X.N[i]? = some x := by rfl) (hj : X.N[j]? = some y := by rfl) (hij : i ≠ j := by decide)
    (hx : X.env.scope.names.lookup x = some .local := by rfl) (hy : X.env.scope.names.lookup y = some .local := by rfl)
    (hw : swappedStores [.Tuple [.Name x px, .Name y py] kt pt] (.Tuple [a, b] k2 pt2) X.env = pure (some [x, y]) := by rfl)
    (hs : swapsWithSole [.Tuple [.Name x px, .Name y py] kt pt] (.Tuple [a, b] k2 pt2) pos.line X.env = pure false := by rfl)
    (hs1 : starEach [a, b] X.env = (false, eval a X.env) :: starEach [b] X.env := by rfl) (hs2 : starEach [b] X.env = (false, eval b X.env) :: starEach [] X.env := by rfl) :
    PS X (.Assign [.Tuple [.Name x px, .Name y py] kt pt] (.Tuple [a, b] k2 pt2) pos) (tS c B W (mNew2 f g i j)) :=
  ps_imp (ps_par hc hN hi hj hij hx hy (pa_cons ha (pa_cons hb pa_nil hs2) hs1) hw hs) fun Z σ H ⟨G, A, ρ, R, a⟩ => by
    refine ⟨G, A, ρ, R, (a.split R).imp fun d ρ1 G1 H1 _ _ R1 a1 p H1' hp hh ho => ?_⟩
    have gp1 : G1 p = none := R1.same.free hp
    have na : ¬ A p := fun z => by
      obtain ⟨_, o, h⟩ := R1.ownA p z
      rw [hp] at h; cases h
    have R1' := R1.ext (H' := H1') (G' := G1) ⟨Same.refl _, hh, R1.same.trans hh, fun _ _ _ => rfl⟩
    refine ⟨G1, A, ρ1, R1', ?_⟩
    obtain ⟨u, hu⟩ := ho.some
    have a1 : AfterS c B W G1 A H1 (mDo g (fun e ρ => .next ((ρ.set i (.own d)).set j (.own e))) ρ1) Z := a1
    unfold mDo at a1
    cases eg : g ρ1 with
    | stuck => rw [eg] at a1; exact a1.elim
    | exc x ρ2 =>
      rw [eg] at a1
      exact fun G' H' dd s k R r => a1 G' A H' σ dd ⟨s, fun b o h n => k b o (hh b o h) n, fun _ h => .inl h⟩ R r
    | ok e ρ2 =>
      rw [eg] at a1
      intro G2 H2 s2 k2 R2 q H2' hq hh2 ho2
      obtain ⟨hp2, gp2⟩ := k2 p u hu na
      have gq : G2 q = none := R2.same.free hq
      have naq : ¬ (A q ∨ q = p) := fun z => by
        rcases z with z | z
        · obtain ⟨_, o, h⟩ := R2.ownA q z
          rw [hq] at h; cases h
        · rw [z, hp2] at hq; cases hq
      have hop : Own c G2 (H2' p) d := by
        rw [hh2 p u hp2, ← hu]
        exact ho.mono s2
      have hq1 : H1 q = none := by
        cases h : H1 q with
        | none => rfl
        | some o =>
          have := (k2 q o (hh q o h) fun z => naq (.inl z)).1
          rw [hq] at this; cases this
      have R2' := R2.ext (H' := H2') (G' := G2) ⟨Same.refl _, hh2, R2.same.trans hh2, fun _ _ _ => rfl⟩
      have R3 := (R2'.addOwn (gp2.trans gp1) na hop hb1).addOwn gq naq ho2 hb2
      refine ⟨.ref p, .ref q, rfl, a1 G2 _ H2' _ ⟨s2, fun b o h n => ?_, fun b h => ?_⟩ R3⟩
      · obtain ⟨z1, z2⟩ := k2 b o (hh b o h) n
        exact ⟨hh2 b o z1, z2⟩
      · rcases h with (h | h) | h
        · exact .inl h
        · exact .inr (by rw [h]; exact hp)
        · exact .inr (by rw [h]; exact hq1)
end
end Fx
set_option Elab.async false
set_option linter.all false
set_option maxRecDepth 100000
set_option maxHeartbeats 4000000
/-! Fx23: xs.remove(k), a list of whole numbers. -/
namespace Fx
open PySem L2
section
variable {c : Cf} {B : List (Nat × Addr)} {W : WX} {X : Cx} {G H : Hp} {A : Addr → Prop} {σ : L2.St} {ρ : Cells} {Z : Ends}
theorem m_remove (i : Nat) {x : Str} {e : Expr} {fe : M D} {np apos cpos : Pos} (he : PE X e (tM c B W fe)) (hN : X.N[i]? = some x := by rfl) (hv : Vis X.env.scope x := by first | exact Or.inl rfl | exact Or.inr (Or.inl rfl) | exact Or.inr (Or.inr rfl)) (hd : (x == ("__debug__" : Str)) = false := by decide)
    (hcd : (x == ("__classdict__" : Str)) = false := by decide) (hbase : attributeBase (.Name x np) "remove" X.env (eval (.Name x np) X.env) = eval (.Name x np) X.env := by rfl)
    (hfew : ((backTo cpos (starEach [e] X.env)).all (fun x => !x.1) && (backToKw cpos (keywordEach [] X.env)).all (fun x => x.1.isSome) && decide ([e].length + ([] : List Keyword).length + (if ([] : List Keyword).isEmpty then 0 else 1) < 30)) = true := by rfl)
    (hline : (apos.endLine == cpos.line) = true := by rfl) (hs : starEach [e] X.env = (false, eval e X.env) :: starEach [] X.env := by rfl) (hplain : (backTo cpos (starEach [] X.env)).any (·.1) = false := by rfl) :
    PE X (.Call (.Attribute (.Name x np) "remove" apos) [e] [] cpos) (tM c B W (mMethWR wRemove i [fe])) := pm_methWR i semRemove (pe_bm PySem.F.plainAttrs_list PySem.F.slot_list_remove PySem.F.type_list_remove mt_remove (pe_slot i hN hv hd hcd) (pd_cons he pd_nil hs) hbase hfew hline hs hplain)
end
end Fx
set_option Elab.async false
set_option linter.all false
set_option maxRecDepth 100000
set_option maxHeartbeats 4000000
/-! Fx24: an owned list is walked inside a comprehension and is owned behind it. -/
namespace Fx
open PySem L2
def flatOne : D → D → Bool
  | .non, .non => true
  | .bl a, .bl b => a == b
  | .int a, .int b => a == b
  | .str a, .str b => a == b
  | _, _ => false
def flatAll : List D → List D → Bool
  | [], [] => true
  | a :: as, b :: bs => flatOne a b && flatAll as bs
  | _, _ => false
def flatEq : D → D → Bool
  | .lst a, .lst b => flatAll a b
  | _, _ => false
def flatL : D → Bool
  | .lst ds => ds.all flatD
  | _ => false
def cellsOk (i : Nat) : Nat → Cells → Cells → Bool
  | _, [], [] => true
  | k, x :: ρ, y :: ρ' => (k == i || match x, y with
    | .own d, .own e => flatEq d e
    | .own _, _ => false
    | _, _ => true) && cellsOk i (k + 1) ρ ρ'
  | _, _, _ => false
/-- f with what slot i owns frozen; it is owned again behind it -/
def mThaw (i : Nat) (f : M D) : M D := fun ρ => match ρ[i]? with
  | some (.own d) => match f (ρ.set i (.dat d)) with
    | .ok e ρ' => if (flatL e && cellsOk i 0 ρ ρ') = true then .ok e ρ else .stuck
    | _ => .stuck
  | _ => .stuck
theorem flatOne_eq {a b : D} (h : flatOne a b = true) : a = b ∧ flatD a = true := by
  cases a <;> cases b <;> first | (cases h; done) | exact ⟨by simpa [flatOne] using h, rfl⟩
theorem flatAll_eq : ∀ {a b : List D}, flatAll a b = true → a = b ∧ a.all flatD = true
  | [], [], _ => ⟨rfl, rfl⟩
  | [], _ :: _, h => by cases h
  | _ :: _, [], h => by cases h
  | a :: as, b :: bs, h => by
    unfold flatAll at h
    rw [Bool.and_eq_true] at h
    obtain ⟨h1, h2⟩ := flatOne_eq h.1
    obtain ⟨h3, h4⟩ := flatAll_eq h.2
    subst h1 h3
    exact ⟨rfl, by simp only [List.all_cons, h2, h4, Bool.and_self]⟩
theorem flatEq_eq {a b : D} (h : flatEq a b = true) : a = b ∧ flatL a = true := by
  cases a <;> cases b <;> first | (cases h; done) | skip
  obtain ⟨h1, h2⟩ := flatAll_eq (show flatAll _ _ = true from h)
  subst h1
  exact ⟨rfl, h2⟩
theorem cellsOk_at {i : Nat} : ∀ {k : Nat} {ρ ρ' : Cells} {j : Nat} {d : D}, cellsOk i k ρ ρ' = true → k + j ≠ i → ρ[j]? = some (.own d) → ρ'[j]? = some (.own d) ∧ flatL d = true
  | k, [], ρ', j, d, h, hj, e => by simp at e
  | k, x :: ρ, [], j, d, h, hj, e => by cases h
  | k, x :: ρ, y :: ρ', 0, d, h, hj, e => by
    unfold cellsOk at h
    rw [Bool.and_eq_true, Bool.or_eq_true] at h
    have e : x = .own d := by simpa using e
    subst e
    rcases h.1 with z | z
    · exact absurd (eq_of_beq z) (by simpa using hj)
    · cases y with
      | own d' =>
        obtain ⟨h1, h2⟩ := flatEq_eq z
        subst h1
        exact ⟨rfl, h2⟩
      | no => cases z
      | dat d' => cases z
  | k, x :: ρ, y :: ρ', j + 1, d, h, hj, e => by
    unfold cellsOk at h
    rw [Bool.and_eq_true] at h
    have := cellsOk_at (k := k + 1) (j := j) h.2 (by omega) (by simpa using e)
    simpa using this
section
variable {c : Cf} {B : List (Nat × Addr)} {W : WX} {X : Cx} {G G' H : Hp} {A : Addr → Prop} {σ : L2.St} {ρ : Cells} {Z : Ends}
theorem rep_flatG {v : V} {d : D} (r : Rep c G v d) (h : flatD d = true) : Rep c G' v d := by
  cases r <;> first | (cases h; done) | constructor
theorem repL_flatG : ∀ {vs : List V} {ds : List D}, RepL c G vs ds → ds.all flatD = true → RepL c G' vs ds
  | _, _, .nil, _ => .nil
  | _, _, .cons r t, h => by
    rw [List.all_cons, Bool.and_eq_true] at h
    exact .cons (rep_flatG r h.1) (repL_flatG t h.2)
theorem own_flat {o : Option HO} {d : D} (h : Own c G o d) (hf : flatL d = true) : Own c G' o d := by
  cases d <;> first | exact h.elim | (cases hf; done) | skip
  obtain ⟨xs, h1, h2⟩ := h
  exact ⟨xs, h1, repL_flatG h2 hf⟩
theorem thaw_read {i : Nat} {f : M D} {Q : VK} (hb : B.all (fun q => q.1 != i) = true) : tF c B W (mThaw i f) σ H Q → tF c B W f σ H Q := fun ⟨G, A, ρ, R, a⟩ => by
    unfold mThaw at a
    cases ei : ρ[i]? with
    | none => simp only [ei] at a; exact a.elim
    | some cl =>
      simp only [ei] at a
      cases cl with
      | no => exact a.elim
      | dat d => exact a.elim
      | own d =>
        obtain ⟨p, es, hA, hO⟩ := R.own i d ei
        obtain ⟨u, hu⟩ := hO.some
        obtain ⟨gp, _⟩ := R.ownA p hA
        have R1 := R.freeze ei es hu hb
        refine ⟨_, _, _, R1, ?_⟩
        have a : After c B W G A H σ (match f (ρ.set i (.dat d)) with
          | .ok e ρ' => if (flatL e && cellsOk i 0 ρ ρ') = true then Out.ok e ρ else .stuck
          | _ => .stuck) _ := a
        cases ef : f (ρ.set i (.dat d)) with
        | stuck => rw [ef] at a; exact a.elim
        | exc x ρ' => rw [ef] at a; exact a.elim
        | ok e ρ' =>
          rw [ef] at a
          intro G2 H2 s2 k2 R2 q H3 hq hh ho
          have a : After c B W G A H σ (if (flatL e && cellsOk i 0 ρ ρ') = true then Out.ok e ρ else .stuck) _ := a
          split at a
          · rename_i hc
            rw [Bool.and_eq_true] at hc
            have sG : Same G (upd G p u) := same_upd gp
            have hp2 : H2 p = some u := R2.same p u (s2 p u upd_same)
            have R3 : Rel c B G A H2 σ ρ := by
              refine ⟨sG.trans (s2.trans R2.same), R.len, fun b hb' => ?_, R.dat, fun j d' hj => ?_, R.dis, R.byr⟩
              · refine ⟨(R.ownA b hb').1, ?_⟩
                by_cases z : b = p
                · exact ⟨u, by rw [z]; exact hp2⟩
                · exact (R2.ownA b ⟨hb', z⟩).2
              · obtain ⟨r, h1, h2, h3⟩ := R.own j d' hj
                refine ⟨r, h1, h2, ?_⟩
                by_cases z : j = i
                · subst z
                  rw [ei] at hj
                  cases hj
                  rw [es] at h1
                  cases h1
                  rw [hp2, ← hu]
                  exact hO
                · obtain ⟨h4, h5⟩ := cellsOk_at hc.2 (by omega) hj
                  obtain ⟨r', h6, h7, h8⟩ := R2.own j d' h4
                  rw [h1] at h6
                  cases h6
                  exact own_flat h8 h5
            refine a G H2 (Same.refl _) (fun b o h n => ⟨(k2 b o h fun z => n z.1).1, rfl⟩) R3 q H3 hq hh (own_flat ho hc.1)
          · exact a.elim
theorem pf_thaw (i : Nat) {e : Expr} {f : M D} (hb : B.all (fun q => q.1 != i) = true) (h : PE X e (tF c B W f)) : PE X e (tF c B W (mThaw i f)) := pe_imp h fun σ H Q q => thaw_read hb q
theorem ps_asgLcT (k : Nat) (i : Nat) {y : Str} {py : Pos} {elt tg iter : Expr} {ifs : List Expr} {scope : Scope} (own : List (Str × Nat)) {pos spos : Pos} {fi : M (List D)} {P : VP} {ts : List Nat} {g : TgM} {tt : M Bool} {fe : M D} (hk : B.all (fun q => q.1 != k) = true) (hc : X.calm = true) (hN : X.N.Nodup) (hy : X.N[i]? = some y) (hyl : X.env.scope.names.lookup y = some .local)
    (hsw : swapsWith (.ListComp elt [⟨tg, iter, ifs, 0⟩] scope pos) (some (.Name y py)) spos.line X.env = pure true) (hb : B.all (fun q => q.1 != i) = true) (hi : PI X tg iter (tI c B W P fi)) (ok : BlkOk X.N X.env.scope scope own)
    (ht : ts.all (fun t => (own.map (·.2)).contains t) = true) (hB : B.all (fun q => !(own.map (·.2)).contains q.1) = true)
    (hg : ∀ (s : Shared) (H : Hp) (C : Addr) (cl : List (Str × Addr)) (fp : List Addr), PG (X.blk s H scope (compEnvC scope cl C X.env) fp) tg (tG c B P ts g)) (htt : ∀ (s : Shared) (H : Hp) (C : Addr) (cl : List (Str × Addr)) (fp : List Addr), PTs (X.blk s H scope (compEnvC scope cl C X.env) fp) ifs (tT c B W0 tt))
    (he : ∀ (s : Shared) (H : Hp) (C : Addr) (cl : List (Str × Addr)) (fp : List Addr), PE (X.blk s H scope (compEnvC scope cl C X.env) fp) elt (tM c B W0 fe)) (hs : ∀ x, foldedSetIterable iter X.env x = pure x := by intro _; rfl) :
    PS X (.Assign [.Name y py] (.ListComp elt [⟨tg, iter, ifs, 0⟩] scope pos) spos) (tS c B W (mAsg (mThaw k (mLc fi g tt fe (own.map (·.2)))) (gNm i))) :=
  ps_imp (ps_setLc hc hN hy hyl hsw hi ok hg htt he hs) fun Z σ H ⟨G, A, ρ, R, a⟩ => by
    refine lc_read (W := W) ht hB (thaw_read hk ⟨G, A, ρ, R, (a.split R).imp fun d ρ' G' H' _ _ R' q p H2 hp hh ho => ?_⟩)
    obtain ⟨G2, x2, r2⟩ := ext_own R'.same hp hh ho
    exact AfterS.nx (AfterS.of R'.own_there (Stp.same x2.gg x2.keep) q) ((R'.ext x2).setDat r2 hb)
end
end Fx
set_option Elab.async false
set_option linter.all false
set_option maxRecDepth 100000
set_option maxHeartbeats 4000000
/-! Fx25: a pair of new lists, a cell among the names. -/
namespace Fx
open PySem L2
section
variable {c : Cf} {B : List (Nat × Addr)} {W : WX} {X : Cx} {G H : Hp} {A : Addr → Prop} {σ : L2.St} {ρ : Cells} {Z : Ends}
/-- a, b = x, y, each new; a cell among the names -/
theorem ps_new2C (i j : Nat) {x y : Str} {a b : Expr} {f g : M D} {px py pt pos : Pos} {kt k2 pt2} (hc : X.calm = true) (hN : X.N.Nodup) (hb1 : B.all (fun q => q.1 != i) = true) (hb2 : B.all (fun q => q.1 != j) = true) (ha : PE X a (tF c B W f)) (hb : PE X b (tF c B W g))
    (hi : X.N[i]? = some x := by rfl) (hj : X.N[j]? = some y := by rfl)
    (hx : Loc X.env.scope x := by first | exact Or.inl rfl | exact Or.inr rfl) (hy : Loc X.env.scope y := by first | exact Or.inl rfl | exact Or.inr rfl)
    (hfx : X.fn x = true ∨ X.env.scope.names.lookup x = some .local := by first | exact .inl rfl | exact .inr rfl) (hfy : X.fn y = true ∨ X.env.scope.names.lookup y = some .local := by first | exact .inl rfl | exact .inr rfl)
    (hw : swappedStores [.Tuple [.Name x px, .Name y py] kt pt] (.Tuple [a, b] k2 pt2) X.env = pure none := by rfl)
    (hs : swapsWithSole [.Tuple [.Name x px, .Name y py] kt pt] (.Tuple [a, b] k2 pt2) pos.line X.env = pure false := by rfl)
    (h1 : (assignEach [.Tuple [.Name x px, .Name y py] kt pt] X.env).map (·.2) = [assign (.Tuple [.Name x px, .Name y py] kt pt) X.env] := by rfl)
    (hn : (assignEach [.Name x px, .Name y py] X.env).length = 2 := by rfl) (hst : (assignEach [.Name x px, .Name y py] X.env).findIdx? (·.1) = none := by rfl)
    (hs1 : starEach [a, b] X.env = (false, eval a X.env) :: starEach [b] X.env := by rfl) (hs2 : starEach [b] X.env = (false, eval b X.env) :: starEach [] X.env := by rfl)
    (ht1 : (assignEach (.Name x px :: [.Name y py]) X.env).map (·.2) = assign (.Name x px) X.env :: (assignEach [.Name y py] X.env).map (·.2) := by rfl) (ht2 : (assignEach (.Name y py :: []) X.env).map (·.2) = assign (.Name y py) X.env :: (assignEach [] X.env).map (·.2) := by rfl) :
    PS X (.Assign [.Tuple [.Name x px, .Name y py] kt pt] (.Tuple [a, b] k2 pt2) pos) (tS c B W (mNew2 f g i j)) :=
  ps_imp (ps_asg (pe_tup (pa_cons ha (pa_cons hb pa_nil hs2) hs1)) (pg_tup hc (pgs_cons (pg_name hN hi hx hfx) (pgs_cons (pg_name hN hj hy hfy) pgs_nil ht2) ht1) hn hst) hs hw h1) fun Z σ H ⟨G, A, ρ, R, a⟩ => by
    refine ⟨G, A, ρ, R, (a.split R).imp fun d ρ1 G1 H1 _ _ R1 a1 p H1' hp hh ho => ?_⟩
    have gp1 : G1 p = none := R1.same.free hp
    have na : ¬ A p := fun z => by
      obtain ⟨_, o, h⟩ := R1.ownA p z
      rw [hp] at h; cases h
    have R1' := R1.ext (H' := H1') (G' := G1) ⟨Same.refl _, hh, R1.same.trans hh, fun _ _ _ => rfl⟩
    refine ⟨G1, A, ρ1, R1', ?_⟩
    obtain ⟨u, hu⟩ := ho.some
    have a1 : AfterS c B W G1 A H1 (mDo g (fun e ρ => .next ((ρ.set i (.own d)).set j (.own e))) ρ1) Z := a1
    unfold mDo at a1
    cases eg : g ρ1 with
    | stuck => rw [eg] at a1; exact a1.elim
    | exc x ρ2 =>
      rw [eg] at a1
      exact fun G' H' dd s k R r => a1 G' A H' σ dd ⟨s, fun b o h n => k b o (hh b o h) n, fun _ h => .inl h⟩ R r
    | ok e ρ2 =>
      rw [eg] at a1
      intro G2 H2 s2 k2 R2 q H2' hq hh2 ho2
      obtain ⟨hp2, gp2⟩ := k2 p u hu na
      have gq : G2 q = none := R2.same.free hq
      have naq : ¬ (A q ∨ q = p) := fun z => by
        rcases z with z | z
        · obtain ⟨_, o, h⟩ := R2.ownA q z
          rw [hq] at h; cases h
        · rw [z, hp2] at hq; cases hq
      have hop : Own c G2 (H2' p) d := by
        rw [hh2 p u hp2, ← hu]
        exact ho.mono s2
      have hq1 : H1 q = none := by
        cases h : H1 q with
        | none => rfl
        | some o =>
          have := (k2 q o (hh q o h) fun z => naq (.inl z)).1
          rw [hq] at this; cases this
      have R2' := R2.ext (H' := H2') (G' := G2) ⟨Same.refl _, hh2, R2.same.trans hh2, fun _ _ _ => rfl⟩
      have R3 := (R2'.addOwn (gp2.trans gp1) na hop hb1).addOwn gq naq ho2 hb2
      refine ⟨(by show 2 ≤ sizeLine; decide), fun t ht => ⟨t, _, rfl, SqT.of upd_same, rfl, .ref p, [.ref q], rfl, .ref q, [], rfl, rfl, ?_⟩⟩
      have s4 : Same H2' (upd H2' t (.tup [.ref p, .ref q])) := same_upd ht
      have R4 := R3.ext (G' := G2) (H' := upd H2' t (.tup [.ref p, .ref q])) ⟨Same.refl _, s4, R3.same.trans s4, fun _ _ _ => rfl⟩
      refine a1 G2 _ _ _ ⟨s2, fun b o h n => ?_, fun b h => ?_⟩ R4
      · obtain ⟨z1, z2⟩ := k2 b o (hh b o h) n
        exact ⟨s4 b o (hh2 b o z1), z2⟩
      · rcases h with (h | h) | h
        · exact .inl h
        · exact .inr (by rw [h]; exact hp)
        · exact .inr (by rw [h]; exact hq1)
end
end Fx
set_option Elab.async false
set_option linter.all false
set_option maxRecDepth 100000
set_option maxHeartbeats 4000000
/-! Fx26: tuple * int, any number. -/
namespace Fx
open PySem PySem.Spec PyProof.Rows L2
theorem tup_once (l : Addr) (items : Array Value) (n : Nat) (dd : Option Addr) (sl : Array (Option Value)) (u : Tok) :
    Meets (Builtin.«tuple.__mul__» ⟨[.ref l, .int 1 u], []⟩) (fun _ R s => s.heap.get? l = some { cls := .type "tuple", dict := dd, data := .seq items n, slots := sl } ∧ R (.ok (.ret (Value.ref l))) s) :=
  .of_wp fun prog w A R s h => by
    obtain ⟨hp, g, d, tk, os⟩ := s
    obtain ⟨hl, h⟩ := h
    have f1 := AutoSeq1.idx_int
    have c0 : (decide ((1 : Int) < -(2 ^ 63)) || decide ((1 : Int) ≥ 2 ^ 63)) = false := by decide
    have c1 : (items.isEmpty || (1 : Int) == 1) = true := by simp
    wp_walk using wpAny_loadPart' hl
    repeat (first
      | (refine wpAny_ite_false (decide_eq_false (by rw [c0]; exact Bool.false_ne_true)) ?_; wp_walk using wpAny_loadPart' hl)
      | (refine wpAny_ite_true (decide_eq_true c1) ?_; wp_walk using wpAny_loadPart' hl))
    exact ⟨_, rfl, h⟩
theorem tup_never (l : Addr) (items : Array Value) (n : Nat) (dd : Option Addr) (sl : Array (Option Value)) (x : Int) (u : Tok) (c0 : (decide (x < -(2 ^ 63)) || decide (x ≥ 2 ^ 63)) = false) (c1 : (items.isEmpty || x == 1) = false) (c2 : (decide (x ≤ 0) || items.isEmpty) = true) :
    Meets (Builtin.«tuple.__mul__» ⟨[.ref l, .int x u], []⟩) (fun _ R s => s.heap.get? l = some { cls := .type "tuple", dict := dd, data := .seq items n, slots := sl } ∧
      R (.ok (.ret (Value.ref s.heap.objs.size))) { s with heap := s.heap.push { cls := Value.type "tuple", data := Data.seq #[] }, toks := s.toks }) :=
  .of_wp fun prog w A R s h => by
    obtain ⟨hp, g, d, tk, os⟩ := s
    obtain ⟨hl, h⟩ := h
    have f1 := AutoSeq1.idx_int
    wp_walk using wpAny_loadPart' hl
    repeat (first
      | (refine wpAny_ite_false (decide_eq_false (by rw [c0]; exact Bool.false_ne_true)) ?_; wp_walk using wpAny_loadPart' hl)
      | (refine wpAny_ite_false (decide_eq_false (by rw [c1]; exact Bool.false_ne_true)) ?_; wp_walk using wpAny_loadPart' hl)
      | (refine wpAny_ite_true (decide_eq_true c2) ?_; wp_walk using wpAny_loadPart' hl))
    exact ⟨_, rfl, h⟩
def rRepTN (K : PySem.W.Frag) : R2 := fun x y H Q => ∃ l k xs, x = .ref l ∧ y = .int k ∧ SqT K H l xs ∧ xs ≠ [] ∧ -1000 ≤ k ∧ k ≤ 1000 ∧ xs.length ≤ 1000 ∧
  (k = 1 → Q (.ref l) H) ∧ (k ≠ 1 → ∀ p its, H p = none → Q (.ref p) (upd H p (.frz (tob its) (.tup (List.replicate k.toNat xs).flatten))))
section
variable {X : Cx}
theorem op_repTN : OpR X (binaryOp .Mult) (rRepTN X.K) := by
  intro pins s σ H x y v u Q I rx ry h
  obtain ⟨l, k, xs, rfl, rfl, hT, hne, h1, h2, hz, q1, q2⟩ := h
  cases rx
  obtain ⟨t, rfl⟩ := ry
  obtain ⟨its, r, ⟨⟨cls, dd, data, sl⟩, ho, hc, n, hd⟩, hs⟩ := I.tuple hT
  simp only at hc hd
  subst hc hd
  have hle : its.length = xs.length := r.length.symm
  have hi : its.toArray.isEmpty = false := by
    cases its with
    | nil => exact absurd (List.eq_nil_of_length_eq_zero hle.symm) hne
    | cons a b => rfl
  have c0 : (decide (k < -(2 ^ 63)) || decide (k ≥ 2 ^ 63)) = false := by
    rw [decide_eq_false (by omega), decide_eq_false (by omega)] <;> rfl
  by_cases hk1 : k = 1
  · subst hk1
    refine wpAny_binaryOp_repeat_ref (T := "tuple") (U := "int") (by decide) ⟨_, ho, rfl⟩ (fun s' => typeIs_int s' 1 t) noFill_tuple_mul F.fills_int_mul F.slot_int_rmul repeat_tuple F.slot_int_index.lookup
      (call_meets F.slot_int_rmul (typeIs_int s 1 t) F.entry_int_rmul (F.args_int_rmul_2 _ _) (int_rmul_tuple 1 t l its.toArray n dd sl)
        ⟨ho, rfl, ⟨_, ho, rfl⟩, call_meets F.slot_tuple_mul ⟨_, ho, rfl⟩ F.entry_tuple_mul (F.args_tuple_mul_2 _ _) (tup_once l its.toArray n dd sl t) ⟨ho, ?_⟩⟩)
    exact ⟨.ref l, H, I, rfl, q1 rfl⟩
  · have c1 : (its.toArray.isEmpty || k == 1) = false := by
      rw [hi, Bool.false_or]
      exact beq_eq_false_iff_ne.mpr hk1
    by_cases hk0 : k ≤ 0
    · have c2 : (decide (k ≤ 0) || its.toArray.isEmpty) = true := by rw [decide_eq_true hk0]; rfl
      refine wpAny_binaryOp_repeat_ref (T := "tuple") (U := "int") (by decide) ⟨_, ho, rfl⟩ (fun s' => typeIs_int s' k t) noFill_tuple_mul F.fills_int_mul F.slot_int_rmul repeat_tuple F.slot_int_index.lookup
        (call_meets F.slot_int_rmul (typeIs_int s k t) F.entry_int_rmul (F.args_int_rmul_2 _ _) (int_rmul_tuple k t l its.toArray n dd sl)
          ⟨ho, rfl, ⟨_, ho, rfl⟩, call_meets F.slot_tuple_mul ⟨_, ho, rfl⟩ F.entry_tuple_mul (F.args_tuple_mul_2 _ _) (tup_never l its.toArray n dd sl k t c0 c1 c2) ⟨ho, ?_⟩⟩)
      have e : (List.replicate k.toNat xs).flatten = [] := by
        rw [show k.toNat = 0 by omega]
        rfl
      have q := q2 hk1 s.heap.objs.size [] (fresh I)
      rw [e] at q
      exact ⟨.ref s.heap.objs.size, _, tnew (t' := s.toks) I .nil (Nat.zero_le _), rfl, q⟩
    · have hsz0 : its.toArray.size = xs.length := by rw [List.size_toArray, hle]
      have hm : ((its.toArray.size : Nat) : Int) * k ≤ 1000000 := by
        rw [hsz0]
        have a1 : ((xs.length : Nat) : Int) * k ≤ 1000 * k := Int.mul_le_mul_of_nonneg_right (by omega) (by omega)
        omega
      have a1 : k.toNat * xs.length ≤ 1000 * 1000 := Nat.mul_le_mul (by omega) hz
      have flen : (List.replicate k.toNat its).flatten.length ≤ sizeLine := by
        rw [PyProof.Rows.lm_len_rep_flat, hle, sizeLine_eq]
        omega
      have c2 : (decide (k ≤ 0) || its.toArray.isEmpty) = false := by
        rw [hi, Bool.or_false]
        exact decide_eq_false hk0
      have c4 : Builtin.Tuple.tupleTooMany (((its.toArray.size : Nat) : Int) * k) = false := by
        unfold Builtin.Tuple.tupleTooMany
        rw [sizeLine_eq]
        exact decide_eq_false (by omega)
      refine wpAny_binaryOp_repeat_ref (T := "tuple") (U := "int") (by decide) ⟨_, ho, rfl⟩ (fun s' => typeIs_int s' k t) noFill_tuple_mul F.fills_int_mul F.slot_int_rmul repeat_tuple F.slot_int_index.lookup
        (call_meets F.slot_int_rmul (typeIs_int s k t) F.entry_int_rmul (F.args_int_rmul_2 _ _) (int_rmul_tuple k t l its.toArray n dd sl)
          ⟨ho, rfl, ⟨_, ho, rfl⟩, call_meets F.slot_tuple_mul ⟨_, ho, rfl⟩ F.entry_tuple_mul (F.args_tuple_mul_2 _ _) (tuple_mulW l its.toArray n dd sl k t c0 c1 c2 (by omega) c4 (by rw [size_rep, List.size_toArray]; exact flen)) ⟨ho, ?_⟩⟩)
      rw [size_rep]
      have I2 := tnew (t' := s.toks) I (r.rep k.toNat) (by rw [PyProof.Rows.lm_len_rep_flat, sizeLine_eq]; omega)
      exact ⟨.ref s.heap.objs.size, _, I2, rfl, q2 hk1 _ _ (fresh I)⟩
end
section
variable {c : Cf} {B : List (Nat × Addr)} {W : WX} {X : Cx} {G H : Hp} {A : Addr → Prop} {σ : L2.St} {ρ : Cells}
def sRepT : D → D → Option D
  | .tup a, .int k => if a ≠ [] ∧ a.length ≤ 1000 ∧ -1000 ≤ k ∧ k ≤ 1000 then some (.tup (List.replicate k.toNat a).flatten) else none
  | _, _ => none
theorem semRepT : Sem2 c (rRepTN c.K) sRepT := fun G H x y d1 d2 d Q s a b e k => by
  cases d1 <;> cases d2 <;> first | (cases e; done) | skip
  simp only [sRepT] at e
  split at e
  · rename_i h
    cases e
    obtain ⟨p, us, rfl, hp, r1, R1⟩ := a.tup s
    refine ⟨p, _, us, rfl, b.int, hp.sq, fun z => h.1 ?_, h.2.2.1, h.2.2.2, by rw [r1.length]; exact h.2.1, fun z => ?_, fun _ q its hq => k.tup s hq (rep_flatten r1 _)⟩
    · have := r1.length
      rw [z] at this
      exact List.eq_nil_of_length_eq_zero this.symm
    · subst z
      have e2 : ∀ ds : List D, (List.replicate (1 : Int).toNat ds).flatten = ds := fun ds => by
        show (List.replicate 1 ds).flatten = ds
        simp
      rw [e2] at k
      exact k.flat s R1
  · cases e
theorem o_repT {a b : Expr} {oa ob : Opn} {pos : Pos} (ha : PE X a (tO c B W oa)) (hb : PE X b (tO c B W ob)) (hK : c.K = X.K := by rfl) : PE X (.BinOp a .Mult b pos) (tM c B W (mOp2 sRepT oa ob)) := pm_op semRepT (by rw [hK]; exact pe_op op_repTN ha hb)
end
end Fx
set_option Elab.async false
set_option linter.all false
set_option maxRecDepth 100000
set_option maxHeartbeats 4000000
namespace Fx
open PySem L2
def top (i : Nat) : Stmt := PySem.Challenge.pw_stickyservers_k11_whole_orders_and_rings.main.body.getD i (.Pass ⟨0, 0, 0, 0⟩)
def cfK (K : PySem.W.Frag) (C0 : Addr) (ex : Nat → Addr) : Cf := ⟨K, C0, ex, fun i => match i with | 0 => ["index", "part"] | 1 => ["session"] | 2 => ["index"] | 3 => ["index"] | _ => []⟩
structure Txt (K : PySem.W.Frag) (mg : Str → Option Value) (C0 : Addr) : Prop where
  blt : Blt mg
  cls : Cls K C0
  na_many : NoAttr K C0 "many"
  na_rows : NoAttr K C0 "rows"
  na_most : NoAttr K C0 "most"
  gMAX_SERVERS : ∃ t, mg "MAX_SERVERS" = some (.int 30 t)
  gMAX_SESSIONS : ∃ t, mg "MAX_SESSIONS" = some (.int 60 t)
section
variable {P : Program} {w : World} {K : PySem.W.Frag} {mg : Str → Option Value} {base : Heap} {C0 : Addr} {ex : Nat → Addr}
abbrev s_is_int : Stmt := top 9
abbrev n_is_int : List Str := ["value"]
theorem sc_is_int : FnScope n_is_int ["value"] (defScope s_is_int) := ⟨rfl, rfl, rfl, by decide +kernel, rfl, by decide +kernel, by decide +kernel⟩
def b_is_int : MS := (mRet (mAndV (mCall sIsi [(.dat (mVar 0)), (.dat (M.pure (.raw (.ty "int"))))]) (mNotV (mCall sIsi [(.dat (mVar 0)), (.dat (M.pure (.raw (.ty "bool"))))]))))
def m_is_int : Fn := mkFn 1 [] b_is_int
theorem ok_is_int {f : Addr} {fd : FuncData} (T : Txt K mg C0)  (F : FunD K "is_int" "is_int" (defArgs s_is_int) (defBody s_is_int) (defScope s_is_int) [] [] f fd) : FnOk P w K mg base (L2.CX P w) 1 f fd ["value"] (spM (cfK K C0 ex) [] 1 m_is_int) :=
  fn_ok0 (P := P) (w := w) (K := K) (mg := mg) (base := base) (c := cfK K C0 ex) (k := 0) (m := b_is_int) (st := s_is_int) (N := n_is_int) (ps := ["value"]) F sc_is_int (by decide) fun cdv A outer s H E hr =>
    (pss_oneM (ps_retM (pm_andV (b_isi T.blt (po_dat (pm_var 0)) (po_dat (b_ty T.blt.zint PyProof.Rows.boot_int))) (pm_oneV (pm_notV (b_isi T.blt (po_dat (pm_var 0)) (po_dat (b_ty T.blt.zbool PyProof.Rows.boot_bool))))))))
abbrev s_is_from : Stmt := top 10
abbrev n_is_from : List Str := ["value", "low", "high"]
theorem sc_is_from : FnScope n_is_from ["value", "low", "high"] (defScope s_is_from) := ⟨rfl, rfl, rfl, by decide +kernel, rfl, by decide +kernel, by decide +kernel⟩
def b_is_from : MS := (mRet (mAndV (mCallF m_is_int [(.dat (mVar 0))]) (mChain sLe sLe (.dat (mVar 1)) (.dat (mVar 0)) (.dat (mVar 2)))))
def m_is_from : Fn := mkFn 3 [] b_is_from
theorem ok_is_from {f : Addr} {fd : FuncData} (T : Txt K mg C0) (c_is_int : Cal P w K mg base (cfK K C0 ex) 1 "is_int" [] 1 m_is_int) (F : FunD K "is_from" "is_from" (defArgs s_is_from) (defBody s_is_from) (defScope s_is_from) [] [] f fd) : FnOk P w K mg base (L2.CX P w) 2 f fd ["value", "low", "high"] (spM (cfK K C0 ex) [] 3 m_is_from) :=
  fn_ok0 (P := P) (w := w) (K := K) (mg := mg) (base := base) (c := cfK K C0 ex) (k := 1) (m := b_is_from) (st := s_is_from) (N := n_is_from) (ps := ["value", "low", "high"]) F sc_is_from (by decide) fun cdv A outer s H E hr =>
    (pss_oneM (ps_retM (pm_andV (pm_cal c_is_int hr (takes_of rfl rfl rfl rfl) (pr_dat (pm_var 0) pr_nil)) (pm_oneV (o_chlele (po_dat (pm_var 1)) (po_dat (pm_var 0)) (po_dat (pm_var 2)))))))
abbrev s_is_row : Stmt := top 11
abbrev n_is_row : List Str := ["value", "servers", "server"]
theorem sc_is_row : FnScope n_is_row ["value", "servers"] (defScope s_is_row) := ⟨rfl, rfl, rfl, by decide +kernel, rfl, by decide +kernel, by decide +kernel⟩
def b_is_row : MS := (mSeq (mIfS (mOr (mNot (mB (mCall sIsi [(.dat (mVar 0)), (.dat (M.pure (.raw (.ty "tuple"))))]))) (mB (mOp2 sEq (.dat (mVar 0)) (.dat (mTup []))))) (mRet (M.pure (.bl false))) mSkip) (mSeq (mIfS (mNot (mB (mCall sAll [(.dat (mLc (mSeqI (mVar 0)) (gNm 2) (M.pure true) (mCallF m_is_from [(.dat (mVar 2)), (.dat (M.pure (.int 0))), (.dat (mOp2 sSub (.dat (mVar 1)) (.dat (M.pure (.int 1)))))]) [2]))]))) (mRet (M.pure (.bl false))) mSkip) (mRet (mOp2 sEq (.dat (mLenSet (mVar 0))) (.dat (mCall sLen [(.dat (mVar 0))]))))))
def m_is_row : Fn := mkFn 3 [] b_is_row
theorem ok_is_row {f : Addr} {fd : FuncData} (T : Txt K mg C0) (c_is_from : Cal P w K mg base (cfK K C0 ex) 2 "is_from" [] 3 m_is_from) (F : FunD K "is_row" "is_row" (defArgs s_is_row) (defBody s_is_row) (defScope s_is_row) [] [] f fd) : FnOk P w K mg base (L2.CX P w) 3 f fd ["value", "servers"] (spM (cfK K C0 ex) [] 2 m_is_row) :=
  fn_ok0 (P := P) (w := w) (K := K) (mg := mg) (base := base) (c := cfK K C0 ex) (k := 2) (m := b_is_row) (st := s_is_row) (N := n_is_row) (ps := ["value", "servers"]) F sc_is_row (by decide) fun cdv A outer s H E hr =>
    (pss_consM (ps_ifM (t_or (pt_notM (pt_v (b_isi T.blt (po_dat (pm_var 0)) (po_dat (b_ty T.blt.ztuple PyProof.Rows.boot_tuple))))) (pw_and1' (t_eq hr.units (po_dat (pm_var 0)) (po_dat (pm_tup pd_nil))))) (pss_oneM (ps_retM pm_bl)) pss_nilM) (pss_consM (ps_ifM (pt_notM (pt_v (b_all T.blt rfl (po_dat (pm_of_pf (pf_lc [("server", 2)] rfl sc_is_row.nd (pi_seqM rfl (pm_var 0)) (blk_of (by rfl)) (by rfl) (by rfl) (fun s H C cl fp => (pg_nm 2 sc_is_row.nd rfl)) (fun s H C cl fp => pts_nilM) (fun s H C cl fp => (pm_cal c_is_from hr takes0 (pr_dat (pm_var 2) (pr_dat pm_int (pr_dat (o_sub (po_dat (pm_var 1)) (po_dat pm_int)) pr_nil))))))))))) (pss_oneM (ps_retM pm_bl)) pss_nilM) (pss_oneM (ps_retM (o_eq hr.units (po_dat (b_lenset T.blt rfl (pm_var 0))) (po_dat (b_len T.blt (po_dat (pm_var 0)))))))))
abbrev s_Farmdd_initdd : Stmt := inClass (top 12) 0
abbrev n_Farmdd_initdd : List Str := ["self", "servers", "lists", "failures", "index", "row"]
theorem sc_Farmdd_initdd : FnScope n_Farmdd_initdd ["self", "servers", "lists", "failures"] (defScope s_Farmdd_initdd) := ⟨rfl, rfl, rfl, by decide +kernel, rfl, by decide +kernel, by decide +kernel⟩
def b_Farmdd_initdd : MS := (mSeq (mIfS (mNot (mB (mCallF m_is_from [(.dat (mVar 1)), (.dat (M.pure (.int 1))), (.dat (M.pure (.int 30)))]))) (mRaise 0 [(M.pure (.str "servers")), (mNeg (M.pure (.int 1)))]) mSkip) (mSeq (mIfS (mOr (mNot (mB (mCall sIsi [(.dat (mVar 2)), (.dat (M.pure (.raw (.ty "list"))))]))) (mB (mOp2 sGt (.dat (mCall sLen [(.dat (mVar 2))])) (.dat (M.pure (.int 60)))))) (mRaise 0 [(M.pure (.str "lists")), (mNeg (M.pure (.int 1)))]) mSkip) (mSeq (mFor (mEnum (mVar 2)) (gTp [4, 5]) (mIfS (mNot (mB (mCallF m_is_row [(.dat (mVar 5)), (.dat (mVar 1))]))) (mRaise 0 [(M.pure (.str "lists")), (mVar 4)]) mSkip)) (mSeq (mIfS (mNot (mB (mCallF m_is_from [(.dat (mVar 3)), (.dat (M.pure (.int 0))), (.dat (mVar 1))]))) (mRaise 0 [(M.pure (.str "failures")), (mNeg (M.pure (.int 1)))]) mSkip) (mSeq (mSetF 0 "many" (mVar 1)) (mSeq (mSetF 0 "rows" (mCall sTuple [(.dat (mVar 2))])) (mSetF 0 "most" (mVar 3))))))))
def m_Farmdd_initdd : Fn := mkFn 6 [0] b_Farmdd_initdd
theorem ok_Farmdd_initdd {f : Addr} {fd : FuncData} (T : Txt K mg C0) (c_is_from : Cal P w K mg base (cfK K C0 ex) 2 "is_from" [] 3 m_is_from) (c_NoFarm : CalX2 P w K mg base (cfK K C0 ex) 1 0 "NoFarm" "part" "index") (c_is_row : Cal P w K mg base (cfK K C0 ex) 3 "is_row" [] 2 m_is_row) (F : FunD K "__init__" "Farm.__init__" (defArgs s_Farmdd_initdd) (defBody s_Farmdd_initdd) (defScope s_Farmdd_initdd) [] [] f fd) : FnOk P w K mg base (L2.CX P w) 4 f fd ["self", "servers", "lists", "failures"] (spM (cfK K C0 ex) [0] 4 m_Farmdd_initdd) :=
  fn_ok1 0 (P := P) (w := w) (K := K) (mg := mg) (base := base) (c := cfK K C0 ex) (k := 3) (m := b_Farmdd_initdd) (st := s_Farmdd_initdd) (N := n_Farmdd_initdd) (ps := ["self", "servers", "lists", "failures"]) F sc_Farmdd_initdd (by decide) (by decide) fun aR cdv A outer s H E hr =>
    (pss_consM (ps_ifM (pt_notM (pt_v (pm_cal c_is_from hr (takes_of rfl rfl rfl rfl) (pr_dat (pm_var 1) (pr_dat pm_int (pr_dat (pm_globI T.gMAX_SERVERS.choose_spec) pr_nil)))))) (pss_oneM (ps_x2 c_NoFarm rfl (takes_of rfl rfl rfl rfl) hr pm_str (pm_neg pm_int))) pss_nilM) (pss_consM (ps_ifM (t_or (pt_notM (pt_v (b_isi T.blt (po_dat (pm_var 2)) (po_dat (b_ty T.blt.zlist PyProof.Rows.boot_list))))) (pw_and1' (t_gt (po_dat (b_len T.blt (po_dat (pm_var 2)))) (po_dat (pm_globI T.gMAX_SESSIONS.choose_spec))))) (pss_oneM (ps_x2 c_NoFarm rfl (takes_of rfl rfl rfl rfl) hr pm_str (pm_neg pm_int))) pss_nilM) (pss_consM (ps_forM (passes_of rfl) rfl (pi_enumM rfl T.blt.zenumerate (pm_var 2)) (pg_tpM rfl rfl (pgs_consM (pg_nm 4 sc_Farmdd_initdd.nd rfl) (pgs_consM (pg_nm 5 sc_Farmdd_initdd.nd rfl) pgs_nilM))) (pss_oneM (ps_ifM (pt_notM (pt_v (pm_cal c_is_row hr (takes_of rfl rfl rfl rfl) (pr_dat (pm_var 5) (pr_dat (pm_var 1) pr_nil))))) (pss_oneM (ps_x2 c_NoFarm rfl (takes_of rfl rfl rfl rfl) hr pm_str (pm_var 4))) pss_nilM))) (pss_consM (ps_ifM (pt_notM (pt_v (pm_cal c_is_from hr (takes_of rfl rfl rfl rfl) (pr_dat (pm_var 3) (pr_dat pm_int (pr_dat (pm_var 1) pr_nil)))))) (pss_oneM (ps_x2 c_NoFarm rfl (takes_of rfl rfl rfl rfl) hr pm_str (pm_neg pm_int))) pss_nilM) (pss_consM (ps_setF 0 T.cls T.na_many (pm_var 1)) (pss_consM (ps_setF 0 T.cls T.na_rows (b_tuple T.blt (po_dat (pm_var 2)))) (pss_oneM (ps_setF 0 T.cls T.na_most (pm_var 3)))))))))
abbrev s_Farmdd_lendd : Stmt := inClass (top 12) 2
abbrev n_Farmdd_lendd : List Str := ["self"]
theorem sc_Farmdd_lendd : FnScope n_Farmdd_lendd ["self"] (defScope s_Farmdd_lendd) := ⟨rfl, rfl, rfl, by decide +kernel, rfl, by decide +kernel, by decide +kernel⟩
def b_Farmdd_lendd : MS := (mRet (mCall sLen [(.dat (mFld (mVar 0) "rows"))]))
def m_Farmdd_lendd : Fn := mkFn 1 [] b_Farmdd_lendd
theorem ok_Farmdd_lendd {f : Addr} {fd : FuncData} (T : Txt K mg C0)  (F : FunD K "__len__" "Farm.__len__" (defArgs s_Farmdd_lendd) (defBody s_Farmdd_lendd) (defScope s_Farmdd_lendd) [] [] f fd) : FnOk P w K mg base (L2.CX P w) 1 f fd ["self"] (spM (cfK K C0 ex) [] 1 m_Farmdd_lendd) :=
  fn_ok0 (P := P) (w := w) (K := K) (mg := mg) (base := base) (c := cfK K C0 ex) (k := 0) (m := b_Farmdd_lendd) (st := s_Farmdd_lendd) (N := n_Farmdd_lendd) (ps := ["self"]) F sc_Farmdd_lendd (by decide) fun cdv A outer s H E hr =>
    (pss_oneM (ps_retM (b_len T.blt (po_dat (pm_fld T.cls T.na_rows (pm_var 0))))))
abbrev s_Farm_servers : Stmt := inClass (top 12) 3
abbrev n_Farm_servers : List Str := ["self"]
theorem sc_Farm_servers : FnScope n_Farm_servers ["self"] (defScope s_Farm_servers) := ⟨rfl, rfl, rfl, by decide +kernel, rfl, by decide +kernel, by decide +kernel⟩
def b_Farm_servers : MS := (mRet (mFld (mVar 0) "many"))
def m_Farm_servers : Fn := mkFn 1 [] b_Farm_servers
theorem ok_Farm_servers {f : Addr} {fd : FuncData} (T : Txt K mg C0)  (F : FunD K "servers" "Farm.servers" (defArgs s_Farm_servers) (defBody s_Farm_servers) (defScope s_Farm_servers) [] [] f fd) : FnOk P w K mg base (L2.CX P w) 1 f fd ["self"] (spM (cfK K C0 ex) [] 1 m_Farm_servers) :=
  fn_ok0 (P := P) (w := w) (K := K) (mg := mg) (base := base) (c := cfK K C0 ex) (k := 0) (m := b_Farm_servers) (st := s_Farm_servers) (N := n_Farm_servers) (ps := ["self"]) F sc_Farm_servers (by decide) fun cdv A outer s H E hr =>
    (pss_oneM (ps_retM (pm_fld T.cls T.na_many (pm_var 0))))
abbrev s_Farm_lists : Stmt := inClass (top 12) 4
abbrev n_Farm_lists : List Str := ["self"]
theorem sc_Farm_lists : FnScope n_Farm_lists ["self"] (defScope s_Farm_lists) := ⟨rfl, rfl, rfl, by decide +kernel, rfl, by decide +kernel, by decide +kernel⟩
def b_Farm_lists : MS := (mRet (mCall sList [(.dat (mFld (mVar 0) "rows"))]))
def m_Farm_lists : Fn := mkFn 1 [] b_Farm_lists
theorem ok_Farm_lists {f : Addr} {fd : FuncData} (T : Txt K mg C0)  (F : FunD K "lists" "Farm.lists" (defArgs s_Farm_lists) (defBody s_Farm_lists) (defScope s_Farm_lists) [] [] f fd) : FnOk P w K mg base (L2.CX P w) 1 f fd ["self"] (spM (cfK K C0 ex) [] 1 m_Farm_lists) :=
  fn_ok0 (P := P) (w := w) (K := K) (mg := mg) (base := base) (c := cfK K C0 ex) (k := 0) (m := b_Farm_lists) (st := s_Farm_lists) (N := n_Farm_lists) (ps := ["self"]) F sc_Farm_lists (by decide) fun cdv A outer s H E hr =>
    (pss_oneM (ps_retM (pm_of_pf (b_list T.blt (po_dat (pm_fld T.cls T.na_rows (pm_var 0)))))))
abbrev s_Farm_failures : Stmt := inClass (top 12) 5
abbrev n_Farm_failures : List Str := ["self"]
theorem sc_Farm_failures : FnScope n_Farm_failures ["self"] (defScope s_Farm_failures) := ⟨rfl, rfl, rfl, by decide +kernel, rfl, by decide +kernel, by decide +kernel⟩
def b_Farm_failures : MS := (mRet (mFld (mVar 0) "most"))
def m_Farm_failures : Fn := mkFn 1 [] b_Farm_failures
theorem ok_Farm_failures {f : Addr} {fd : FuncData} (T : Txt K mg C0)  (F : FunD K "failures" "Farm.failures" (defArgs s_Farm_failures) (defBody s_Farm_failures) (defScope s_Farm_failures) [] [] f fd) : FnOk P w K mg base (L2.CX P w) 1 f fd ["self"] (spM (cfK K C0 ex) [] 1 m_Farm_failures) :=
  fn_ok0 (P := P) (w := w) (K := K) (mg := mg) (base := base) (c := cfK K C0 ex) (k := 0) (m := b_Farm_failures) (st := s_Farm_failures) (N := n_Farm_failures) (ps := ["self"]) F sc_Farm_failures (by decide) fun cdv A outer s H E hr =>
    (pss_oneM (ps_retM (pm_fld T.cls T.na_most (pm_var 0))))
abbrev s_Farm_check_session : Stmt := inClass (top 12) 7
abbrev n_Farm_check_session : List Str := ["self", "session"]
theorem sc_Farm_check_session : FnScope n_Farm_check_session ["self", "session"] (defScope s_Farm_check_session) := ⟨rfl, rfl, rfl, by decide +kernel, rfl, by decide +kernel, by decide +kernel⟩
def b_Farm_check_session : MS := (mIfS (mNot (mB (mCallF m_is_from [(.dat (mVar 1)), (.dat (M.pure (.int 0))), (.dat (mOp2 sSub (.dat (mCall sLen [(.dat (mFld (mVar 0) "rows"))])) (.dat (M.pure (.int 1)))))]))) (mRaise 1 [(mVar 1)]) mSkip)
def m_Farm_check_session : Fn := mkFn 2 [] b_Farm_check_session
theorem ok_Farm_check_session {f : Addr} {fd : FuncData} (T : Txt K mg C0) (c_is_from : Cal P w K mg base (cfK K C0 ex) 2 "is_from" [] 3 m_is_from) (c_NoSession : CalX1 P w K mg base (cfK K C0 ex) 1 1 "NoSession" "session") (F : FunD K "check_session" "Farm.check_session" (defArgs s_Farm_check_session) (defBody s_Farm_check_session) (defScope s_Farm_check_session) [] [] f fd) : FnOk P w K mg base (L2.CX P w) 3 f fd ["self", "session"] (spM (cfK K C0 ex) [] 2 m_Farm_check_session) :=
  fn_ok0 (P := P) (w := w) (K := K) (mg := mg) (base := base) (c := cfK K C0 ex) (k := 2) (m := b_Farm_check_session) (st := s_Farm_check_session) (N := n_Farm_check_session) (ps := ["self", "session"]) F sc_Farm_check_session (by decide) fun cdv A outer s H E hr =>
    (pss_oneM (ps_ifM (pt_notM (pt_v (pm_cal c_is_from hr (takes_of rfl rfl rfl rfl) (pr_dat (pm_var 1) (pr_dat pm_int (pr_dat (o_sub (po_dat (b_len T.blt (po_dat (pm_fld T.cls T.na_rows (pm_var 0))))) (po_dat pm_int)) pr_nil)))))) (pss_oneM (ps_x1 c_NoSession rfl (takes_of rfl rfl rfl rfl) hr (pm_var 1))) pss_nilM))
abbrev s_check_placement : Stmt := top 14
abbrev n_check_placement : List Str := ["farm", "placement", "index", "server"]
theorem sc_check_placement : FnScope n_check_placement ["farm", "placement"] (defScope s_check_placement) := ⟨rfl, rfl, rfl, by decide +kernel, rfl, by decide +kernel, by decide +kernel⟩
def b_check_placement : MS := (mSeq (mIfS (mOr (mNot (mB (mCall sIsi [(.dat (mVar 1)), (.dat (M.pure (.raw (.ty "tuple"))))]))) (mB (mOp2 sNe (.dat (mCall sLen [(.dat (mVar 1))])) (.dat (mLenF m_Farmdd_lendd (mVar 0)))))) (mRaise 2 [(mNeg (M.pure (.int 1)))]) mSkip) (mFor (mEnum (mVar 1)) (gTp [2, 3]) (mIfS (mAnd (mB (mOp2 sNotN (.dat (mVar 3)) (.dat (M.pure .non)))) (mOr (mNot (mB (mCallF m_is_from [(.dat (mVar 3)), (.dat (M.pure (.int 0))), (.dat (mOp2 sSub (.dat (mFld (mVar 0) "many")) (.dat (M.pure (.int 1)))))]))) (mB (mOp2 sNin (.dat (mVar 3)) (.dat (mOp2 sIx (.dat (mFld (mVar 0) "rows")) (.dat (mVar 2)))))))) (mRaise 2 [(mVar 2)]) mSkip)))
def m_check_placement : Fn := mkFn 4 [] b_check_placement
theorem ok_check_placement {f : Addr} {fd : FuncData} (T : Txt K mg C0) (c_len : CalL P w K mg base (cfK K C0 ex) 1 m_Farmdd_lendd) (c_NoPlacement : CalX1 P w K mg base (cfK K C0 ex) 1 2 "NoPlacement" "index") (c_is_from : Cal P w K mg base (cfK K C0 ex) 2 "is_from" [] 3 m_is_from) (F : FunD K "check_placement" "check_placement" (defArgs s_check_placement) (defBody s_check_placement) (defScope s_check_placement) [] [] f fd) : FnOk P w K mg base (L2.CX P w) 3 f fd ["farm", "placement"] (spM (cfK K C0 ex) [] 2 m_check_placement) :=
  fn_ok0 (P := P) (w := w) (K := K) (mg := mg) (base := base) (c := cfK K C0 ex) (k := 2) (m := b_check_placement) (st := s_check_placement) (N := n_check_placement) (ps := ["farm", "placement"]) F sc_check_placement (by decide) fun cdv A outer s H E hr =>
    (pss_consM (ps_ifM (t_or (pt_notM (pt_v (b_isi T.blt (po_dat (pm_var 1)) (po_dat (b_ty T.blt.ztuple PyProof.Rows.boot_tuple))))) (pw_and1' (t_ne hr.units (po_dat (b_len T.blt (po_dat (pm_var 1)))) (po_dat (pm_calL T.blt c_len hr (takes_of rfl rfl rfl rfl) (pm_var 0)))))) (pss_oneM (ps_x1 c_NoPlacement rfl (takes_of rfl rfl rfl rfl) hr (pm_neg pm_int))) pss_nilM) (pss_oneM (ps_forM (passes_of rfl) rfl (pi_enumM rfl T.blt.zenumerate (pm_var 1)) (pg_tpM rfl rfl (pgs_consM (pg_nm 2 sc_check_placement.nd rfl) (pgs_consM (pg_nm 3 sc_check_placement.nd rfl) pgs_nilM))) (pss_oneM (ps_ifM (t_and (t_isn (po_dat (pm_var 3)) (po_dat pm_non)) (pw_and1' (t_or (pt_notM (pt_v (pm_cal c_is_from hr (takes_of rfl rfl rfl rfl) (pr_dat (pm_var 3) (pr_dat pm_int (pr_dat (o_sub (po_dat (pm_fld T.cls T.na_many (pm_var 0))) (po_dat pm_int)) pr_nil)))))) (pw_and1' (t_nin hr.units (po_dat (pm_var 3)) (po_dat (o_ix (po_dat (pm_fld T.cls T.na_rows (pm_var 0))) (po_dat (pm_var 2))))))))) (pss_oneM (ps_x1 c_NoPlacement rfl (takes_of rfl rfl rfl rfl) hr (pm_var 2))) pss_nilM)))))
abbrev s_check_staying : Stmt := top 15
abbrev n_check_staying : List Str := ["farm", "placement", "staying", "index", "session"]
theorem sc_check_staying : FnScope n_check_staying ["farm", "placement", "staying"] (defScope s_check_staying) := ⟨rfl, rfl, rfl, by decide +kernel, rfl, by decide +kernel, by decide +kernel⟩
def b_check_staying : MS := (mSeq (mIfS (mNot (mB (mCall sIsi [(.dat (mVar 2)), (.dat (M.pure (.raw (.ty "tuple"))))]))) (mRaise 3 [(mNeg (M.pure (.int 1)))]) mSkip) (mFor (mEnum (mVar 2)) (gTp [3, 4]) (mIfS (mOr (mNot (mB (mCallF m_is_from [(.dat (mVar 4)), (.dat (M.pure (.int 0))), (.dat (mOp2 sSub (.dat (mLenF m_Farmdd_lendd (mVar 0))) (.dat (M.pure (.int 1)))))]))) (mOr (mB (mOp2 sIn (.dat (mVar 4)) (.dat (mSl sCut (.dat (mVar 2)) none (some (mVar 3)))))) (mB (mOp2 sIsN (.dat (mOp2 sIx (.dat (mVar 1)) (.dat (mVar 4)))) (.dat (M.pure .non)))))) (mRaise 3 [(mVar 3)]) mSkip)))
def m_check_staying : Fn := mkFn 5 [] b_check_staying
theorem ok_check_staying {f : Addr} {fd : FuncData} (T : Txt K mg C0) (c_NoSessions : CalX1 P w K mg base (cfK K C0 ex) 1 3 "NoSessions" "index") (c_is_from : Cal P w K mg base (cfK K C0 ex) 2 "is_from" [] 3 m_is_from) (c_len : CalL P w K mg base (cfK K C0 ex) 1 m_Farmdd_lendd) (F : FunD K "check_staying" "check_staying" (defArgs s_check_staying) (defBody s_check_staying) (defScope s_check_staying) [] [] f fd) : FnOk P w K mg base (L2.CX P w) 3 f fd ["farm", "placement", "staying"] (spM (cfK K C0 ex) [] 3 m_check_staying) :=
  fn_ok0 (P := P) (w := w) (K := K) (mg := mg) (base := base) (c := cfK K C0 ex) (k := 2) (m := b_check_staying) (st := s_check_staying) (N := n_check_staying) (ps := ["farm", "placement", "staying"]) F sc_check_staying (by decide) fun cdv A outer s H E hr =>
    (pss_consM (ps_ifM (pt_notM (pt_v (b_isi T.blt (po_dat (pm_var 2)) (po_dat (b_ty T.blt.ztuple PyProof.Rows.boot_tuple))))) (pss_oneM (ps_x1 c_NoSessions rfl (takes_of rfl rfl rfl rfl) hr (pm_neg pm_int))) pss_nilM) (pss_oneM (ps_forM (passes_of rfl) rfl (pi_enumM rfl T.blt.zenumerate (pm_var 2)) (pg_tpM rfl rfl (pgs_consM (pg_nm 3 sc_check_staying.nd rfl) (pgs_consM (pg_nm 4 sc_check_staying.nd rfl) pgs_nilM))) (pss_oneM (ps_ifM (t_or (pt_notM (pt_v (pm_cal c_is_from hr (takes_of rfl rfl rfl rfl) (pr_dat (pm_var 4) (pr_dat pm_int (pr_dat (o_sub (po_dat (pm_calL T.blt c_len hr (takes_of rfl rfl rfl rfl) (pm_var 0))) (po_dat pm_int)) pr_nil)))))) (pw_orM (t_in hr.units (po_dat (pm_var 4)) (po_dat (o_sl (po_dat (pm_var 2)) pp_none (pp_some (pm_var 3))))) (pw_and1' (t_is (po_dat (o_ix (po_dat (pm_var 1)) (po_dat (pm_var 4)))) (po_dat pm_non))))) (pss_oneM (ps_x1 c_NoSessions rfl (takes_of rfl rfl rfl rfl) hr (pm_var 3))) pss_nilM)))))
abbrev s_place_in_list : Stmt := top 16
abbrev n_place_in_list : List Str := ["farm", "placement", "session"]
theorem sc_place_in_list : FnScope n_place_in_list ["farm", "placement", "session"] (defScope s_place_in_list) := ⟨rfl, rfl, rfl, by decide +kernel, rfl, by decide +kernel, by decide +kernel⟩
def b_place_in_list : MS := (mRet (mMeth isTup sTix (.dat (mOp2 sIx (.dat (mFld (mVar 0) "rows")) (.dat (mVar 2)))) [(.dat (mOp2 sIx (.dat (mVar 1)) (.dat (mVar 2))))]))
def m_place_in_list : Fn := mkFn 3 [] b_place_in_list
theorem ok_place_in_list {f : Addr} {fd : FuncData} (T : Txt K mg C0)  (F : FunD K "place_in_list" "place_in_list" (defArgs s_place_in_list) (defBody s_place_in_list) (defScope s_place_in_list) [] [] f fd) : FnOk P w K mg base (L2.CX P w) 1 f fd ["farm", "placement", "session"] (spM (cfK K C0 ex) [] 3 m_place_in_list) :=
  fn_ok0 (P := P) (w := w) (K := K) (mg := mg) (base := base) (c := cfK K C0 ex) (k := 0) (m := b_place_in_list) (st := s_place_in_list) (N := n_place_in_list) (ps := ["farm", "placement", "session"]) F sc_place_in_list (by decide) fun cdv A outer s H E hr =>
    (pss_oneM (ps_retM (m_tindex (po_dat (o_ix (po_dat (pm_fld T.cls T.na_rows (pm_var 0))) (po_dat (pm_var 2)))) (po_dat (o_ix (po_dat (pm_var 1)) (po_dat (pm_var 2)))))))
abbrev s_passed_over : Stmt := top 17
abbrev n_passed_over : List Str := ["farm", "placement", "session"]
theorem sc_passed_over : FnScope n_passed_over ["farm", "placement", "session"] (defScope s_passed_over) := ⟨rfl, rfl, rfl, by decide +kernel, rfl, by decide +kernel, by decide +kernel⟩
def b_passed_over : MS := (mRet (mSl sCut (.dat (mOp2 sIx (.dat (mFld (mVar 0) "rows")) (.dat (mVar 2)))) none (some (mCallF m_place_in_list [(.dat (mVar 0)), (.dat (mVar 1)), (.dat (mVar 2))]))))
def m_passed_over : Fn := mkFn 3 [] b_passed_over
theorem ok_passed_over {f : Addr} {fd : FuncData} (T : Txt K mg C0) (c_place_in_list : Cal P w K mg base (cfK K C0 ex) 1 "place_in_list" [] 3 m_place_in_list) (F : FunD K "passed_over" "passed_over" (defArgs s_passed_over) (defBody s_passed_over) (defScope s_passed_over) [] [] f fd) : FnOk P w K mg base (L2.CX P w) 2 f fd ["farm", "placement", "session"] (spM (cfK K C0 ex) [] 3 m_passed_over) :=
  fn_ok0 (P := P) (w := w) (K := K) (mg := mg) (base := base) (c := cfK K C0 ex) (k := 1) (m := b_passed_over) (st := s_passed_over) (N := n_passed_over) (ps := ["farm", "placement", "session"]) F sc_passed_over (by decide) fun cdv A outer s H E hr =>
    (pss_oneM (ps_retM (o_sl (po_dat (o_ix (po_dat (pm_fld T.cls T.na_rows (pm_var 0))) (po_dat (pm_var 2)))) pp_none (pp_some (pm_cal c_place_in_list hr (takes_of rfl rfl rfl rfl) (pr_dat (pm_var 0) (pr_dat (pm_var 1) (pr_dat (pm_var 2) pr_nil))))))))
abbrev s_movers : Stmt := top 18
abbrev n_movers : List Str := ["placement", "staying", "session", "server"]
theorem sc_movers : FnScope n_movers ["placement", "staying"] (defScope s_movers) := ⟨rfl, rfl, rfl, by decide +kernel, rfl, by decide +kernel, by decide +kernel⟩
def b_movers : MS := (mRet (mLc (mEnum (mVar 0)) (gTp [2, 3]) (mAnd (mB (mOp2 sNotN (.dat (mVar 3)) (.dat (M.pure .non)))) (mB (mOp2 sNin (.dat (mVar 2)) (.dat (mVar 1))))) (mVar 2) [2, 3]))
def m_movers : Fn := mkFn 4 [] b_movers
theorem ok_movers {f : Addr} {fd : FuncData} (T : Txt K mg C0)  (F : FunD K "movers" "movers" (defArgs s_movers) (defBody s_movers) (defScope s_movers) [] [] f fd) : FnOk P w K mg base (L2.CX P w) 1 f fd ["placement", "staying"] (spM (cfK K C0 ex) [] 2 m_movers) :=
  fn_ok0 (P := P) (w := w) (K := K) (mg := mg) (base := base) (c := cfK K C0 ex) (k := 0) (m := b_movers) (st := s_movers) (N := n_movers) (ps := ["placement", "staying"]) F sc_movers (by decide) fun cdv A outer s H E hr =>
    (pss_oneM (ps_retM (pm_of_pf (pf_lc [("session", 2), ("server", 3)] rfl sc_movers.nd (pi_enumM rfl T.blt.zenumerate (pm_var 0)) (blk_of (by rfl)) (by rfl) (by rfl) (fun s H C cl fp => (pg_tpM rfl rfl (pgs_consM (pg_nm 2 sc_movers.nd rfl) (pgs_consM (pg_nm 3 sc_movers.nd rfl) pgs_nilM)))) (fun s H C cl fp => (pts_oneM (t_and (t_isn (po_dat (pm_var 3)) (po_dat pm_non)) (pw_and1' (t_nin hr.units (po_dat (pm_var 2)) (po_dat (pm_var 1))))))) (fun s H C cl fp => (pm_var 2))))))
abbrev s_first_far : Stmt := top 19
abbrev n_first_far : List Str := ["farm", "placement", "staying", "session"]
theorem sc_first_far : FnScope n_first_far ["farm", "placement", "staying"] (defScope s_first_far) := ⟨rfl, rfl, rfl, by decide +kernel, rfl, by decide +kernel, by decide +kernel⟩
def b_first_far : MS := (mSeq (mFor (mSeqI (mCallF m_movers [(.dat (mVar 1)), (.dat (mVar 2))])) (gNm 3) (mIfS (mB (mOp2 sGt (.dat (mCallF m_place_in_list [(.dat (mVar 0)), (.dat (mVar 1)), (.dat (mVar 3))])) (.dat (mFld (mVar 0) "most")))) (mRet (mVar 3)) mSkip)) (mRet (M.pure .non)))
def m_first_far : Fn := mkFn 4 [] b_first_far
theorem ok_first_far {f : Addr} {fd : FuncData} (T : Txt K mg C0) (c_movers : Cal P w K mg base (cfK K C0 ex) 1 "movers" [] 2 m_movers) (c_place_in_list : Cal P w K mg base (cfK K C0 ex) 1 "place_in_list" [] 3 m_place_in_list) (F : FunD K "first_far" "first_far" (defArgs s_first_far) (defBody s_first_far) (defScope s_first_far) [] [] f fd) : FnOk P w K mg base (L2.CX P w) 2 f fd ["farm", "placement", "staying"] (spM (cfK K C0 ex) [] 3 m_first_far) :=
  fn_ok0 (P := P) (w := w) (K := K) (mg := mg) (base := base) (c := cfK K C0 ex) (k := 1) (m := b_first_far) (st := s_first_far) (N := n_first_far) (ps := ["farm", "placement", "staying"]) F sc_first_far (by decide) fun cdv A outer s H E hr =>
    (pss_consM (ps_forM (passes_of rfl) rfl (pi_seqM rfl (pm_cal c_movers hr (takes_of rfl rfl rfl rfl) (pr_dat (pm_var 1) (pr_dat (pm_var 2) pr_nil)))) (pg_nm 3 sc_first_far.nd rfl) (pss_oneM (ps_ifM (t_gt (po_dat (pm_cal c_place_in_list hr (takes_of rfl rfl rfl rfl) (pr_dat (pm_var 0) (pr_dat (pm_var 1) (pr_dat (pm_var 3) pr_nil))))) (po_dat (pm_fld T.cls T.na_most (pm_var 0)))) (pss_oneM (ps_retM (pm_var 3))) pss_nilM))) (pss_oneM (ps_retM pm_non)))
abbrev s_first_held : Stmt := top 20
abbrev n_first_held : List Str := ["farm", "placement", "staying", "session", "passed", "other"]
theorem sc_first_held : FnScope n_first_held ["farm", "placement", "staying"] (defScope s_first_held) := ⟨rfl, rfl, rfl, by decide +kernel, rfl, by decide +kernel, by decide +kernel⟩
def b_first_held : MS := (mSeq (mFor (mSeqI (mCallF m_movers [(.dat (mVar 1)), (.dat (mVar 2))])) (gNm 3) (mSeq (mAsg (mCallF m_passed_over [(.dat (mVar 0)), (.dat (mVar 1)), (.dat (mVar 3))]) (gNm 4)) (mFor (mSeqI (mCall sSorted [(.dat (mVar 2))])) (gNm 5) (mIfS (mB (mOp2 sIn (.dat (mOp2 sIx (.dat (mVar 1)) (.dat (mVar 5)))) (.dat (mVar 4)))) (mRet (mTup [(mVar 3), (mVar 5)])) mSkip)))) (mRet (M.pure .non)))
def m_first_held : Fn := mkFn 6 [] b_first_held
theorem ok_first_held {f : Addr} {fd : FuncData} (T : Txt K mg C0) (c_movers : Cal P w K mg base (cfK K C0 ex) 1 "movers" [] 2 m_movers) (c_passed_over : Cal P w K mg base (cfK K C0 ex) 2 "passed_over" [] 3 m_passed_over) (F : FunD K "first_held" "first_held" (defArgs s_first_held) (defBody s_first_held) (defScope s_first_held) [] [] f fd) : FnOk P w K mg base (L2.CX P w) 3 f fd ["farm", "placement", "staying"] (spM (cfK K C0 ex) [] 3 m_first_held) :=
  fn_ok0 (P := P) (w := w) (K := K) (mg := mg) (base := base) (c := cfK K C0 ex) (k := 2) (m := b_first_held) (st := s_first_held) (N := n_first_held) (ps := ["farm", "placement", "staying"]) F sc_first_held (by decide) fun cdv A outer s H E hr =>
    (pss_consM (ps_forM (passes_of rfl) rfl (pi_seqM rfl (pm_cal c_movers hr (takes_of rfl rfl rfl rfl) (pr_dat (pm_var 1) (pr_dat (pm_var 2) pr_nil)))) (pg_nm 3 sc_first_held.nd rfl) (pss_consM (ps_asgM (pm_cal c_passed_over hr (takes_of rfl rfl rfl rfl) (pr_dat (pm_var 0) (pr_dat (pm_var 1) (pr_dat (pm_var 3) pr_nil)))) (pg_nm 4 sc_first_held.nd rfl)) (pss_oneM (ps_forM (passes_of rfl) rfl (pi_seqM rfl (pm_of_pf (b_sorted T.blt (po_dat (pm_var 2))))) (pg_nm 5 sc_first_held.nd rfl) (pss_oneM (ps_ifM (t_in hr.units (po_dat (o_ix (po_dat (pm_var 1)) (po_dat (pm_var 5)))) (po_dat (pm_var 4))) (pss_oneM (ps_retM (pm_tup (pd_cons (pm_var 3) (pd_cons (pm_var 5) pd_nil))))) pss_nilM)))))) (pss_oneM (ps_retM pm_non)))
abbrev s_ring_among : Stmt := top 21
abbrev n_ring_among : List Str := ["farm", "placement", "left", "walk", "passed", "other"]
theorem sc_ring_among : FnScope n_ring_among ["farm", "placement", "left"] (defScope s_ring_among) := ⟨rfl, rfl, rfl, by decide +kernel, rfl, by decide +kernel, by decide +kernel⟩
def b_ring_among : MS := (mSeq (mNew (mLst [(mOp2 sIx (.dat (mVar 2)) (.dat (M.pure (.int 0))))]) 3) (mSeq (whileM (mB (mOp2 sNin (.dat (mOp2 sIx (.own 3) (.dat (mNeg (M.pure (.int 1)))))) (.dat (mSl sCut (.own 3) none (some (mNeg (M.pure (.int 1)))))))) (mSeq (mAsg (mCallF m_passed_over [(.dat (mVar 0)), (.dat (mVar 1)), (.dat (mOp2 sIx (.own 3) (.dat (mNeg (M.pure (.int 1))))))]) (gNm 4)) (mExpr (mMethWR wAppend 3 [(mOp2 sIx (.dat (mLc (mSeqI (mVar 2)) (gNm 5) (mB (mOp2 sIn (.dat (mOp2 sIx (.dat (mVar 1)) (.dat (mVar 5)))) (.dat (mVar 4)))) (mVar 5) [5])) (.dat (M.pure (.int 0))))]))) 4096) (mRet (mCall sTuple [(.dat (mSl sCut (.own 3) (some (mMeth isLst sLix (.own 3) [(.dat (mOp2 sIx (.own 3) (.dat (mNeg (M.pure (.int 1))))))])) (some (mNeg (M.pure (.int 1))))))]))))
def m_ring_among : Fn := mkFn 6 [] b_ring_among
theorem ok_ring_among {f : Addr} {fd : FuncData} (T : Txt K mg C0) (c_passed_over : Cal P w K mg base (cfK K C0 ex) 2 "passed_over" [] 3 m_passed_over) (F : FunD K "ring_among" "ring_among" (defArgs s_ring_among) (defBody s_ring_among) (defScope s_ring_among) [] [] f fd) : FnOk P w K mg base (L2.CX P w) 3 f fd ["farm", "placement", "left"] (spM (cfK K C0 ex) [] 3 m_ring_among) :=
  fn_ok0 (P := P) (w := w) (K := K) (mg := mg) (base := base) (c := cfK K C0 ex) (k := 2) (m := b_ring_among) (st := s_ring_among) (N := n_ring_among) (ps := ["farm", "placement", "left"]) F sc_ring_among (by decide) fun cdv A outer s H E hr =>
    (pss_consM (ps_newM 3 sc_ring_among.nd (pf_lst (pd_cons (o_ix (po_dat (pm_var 2)) (po_dat pm_int)) pd_nil)) rfl) (pss_consM (ps_whileM 4096 (passes_of rfl) (t_nin hr.units (po_dat (o_ix (po_own 3) (po_dat (pm_neg pm_int)))) (po_dat (o_sl (po_own 3) pp_none (pp_some (pm_neg pm_int))))) (pss_consM (ps_asgM (pm_cal c_passed_over hr (takes_of rfl rfl rfl rfl) (pr_dat (pm_var 0) (pr_dat (pm_var 1) (pr_dat (o_ix (po_own 3) (po_dat (pm_neg pm_int))) pr_nil)))) (pg_nm 4 sc_ring_among.nd rfl)) (pss_oneM (ps_exprM (m_append 3 (o_ix (po_dat (pm_of_pf (pf_lc [("other", 5)] rfl sc_ring_among.nd (pi_seqM rfl (pm_var 2)) (blk_of (by rfl)) (by rfl) (by rfl) (fun s H C cl fp => (pg_nm 5 sc_ring_among.nd rfl)) (fun s H C cl fp => (pts_oneM (t_in hr.units (po_dat (o_ix (po_dat (pm_var 1)) (po_dat (pm_var 5)))) (po_dat (pm_var 4))))) (fun s H C cl fp => (pm_var 5))))) (po_dat pm_int))))))) (pss_oneM (ps_retM (b_tuple T.blt (po_dat (o_sl (po_own 3) (pp_some (m_lindex (po_own 3) (po_dat (o_ix (po_own 3) (po_dat (pm_neg pm_int)))))) (pp_some (pm_neg pm_int)))))))))
abbrev s_order_of : Stmt := top 22
abbrev n_order_of : List Str := ["farm", "placement", "staying", "far", "held", "left", "order", "passed", "session", "used", "last", "server"]
theorem sc_order_of : FnScope n_order_of ["farm", "placement", "staying"] (defScope s_order_of) := ⟨rfl, rfl, rfl, by decide +kernel, rfl, by decide +kernel, by decide +kernel⟩
def b_order_of : MS := (mSeq (mExpr (mCallF m_check_placement [(.dat (mVar 0)), (.dat (mVar 1))])) (mSeq (mExpr (mCallF m_check_staying [(.dat (mVar 0)), (.dat (mVar 1)), (.dat (mVar 2))])) (mSeq (mAsg (mCallF m_first_far [(.dat (mVar 0)), (.dat (mVar 1)), (.dat (mVar 2))]) (gNm 3)) (mSeq (mIfS (mB (mOp2 sNotN (.dat (mVar 3)) (.dat (M.pure .non)))) (mRet (mTup [(M.pure (.str "far")), (mVar 3)])) mSkip) (mSeq (mAsg (mCallF m_first_held [(.dat (mVar 0)), (.dat (mVar 1)), (.dat (mVar 2))]) (gNm 4)) (mSeq (mIfS (mB (mOp2 sNotN (.dat (mVar 4)) (.dat (M.pure .non)))) (mRet (mTup [(M.pure (.str "held")), (mOp2 sIx (.dat (mVar 4)) (.dat (M.pure (.int 0)))), (mOp2 sIx (.dat (mVar 4)) (.dat (M.pure (.int 1))))])) mSkip) (mSeq (mAsg (mCallF m_movers [(.dat (mVar 1)), (.dat (mVar 2))]) (gNm 5)) (mSeq (mAsg (mLst []) (gNm 6)) (mSeq (whileM (mB (mOp2 sNe (.dat (mVar 5)) (.dat (mLst [])))) (mSeq (mAsg (mDc (mSeqI (mVar 5)) (gNm 8) (M.pure true) (mVar 8) (mCallF m_passed_over [(.dat (mVar 0)), (.dat (mVar 1)), (.dat (mVar 8))]) [8]) (gNm 7)) (mSeq (mAsg (mLc (mSeqI (mVar 5)) (gNm 8) (M.pure true) (mOp2 sIx (.dat (mVar 1)) (.dat (mVar 8))) [8]) (gNm 9)) (mSeq (mAsg (mLc (mSeqI (mVar 5)) (gNm 8) (mB (mOp2 sEq (.dat (mLc (mSeqI (mOp2 sDix (.dat (mVar 7)) (.dat (mVar 8)))) (gNm 11) (mB (mOp2 sIn (.dat (mVar 11)) (.dat (mVar 9)))) (mVar 11) [11])) (.dat (mLst [])))) (mVar 8) [8]) (gNm 10)) (mSeq (mIfS (mB (mOp2 sEq (.dat (mVar 10)) (.dat (mLst [])))) (mRet (mTup [(M.pure (.str "ring")), (mCallF m_ring_among [(.dat (mVar 0)), (.dat (mVar 1)), (.dat (mVar 5))])])) mSkip) (mSeq (mAsg (mOp2 sAdd (.dat (mVar 10)) (.dat (mVar 6))) (gNm 6)) (mAsg (mLc (mSeqI (mVar 5)) (gNm 8) (mB (mOp2 sNin (.dat (mVar 8)) (.dat (mVar 10)))) (mVar 8) [8]) (gNm 5))))))) 4096) (mRet (mTup [(M.pure (.str "order")), (mCall sTuple [(.dat (mVar 6))])])))))))))))
def m_order_of : Fn := mkFn 12 [] b_order_of
theorem ok_order_of {f : Addr} {fd : FuncData} {zS : V} (T : Txt K mg C0) (c_check_placement : Cal P w K mg base (cfK K C0 ex) 3 "check_placement" [] 2 m_check_placement) (c_check_staying : Cal P w K mg base (cfK K C0 ex) 3 "check_staying" [] 3 m_check_staying) (c_first_far : Cal P w K mg base (cfK K C0 ex) 2 "first_far" [] 3 m_first_far) (c_first_held : Cal P w K mg base (cfK K C0 ex) 3 "first_held" [] 3 m_first_held) (c_movers : Cal P w K mg base (cfK K C0 ex) 1 "movers" [] 2 m_movers) (c_passed_over : Cal P w K mg base (cfK K C0 ex) 2 "passed_over" [] 3 m_passed_over) (c_ring_among : Cal P w K mg base (cfK K C0 ex) 3 "ring_among" [] 3 m_ring_among) (F : FunD K "order_of" "order_of" (defArgs s_order_of) (defBody s_order_of) (defScope s_order_of) [] [("staying", zS)] f fd) : FnOk P w K mg base (L2.CX P w) 4 f fd ["farm", "placement", "staying"] (spM (cfK K C0 ex) [] 3 m_order_of) :=
  fn_ok0 (P := P) (w := w) (K := K) (mg := mg) (base := base) (c := cfK K C0 ex) (k := 3) (m := b_order_of) (st := s_order_of) (N := n_order_of) (ps := ["farm", "placement", "staying"]) F sc_order_of (by decide) fun cdv A outer s H E hr =>
    (pss_consM (ps_exprM (pm_cal c_check_placement hr (takes_of rfl rfl rfl rfl) (pr_dat (pm_var 0) (pr_dat (pm_var 1) pr_nil)))) (pss_consM (ps_exprM (pm_cal c_check_staying hr (takes_of rfl rfl rfl rfl) (pr_dat (pm_var 0) (pr_dat (pm_var 1) (pr_dat (pm_var 2) pr_nil))))) (pss_consM (ps_asgM (pm_cal c_first_far hr (takes_of rfl rfl rfl rfl) (pr_dat (pm_var 0) (pr_dat (pm_var 1) (pr_dat (pm_var 2) pr_nil)))) (pg_nm 3 sc_order_of.nd rfl)) (pss_consM (ps_ifM (t_isn (po_dat (pm_var 3)) (po_dat pm_non)) (pss_oneM (ps_retM (pm_tup (pd_cons pm_str (pd_cons (pm_var 3) pd_nil))))) pss_nilM) (pss_consM (ps_asgM (pm_cal c_first_held hr (takes_of rfl rfl rfl rfl) (pr_dat (pm_var 0) (pr_dat (pm_var 1) (pr_dat (pm_var 2) pr_nil)))) (pg_nm 4 sc_order_of.nd rfl)) (pss_consM (ps_ifM (t_isn (po_dat (pm_var 4)) (po_dat pm_non)) (pss_oneM (ps_retM (pm_tup (pd_cons pm_str (pd_cons (o_ix (po_dat (pm_var 4)) (po_dat pm_int)) (pd_cons (o_ix (po_dat (pm_var 4)) (po_dat pm_int)) pd_nil)))))) pss_nilM) (pss_consM (ps_asgM (pm_cal c_movers hr (takes_of rfl rfl rfl rfl) (pr_dat (pm_var 1) (pr_dat (pm_var 2) pr_nil))) (pg_nm 5 sc_order_of.nd rfl)) (pss_consM (ps_asgM (pm_of_pf (pf_lst pd_nil)) (pg_nm 6 sc_order_of.nd rfl)) (pss_consM (ps_whileM 4096 (passes_of rfl) (t_ne hr.units (po_dat (pm_var 5)) (po_dat (pm_of_pf (pf_lst pd_nil)))) (pss_consM (ps_asgM (pm_of_pf (pf_dc [("session", 8)] rfl sc_order_of.nd (pi_seqM rfl (pm_var 5)) (blk_of (by rfl)) (by rfl) (by rfl) (fun s H C cl fp => (pg_nm 8 sc_order_of.nd rfl)) (fun s H C cl fp => pts_nilM) (fun s H C cl fp => (pm_var 8)) (fun s H C cl fp => (pm_cal c_passed_over hr takes0 (pr_dat (pm_var 0) (pr_dat (pm_var 1) (pr_dat (pm_var 8) pr_nil))))))) (pg_nm 7 sc_order_of.nd rfl)) (pss_consM (ps_asgM (pm_of_pf (pf_lc [("session", 8)] rfl sc_order_of.nd (pi_seqM rfl (pm_var 5)) (blk_of (by rfl)) (by rfl) (by rfl) (fun s H C cl fp => (pg_nm 8 sc_order_of.nd rfl)) (fun s H C cl fp => pts_nilM) (fun s H C cl fp => (o_ix (po_dat (pm_var 1)) (po_dat (pm_var 8)))))) (pg_nm 9 sc_order_of.nd rfl)) (pss_consM (ps_asgM (pm_of_pf (pf_lc [("session", 8)] rfl sc_order_of.nd (pi_seqM rfl (pm_var 5)) (blk_of (by rfl)) (by rfl) (by rfl) (fun s H C cl fp => (pg_nm 8 sc_order_of.nd rfl)) (fun s H C cl fp => (pts_oneM (t_eq hr.units (po_dat (pm_of_pf (pf_lc [("server", 11)] rfl sc_order_of.nd (pi_seqM rfl (o_dix hr.units (po_dat (pm_var 7)) (po_dat (pm_var 8)))) (blk_of (by rfl)) (by rfl) (by rfl) (fun s H C cl fp => (pg_nm 11 sc_order_of.nd rfl)) (fun s H C cl fp => (pts_oneM (t_in hr.units (po_dat (pm_var 11)) (po_dat (pm_var 9))))) (fun s H C cl fp => (pm_var 11))))) (po_dat (pm_of_pf (pf_lst pd_nil)))))) (fun s H C cl fp => (pm_var 8)))) (pg_nm 10 sc_order_of.nd rfl)) (pss_consM (ps_ifM (t_eq hr.units (po_dat (pm_var 10)) (po_dat (pm_of_pf (pf_lst pd_nil)))) (pss_oneM (ps_retM (pm_tup (pd_cons pm_str (pd_cons (pm_cal c_ring_among hr (takes_of rfl rfl rfl rfl) (pr_dat (pm_var 0) (pr_dat (pm_var 1) (pr_dat (pm_var 5) pr_nil)))) pd_nil))))) pss_nilM) (pss_consM (ps_asgM (o_add (po_dat (pm_var 10)) (po_dat (pm_var 6))) (pg_nm 6 sc_order_of.nd rfl)) (pss_oneM (ps_asgLc 5 [("session", 8)] rfl sc_order_of.nd rfl rfl (by rfl) rfl (pi_seqM rfl (pm_var 5)) (blk_of (by rfl)) (by rfl) (by rfl) (fun s H C cl fp => (pg_nm 8 sc_order_of.nd rfl)) (fun s H C cl fp => (pts_oneM (t_nin hr.units (po_dat (pm_var 8)) (po_dat (pm_var 10))))) (fun s H C cl fp => (pm_var 8)))))))))) (pss_oneM (ps_retM (pm_tup (pd_cons pm_str (pd_cons (b_tuple T.blt (po_dat (pm_var 6))) pd_nil))))))))))))))
abbrev s_law_draw : Stmt := top 24
abbrev n_law_draw : List Str := ["_law_well", "_law_many", "_law_found", "_law_number"]
theorem sc_law_draw : FnScope n_law_draw ["_law_well", "_law_many"] (defScope s_law_draw) := ⟨rfl, rfl, rfl, by decide +kernel, rfl, by decide +kernel, by decide +kernel⟩
def b_law_draw : MS := (mSeq (mIfS (mB (mOp2 sGt (.dat (mOp2 sIx (.own 0) (.dat (M.pure (.int 0))))) (.dat (M.pure (.int 0))))) (mSeq (mAsg (mOp2 sMod (.dat (mOp2 sIx (.own 0) (.dat (M.pure (.int 0))))) (.dat (mVar 1))) (gNm 2)) (mSeq (mSetIx 0 (M.pure (.int 0)) (mOp2 sFdiv (.dat (mOp2 sIx (.own 0) (.dat (M.pure (.int 0))))) (.dat (mVar 1)))) (mRet (mVar 2)))) mSkip) (mSeq (mSetIx 0 (M.pure (.int 2)) (mOp2 sAdd (.dat (mOp2 sIx (.own 0) (.dat (M.pure (.int 2))))) (.dat (M.pure (.int 1))))) (mSeq (mAsg (mOp2 sMod (.dat (mOp2 sMul (.dat (mOp2 sAdd (.dat (mOp2 sAdd (.dat (mOp2 sIx (.own 0) (.dat (M.pure (.int 1))))) (.dat (mOp2 sMul (.dat (M.pure (.int 104729))) (.dat (mOp2 sIx (.own 0) (.dat (M.pure (.int 2))))))))) (.dat (M.pure (.int 1))))) (.dat (M.pure (.int 48271))))) (.dat (M.pure (.int 2147483647)))) (gNm 3)) (mSeq (mAsg (mOp2 sMod (.dat (mOp2 sMul (.dat (mVar 3)) (.dat (mOp2 sAdd (.dat (mOp2 sFdiv (.dat (mVar 3)) (.dat (M.pure (.int 1009))))) (.dat (M.pure (.int 69621))))))) (.dat (M.pure (.int 2147483647)))) (gNm 3)) (mRet (mOp2 sMod (.dat (mOp2 sMod (.dat (mOp2 sMul (.dat (mVar 3)) (.dat (mOp2 sAdd (.dat (mOp2 sFdiv (.dat (mVar 3)) (.dat (M.pure (.int 2003))))) (.dat (M.pure (.int 40692))))))) (.dat (M.pure (.int 2147483399))))) (.dat (mVar 1))))))))
def m_law_draw : Fn := mkFn 4 [0] b_law_draw
theorem ok_law_draw {f : Addr} {fd : FuncData} (T : Txt K mg C0)  (F : FunD K "_law_draw" "_law_draw" (defArgs s_law_draw) (defBody s_law_draw) (defScope s_law_draw) [] [] f fd) : FnOk P w K mg base (L2.CX P w) 1 f fd ["_law_well", "_law_many"] (spM (cfK K C0 ex) [0] 2 m_law_draw) :=
  fn_ok1 0 (P := P) (w := w) (K := K) (mg := mg) (base := base) (c := cfK K C0 ex) (k := 0) (m := b_law_draw) (st := s_law_draw) (N := n_law_draw) (ps := ["_law_well", "_law_many"]) F sc_law_draw (by decide) (by decide) fun aR cdv A outer s H E hr =>
    (pss_consM (ps_ifM (t_gt (po_dat (o_ix (po_own 0) (po_dat pm_int))) (po_dat pm_int)) (pss_consM (ps_asgM (o_mod (po_dat (o_ix (po_own 0) (po_dat pm_int))) (po_dat (pm_var 1))) (pg_nm 2 sc_law_draw.nd rfl)) (pss_consM (ps_setIx 0 (o_fdiv (po_dat (o_ix (po_own 0) (po_dat pm_int))) (po_dat (pm_var 1))) pm_int) (pss_oneM (ps_retM (pm_var 2))))) pss_nilM) (pss_consM (ps_setIx 0 (o_add (po_dat (o_ix (po_own 0) (po_dat pm_int))) (po_dat pm_int)) pm_int) (pss_consM (ps_asgM (o_mod (po_dat (o_mul (po_dat (o_add (po_dat (o_add (po_dat (o_ix (po_own 0) (po_dat pm_int))) (po_dat (o_mul (po_dat pm_int) (po_dat (o_ix (po_own 0) (po_dat pm_int))))))) (po_dat pm_int))) (po_dat pm_int))) (po_dat pm_int)) (pg_nm 3 sc_law_draw.nd rfl)) (pss_consM (ps_asgM (o_mod (po_dat (o_mul (po_dat (pm_var 3)) (po_dat (o_add (po_dat (o_fdiv (po_dat (pm_var 3)) (po_dat pm_int))) (po_dat pm_int))))) (po_dat pm_int)) (pg_nm 3 sc_law_draw.nd rfl)) (pss_oneM (ps_retM (o_mod (po_dat (o_mod (po_dat (o_mul (po_dat (pm_var 3)) (po_dat (o_add (po_dat (o_fdiv (po_dat (pm_var 3)) (po_dat pm_int))) (po_dat pm_int))))) (po_dat pm_int))) (po_dat (pm_var 1)))))))))
abbrev s_law_farm : Stmt := top 25
abbrev n_law_farm : List Str := ["_law_well", "_law_most", "_law_many", "_law_hosts", "_law_rows", "_law_k", "_law_left_here", "_law_row", "_law_turn"]
theorem sc_law_farm : FnScope n_law_farm ["_law_well", "_law_most", "_law_many"] (defScope s_law_farm) := ⟨rfl, rfl, rfl, by decide +kernel, rfl, by decide +kernel, by decide +kernel⟩
def b_law_farm : MS := (mSeq (mAsg (mOp2 sAdd (.dat (M.pure (.int 1))) (.dat (mCallF m_law_draw [(.own 0), (.dat (mVar 1))]))) (gNm 3)) (mSeq (mNew (mLst []) 4) (mSeq (mFor (mRange1 (mOp2 sSub (.dat (mVar 2)) (.dat (mOp2 sFdiv (.dat (mCallF m_law_draw [(.own 0), (.dat (mOp2 sAdd (.dat (mVar 2)) (.dat (M.pure (.int 1)))))])) (.dat (mOp2 sIx (.dat (mLst [(M.pure (.int 1)), (M.pure (.int 3))])) (.dat (mCallF m_law_draw [(.own 0), (.dat (M.pure (.int 2)))])))))))) (gNm 5) (mSeq (mNew (mListRg (mVar 3)) 6) (mSeq (mNew (mLst []) 7) (mSeq (mFor (mRange1 (mOp2 sAdd (.dat (M.pure (.int 1))) (.dat (mCallF m_law_draw [(.own 0), (.dat (mVar 3))])))) (gNm 8) (mExpr (mMethWR wAppend 7 [(mMethWR wPopAt 6 [(mOp2 sFdiv (.dat (mCallF m_law_draw [(.own 0), (.dat (mCall sLen [(.own 6)]))])) (.dat (mOp2 sIx (.dat (mLst [(M.pure (.int 1)), (M.pure (.int 2))])) (.dat (mCallF m_law_draw [(.own 0), (.dat (M.pure (.int 2)))])))))])]))) (mSeq (mExpr (mMethWR wAppend 4 [(mCall sTuple [(.own 7)])])) (mIfS (mB (mOp2 sEq (.dat (mCallF m_law_draw [(.own 0), (.dat (M.pure (.int 4)))])) (.dat (M.pure (.int 0))))) (mExpr (mMethWR wAppend 4 [(mCall sTuple [(.dat (mRev sRev (.own 7)))])])) mSkip)))))) (mSeq (mNew (mSl sCutL (.own 4) none (some (mVar 2))) 4) (mFrz 4 (mRet (mTup [(mVar 3), (mVar 4), (mOp2 sIx (.dat (mLst [(mCallF m_law_draw [(.own 0), (.dat (mOp2 sAdd (.dat (mVar 3)) (.dat (M.pure (.int 1)))))]), (mCall sMin [(.dat (M.pure (.int 2))), (.dat (mVar 3))]), (mVar 3)])) (.dat (mCallF m_law_draw [(.own 0), (.dat (M.pure (.int 3)))])))])))))))
def m_law_farm : Fn := mkFn 9 [0] b_law_farm
theorem ok_law_farm {f : Addr} {fd : FuncData} (T : Txt K mg C0) (c_law_draw : Cal P w K mg base (cfK K C0 ex) 1 "_law_draw" [0] 2 m_law_draw) (F : FunD K "_law_farm" "_law_farm" (defArgs s_law_farm) (defBody s_law_farm) (defScope s_law_farm) [] [] f fd) : FnOk P w K mg base (L2.CX P w) 2 f fd ["_law_well", "_law_most", "_law_many"] (spM (cfK K C0 ex) [0] 3 m_law_farm) :=
  fn_ok1 0 (P := P) (w := w) (K := K) (mg := mg) (base := base) (c := cfK K C0 ex) (k := 1) (m := b_law_farm) (st := s_law_farm) (N := n_law_farm) (ps := ["_law_well", "_law_most", "_law_many"]) F sc_law_farm (by decide) (by decide) fun aR cdv A outer s H E hr =>
    (pss_consM (ps_asgM (o_add (po_dat pm_int) (po_dat (pm_cal c_law_draw hr (takes_of rfl rfl rfl rfl) (pr_own 0 (pr_dat (pm_var 1) pr_nil))))) (pg_nm 3 sc_law_farm.nd rfl)) (pss_consM (ps_newM 4 sc_law_farm.nd (pf_lst pd_nil) rfl) (pss_consM (ps_forM (passes_of rfl) rfl (pi_range1M T.blt.zrange (o_sub (po_dat (pm_var 2)) (po_dat (o_fdiv (po_dat (pm_cal c_law_draw hr (takes_of rfl rfl rfl rfl) (pr_own 0 (pr_dat (o_add (po_dat (pm_var 2)) (po_dat pm_int)) pr_nil)))) (po_dat (o_ix (po_dat (pm_of_pf (pf_lst (pd_cons pm_int (pd_cons pm_int pd_nil))))) (po_dat (pm_cal c_law_draw hr (takes_of rfl rfl rfl rfl) (pr_own 0 (pr_dat pm_int pr_nil)))))))))) (pg_nm 5 sc_law_farm.nd rfl) (pss_consM (ps_newM 6 sc_law_farm.nd (f_lrange T.blt rfl (pm_var 3)) rfl) (pss_consM (ps_newM 7 sc_law_farm.nd (pf_lst pd_nil) rfl) (pss_consM (ps_forM (passes_of rfl) rfl (pi_range1M T.blt.zrange (o_add (po_dat pm_int) (po_dat (pm_cal c_law_draw hr (takes_of rfl rfl rfl rfl) (pr_own 0 (pr_dat (pm_var 3) pr_nil)))))) (pg_nm 8 sc_law_farm.nd rfl) (pss_oneM (ps_exprM (m_append 7 (m_popAt 6 (o_fdiv (po_dat (pm_cal c_law_draw hr (takes_of rfl rfl rfl rfl) (pr_own 0 (pr_dat (b_len T.blt (po_own 6)) pr_nil)))) (po_dat (o_ix (po_dat (pm_of_pf (pf_lst (pd_cons pm_int (pd_cons pm_int pd_nil))))) (po_dat (pm_cal c_law_draw hr (takes_of rfl rfl rfl rfl) (pr_own 0 (pr_dat pm_int pr_nil)))))))))))) (pss_consM (ps_exprM (m_append 4 (b_tuple T.blt (po_own 7)))) (pss_oneM (ps_ifM (t_eq hr.units (po_dat (pm_cal c_law_draw hr (takes_of rfl rfl rfl rfl) (pr_own 0 (pr_dat pm_int pr_nil)))) (po_dat pm_int)) (pss_oneM (ps_exprM (m_append 4 (b_tuple T.blt (po_dat (o_revL (po_own 7))))))) pss_nilM))))))) (pss_consM (ps_newM 4 sc_law_farm.nd (f_sl (po_own 4) pp_none (pp_some (pm_var 2))) rfl) (pss_oneM (ps_frz 4 rfl (ps_retM (pm_tup (pd_cons (pm_var 3) (pd_cons (pm_var 4) (pd_cons (o_ix (po_dat (pm_of_pf (pf_lst (pd_cons (pm_cal c_law_draw hr (takes_of rfl rfl rfl rfl) (pr_own 0 (pr_dat (o_add (po_dat (pm_var 3)) (po_dat pm_int)) pr_nil))) (pd_cons (b_min T.blt rfl (pa_consO (po_dat pm_int) (pa_consO (po_dat (pm_var 3)) pa_nilO))) (pd_cons (pm_var 3) pd_nil)))))) (po_dat (pm_cal c_law_draw hr (takes_of rfl rfl rfl rfl) (pr_own 0 (pr_dat pm_int pr_nil))))) pd_nil)))))))))))
abbrev s_law_after : Stmt := top 26
abbrev n_law_after : List Str := ["_law_rows", "_law_state", "_law_event", "_law_word", "_law_number", "_law_down", "_law_spots_here", "_law_moved", "_law_one", "_law_host", "_law_some"]
theorem sc_law_after : FnScope n_law_after ["_law_rows", "_law_state", "_law_event"] (defScope s_law_after) := ⟨rfl, rfl, rfl, by decide +kernel, rfl, by decide +kernel, by decide +kernel⟩
def b_law_after : MS := (mSeq (mAsg (mVar 2) (gTp [3, 4])) (mSeq (mNew2 (mCall sList [(.dat (mOp2 sIx (.dat (mVar 1)) (.dat (M.pure (.int 0)))))]) (mCall sList [(.dat (mOp2 sIx (.dat (mVar 1)) (.dat (M.pure (.int 1)))))]) 5 6) (mSeq (mAsg (mLst []) (gNm 7)) (mSeq (mIfS (mB (mOp2 sEq (.dat (mVar 3)) (.dat (M.pure (.str "end"))))) (mSetIx 6 (mVar 4) (M.pure .non)) mSkip) (mSeq (mIfS (mB (mOp2 sEq (.dat (mVar 3)) (.dat (M.pure (.str "begin"))))) (mAsg (mLst [(mVar 4)]) (gNm 7)) mSkip) (mSeq (mIfS (mB (mOp2 sEq (.dat (mVar 3)) (.dat (M.pure (.str "up"))))) (mExpr (mMethWR wRemove 5 [(mVar 4)])) mSkip) (mSeq (mIfS (mB (mOp2 sEq (.dat (mVar 3)) (.dat (M.pure (.str "down"))))) (mSeq (mNew (mCall sSorted [(.dat (mOp2 sAdd (.own 5) (.dat (mLst [(mVar 4)]))))]) 5) (mAsg (mThaw 6 (mLc (mEnum (mVar 6)) (gTp [8, 9]) (mB (mOp2 sEq (.dat (mVar 9)) (.dat (mVar 4)))) (mVar 8) [8, 9])) (gNm 7))) mSkip) (mSeq (mFor (mSeqI (mVar 7)) (gNm 8) (mSeq (mAsg (mLc (mSeqI (mOp2 sIx (.dat (mVar 0)) (.dat (mVar 8)))) (gNm 9) (mB (mOp2 sNin (.dat (mVar 9)) (.own 5))) (mVar 9) [9]) (gNm 10)) (mSetIx 6 (mVar 8) (mOp2 sIx (.dat (mOp2 sAdd (.dat (mVar 10)) (.dat (mLst [(M.pure .non)])))) (.dat (M.pure (.int 0))))))) (mRet (mTup [(mCall sTuple [(.own 5)]), (mCall sTuple [(.own 6)])]))))))))))
def m_law_after : Fn := mkFn 11 [] b_law_after
theorem ok_law_after {f : Addr} {fd : FuncData} (T : Txt K mg C0)  (F : FunD K "_law_after" "_law_after" (defArgs s_law_after) (defBody s_law_after) (defScope s_law_after) [] [] f fd) : FnOk P w K mg base (L2.CX P w) 1 f fd ["_law_rows", "_law_state", "_law_event"] (spM (cfK K C0 ex) [] 3 m_law_after) :=
  fn_ok0 (P := P) (w := w) (K := K) (mg := mg) (base := base) (c := cfK K C0 ex) (k := 0) (m := b_law_after) (st := s_law_after) (N := n_law_after) (ps := ["_law_rows", "_law_state", "_law_event"]) F sc_law_after (by decide) fun cdv A outer s H E hr =>
    (pss_consM (ps_asgM (pm_var 2) (pg_any (pg_tpM rfl rfl (pgs_consM (pg_nm 3 sc_law_after.nd rfl) (pgs_consM (pg_nm 4 sc_law_after.nd rfl) pgs_nilM))))) (pss_consM (ps_new2C 5 6 rfl sc_law_after.nd rfl rfl (b_list T.blt (po_dat (o_ix (po_dat (pm_var 1)) (po_dat pm_int)))) (b_list T.blt (po_dat (o_ix (po_dat (pm_var 1)) (po_dat pm_int))))) (pss_consM (ps_asgM (pm_of_pf (pf_lst pd_nil)) (pg_nm 7 sc_law_after.nd rfl)) (pss_consM (ps_ifM (t_eq hr.units (po_dat (pm_var 3)) (po_dat pm_str)) (pss_oneM (ps_setIx 6 pm_non (pm_var 4))) pss_nilM) (pss_consM (ps_ifM (t_eq hr.units (po_dat (pm_var 3)) (po_dat pm_str)) (pss_oneM (ps_asgM (pm_of_pf (pf_lst (pd_cons (pm_var 4) pd_nil))) (pg_nm 7 sc_law_after.nd rfl))) pss_nilM) (pss_consM (ps_ifM (t_eq hr.units (po_dat (pm_var 3)) (po_dat pm_str)) (pss_oneM (ps_exprM (m_remove 5 (pm_var 4)))) pss_nilM) (pss_consM (ps_ifM (t_eq hr.units (po_dat (pm_var 3)) (po_dat pm_str)) (pss_consM (ps_newM 5 sc_law_after.nd (b_sorted T.blt (po_dat (o_add (po_own 5) (po_dat (pm_of_pf (pf_lst (pd_cons (pm_var 4) pd_nil))))))) rfl) (pss_oneM (ps_asgLcT 6 7 [("_law_one", 8), ("_law_host", 9)] rfl rfl sc_law_after.nd rfl rfl (by rfl) rfl (pi_enumM rfl T.blt.zenumerate (pm_var 6)) (blk_of (by rfl)) (by rfl) (by rfl) (fun s H C cl fp => (pg_tpM rfl rfl (pgs_consM (pg_nm 8 sc_law_after.nd rfl) (pgs_consM (pg_nm 9 sc_law_after.nd rfl) pgs_nilM)))) (fun s H C cl fp => (pts_oneM (t_eq hr.units (po_dat (pm_var 9)) (po_dat (pm_var 4))))) (fun s H C cl fp => (pm_var 8))))) pss_nilM) (pss_consM (ps_forM (passes_of rfl) rfl (pi_seqM rfl (pm_var 7)) (pg_nm 8 sc_law_after.nd rfl) (pss_consM (ps_asgLc 10 [("_law_host", 9)] rfl sc_law_after.nd rfl rfl (by rfl) rfl (pi_seqM rfl (o_ix (po_dat (pm_var 0)) (po_dat (pm_var 8)))) (blk_of (by rfl)) (by rfl) (by rfl) (fun s H C cl fp => (pg_nm 9 sc_law_after.nd rfl)) (fun s H C cl fp => (pts_oneM (t_nin hr.units (po_dat (pm_var 9)) (po_own 5)))) (fun s H C cl fp => (pm_var 9))) (pss_oneM (ps_setIx 6 (o_ix (po_dat (o_add (po_dat (pm_var 10)) (po_dat (pm_of_pf (pf_lst (pd_cons pm_non pd_nil)))))) (po_dat pm_int)) (pm_var 8))))) (pss_oneM (ps_retM (pm_tup (pd_cons (b_tuple T.blt (po_own 5)) (pd_cons (b_tuple T.blt (po_own 6)) pd_nil)))))))))))))
abbrev s_law_events : Stmt := top 27
abbrev n_law_events : List Str := ["_law_hosts", "_law_most", "_law_state", "_law_down", "_law_spots_here", "_law_found", "_law_one", "_law_host"]
theorem sc_law_events : FnScope n_law_events ["_law_hosts", "_law_most", "_law_state"] (defScope s_law_events) := ⟨rfl, rfl, rfl, by decide +kernel, rfl, by decide +kernel, by decide +kernel⟩
def b_law_events : MS := (mSeq (mAsg (mVar 2) (gTp [3, 4])) (mSeq (mNew (mLc (mEnum (mVar 4)) (gTp [6, 7]) (M.pure true) (mTup [(mOp2 sIx (.dat (mLst [(M.pure (.str "end")), (M.pure (.str "begin"))])) (.dat (mCall sInt [(.dat (mOp2 sIsN (.dat (mVar 7)) (.dat (M.pure .non))))]))), (mVar 6)]) [6, 7]) 5) (mSeq (mFor (mRange1 (mVar 0)) (gNm 7) (mIfS (mB (mOp2 sIn (.dat (mVar 7)) (.dat (mVar 3)))) (mExpr (mMethWR wAppend 5 [(mTup [(M.pure (.str "up")), (mVar 7)])])) (mIfS (mB (mOp2 sLt (.dat (mCall sLen [(.dat (mVar 3))])) (.dat (mVar 1)))) (mExpr (mMethWR wAppend 5 [(mTup [(M.pure (.str "down")), (mVar 7)])])) mSkip))) (mFrz 5 (mRet (mVar 5))))))
def m_law_events : Fn := mkFn 8 [] b_law_events
theorem ok_law_events {f : Addr} {fd : FuncData} (T : Txt K mg C0)  (F : FunD K "_law_events" "_law_events" (defArgs s_law_events) (defBody s_law_events) (defScope s_law_events) [] [] f fd) : FnOk P w K mg base (L2.CX P w) 1 f fd ["_law_hosts", "_law_most", "_law_state"] (spM (cfK K C0 ex) [] 3 m_law_events) :=
  fn_ok0 (P := P) (w := w) (K := K) (mg := mg) (base := base) (c := cfK K C0 ex) (k := 0) (m := b_law_events) (st := s_law_events) (N := n_law_events) (ps := ["_law_hosts", "_law_most", "_law_state"]) F sc_law_events (by decide) fun cdv A outer s H E hr =>
    (pss_consM (ps_asgM (pm_var 2) (pg_any (pg_tpM rfl rfl (pgs_consM (pg_nm 3 sc_law_events.nd rfl) (pgs_consM (pg_nm 4 sc_law_events.nd rfl) pgs_nilM))))) (pss_consM (ps_newLc 5 [("_law_one", 6), ("_law_host", 7)] rfl sc_law_events.nd rfl rfl (by rfl) rfl (pi_enumM rfl T.blt.zenumerate (pm_var 4)) (blk_of (by rfl)) (by rfl) (by rfl) (fun s H C cl fp => (pg_tpM rfl rfl (pgs_consM (pg_nm 6 sc_law_events.nd rfl) (pgs_consM (pg_nm 7 sc_law_events.nd rfl) pgs_nilM)))) (fun s H C cl fp => pts_nilM) (fun s H C cl fp => (pm_tup (pd_cons (o_ix (po_dat (pm_of_pf (pf_lst (pd_cons pm_str (pd_cons pm_str pd_nil))))) (po_dat (b_int T.blt (po_dat (o_is (po_dat (pm_var 7)) (po_dat pm_non)))))) (pd_cons (pm_var 6) pd_nil))))) (pss_consM (ps_forM (passes_of rfl) rfl (pi_range1M T.blt.zrange (pm_var 0)) (pg_nm 7 sc_law_events.nd rfl) (pss_oneM (ps_ifM (t_in hr.units (po_dat (pm_var 7)) (po_dat (pm_var 3))) (pss_oneM (ps_exprM (m_append 5 (pm_tup (pd_cons pm_str (pd_cons (pm_var 7) pd_nil)))))) (pss_oneM (ps_ifM (t_lt (po_dat (b_len T.blt (po_dat (pm_var 3)))) (po_dat (pm_var 1))) (pss_oneM (ps_exprM (m_append 5 (pm_tup (pd_cons pm_str (pd_cons (pm_var 7) pd_nil)))))) pss_nilM))))) (pss_oneM (ps_frz 5 rfl (ps_retM (pm_var 5)))))))
abbrev s_law_run : Stmt := top 28
abbrev n_law_run : List Str := ["_law_well", "_law_farm_here", "_law_state", "_law_many", "_law_hosts", "_law_rows", "_law_most", "_law_turn", "_law_some"]
theorem sc_law_run : FnScope n_law_run ["_law_well", "_law_farm_here", "_law_state", "_law_many"] (defScope s_law_run) := ⟨rfl, rfl, rfl, by decide +kernel, rfl, by decide +kernel, by decide +kernel⟩
def b_law_run : MS := (mSeq (mAsg (mVar 1) (gTp [4, 5, 6])) (mSeq (mFor (mRange1 (mVar 3)) (gNm 7) (mSeq (mAsg (mCallF m_law_events [(.dat (mVar 4)), (.dat (mVar 6)), (.dat (mVar 2))]) (gNm 8)) (mIfS (mB (mOp2 sNe (.dat (mVar 8)) (.dat (mLst [])))) (mAsg (mCallF m_law_after [(.dat (mVar 5)), (.dat (mVar 2)), (.dat (mOp2 sIx (.dat (mVar 8)) (.dat (mCallF m_law_draw [(.own 0), (.dat (mCall sLen [(.dat (mVar 8))]))]))))]) (gNm 2)) mSkip))) (mRet (mVar 2))))
def m_law_run : Fn := mkFn 9 [0] b_law_run
theorem ok_law_run {f : Addr} {fd : FuncData} (T : Txt K mg C0) (c_law_events : Cal P w K mg base (cfK K C0 ex) 1 "_law_events" [] 3 m_law_events) (c_law_after : Cal P w K mg base (cfK K C0 ex) 1 "_law_after" [] 3 m_law_after) (c_law_draw : Cal P w K mg base (cfK K C0 ex) 1 "_law_draw" [0] 2 m_law_draw) (F : FunD K "_law_run" "_law_run" (defArgs s_law_run) (defBody s_law_run) (defScope s_law_run) [] [] f fd) : FnOk P w K mg base (L2.CX P w) 2 f fd ["_law_well", "_law_farm_here", "_law_state", "_law_many"] (spM (cfK K C0 ex) [0] 4 m_law_run) :=
  fn_ok1 0 (P := P) (w := w) (K := K) (mg := mg) (base := base) (c := cfK K C0 ex) (k := 1) (m := b_law_run) (st := s_law_run) (N := n_law_run) (ps := ["_law_well", "_law_farm_here", "_law_state", "_law_many"]) F sc_law_run (by decide) (by decide) fun aR cdv A outer s H E hr =>
    (pss_consM (ps_asgM (pm_var 1) (pg_any (pg_tpM rfl rfl (pgs_consM (pg_nm 4 sc_law_run.nd rfl) (pgs_consM (pg_nm 5 sc_law_run.nd rfl) (pgs_consM (pg_nm 6 sc_law_run.nd rfl) pgs_nilM)))))) (pss_consM (ps_forM (passes_of rfl) rfl (pi_range1M T.blt.zrange (pm_var 3)) (pg_nm 7 sc_law_run.nd rfl) (pss_consM (ps_asgM (pm_cal c_law_events hr (takes_of rfl rfl rfl rfl) (pr_dat (pm_var 4) (pr_dat (pm_var 6) (pr_dat (pm_var 2) pr_nil)))) (pg_nm 8 sc_law_run.nd rfl)) (pss_oneM (ps_ifM (t_ne hr.units (po_dat (pm_var 8)) (po_dat (pm_of_pf (pf_lst pd_nil)))) (pss_oneM (ps_asgM (pm_cal c_law_after hr (takes_of rfl rfl rfl rfl) (pr_dat (pm_var 5) (pr_dat (pm_var 2) (pr_dat (o_ix (po_dat (pm_var 8)) (po_dat (pm_cal c_law_draw hr (takes_of rfl rfl rfl rfl) (pr_own 0 (pr_dat (b_len T.blt (po_dat (pm_var 8))) pr_nil))))) pr_nil)))) (pg_nm 2 sc_law_run.nd rfl))) pss_nilM)))) (pss_oneM (ps_retM (pm_var 2)))))
abbrev s_law_spots : Stmt := top 29
abbrev n_law_spots : List Str := ["_law_well", "_law_rows", "_law_found", "_law_row", "_law_some"]
theorem sc_law_spots : FnScope n_law_spots ["_law_well", "_law_rows"] (defScope s_law_spots) := ⟨rfl, rfl, rfl, by decide +kernel, rfl, by decide +kernel, by decide +kernel⟩
def b_law_spots : MS := (mSeq (mNew (mLst []) 2) (mSeq (mFor (mSeqI (mVar 1)) (gNm 3) (mSeq (mAsg (mLst [(M.pure .non), (mOp2 sIx (.dat (mVar 3)) (.dat (M.pure (.int 0)))), (mOp2 sIx (.dat (mVar 3)) (.dat (mCallF m_law_draw [(.own 0), (.dat (mCall sLen [(.dat (mVar 3))]))]))), (mOp2 sIx (.dat (mVar 3)) (.dat (mCall sMin [(.dat (M.pure (.int 1))), (.dat (mOp2 sSub (.dat (mCall sLen [(.dat (mVar 3))])) (.dat (M.pure (.int 1)))))]))), (mOp2 sIx (.dat (mVar 3)) (.dat (mCallF m_law_draw [(.own 0), (.dat (mCall sLen [(.dat (mVar 3))]))])))]) (gNm 4)) (mExpr (mMethWR wAppend 2 [(mOp2 sIx (.dat (mVar 4)) (.dat (mCallF m_law_draw [(.own 0), (.dat (M.pure (.int 5)))])))])))) (mRet (mCall sTuple [(.own 2)]))))
def m_law_spots : Fn := mkFn 5 [0] b_law_spots
theorem ok_law_spots {f : Addr} {fd : FuncData} (T : Txt K mg C0) (c_law_draw : Cal P w K mg base (cfK K C0 ex) 1 "_law_draw" [0] 2 m_law_draw) (F : FunD K "_law_spots" "_law_spots" (defArgs s_law_spots) (defBody s_law_spots) (defScope s_law_spots) [] [] f fd) : FnOk P w K mg base (L2.CX P w) 2 f fd ["_law_well", "_law_rows"] (spM (cfK K C0 ex) [0] 2 m_law_spots) :=
  fn_ok1 0 (P := P) (w := w) (K := K) (mg := mg) (base := base) (c := cfK K C0 ex) (k := 1) (m := b_law_spots) (st := s_law_spots) (N := n_law_spots) (ps := ["_law_well", "_law_rows"]) F sc_law_spots (by decide) (by decide) fun aR cdv A outer s H E hr =>
    (pss_consM (ps_newM 2 sc_law_spots.nd (pf_lst pd_nil) rfl) (pss_consM (ps_forM (passes_of rfl) rfl (pi_seqM rfl (pm_var 1)) (pg_nm 3 sc_law_spots.nd rfl) (pss_consM (ps_asgM (pm_of_pf (pf_lst (pd_cons pm_non (pd_cons (o_ix (po_dat (pm_var 3)) (po_dat pm_int)) (pd_cons (o_ix (po_dat (pm_var 3)) (po_dat (pm_cal c_law_draw hr (takes_of rfl rfl rfl rfl) (pr_own 0 (pr_dat (b_len T.blt (po_dat (pm_var 3))) pr_nil))))) (pd_cons (o_ix (po_dat (pm_var 3)) (po_dat (b_min T.blt rfl (pa_consO (po_dat pm_int) (pa_consO (po_dat (o_sub (po_dat (b_len T.blt (po_dat (pm_var 3)))) (po_dat pm_int))) pa_nilO))))) (pd_cons (o_ix (po_dat (pm_var 3)) (po_dat (pm_cal c_law_draw hr (takes_of rfl rfl rfl rfl) (pr_own 0 (pr_dat (b_len T.blt (po_dat (pm_var 3))) pr_nil))))) pd_nil))))))) (pg_nm 4 sc_law_spots.nd rfl)) (pss_oneM (ps_exprM (m_append 2 (o_ix (po_dat (pm_var 4)) (po_dat (pm_cal c_law_draw hr (takes_of rfl rfl rfl rfl) (pr_own 0 (pr_dat pm_int pr_nil)))))))))) (pss_oneM (ps_retM (b_tuple T.blt (po_own 2))))))
abbrev s_law_passed : Stmt := top 30
abbrev n_law_passed : List Str := ["_law_rows", "_law_spots_here", "_law_one"]
theorem sc_law_passed : FnScope n_law_passed ["_law_rows", "_law_spots_here", "_law_one"] (defScope s_law_passed) := ⟨rfl, rfl, rfl, by decide +kernel, rfl, by decide +kernel, by decide +kernel⟩
def b_law_passed : MS := (mRet (mSl sCut (.dat (mOp2 sIx (.dat (mVar 0)) (.dat (mVar 2)))) none (some (mMeth isTup sTix (.dat (mOp2 sIx (.dat (mVar 0)) (.dat (mVar 2)))) [(.dat (mOp2 sIx (.dat (mVar 1)) (.dat (mVar 2))))]))))
def m_law_passed : Fn := mkFn 3 [] b_law_passed
theorem ok_law_passed {f : Addr} {fd : FuncData} (T : Txt K mg C0)  (F : FunD K "_law_passed" "_law_passed" (defArgs s_law_passed) (defBody s_law_passed) (defScope s_law_passed) [] [] f fd) : FnOk P w K mg base (L2.CX P w) 1 f fd ["_law_rows", "_law_spots_here", "_law_one"] (spM (cfK K C0 ex) [] 3 m_law_passed) :=
  fn_ok0 (P := P) (w := w) (K := K) (mg := mg) (base := base) (c := cfK K C0 ex) (k := 0) (m := b_law_passed) (st := s_law_passed) (N := n_law_passed) (ps := ["_law_rows", "_law_spots_here", "_law_one"]) F sc_law_passed (by decide) fun cdv A outer s H E hr =>
    (pss_oneM (ps_retM (o_sl (po_dat (o_ix (po_dat (pm_var 0)) (po_dat (pm_var 2)))) pp_none (pp_some (m_tindex (po_dat (o_ix (po_dat (pm_var 0)) (po_dat (pm_var 2)))) (po_dat (o_ix (po_dat (pm_var 1)) (po_dat (pm_var 2)))))))))
abbrev s_law_left : Stmt := top 31
abbrev n_law_left : List Str := ["_law_rows", "_law_spots_here", "_law_some", "_law_going", "_law_last", "_law_one", "_law_passed_here", "_law_other"]
theorem sc_law_left : FnScope n_law_left ["_law_rows", "_law_spots_here", "_law_some"] (defScope s_law_left) := ⟨rfl, rfl, rfl, by decide +kernel, rfl, by decide +kernel, by decide +kernel⟩
def b_law_left : MS := (mSeq (mAsg (M.pure (.bl true)) (gNm 3)) (mSeq (whileM (mB (mVar 3)) (mSeq (mNew (mLst []) 4) (mSeq (mFor (mSeqI (mVar 2)) (gNm 5) (mSeq (mAsg (mCallF m_law_passed [(.dat (mVar 0)), (.dat (mVar 1)), (.dat (mVar 5))]) (gNm 6)) (mIfS (mB (mOp2 sEq (.dat (mLc (mSeqI (mVar 2)) (gNm 7) (mB (mOp2 sIn (.dat (mOp2 sIx (.dat (mVar 1)) (.dat (mVar 7)))) (.dat (mVar 6)))) (mVar 7) [7])) (.dat (mLst [])))) (mExpr (mMethWR wAppend 4 [(mVar 5)])) mSkip))) (mSeq (mAsg (mLc (mSeqI (mVar 2)) (gNm 5) (mB (mOp2 sNin (.dat (mVar 5)) (.own 4))) (mVar 5) [5]) (gNm 2)) (mAsg (mOp2 sNe (.own 4) (.dat (mLst []))) (gNm 3))))) 4096) (mRet (mVar 2))))
def m_law_left : Fn := mkFn 8 [] b_law_left
theorem ok_law_left {f : Addr} {fd : FuncData} (T : Txt K mg C0) (c_law_passed : Cal P w K mg base (cfK K C0 ex) 1 "_law_passed" [] 3 m_law_passed) (F : FunD K "_law_left" "_law_left" (defArgs s_law_left) (defBody s_law_left) (defScope s_law_left) [] [] f fd) : FnOk P w K mg base (L2.CX P w) 2 f fd ["_law_rows", "_law_spots_here", "_law_some"] (spM (cfK K C0 ex) [] 3 m_law_left) :=
  fn_ok0 (P := P) (w := w) (K := K) (mg := mg) (base := base) (c := cfK K C0 ex) (k := 1) (m := b_law_left) (st := s_law_left) (N := n_law_left) (ps := ["_law_rows", "_law_spots_here", "_law_some"]) F sc_law_left (by decide) fun cdv A outer s H E hr =>
    (pss_consM (ps_asgM pm_bl (pg_nm 3 sc_law_left.nd rfl)) (pss_consM (ps_whileM 4096 (passes_of rfl) (pt_v (pm_var 3)) (pss_consM (ps_newM 4 sc_law_left.nd (pf_lst pd_nil) rfl) (pss_consM (ps_forM (passes_of rfl) rfl (pi_seqM rfl (pm_var 2)) (pg_nm 5 sc_law_left.nd rfl) (pss_consM (ps_asgM (pm_cal c_law_passed hr (takes_of rfl rfl rfl rfl) (pr_dat (pm_var 0) (pr_dat (pm_var 1) (pr_dat (pm_var 5) pr_nil)))) (pg_nm 6 sc_law_left.nd rfl)) (pss_oneM (ps_ifM (t_eq hr.units (po_dat (pm_of_pf (pf_lc [("_law_other", 7)] rfl sc_law_left.nd (pi_seqM rfl (pm_var 2)) (blk_of (by rfl)) (by rfl) (by rfl) (fun s H C cl fp => (pg_nm 7 sc_law_left.nd rfl)) (fun s H C cl fp => (pts_oneM (t_in hr.units (po_dat (o_ix (po_dat (pm_var 1)) (po_dat (pm_var 7)))) (po_dat (pm_var 6))))) (fun s H C cl fp => (pm_var 7))))) (po_dat (pm_of_pf (pf_lst pd_nil)))) (pss_oneM (ps_exprM (m_append 4 (pm_var 5)))) pss_nilM)))) (pss_consM (ps_asgLc 2 [("_law_one", 5)] rfl sc_law_left.nd rfl rfl (by rfl) rfl (pi_seqM rfl (pm_var 2)) (blk_of (by rfl)) (by rfl) (by rfl) (fun s H C cl fp => (pg_nm 5 sc_law_left.nd rfl)) (fun s H C cl fp => (pts_oneM (t_nin hr.units (po_dat (pm_var 5)) (po_own 4)))) (fun s H C cl fp => (pm_var 5))) (pss_oneM (ps_asgM (o_ne hr.units (po_own 4) (po_dat (pm_of_pf (pf_lst pd_nil)))) (pg_nm 3 sc_law_left.nd rfl))))))) (pss_oneM (ps_retM (pm_var 2)))))
abbrev s_law_first : Stmt := top 32
abbrev n_law_first : List Str := ["_law_parts", "_law_spots_here", "_law_stays", "_law_others", "_law_rows", "_law_most", "_law_one", "_law_passed_here", "_law_some", "_law_other"]
theorem sc_law_first : FnScope n_law_first ["_law_parts", "_law_spots_here", "_law_stays", "_law_others"] (defScope s_law_first) := ⟨rfl, rfl, rfl, by decide +kernel, rfl, by decide +kernel, by decide +kernel⟩
def b_law_first : MS := (mSeq (mPar (mOp2 sIx (.dat (mVar 0)) (.dat (M.pure (.int 1)))) (mOp2 sIx (.dat (mVar 0)) (.dat (M.pure (.int 2)))) 4 5) (mSeq (mFor (mSeqI (mVar 3)) (gNm 6) (mIfS (mB (mOp2 sGt (.dat (mCall sLen [(.dat (mCallF m_law_passed [(.dat (mVar 4)), (.dat (mVar 1)), (.dat (mVar 6))]))])) (.dat (mVar 5)))) (mRet (mTup [(M.pure (.str "far")), (mVar 6)])) mSkip)) (mSeq (mFor (mSeqI (mVar 3)) (gNm 6) (mSeq (mAsg (mCallF m_law_passed [(.dat (mVar 4)), (.dat (mVar 1)), (.dat (mVar 6))]) (gNm 7)) (mSeq (mAsg (mLc (mSeqI (mCall sSorted [(.dat (mVar 2))])) (gNm 9) (mB (mOp2 sIn (.dat (mOp2 sIx (.dat (mVar 1)) (.dat (mVar 9)))) (.dat (mVar 7)))) (mVar 9) [9]) (gNm 8)) (mIfS (mB (mOp2 sNe (.dat (mVar 8)) (.dat (mLst [])))) (mRet (mTup [(M.pure (.str "held")), (mVar 6), (mOp2 sIx (.dat (mVar 8)) (.dat (M.pure (.int 0))))])) mSkip)))) (mRet (M.pure .non)))))
def m_law_first : Fn := mkFn 10 [] b_law_first
theorem ok_law_first {f : Addr} {fd : FuncData} (T : Txt K mg C0) (c_law_passed : Cal P w K mg base (cfK K C0 ex) 1 "_law_passed" [] 3 m_law_passed) (F : FunD K "_law_first" "_law_first" (defArgs s_law_first) (defBody s_law_first) (defScope s_law_first) [] [] f fd) : FnOk P w K mg base (L2.CX P w) 2 f fd ["_law_parts", "_law_spots_here", "_law_stays", "_law_others"] (spM (cfK K C0 ex) [] 4 m_law_first) :=
  fn_ok0 (P := P) (w := w) (K := K) (mg := mg) (base := base) (c := cfK K C0 ex) (k := 1) (m := b_law_first) (st := s_law_first) (N := n_law_first) (ps := ["_law_parts", "_law_spots_here", "_law_stays", "_law_others"]) F sc_law_first (by decide) fun cdv A outer s H E hr =>
    (pss_consM (ps_parM 4 5 rfl sc_law_first.nd rfl rfl (o_ix (po_dat (pm_var 0)) (po_dat pm_int)) (o_ix (po_dat (pm_var 0)) (po_dat pm_int))) (pss_consM (ps_forM (passes_of rfl) rfl (pi_seqM rfl (pm_var 3)) (pg_nm 6 sc_law_first.nd rfl) (pss_oneM (ps_ifM (t_gt (po_dat (b_len T.blt (po_dat (pm_cal c_law_passed hr (takes_of rfl rfl rfl rfl) (pr_dat (pm_var 4) (pr_dat (pm_var 1) (pr_dat (pm_var 6) pr_nil))))))) (po_dat (pm_var 5))) (pss_oneM (ps_retM (pm_tup (pd_cons pm_str (pd_cons (pm_var 6) pd_nil))))) pss_nilM))) (pss_consM (ps_forM (passes_of rfl) rfl (pi_seqM rfl (pm_var 3)) (pg_nm 6 sc_law_first.nd rfl) (pss_consM (ps_asgM (pm_cal c_law_passed hr (takes_of rfl rfl rfl rfl) (pr_dat (pm_var 4) (pr_dat (pm_var 1) (pr_dat (pm_var 6) pr_nil)))) (pg_nm 7 sc_law_first.nd rfl)) (pss_consM (ps_asgLc 8 [("_law_other", 9)] rfl sc_law_first.nd rfl rfl (by rfl) rfl (pi_seqM rfl (pm_of_pf (b_sorted T.blt (po_dat (pm_var 2))))) (blk_of (by rfl)) (by rfl) (by rfl) (fun s H C cl fp => (pg_nm 9 sc_law_first.nd rfl)) (fun s H C cl fp => (pts_oneM (t_in hr.units (po_dat (o_ix (po_dat (pm_var 1)) (po_dat (pm_var 9)))) (po_dat (pm_var 7))))) (fun s H C cl fp => (pm_var 9))) (pss_oneM (ps_ifM (t_ne hr.units (po_dat (pm_var 8)) (po_dat (pm_of_pf (pf_lst pd_nil)))) (pss_oneM (ps_retM (pm_tup (pd_cons pm_str (pd_cons (pm_var 6) (pd_cons (o_ix (po_dat (pm_var 8)) (po_dat pm_int)) pd_nil)))))) pss_nilM))))) (pss_oneM (ps_retM pm_non)))))
abbrev s_law_told_right : Stmt := top 33
abbrev n_law_told_right : List Str := ["_law_parts", "_law_spots_here", "_law_stays", "_law_told", "_law_rows", "_law_others", "_law_one", "_law_host", "_law_due", "_law_ring", "_law_k", "_law_at", "_law_passed_here", "_law_other"]
theorem sc_law_told_right : FnScope n_law_told_right ["_law_parts", "_law_spots_here", "_law_stays", "_law_told"] (defScope s_law_told_right) := ⟨rfl, rfl, rfl, by decide +kernel, rfl, by decide +kernel, by decide +kernel⟩
def b_law_told_right : MS := (mSeq (mAsg (mOp2 sIx (.dat (mVar 0)) (.dat (M.pure (.int 1)))) (gNm 4)) (mSeq (mAsg (mLc (mEnum (mVar 1)) (gTp [6, 7]) (mAnd (mB (mOp2 sNotN (.dat (mVar 7)) (.dat (M.pure .non)))) (mB (mOp2 sNin (.dat (mVar 6)) (.dat (mVar 2))))) (mVar 6) [6, 7]) (gNm 5)) (mSeq (mAsg (mCallF m_law_first [(.dat (mVar 0)), (.dat (mVar 1)), (.dat (mVar 2)), (.dat (mVar 5))]) (gNm 8)) (mSeq (mIfS (mB (mOp2 sNotN (.dat (mVar 8)) (.dat (M.pure .non)))) (mRet (mOp2 sEq (.dat (mVar 3)) (.dat (mVar 8)))) mSkip) (mSeq (mIfS (mOr (mNot (mB (mCall sIsi [(.dat (mVar 3)), (.dat (M.pure (.raw (.ty "tuple"))))]))) (mOr (mB (mOp2 sNe (.dat (mCall sLen [(.dat (mVar 3))])) (.dat (M.pure (.int 2))))) (mNot (mB (mCall sIsi [(.dat (mOp2 sIx (.dat (mVar 3)) (.dat (M.pure (.int 1))))), (.dat (M.pure (.raw (.ty "tuple"))))]))))) (mRet (M.pure (.bl false))) mSkip) (mSeq (mIfS (mB (mOp2 sNe (.dat (mCallF m_law_left [(.dat (mVar 4)), (.dat (mVar 1)), (.dat (mVar 5))])) (.dat (mLst [])))) (mSeq (mAsg (mOp2 sIx (.dat (mVar 3)) (.dat (M.pure (.int 1)))) (gNm 9)) (mSeq (mIfS (mOr (mB (mOp2 sNe (.dat (mOp2 sIx (.dat (mVar 3)) (.dat (M.pure (.int 0))))) (.dat (M.pure (.str "ring"))))) (mOr (mB (mOp2 sEq (.dat (mVar 9)) (.dat (mTup [])))) (mB (mOp2 sNe (.dat (mLenSet (mVar 9))) (.dat (mCall sLen [(.dat (mVar 9))])))))) (mRet (M.pure (.bl false))) mSkip) (mSeq (mIfS (mB (mOp2 sNe (.dat (mLc (mSeqI (mVar 9)) (gNm 6) (mB (mOp2 sNin (.dat (mVar 6)) (.dat (mVar 5)))) (mVar 6) [6])) (.dat (mLst [])))) (mRet (M.pure (.bl false))) mSkip) (mRet (mOp2 sEq (.dat (mLc (mRange1 (mCall sLen [(.dat (mVar 9))])) (gNm 10) (mB (mOp2 sNin (.dat (mOp2 sIx (.dat (mVar 1)) (.dat (mOp2 sIx (.dat (mVar 9)) (.dat (mVar 10)))))) (.dat (mCallF m_law_passed [(.dat (mVar 4)), (.dat (mVar 1)), (.dat (mOp2 sIx (.dat (mVar 9)) (.dat (mOp2 sSub (.dat (mVar 10)) (.dat (M.pure (.int 1)))))))])))) (mVar 10) [10])) (.dat (mLst []))))))) mSkip) (mSeq (mIfS (mOr (mB (mOp2 sNe (.dat (mOp2 sIx (.dat (mVar 3)) (.dat (M.pure (.int 0))))) (.dat (M.pure (.str "order"))))) (mB (mOp2 sNe (.dat (mCall sSorted [(.dat (mOp2 sIx (.dat (mVar 3)) (.dat (M.pure (.int 1)))))])) (.dat (mVar 5))))) (mRet (M.pure (.bl false))) mSkip) (mSeq (mFor (mEnum (mOp2 sIx (.dat (mVar 3)) (.dat (M.pure (.int 1))))) (gTp [11, 6]) (mSeq (mAsg (mCallF m_law_passed [(.dat (mVar 4)), (.dat (mVar 1)), (.dat (mVar 6))]) (gNm 12)) (mIfS (mB (mOp2 sNe (.dat (mLc (mSeqI (mSl sCut (.dat (mOp2 sIx (.dat (mVar 3)) (.dat (M.pure (.int 1))))) none (some (mVar 11)))) (gNm 13) (mB (mOp2 sIn (.dat (mOp2 sIx (.dat (mVar 1)) (.dat (mVar 13)))) (.dat (mVar 12)))) (mVar 13) [13])) (.dat (mLst [])))) (mRet (M.pure (.bl false))) mSkip))) (mRet (M.pure (.bl true)))))))))))
def m_law_told_right : Fn := mkFn 14 [] b_law_told_right
theorem ok_law_told_right {f : Addr} {fd : FuncData} (T : Txt K mg C0) (c_law_first : Cal P w K mg base (cfK K C0 ex) 2 "_law_first" [] 4 m_law_first) (c_law_left : Cal P w K mg base (cfK K C0 ex) 2 "_law_left" [] 3 m_law_left) (c_law_passed : Cal P w K mg base (cfK K C0 ex) 1 "_law_passed" [] 3 m_law_passed) (F : FunD K "_law_told_right" "_law_told_right" (defArgs s_law_told_right) (defBody s_law_told_right) (defScope s_law_told_right) [] [] f fd) : FnOk P w K mg base (L2.CX P w) 3 f fd ["_law_parts", "_law_spots_here", "_law_stays", "_law_told"] (spM (cfK K C0 ex) [] 4 m_law_told_right) :=
  fn_ok0 (P := P) (w := w) (K := K) (mg := mg) (base := base) (c := cfK K C0 ex) (k := 2) (m := b_law_told_right) (st := s_law_told_right) (N := n_law_told_right) (ps := ["_law_parts", "_law_spots_here", "_law_stays", "_law_told"]) F sc_law_told_right (by decide) fun cdv A outer s H E hr =>
    (pss_consM (ps_asgM (o_ix (po_dat (pm_var 0)) (po_dat pm_int)) (pg_nm 4 sc_law_told_right.nd rfl)) (pss_consM (ps_asgM (pm_of_pf (pf_lc [("_law_one", 6), ("_law_host", 7)] rfl sc_law_told_right.nd (pi_enumM rfl T.blt.zenumerate (pm_var 1)) (blk_of (by rfl)) (by rfl) (by rfl) (fun s H C cl fp => (pg_tpM rfl rfl (pgs_consM (pg_nm 6 sc_law_told_right.nd rfl) (pgs_consM (pg_nm 7 sc_law_told_right.nd rfl) pgs_nilM)))) (fun s H C cl fp => (pts_oneM (t_and (t_isn (po_dat (pm_var 7)) (po_dat pm_non)) (pw_and1' (t_nin hr.units (po_dat (pm_var 6)) (po_dat (pm_var 2))))))) (fun s H C cl fp => (pm_var 6)))) (pg_nm 5 sc_law_told_right.nd rfl)) (pss_consM (ps_asgM (pm_cal c_law_first hr (takes_of rfl rfl rfl rfl) (pr_dat (pm_var 0) (pr_dat (pm_var 1) (pr_dat (pm_var 2) (pr_dat (pm_var 5) pr_nil))))) (pg_nm 8 sc_law_told_right.nd rfl)) (pss_consM (ps_ifM (t_isn (po_dat (pm_var 8)) (po_dat pm_non)) (pss_oneM (ps_retM (o_eq hr.units (po_dat (pm_var 3)) (po_dat (pm_var 8))))) pss_nilM) (pss_consM (ps_ifM (t_or (pt_notM (pt_v (b_isi T.blt (po_dat (pm_var 3)) (po_dat (b_ty T.blt.ztuple PyProof.Rows.boot_tuple))))) (pw_orM (t_ne hr.units (po_dat (b_len T.blt (po_dat (pm_var 3)))) (po_dat pm_int)) (pw_and1' (pt_notM (pt_v (b_isi T.blt (po_dat (o_ix (po_dat (pm_var 3)) (po_dat pm_int))) (po_dat (b_ty T.blt.ztuple PyProof.Rows.boot_tuple)))))))) (pss_oneM (ps_retM pm_bl)) pss_nilM) (pss_consM (ps_ifM (t_ne hr.units (po_dat (pm_cal c_law_left hr (takes_of rfl rfl rfl rfl) (pr_dat (pm_var 4) (pr_dat (pm_var 1) (pr_dat (pm_var 5) pr_nil))))) (po_dat (pm_of_pf (pf_lst pd_nil)))) (pss_consM (ps_asgM (o_ix (po_dat (pm_var 3)) (po_dat pm_int)) (pg_nm 9 sc_law_told_right.nd rfl)) (pss_consM (ps_ifM (t_or (t_ne hr.units (po_dat (o_ix (po_dat (pm_var 3)) (po_dat pm_int))) (po_dat pm_str)) (pw_orM (t_eq hr.units (po_dat (pm_var 9)) (po_dat (pm_tup pd_nil))) (pw_and1' (t_ne hr.units (po_dat (b_lenset T.blt rfl (pm_var 9))) (po_dat (b_len T.blt (po_dat (pm_var 9)))))))) (pss_oneM (ps_retM pm_bl)) pss_nilM) (pss_consM (ps_ifM (t_ne hr.units (po_dat (pm_of_pf (pf_lc [("_law_one", 6)] rfl sc_law_told_right.nd (pi_seqM rfl (pm_var 9)) (blk_of (by rfl)) (by rfl) (by rfl) (fun s H C cl fp => (pg_nm 6 sc_law_told_right.nd rfl)) (fun s H C cl fp => (pts_oneM (t_nin hr.units (po_dat (pm_var 6)) (po_dat (pm_var 5))))) (fun s H C cl fp => (pm_var 6))))) (po_dat (pm_of_pf (pf_lst pd_nil)))) (pss_oneM (ps_retM pm_bl)) pss_nilM) (pss_oneM (ps_retM (o_eq hr.units (po_dat (pm_of_pf (pf_lc [("_law_k", 10)] rfl sc_law_told_right.nd (pi_range1M T.blt.zrange (b_len T.blt (po_dat (pm_var 9)))) (blk_of (by rfl)) (by rfl) (by rfl) (fun s H C cl fp => (pg_nm 10 sc_law_told_right.nd rfl)) (fun s H C cl fp => (pts_oneM (t_nin hr.units (po_dat (o_ix (po_dat (pm_var 1)) (po_dat (o_ix (po_dat (pm_var 9)) (po_dat (pm_var 10)))))) (po_dat (pm_cal c_law_passed hr takes0 (pr_dat (pm_var 4) (pr_dat (pm_var 1) (pr_dat (o_ix (po_dat (pm_var 9)) (po_dat (o_sub (po_dat (pm_var 10)) (po_dat pm_int)))) pr_nil)))))))) (fun s H C cl fp => (pm_var 10))))) (po_dat (pm_of_pf (pf_lst pd_nil))))))))) pss_nilM) (pss_consM (ps_ifM (t_or (t_ne hr.units (po_dat (o_ix (po_dat (pm_var 3)) (po_dat pm_int))) (po_dat pm_str)) (pw_and1' (t_ne hr.units (po_dat (pm_of_pf (b_sorted T.blt (po_dat (o_ix (po_dat (pm_var 3)) (po_dat pm_int)))))) (po_dat (pm_var 5))))) (pss_oneM (ps_retM pm_bl)) pss_nilM) (pss_consM (ps_forM (passes_of rfl) rfl (pi_enumM rfl T.blt.zenumerate (o_ix (po_dat (pm_var 3)) (po_dat pm_int))) (pg_tpM rfl rfl (pgs_consM (pg_nm 11 sc_law_told_right.nd rfl) (pgs_consM (pg_nm 6 sc_law_told_right.nd rfl) pgs_nilM))) (pss_consM (ps_asgM (pm_cal c_law_passed hr (takes_of rfl rfl rfl rfl) (pr_dat (pm_var 4) (pr_dat (pm_var 1) (pr_dat (pm_var 6) pr_nil)))) (pg_nm 12 sc_law_told_right.nd rfl)) (pss_oneM (ps_ifM (t_ne hr.units (po_dat (pm_of_pf (pf_lc [("_law_other", 13)] rfl sc_law_told_right.nd (pi_seqM rfl (o_sl (po_dat (o_ix (po_dat (pm_var 3)) (po_dat pm_int))) pp_none (pp_some (pm_var 11)))) (blk_of (by rfl)) (by rfl) (by rfl) (fun s H C cl fp => (pg_nm 13 sc_law_told_right.nd rfl)) (fun s H C cl fp => (pts_oneM (t_in hr.units (po_dat (o_ix (po_dat (pm_var 1)) (po_dat (pm_var 13)))) (po_dat (pm_var 12))))) (fun s H C cl fp => (pm_var 13))))) (po_dat (pm_of_pf (pf_lst pd_nil)))) (pss_oneM (ps_retM pm_bl)) pss_nilM)))) (pss_oneM (ps_retM pm_bl))))))))))
abbrev s_law_right : Stmt := top 34
abbrev n_law_right : List Str := ["_law_well", "_law_size", "_law_parts", "_law_farm_here", "_law_state", "_law_host", "_law_spots_here", "_law_busy", "_law_one", "_law_stays", "_law_told"]
theorem sc_law_right : FnScope n_law_right ["_law_well"] (defScope s_law_right) := ⟨rfl, rfl, rfl, by decide +kernel, rfl, by decide +kernel, by decide +kernel⟩
def b_law_right : MS := (mSeq (mAsg (mCallF m_law_draw [(.own 0), (.dat (M.pure (.int 3)))]) (gNm 1)) (mSeq (mAsg (mCallF m_law_farm [(.own 0), (.dat (mOp2 sIx (.dat (mLst [(M.pure (.int 8)), (M.pure (.int 8)), (M.pure (.int 30))])) (.dat (mVar 1)))), (.dat (mOp2 sIx (.dat (mLst [(M.pure (.int 10)), (M.pure (.int 10)), (M.pure (.int 60))])) (.dat (mVar 1))))]) (gNm 2)) (mSeq (mAsg (mMake m_Farmdd_initdd [(mOp2 sIx (.dat (mVar 2)) (.dat (M.pure (.int 0)))), (mOp2 sIx (.dat (mVar 2)) (.dat (M.pure (.int 1)))), (mOp2 sIx (.dat (mVar 2)) (.dat (M.pure (.int 2))))]) (gNm 3)) (mSeq (mAsg (mCallF m_law_run [(.own 0), (.dat (mVar 2)), (.dat (mTup [(mTup []), (mOp2 sRepT (.dat (mTup [(M.pure .non)])) (.dat (mCall sLen [(.dat (mOp2 sIx (.dat (mVar 2)) (.dat (M.pure (.int 1)))))])))])), (.dat (M.pure (.int 60)))]) (gNm 4)) (mSeq (mFor (mSeqI (mOp2 sIx (.dat (mVar 4)) (.dat (M.pure (.int 0))))) (gNm 5) (mAsg (mCallF m_law_after [(.dat (mOp2 sIx (.dat (mVar 2)) (.dat (M.pure (.int 1))))), (.dat (mVar 4)), (.dat (mTup [(M.pure (.str "up")), (mVar 5)]))]) (gNm 4))) (mSeq (mIfS (mOr (mB (mOp2 sNe (.dat (mOp2 sIx (.dat (mCallF (fun ds => m_order_of (ds ++ [.tup []])) [(.dat (mVar 3)), (.dat (mOp2 sIx (.dat (mVar 4)) (.dat (M.pure (.int 1)))))])) (.dat (M.pure (.int 0))))) (.dat (M.pure (.str "order"))))) (mNot (mB (mCallF m_law_told_right [(.dat (mVar 2)), (.dat (mOp2 sIx (.dat (mVar 4)) (.dat (M.pure (.int 1))))), (.dat (mTup [])), (.dat (mCallF (fun ds => m_order_of (ds ++ [.tup []])) [(.dat (mVar 3)), (.dat (mOp2 sIx (.dat (mVar 4)) (.dat (M.pure (.int 1)))))]))])))) (mRet (M.pure (.bl false))) mSkip) (mSeq (mFor (mSeqI (mLst [(mCallF m_law_spots [(.own 0), (.dat (mOp2 sIx (.dat (mVar 2)) (.dat (M.pure (.int 1)))))]), (mCallF m_law_spots [(.own 0), (.dat (mOp2 sIx (.dat (mVar 2)) (.dat (M.pure (.int 1)))))]), (mOp2 sIx (.dat (mVar 4)) (.dat (M.pure (.int 1))))])) (gNm 6) (mSeq (mAsg (mLc (mEnum (mVar 6)) (gTp [8, 5]) (mB (mOp2 sNotN (.dat (mVar 5)) (.dat (M.pure .non)))) (mVar 8) [8, 5]) (gNm 7)) (mFor (mSeqI (mLst [(mTup []), (mCall sTuple [(.dat (mLc (mSeqI (mVar 7)) (gNm 8) (mB (mOp2 sEq (.dat (mCallF m_law_draw [(.own 0), (.dat (M.pure (.int 4)))])) (.dat (M.pure (.int 0))))) (mVar 8) [8]))])])) (gNm 9) (mSeq (mAsg (mCallK m_order_of (fun ds es => ds ++ es) [(mVar 3), (mVar 6)] [(mVar 9)]) (gNm 10)) (mSeq (mIfS (mNot (mB (mCallF m_law_told_right [(.dat (mVar 2)), (.dat (mVar 6)), (.dat (mVar 9)), (.dat (mVar 10))]))) (mRet (M.pure (.bl false))) mSkip) (mSeq (mIfS (mNot (mB (mCallF m_law_told_right [(.dat (mVar 2)), (.dat (mVar 6)), (.dat (mVar 9)), (.dat (mCallK m_order_of (fun ds es => ds ++ es) [(mVar 3), (mVar 6)] [(mRev sRevT (.dat (mVar 9)))]))]))) (mRet (M.pure (.bl false))) mSkip) (mIfS (mB (mOp2 sNe (.dat (mCallK m_order_of (fun ds es => ds ++ es) [(mMake m_Farmdd_initdd [(mOp2 sIx (.dat (mVar 2)) (.dat (M.pure (.int 0)))), (mCall sList [(.dat (mOp2 sIx (.dat (mVar 2)) (.dat (M.pure (.int 1)))))]), (mOp2 sIx (.dat (mVar 2)) (.dat (M.pure (.int 2))))]), (mVar 6)] [(mVar 9)])) (.dat (mVar 10)))) (mRet (M.pure (.bl false))) mSkip))))))) (mRet (M.pure (.bl true))))))))))
def m_law_right : Fn := mkFn 11 [0] b_law_right
theorem ok_law_right {f : Addr} {fd : FuncData} (T : Txt K mg C0) (c_law_draw : Cal P w K mg base (cfK K C0 ex) 1 "_law_draw" [0] 2 m_law_draw) (c_law_farm : Cal P w K mg base (cfK K C0 ex) 2 "_law_farm" [0] 3 m_law_farm) (c_Farm : CalM P w K mg base (cfK K C0 ex) 4 "Farm" 4 m_Farmdd_initdd) (c_law_run : Cal P w K mg base (cfK K C0 ex) 2 "_law_run" [0] 4 m_law_run) (c_law_after : Cal P w K mg base (cfK K C0 ex) 1 "_law_after" [] 3 m_law_after) (c_order_of : CalK P w K mg base (cfK K C0 ex) 4 "order_of" 2 "staying" m_order_of) (c_law_told_right : Cal P w K mg base (cfK K C0 ex) 3 "_law_told_right" [] 4 m_law_told_right) (c_law_spots : Cal P w K mg base (cfK K C0 ex) 2 "_law_spots" [0] 2 m_law_spots) (F : FunD K "_law_right" "_law_right" (defArgs s_law_right) (defBody s_law_right) (defScope s_law_right) [] [] f fd) : FnOk P w K mg base (L2.CX P w) 6 f fd ["_law_well"] (spM (cfK K C0 ex) [0] 1 m_law_right) :=
  fn_ok1 0 (P := P) (w := w) (K := K) (mg := mg) (base := base) (c := cfK K C0 ex) (k := 5) (m := b_law_right) (st := s_law_right) (N := n_law_right) (ps := ["_law_well"]) F sc_law_right (by decide) (by decide) fun aR cdv A outer s H E hr =>
    (pss_consM (ps_asgM (pm_cal c_law_draw hr (takes_of rfl rfl rfl rfl) (pr_own 0 (pr_dat pm_int pr_nil))) (pg_nm 1 sc_law_right.nd rfl)) (pss_consM (ps_asgM (pm_cal c_law_farm hr (takes_of rfl rfl rfl rfl) (pr_own 0 (pr_dat (o_ix (po_dat (pm_of_pf (pf_lst (pd_cons pm_int (pd_cons pm_int (pd_cons pm_int pd_nil)))))) (po_dat (pm_var 1))) (pr_dat (o_ix (po_dat (pm_of_pf (pf_lst (pd_cons pm_int (pd_cons pm_int (pd_cons pm_int pd_nil)))))) (po_dat (pm_var 1))) pr_nil)))) (pg_nm 2 sc_law_right.nd rfl)) (pss_consM (ps_asgM (pm_calM c_Farm hr (takes_of rfl rfl rfl rfl) (pd_cons (o_ix (po_dat (pm_var 2)) (po_dat pm_int)) (pd_cons (o_ix (po_dat (pm_var 2)) (po_dat pm_int)) (pd_cons (o_ix (po_dat (pm_var 2)) (po_dat pm_int)) pd_nil)))) (pg_nm 3 sc_law_right.nd rfl)) (pss_consM (ps_asgM (pm_cal c_law_run hr (takes_of rfl rfl rfl rfl) (pr_own 0 (pr_dat (pm_var 2) (pr_dat (pm_tup (pd_cons (pm_tup pd_nil) (pd_cons (o_repT (po_dat (pm_tup (pd_cons pm_non pd_nil))) (po_dat (b_len T.blt (po_dat (o_ix (po_dat (pm_var 2)) (po_dat pm_int)))))) pd_nil))) (pr_dat pm_int pr_nil))))) (pg_nm 4 sc_law_right.nd rfl)) (pss_consM (ps_forM (passes_of rfl) rfl (pi_seqM rfl (o_ix (po_dat (pm_var 4)) (po_dat pm_int))) (pg_nm 5 sc_law_right.nd rfl) (pss_oneM (ps_asgM (pm_cal c_law_after hr (takes_of rfl rfl rfl rfl) (pr_dat (o_ix (po_dat (pm_var 2)) (po_dat pm_int)) (pr_dat (pm_var 4) (pr_dat (pm_tup (pd_cons pm_str (pd_cons (pm_var 5) pd_nil))) pr_nil)))) (pg_nm 4 sc_law_right.nd rfl)))) (pss_consM (ps_ifM (t_or (t_ne hr.units (po_dat (o_ix (po_dat (pm_calD c_order_of hr (takes_of rfl rfl rfl rfl) (pr_dat (pm_var 3) (pr_dat (o_ix (po_dat (pm_var 4)) (po_dat pm_int)) pr_nil)))) (po_dat pm_int))) (po_dat pm_str)) (pw_and1' (pt_notM (pt_v (pm_cal c_law_told_right hr (takes_of rfl rfl rfl rfl) (pr_dat (pm_var 2) (pr_dat (o_ix (po_dat (pm_var 4)) (po_dat pm_int)) (pr_dat (pm_tup pd_nil) (pr_dat (pm_calD c_order_of hr (takes_of rfl rfl rfl rfl) (pr_dat (pm_var 3) (pr_dat (o_ix (po_dat (pm_var 4)) (po_dat pm_int)) pr_nil))) pr_nil))))))))) (pss_oneM (ps_retM pm_bl)) pss_nilM) (pss_consM (ps_forM (passes_of rfl) rfl (pi_seqM rfl (pm_of_pf (pf_lst (pd_cons (pm_cal c_law_spots hr (takes_of rfl rfl rfl rfl) (pr_own 0 (pr_dat (o_ix (po_dat (pm_var 2)) (po_dat pm_int)) pr_nil))) (pd_cons (pm_cal c_law_spots hr (takes_of rfl rfl rfl rfl) (pr_own 0 (pr_dat (o_ix (po_dat (pm_var 2)) (po_dat pm_int)) pr_nil))) (pd_cons (o_ix (po_dat (pm_var 4)) (po_dat pm_int)) pd_nil)))))) (pg_nm 6 sc_law_right.nd rfl) (pss_consM (ps_asgLc 7 [("_law_one", 8), ("_law_host", 5)] rfl sc_law_right.nd rfl rfl (by rfl) rfl (pi_enumM rfl T.blt.zenumerate (pm_var 6)) (blk_of (by rfl)) (by rfl) (by rfl) (fun s H C cl fp => (pg_tpM rfl rfl (pgs_consM (pg_nm 8 sc_law_right.nd rfl) (pgs_consM (pg_nm 5 sc_law_right.nd rfl) pgs_nilM)))) (fun s H C cl fp => (pts_oneM (t_isn (po_dat (pm_var 5)) (po_dat pm_non)))) (fun s H C cl fp => (pm_var 8))) (pss_oneM (ps_forM (passes_of rfl) rfl (pi_seqM rfl (pm_of_pf (pf_lst (pd_cons (pm_tup pd_nil) (pd_cons (b_tuple T.blt (po_dat (pm_of_pf (pf_lc [("_law_one", 8)] rfl sc_law_right.nd (pi_seqM rfl (pm_var 7)) (blk_of (by rfl)) (by rfl) (by rfl) (fun s H C cl fp => (pg_nm 8 sc_law_right.nd rfl)) (fun s H C cl fp => (pts_oneM (t_eq hr.units (po_dat (pm_cal c_law_draw hr takes0 (pr_own 0 (pr_dat pm_int pr_nil)))) (po_dat pm_int)))) (fun s H C cl fp => (pm_var 8)))))) pd_nil))))) (pg_nm 9 sc_law_right.nd rfl) (pss_consM (ps_asgM (pm_calK c_order_of hr (takes_of rfl rfl rfl rfl) (pd_cons (pm_var 3) (pd_cons (pm_var 6) pd_nil)) (pm_var 9)) (pg_nm 10 sc_law_right.nd rfl)) (pss_consM (ps_ifM (pt_notM (pt_v (pm_cal c_law_told_right hr (takes_of rfl rfl rfl rfl) (pr_dat (pm_var 2) (pr_dat (pm_var 6) (pr_dat (pm_var 9) (pr_dat (pm_var 10) pr_nil))))))) (pss_oneM (ps_retM pm_bl)) pss_nilM) (pss_consM (ps_ifM (pt_notM (pt_v (pm_cal c_law_told_right hr (takes_of rfl rfl rfl rfl) (pr_dat (pm_var 2) (pr_dat (pm_var 6) (pr_dat (pm_var 9) (pr_dat (pm_calK c_order_of hr (takes_of rfl rfl rfl rfl) (pd_cons (pm_var 3) (pd_cons (pm_var 6) pd_nil)) (o_revT (po_dat (pm_var 9)))) pr_nil))))))) (pss_oneM (ps_retM pm_bl)) pss_nilM) (pss_oneM (ps_ifM (t_ne hr.units (po_dat (pm_calK c_order_of hr (takes_of rfl rfl rfl rfl) (pd_cons (pm_calM c_Farm hr (takes_of rfl rfl rfl rfl) (pd_cons (o_ix (po_dat (pm_var 2)) (po_dat pm_int)) (pd_cons (pm_of_pf (b_list T.blt (po_dat (o_ix (po_dat (pm_var 2)) (po_dat pm_int))))) (pd_cons (o_ix (po_dat (pm_var 2)) (po_dat pm_int)) pd_nil)))) (pd_cons (pm_var 6) pd_nil)) (pm_var 9))) (po_dat (pm_var 10))) (pss_oneM (ps_retM pm_bl)) pss_nilM))))))))) (pss_oneM (ps_retM pm_bl)))))))))
abbrev s_law : Stmt := top 35
abbrev n_law : List Str := ["_law_script", "_law_k", "_law_cell"]
theorem sc_law : FnScope n_law ["_law_script"] (defScope s_law) := ⟨rfl, rfl, rfl, by decide +kernel, rfl, by decide +kernel, by decide +kernel⟩
def b_law : MS := (mSeq (mFor (mEnum (mSl sCut (.dat (mOp2 sAdd (.dat (mVar 0)) (.dat (mLst [(M.pure (.int 0))])))) none (some (M.pure (.int 3))))) (gTp [1, 2]) (mIfS (mNot (mB (mCallN m_law_right (mLst [(mOp2 sMul (.dat (mVar 2)) (.dat (mCall sInt [(.dat (mOp2 sGe (.dat (mVar 2)) (.dat (mOp2 sPow (.dat (M.pure (.int 10))) (.dat (M.pure (.int 18)))))))]))), (mOp2 sAdd (.dat (mOp2 sMod (.dat (mVar 2)) (.dat (M.pure (.int 2147483647))))) (.dat (mOp2 sMul (.dat (M.pure (.int 7919))) (.dat (mVar 1))))), (M.pure (.int 0))]) []))) (mRet (M.pure (.bl false))) mSkip)) (mRet (M.pure (.bl true))))
def m_law : Fn := mkFn 3 [] b_law
theorem ok_law {f : Addr} {fd : FuncData} (T : Txt K mg C0) (c_law_right : Cal P w K mg base (cfK K C0 ex) 6 "_law_right" [0] 1 m_law_right) (F : FunD K "law" "law" (defArgs s_law) (defBody s_law) (defScope s_law) [] [] f fd) : FnOk P w K mg base (L2.CX P w) 7 f fd ["_law_script"] (spM (cfK K C0 ex) [] 1 m_law) :=
  fn_ok0 (P := P) (w := w) (K := K) (mg := mg) (base := base) (c := cfK K C0 ex) (k := 6) (m := b_law) (st := s_law) (N := n_law) (ps := ["_law_script"]) F sc_law (by decide) fun cdv A outer s H E hr =>
    (pss_consM (ps_forM (passes_of rfl) rfl (pi_enumM rfl T.blt.zenumerate (o_sl (po_dat (o_add (po_dat (pm_var 0)) (po_dat (pm_of_pf (pf_lst (pd_cons pm_int pd_nil)))))) pp_none (pp_some pm_int))) (pg_tpM rfl rfl (pgs_consM (pg_nm 1 sc_law.nd rfl) (pgs_consM (pg_nm 2 sc_law.nd rfl) pgs_nilM))) (pss_oneM (ps_ifM (pt_notM (pt_v (pm_calN c_law_right hr (takes_of rfl rfl rfl rfl) (pf_lst (pd_cons (o_mul (po_dat (pm_var 2)) (po_dat (b_int T.blt (po_dat (o_ge (po_dat (pm_var 2)) (po_dat (o_pow (po_dat pm_int) (po_dat pm_int)))))))) (pd_cons (o_add (po_dat (o_mod (po_dat (pm_var 2)) (po_dat pm_int))) (po_dat (o_mul (po_dat pm_int) (po_dat (pm_var 1))))) (pd_cons pm_int pd_nil)))) pd_nil))) (pss_oneM (ps_retM pm_bl)) pss_nilM))) (pss_oneM (ps_retM pm_bl)))
abbrev s_Farm_row : Stmt := inClass (top 12) 6
abbrev n_Farm_row : List Str := ["self", "session"]
theorem sc_Farm_row : FnScope n_Farm_row ["self", "session"] (defScope s_Farm_row) := ⟨rfl, rfl, rfl, by decide +kernel, rfl, by decide +kernel, by decide +kernel⟩
def b_Farm_row : MS := (mSeq (mExpr (mMethF m_Farm_check_session "check_session" (mVar 0) [(mVar 1)])) (mRet (mOp2 sIx (.dat (mFld (mVar 0) "rows")) (.dat (mVar 1)))))
def m_Farm_row : Fn := mkFn 2 [] b_Farm_row
theorem ok_Farm_row {f : Addr} {fd : FuncData} (T : Txt K mg C0) (c_Farm_check_session : CalF P w K mg base (cfK K C0 ex) 3 "check_session" 2 m_Farm_check_session) (F : FunD K "row" "Farm.row" (defArgs s_Farm_row) (defBody s_Farm_row) (defScope s_Farm_row) [] [] f fd) : FnOk P w K mg base (L2.CX P w) 4 f fd ["self", "session"] (spM (cfK K C0 ex) [] 2 m_Farm_row) :=
  fn_ok0 (P := P) (w := w) (K := K) (mg := mg) (base := base) (c := cfK K C0 ex) (k := 3) (m := b_Farm_row) (st := s_Farm_row) (N := n_Farm_row) (ps := ["self", "session"]) F sc_Farm_row (by decide) fun cdv A outer s H E hr =>
    (pss_consM (ps_exprM (pm_calF T.cls c_Farm_check_session hr (takes_of rfl rfl rfl rfl) (pm_var 0) (pd_cons (pm_var 1) pd_nil))) (pss_oneM (ps_retM (o_ix (po_dat (pm_fld T.cls T.na_rows (pm_var 0))) (po_dat (pm_var 1))))))
end
end Fx
set_option Elab.async false
set_option linter.all false
set_option maxRecDepth 100000
set_option maxHeartbeats 1000000
/-! Gr: plain facts about finite relations (no program in sight). -/
namespace Fx
/-- each of S has a next one in S -/
def Cl (R : Int → Int → Prop) (S : List Int) : Prop := ∀ s ∈ S, ∃ o ∈ S, R s o
/-- no such set among l, except for the empty one -/
def NoCore (R : Int → Int → Prop) (l : List Int) : Prop := ∀ S : List Int, (∀ s ∈ S, s ∈ l) → Cl R S → S = []
theorem fun_core (f : Int → Int) : ∀ (n : Nat) (T : List Int), T.length ≤ n → T ≠ [] → (∀ t ∈ T, f t ∈ T) → ∃ T' : List Int, T' ≠ [] ∧ (∀ t ∈ T', t ∈ T) ∧ ∀ t ∈ T', ∃ s ∈ T', f s = t
  | 0, T, hl, h0, _ => absurd (List.length_eq_zero_iff.mp (by omega)) h0
  | n + 1, T, hl, h0, hf => by
    by_cases h : ∀ t ∈ T, ∃ s ∈ T, f s = t
    · exact ⟨T, h0, fun t ht => ht, h⟩
    · let T1 := T.filter fun t => T.any fun s => decide (f s = t)
      have hT1 : ∀ t, t ∈ T1 ↔ t ∈ T ∧ ∃ s ∈ T, f s = t := by
        intro t
        simp [T1, List.mem_filter]
      have hlt : T1.length < T.length := by
        have hle : T1.length ≤ T.length := List.length_filter_le _ _
        rcases Nat.lt_or_ge T1.length T.length with z | z
        · exact z
        · have e : T1.length = T.length := by omega
          have := List.length_filter_eq_length_iff.mp e
          exact absurd (fun t ht => by
            have := this t ht
            simpa using this) h
      obtain ⟨t0, ht0⟩ := List.exists_mem_of_ne_nil T h0
      have h1 : T1 ≠ [] := List.ne_nil_of_mem ((hT1 (f t0)).mpr ⟨hf t0 ht0, t0, ht0, rfl⟩)
      obtain ⟨T', q1, q2, q3⟩ := fun_core f n T1 (by omega) h1 fun t ht => (hT1 _).mpr ⟨hf t ((hT1 t).mp ht).1, t, ((hT1 t).mp ht).1, rfl⟩
      exact ⟨T', q1, fun t ht => ((hT1 t).mp (q2 t ht)).1, q3⟩
theorem Cl.turn {R : Int → Int → Prop} {S : List Int} (h : Cl R S) (h0 : S ≠ []) : ∃ T : List Int, T ≠ [] ∧ (∀ t ∈ T, t ∈ S) ∧ Cl (fun s o => R o s) T := by
  classical
  let f : Int → Int := fun s => if hs : s ∈ S then (h s hs).choose else s
  have hf : ∀ s ∈ S, f s ∈ S ∧ R s (f s) := fun s hs => by
    have : f s = (h s hs).choose := dif_pos hs
    rw [this]
    exact (h s hs).choose_spec
  obtain ⟨T, q1, q2, q3⟩ := fun_core f _ S (Nat.le_refl _) h0 fun t ht => (hf t ht).1
  refine ⟨T, q1, q2, fun t ht => ?_⟩
  obtain ⟨s, hs, e⟩ := q3 t ht
  refine ⟨s, hs, ?_⟩
  rw [← e]
  exact (hf s (q2 s hs)).2
theorem NoCore.turn {R : Int → Int → Prop} {l : List Int} (h : NoCore R l) : NoCore (fun s o => R o s) l := fun S hS hc => by
  rcases Classical.em (S = []) with z | z
  · exact z
  · obtain ⟨T, q1, q2, q3⟩ := Cl.turn hc z
    exact absurd (h T (fun t ht => hS t (q2 t ht)) q3) q1
/-- what is left holds all that can't be peeled -/
def Keeps (R : Int → Int → Prop) (M l : List Int) : Prop := (∀ s ∈ l, s ∈ M) ∧ ∀ S : List Int, (∀ s ∈ S, s ∈ M) → Cl R S → ∀ s ∈ S, s ∈ l
theorem Keeps.start {R : Int → Int → Prop} {M : List Int} : Keeps R M M := ⟨fun _ h => h, fun _ h _ => h⟩
theorem Keeps.step {R : Int → Int → Prop} {M l l' : List Int} (h : Keeps R M l) (h' : ∀ s, s ∈ l' ↔ s ∈ l ∧ ∃ o ∈ l, R s o) : Keeps R M l' := by
  refine ⟨fun s hs => h.1 s ((h' s).mp hs).1, fun S hS hc s hs => (h' s).mpr ⟨h.2 S hS hc s hs, ?_⟩⟩
  obtain ⟨o, ho, r⟩ := hc s hs
  exact ⟨o, h.2 S hS hc o ho, r⟩
theorem Keeps.empty {R : Int → Int → Prop} {M : List Int} (h : Keeps R M []) : NoCore R M := fun S hS hc => by
  cases S with
  | nil => rfl
  | cons s S => exact nomatch h.2 _ hS hc s List.mem_cons_self
theorem Keeps.full {R : Int → Int → Prop} {M l : List Int} (h : Keeps R M l) (h0 : l ≠ []) (hc : Cl R l) : ¬ NoCore R M := fun z => h0 (z l h.1 hc)
/-- pigeons -/
theorem pigeon : ∀ (l m : List Int), l.Nodup → (∀ x ∈ l, x ∈ m) → l.length ≤ m.length
  | [], m, _, _ => Nat.zero_le _
  | a :: l, m, hn, h => by
    obtain ⟨h1, h2⟩ := List.nodup_cons.mp hn
    have ha : a ∈ m := h a List.mem_cons_self
    have := pigeon l (m.erase a) h2 fun x hx => (List.mem_erase_of_ne (fun e => h1 (by rw [← e]; exact hx))).mpr (h x (List.mem_cons_of_mem _ hx))
    rw [List.length_erase_of_mem ha] at this
    have hp := List.length_pos_of_mem ha
    rw [List.length_cons]
    omega
theorem foldl_max : ∀ (l : List Int) (a : Int), (l.foldl (fun m x => if m < x then x else m) a ∈ a :: l) ∧ ∀ x ∈ a :: l, x ≤ l.foldl (fun m x => if m < x then x else m) a
  | [], a => by simp
  | b :: l, a => by
    obtain ⟨h1, h2⟩ := foldl_max l (if a < b then b else a)
    rw [List.foldl_cons]
    generalize List.foldl (fun m x => if m < x then x else m) (if a < b then b else a) l = F at h1 h2 ⊢
    refine ⟨?_, fun x hx => ?_⟩
    · rcases List.mem_cons.mp h1 with z | z
      · rw [z]
        split <;> simp
      · exact List.mem_cons_of_mem _ (List.mem_cons_of_mem _ z)
    · have h3 := h2 _ List.mem_cons_self
      rcases List.mem_cons.mp hx with z | z
      · subst z
        split at h3 <;> omega
      · rcases List.mem_cons.mp z with z | z
        · subst z
          split at h3 <;> omega
        · exact h2 x (List.mem_cons_of_mem _ z)
end Fx
set_option Elab.async false
set_option linter.all false
set_option maxRecDepth 100000
set_option maxHeartbeats 1000000
namespace Fx
open PySem L2
section
def rowD (r : List Int) : D := .tup (r.map .int)
def farmD (n : Int) (rows : List (List Int)) (t : Int) : D := .rcd ["many", "rows", "most"] [.int n, .tup (rows.map rowD), .int t]
def optD : Option Int → D
  | none => .non
  | some i => .int i
def plcD (p : List (Option Int)) : D := .tup (p.map optD)
theorem kit_int : kitB "int" "int" = some true := by decide
theorem kit_ib : kitB "int" "bool" = some false := by decide
theorem kit_tt : kitB "tuple" "tuple" = some true := by decide
theorem kit_ll : kitB "list" "list" = some true := by decide
theorem kit_nb : kitB "NoneType" "bool" = some false := by decide
theorem lay_ints : ∀ l : List Int, PyData.canLayAll0 (toPys (l.map .int)) = true
  | [] => by simp [toPys, PyData.canLayAll0]
  | a :: l => by simp [toPys, toPy, PyData.canLayAll0, PyData.canLay0, lay_ints l]
theorem dep_ints : ∀ l : List Int, PyData.depthAll (toPys (l.map .int)) = 0
  | [] => by simp [toPys, PyData.depthAll]
  | a :: l => by simp [toPys, toPy, PyData.depthAll, PyData.depth, dep_ints l]
theorem eqv_ints : ∀ l m : List Int, PyData.eqvAll (toPys (l.map .int)) (toPys (m.map .int)) = decide (l = m)
  | [], [] => by simp [toPys, PyData.eqvAll]
  | [], _ :: _ => by simp [toPys, PyData.eqvAll]
  | _ :: _, [] => by simp [toPys, PyData.eqvAll]
  | a :: l, b :: m => by
    simp only [List.map_cons, toPys, toPy, PyData.eqvAll, PyData.eqv, eqv_ints l m, List.cons.injEq]
    by_cases h : a = b <;> by_cases k : l = m <;> simp [h, k]
theorem sEq_tup (l m : List Int) : sEq (.tup (l.map .int)) (.tup (m.map .int)) = some (.bl (decide (l = m))) := by
  simp [sEq, plain, toPy, PyData.canLay0, lay_ints, PyData.depth, dep_ints, eqD, PyData.eqv, eqv_ints]
theorem sEq_lst (l m : List Int) : sEq (.lst (l.map .int)) (.lst (m.map .int)) = some (.bl (decide (l = m))) := by
  simp [sEq, plain, toPy, PyData.canLay0, lay_ints, PyData.depth, dep_ints, eqD, PyData.eqv, eqv_ints]
theorem sNe_lst (l m : List Int) : sNe (.lst (l.map .int)) (.lst (m.map .int)) = some (.bl (!decide (l = m))) := by
  simp [sNe, plain, toPy, PyData.canLay0, lay_ints, PyData.depth, dep_ints, eqD, PyData.eqv, eqv_ints]
theorem sEq_int (a b : Int) : sEq (.int a) (.int b) = some (.bl (decide (a = b))) := by
  simp [sEq, plain, toPy, PyData.canLay0, PyData.depth, eqD, PyData.eqv]
  rfl
theorem sNe_int (a b : Int) : sNe (.int a) (.int b) = some (.bl (!decide (a = b))) := by
  simp [sNe, plain, toPy, PyData.canLay0, PyData.depth, eqD, PyData.eqv]
  rfl
theorem eqD_int (a b : Int) : eqD (.int a) (.int b) = decide (a = b) := by
  simp [eqD, toPy, PyData.eqv]
  rfl
theorem inD_ints (a : Int) : ∀ l : List Int, inD (.int a) (l.map .int) = decide (a ∈ l)
  | [] => by simp [inD]
  | b :: l => by
    have h := inD_ints a l
    simp only [inD, List.map_cons, List.any_cons] at h ⊢
    rw [h, eqD_int]
    by_cases e : b = a
    · simp [e]
    · have e2 : ¬ a = b := fun z => e z.symm
      simp [e, e2]
theorem sIn_tup (a : Int) (l : List Int) : sIn (.int a) (.tup (l.map .int)) = some (.bl (decide (a ∈ l))) := by
  simp [sIn, itemsOf, plain, toPy, PyData.canLay0, lay_ints, dep_ints, PyData.depth, inD_ints]
theorem sIn_lst (a : Int) (l : List Int) : sIn (.int a) (.lst (l.map .int)) = some (.bl (decide (a ∈ l))) := by
  simp [sIn, itemsOf, plain, toPy, PyData.canLay0, lay_ints, dep_ints, PyData.depth, inD_ints]
theorem sNin_tup (a : Int) (l : List Int) : sNin (.int a) (.tup (l.map .int)) = some (.bl (!decide (a ∈ l))) := by
  simp [sNin, itemsOf, plain, toPy, PyData.canLay0, lay_ints, dep_ints, PyData.depth, inD_ints]
theorem sNin_lst (a : Int) (l : List Int) : sNin (.int a) (.lst (l.map .int)) = some (.bl (!decide (a ∈ l))) := by
  simp [sNin, itemsOf, plain, toPy, PyData.canLay0, lay_ints, dep_ints, PyData.depth, inD_ints]
theorem e_is_int (v : Int) : m_is_int [.int v] = .ret (.bl true) [] := by
  simp [m_is_int, b_is_int, mkFn, mSeq, mIfS, mDo, mRet, mRetN, mSkip, mExpr, mAsg, mAnd, mOr, mNot, mAndV, mOrV, mNotV, mB, mIf, mV, mNeg, mCall, mOp2, mTup, mLst, mMeth, mSl, mPart, preL, seqM, M.bind, M.pure, M.lift, M.stuck, Out.andThen, mVar, Opn.pre, Opn.rd, rdM, rdLM, rdL, cellD, initC, initAt, outsOf, outAt, gNm, gTp, gNms, mNew, mFrz, mPar, mFld, mCallF, mCallK, mCallN, appF, rdA, setOuts, ownSlots, ownPos, mSeqI, mEnum, mRange1, itemsOf, sIsi, tyName, kit_int, kit_ib]
theorem e_is_from (v lo hi : Int) : m_is_from [.int v, .int lo, .int hi] = .ret (.bl (decide (lo ≤ v) && decide (v ≤ hi))) [] := by
  by_cases h1 : lo ≤ v <;> simp [m_is_from, b_is_from, mkFn, mSeq, mIfS, mDo, mRet, mRetN, mSkip, mExpr, mAsg, mAnd, mOr, mNot, mAndV, mOrV, mNotV, mB, mIf, mV, mNeg, mCall, mOp2, mTup, mLst, mMeth, mSl, mPart, preL, seqM, M.bind, M.pure, M.lift, M.stuck, Out.andThen, mVar, Opn.pre, Opn.rd, rdM, rdLM, rdL, cellD, initC, initAt, outsOf, outAt, gNm, gTp, gNms, mNew, mFrz, mPar, mFld, mCallF, mCallK, mCallN, appF, rdA, setOuts, ownSlots, ownPos, mSeqI, mEnum, mRange1, itemsOf, e_is_int, mChain, sLe, h1]
theorem lk_many {a b d : D} : List.lookup ("many" : Str) [(("many" : Str), a), (("rows" : Str), b), (("most" : Str), d)] = some a := by rfl
theorem lk_rows {a b d : D} : List.lookup ("rows" : Str) [(("many" : Str), a), (("rows" : Str), b), (("most" : Str), d)] = some b := by
  have h : (("rows" : Str) == ("many" : Str)) = false := by decide
  simp [List.lookup, h]
theorem lk_most {a b d : D} : List.lookup ("most" : Str) [(("many" : Str), a), (("rows" : Str), b), (("most" : Str), d)] = some d := by
  have h : (("most" : Str) == ("many" : Str)) = false := by decide
  have h2 : (("most" : Str) == ("rows" : Str)) = false := by decide
  simp [List.lookup, h, h2]
theorem e_len (n : Int) (rows : List (List Int)) (t : Int) : m_Farmdd_lendd [farmD n rows t] = .ret (.int rows.length) [] := by
  simp [m_Farmdd_lendd, b_Farmdd_lendd, mkFn, mSeq, mIfS, mDo, mRet, mRetN, mSkip, mExpr, mAsg, mAnd, mOr, mNot, mAndV, mOrV, mNotV, mB, mIf, mV, mNeg, mCall, mOp2, mTup, mLst, mMeth, mSl, mPart, preL, seqM, M.bind, M.pure, M.lift, M.stuck, Out.andThen, mVar, Opn.pre, Opn.rd, rdM, rdLM, rdL, cellD, initC, initAt, outsOf, outAt, gNm, gTp, gNms, mNew, mFrz, mPar, mFld, mCallF, mCallK, mCallN, appF, rdA, setOuts, ownSlots, ownPos, mSeqI, mEnum, mRange1, itemsOf, farmD, sLen, lk_rows]
theorem e_lists (n : Int) (rows : List (List Int)) (t : Int) : m_Farm_lists [farmD n rows t] = .ret (.lst (rows.map rowD)) [] := by
  simp [m_Farm_lists, b_Farm_lists, mkFn, mSeq, mIfS, mDo, mRet, mRetN, mSkip, mExpr, mAsg, mAnd, mOr, mNot, mAndV, mOrV, mNotV, mB, mIf, mV, mNeg, mCall, mOp2, mTup, mLst, mMeth, mSl, mPart, preL, seqM, M.bind, M.pure, M.lift, M.stuck, Out.andThen, mVar, Opn.pre, Opn.rd, rdM, rdLM, rdL, cellD, initC, initAt, outsOf, outAt, gNm, gTp, gNms, mNew, mFrz, mPar, mFld, mCallF, mCallK, mCallN, appF, rdA, setOuts, ownSlots, ownPos, mSeqI, mEnum, mRange1, itemsOf, farmD, sList, lk_rows]
theorem intsOf_map' (l : List Int) : intsOf (l.map .int) = some l := intsOf_map l
theorem dedup_nodup : ∀ {l : List Int}, l.Nodup → dedupI l = l
  | [], _ => rfl
  | a :: l, h => by
    obtain ⟨h1, h2⟩ := List.nodup_cons.mp h
    unfold dedupI
    rw [if_neg (by simpa using h1), dedup_nodup h2]
theorem blsOf_map : ∀ l : List Bool, blsOf (l.map .bl) = some l
  | [] => rfl
  | b :: l => by simp [blsOf, blsOf_map l]
theorem e_is_row {n : Int} {r : List Int} (h0 : r ≠ []) (h1 : ∀ v ∈ r, 0 ≤ v ∧ v < n) (hn : r.Nodup) (hl : r.length ≤ 4000) : m_is_row [rowD r, .int n] = .ret (.bl true) [] := by
  have e1 : mLc (mSeqI (mVar 0)) (gNm 2) (M.pure true) (mCallF m_is_from [(.dat (mVar 2)), (.dat (M.pure (.int 0))), (.dat (mOp2 sSub (.dat (mVar 1)) (.dat (M.pure (.int 1)))))]) [2] [.dat (rowD r), .dat (.int n), .no] = .ok (.lst (r.map fun _ => .bl true)) [.dat (rowD r), .dat (.int n), .no] := by
    have := mLc_pure (fi := mSeqI (mVar 0)) (g := gNm 2) (tt := M.pure true) (fe := mCallF m_is_from [(.dat (mVar 2)), (.dat (M.pure (.int 0))), (.dat (mOp2 sSub (.dat (mVar 1)) (.dat (M.pure (.int 1)))))]) (vs := [2]) (ρ := [.dat (rowD r), .dat (.int n), .no]) (ds := r.map .int) (fun _ => true) (fun _ => .bl true) (by simp [mkFn, mSeq, mIfS, mDo, mRet, mRetN, mSkip, mExpr, mAsg, mAnd, mOr, mNot, mAndV, mOrV, mNotV, mB, mIf, mV, mNeg, mCall, mOp2, mTup, mLst, mMeth, mSl, mPart, preL, seqM, M.bind, M.pure, M.lift, M.stuck, Out.andThen, mVar, Opn.pre, Opn.rd, rdM, rdLM, rdL, cellD, initC, initAt, outsOf, outAt, gNm, gTp, gNms, mNew, mFrz, mPar, mFld, mCallF, mCallK, mCallN, appF, rdA, setOuts, ownSlots, ownPos, mSeqI, mEnum, mRange1, itemsOf, rowD]) (by simp [isOwn]) (fun d hd => by
      obtain ⟨v, hv, rfl⟩ := List.mem_map.mp hd
      obtain ⟨q1, q2⟩ := h1 v hv
      have q3 : v ≤ n - 1 := by omega
      refine ⟨[.dat (rowD r), .dat (.int n), .dat (.int v)], by simp [gNm, wipeC], by simp [M.pure], fun _ => ?_, by simp [wipeC]⟩
      simp [mkFn, mSeq, mIfS, mDo, mRet, mRetN, mSkip, mExpr, mAsg, mAnd, mOr, mNot, mAndV, mOrV, mNotV, mB, mIf, mV, mNeg, mCall, mOp2, mTup, mLst, mMeth, mSl, mPart, preL, seqM, M.bind, M.pure, M.lift, M.stuck, Out.andThen, mVar, Opn.pre, Opn.rd, rdM, rdLM, rdL, cellD, initC, initAt, outsOf, outAt, gNm, gTp, gNms, mNew, mFrz, mPar, mFld, mCallF, mCallK, mCallN, appF, rdA, setOuts, ownSlots, ownPos, mSeqI, mEnum, mRange1, itemsOf, sSub, e_is_from, q1, q3])
    rw [this, List.filter_eq_self.mpr (fun _ _ => rfl), List.map_map]
    rfl
  have e2 : sEq (rowD r) (.tup []) = some (.bl false) := by
    have := sEq_tup r []
    rw [decide_eq_false h0] at this
    exact this
  have e3 : blsOf (r.map fun _ => D.bl true) = some (r.map fun _ => true) := by
    have := blsOf_map (r.map fun _ => true)
    rwa [List.map_map] at this
  have e4 : sAll [D.lst (r.map fun _ => D.bl true)] = some (.bl true) := by
    simp [sAll, e3]
  have e5 : sLenSet (rowD r) = some (.int r.length) := by
    simp [sLenSet, rowD, intsOf_map, hl, dedup_nodup hn]
  have e6 : tyName (rowD r) = some "tuple" := rfl
  have e7 : sLen [rowD r] = some (.int r.length) := by simp [sLen, rowD]
  simp [m_is_row, b_is_row, mkFn, mSeq, mIfS, mDo, mRet, mRetN, mSkip, mExpr, mAsg, mAnd, mOr, mNot, mAndV, mOrV, mNotV, mB, mIf, mV, mNeg, mCall, mOp2, mTup, mLst, mMeth, mSl, mPart, preL, seqM, M.bind, M.pure, M.lift, M.stuck, Out.andThen, mVar, Opn.pre, Opn.rd, rdM, rdLM, rdL, cellD, initC, initAt, outsOf, outAt, gNm, gTp, gNms, mNew, mFrz, mPar, mFld, mCallF, mCallK, mCallN, appF, rdA, setOuts, ownSlots, ownPos, mSeqI, mEnum, mRange1, itemsOf, sIsi, e6, kit_tt, e2]
  simp [mkFn, mSeq, mIfS, mDo, mRet, mRetN, mSkip, mExpr, mAsg, mAnd, mOr, mNot, mAndV, mOrV, mNotV, mB, mIf, mV, mNeg, mCall, mOp2, mTup, mLst, mMeth, mSl, mPart, preL, seqM, M.bind, M.pure, M.lift, M.stuck, Out.andThen, mVar, Opn.pre, Opn.rd, rdM, rdLM, rdL, cellD, initC, initAt, outsOf, outAt, gNm, gTp, gNms, mNew, mFrz, mPar, mFld, mCallF, mCallK, mCallN, appF, rdA, setOuts, ownSlots, ownPos, mSeqI, mEnum, mRange1, itemsOf] at e1
  simp [e1, e4, mLenSet, mkFn, mSeq, mIfS, mDo, mRet, mRetN, mSkip, mExpr, mAsg, mAnd, mOr, mNot, mAndV, mOrV, mNotV, mB, mIf, mV, mNeg, mCall, mOp2, mTup, mLst, mMeth, mSl, mPart, preL, seqM, M.bind, M.pure, M.lift, M.stuck, Out.andThen, mVar, Opn.pre, Opn.rd, rdM, rdLM, rdL, cellD, initC, initAt, outsOf, outAt, gNm, gTp, gNms, mNew, mFrz, mPar, mFld, mCallF, mCallK, mCallN, appF, rdA, setOuts, ownSlots, ownPos, mSeqI, mEnum, mRange1, itemsOf, e5, e7, sEq_int]
theorem mSeq_next {m n : MS} {ρ ρ' : Cells} (h : m ρ = .next ρ') : mSeq m n ρ = n ρ' := by simp [mSeq, h]
theorem mSeq_ret {m n : MS} {ρ ρ' : Cells} {d : D} (h : m ρ = .ret d ρ') : mSeq m n ρ = .ret d ρ' := by simp [mSeq, h]
theorem mkFn_next {k : Nat} {bs : List Nat} {m : MS} {ds : List D} {ρ : Cells} (h : m (initC k bs ds) = .next ρ) : mkFn k bs m ds = .ret .non (outsOf bs ρ) := by simp [mkFn, h]
theorem mkFn_ret {k : Nat} {bs : List Nat} {m : MS} {ds : List D} {ρ : Cells} {d : D} (h : m (initC k bs ds) = .ret d ρ) : mkFn k bs m ds = .ret d (outsOf bs ρ) := by simp [mkFn, h]
theorem mIfS_f {t : M Bool} {m n : MS} {ρ ρ' : Cells} (h : t ρ = .ok false ρ') : mIfS t m n ρ = n ρ' := by simp [mIfS, mDo, h]
theorem mIfS_t {t : M Bool} {m n : MS} {ρ ρ' : Cells} (h : t ρ = .ok true ρ') : mIfS t m n ρ = m ρ' := by simp [mIfS, mDo, h]
theorem mFor_next {fi : M (List D)} {g : TgM} {b : MS} {ρ ρ1 : Cells} {ds : List D} (h : fi ρ = .ok ds ρ1) : mFor fi g b ρ = loopM g b ds ρ1 := by simp [mFor, mDo, h]
theorem enumD_inv : ∀ (n i : Nat) (ds : List D) (e : D), (enumD n ds)[i]? = some e → ∃ d, ds[i]? = some d ∧ e = .tup [.int ((n + i : Nat) : Int), d]
  | n, i, [], e, h => by simp [enumD] at h
  | n, 0, d :: ds, e, h => by
    simp [enumD] at h
    exact ⟨d, rfl, by rw [← h]; rfl⟩
  | n, i + 1, d :: ds, e, h => by
    obtain ⟨x, h1, h2⟩ := enumD_inv (n + 1) i ds e (by simpa [enumD] using h)
    exact ⟨x, by simpa using h1, by rw [h2, show n + 1 + i = n + (i + 1) by omega]⟩
def RowOk (n : Int) (r : List Int) : Prop := r ≠ [] ∧ (∀ v ∈ r, 0 ≤ v ∧ v < n) ∧ r.Nodup ∧ r.length ≤ 4000
theorem e_is_row' {n : Int} {r : List Int} (h : RowOk n r) : m_is_row [rowD r, .int n] = .ret (.bl true) [] := e_is_row h.1 h.2.1 h.2.2.1 h.2.2.2
theorem e_make {n t : Int} {rows : List (List Int)} (h1 : 1 ≤ n) (h2 : n ≤ 30) (h3 : rows.length ≤ 60) (h4 : ∀ r ∈ rows, RowOk n r) (h5 : 0 ≤ t) (h6 : t ≤ n) :
    m_Farmdd_initdd [.rcd [] [], .int n, .lst (rows.map rowD), .int t] = .ret .non [farmD n rows t] := by
  have e0 : initC 6 [0] [.rcd [] [], .int n, .lst (rows.map rowD), .int t] = [.own (.rcd [] []), .dat (.int n), .dat (.lst (rows.map rowD)), .dat (.int t), .no, .no] := by rfl
  obtain ⟨ρ', e1, x, y, e2⟩ := loop_inv (g := gTp [4, 5]) (body := mIfS (mNot (mB (mCallF m_is_row [(.dat (mVar 5)), (.dat (mVar 1))]))) (mRaise 0 [(M.pure (.str "lists")), (mVar 4)]) mSkip)
    (fun _ ρ => ∃ x y, ρ = [.own (.rcd [] []), .dat (.int n), .dat (.lst (rows.map rowD)), .dat (.int t), x, y]) (enumD 0 (rows.map rowD)) 0 _ ⟨.no, .no, rfl⟩ (fun i d ρ hd ⟨x, y, e⟩ => by
      obtain ⟨d', h7, rfl⟩ := enumD_inv 0 i _ _ hd
      rw [List.getElem?_map] at h7
      cases hr : rows[i]? with
      | none => rw [hr] at h7; cases h7
      | some r =>
        rw [hr] at h7
        cases h7
        have q := e_is_row' (h4 r (List.mem_of_getElem? hr))
        subst e
        refine ⟨[.own (.rcd [] []), .dat (.int n), .dat (.lst (rows.map rowD)), .dat (.int t), .dat (.int ((0 + i : Nat) : Int)), .dat (rowD r)], by simp [gTp, gNms], [.own (.rcd [] []), .dat (.int n), .dat (.lst (rows.map rowD)), .dat (.int t), .dat (.int ((0 + i : Nat) : Int)), .dat (rowD r)], by simp [mkFn, mSeq, mIfS, mDo, mRet, mRetN, mSkip, mExpr, mAsg, mAnd, mOr, mNot, mAndV, mOrV, mNotV, mB, mIf, mV, mNeg, mCall, mOp2, mTup, mLst, mMeth, mSl, mPart, preL, seqM, M.bind, M.pure, M.lift, M.stuck, Out.andThen, mVar, Opn.pre, Opn.rd, rdM, rdLM, rdL, cellD, initC, initAt, outsOf, outAt, gNm, gTp, gNms, mNew, mFrz, mPar, mFld, mCallF, mCallK, mCallN, appF, rdA, setOuts, ownSlots, ownPos, mSeqI, mEnum, mRange1, itemsOf, q], _, _, rfl⟩)
  subst e2
  have e3 : b_Farmdd_initdd (initC 6 [0] [.rcd [] [], .int n, .lst (rows.map rowD), .int t]) = .next [.own (farmD n rows t), .dat (.int n), .dat (.lst (rows.map rowD)), .dat (.int t), x, y] := by
    rw [e0]
    unfold b_Farmdd_initdd
    rw [mSeq_next (ρ' := [.own (.rcd [] []), .dat (.int n), .dat (.lst (rows.map rowD)), .dat (.int t), .no, .no]) (by simp [mkFn, mSeq, mIfS, mDo, mRet, mRetN, mSkip, mExpr, mAsg, mAnd, mOr, mNot, mAndV, mOrV, mNotV, mB, mIf, mV, mNeg, mCall, mOp2, mTup, mLst, mMeth, mSl, mPart, preL, seqM, M.bind, M.pure, M.lift, M.stuck, Out.andThen, mVar, Opn.pre, Opn.rd, rdM, rdLM, rdL, cellD, initC, initAt, outsOf, outAt, gNm, gTp, gNms, mNew, mFrz, mPar, mFld, mCallF, mCallK, mCallN, appF, rdA, setOuts, ownSlots, ownPos, mSeqI, mEnum, mRange1, itemsOf, e_is_from, h1, h2])]
    have g1 : sIsi [.lst (rows.map rowD), .raw (.ty "list")] = some (.bl true) := by simp [sIsi, tyName, kit_ll]
    have g2 : ¬ ((60 : Int) < (rows.length : Int)) := by omega
    rw [mSeq_next (ρ' := [.own (.rcd [] []), .dat (.int n), .dat (.lst (rows.map rowD)), .dat (.int t), .no, .no]) (by simp [mkFn, mSeq, mIfS, mDo, mRet, mRetN, mSkip, mExpr, mAsg, mAnd, mOr, mNot, mAndV, mOrV, mNotV, mB, mIf, mV, mNeg, mCall, mOp2, mTup, mLst, mMeth, mSl, mPart, preL, seqM, M.bind, M.pure, M.lift, M.stuck, Out.andThen, mVar, Opn.pre, Opn.rd, rdM, rdLM, rdL, cellD, initC, initAt, outsOf, outAt, gNm, gTp, gNms, mNew, mFrz, mPar, mFld, mCallF, mCallK, mCallN, appF, rdA, setOuts, ownSlots, ownPos, mSeqI, mEnum, mRange1, itemsOf, g1, sLen, sGt, g2])]
    rw [mSeq_next (by rw [mFor_next (ds := enumD 0 (rows.map rowD)) (ρ1 := [.own (.rcd [] []), .dat (.int n), .dat (.lst (rows.map rowD)), .dat (.int t), .no, .no]) (by simp [mkFn, mSeq, mIfS, mDo, mRet, mRetN, mSkip, mExpr, mAsg, mAnd, mOr, mNot, mAndV, mOrV, mNotV, mB, mIf, mV, mNeg, mCall, mOp2, mTup, mLst, mMeth, mSl, mPart, preL, seqM, M.bind, M.pure, M.lift, M.stuck, Out.andThen, mVar, Opn.pre, Opn.rd, rdM, rdLM, rdL, cellD, initC, initAt, outsOf, outAt, gNm, gTp, gNms, mNew, mFrz, mPar, mFld, mCallF, mCallK, mCallN, appF, rdA, setOuts, ownSlots, ownPos, mSeqI, mEnum, mRange1, itemsOf])]; exact e1)]
    rw [mSeq_next (ρ' := [.own (.rcd [] []), .dat (.int n), .dat (.lst (rows.map rowD)), .dat (.int t), x, y]) (by simp [mkFn, mSeq, mIfS, mDo, mRet, mRetN, mSkip, mExpr, mAsg, mAnd, mOr, mNot, mAndV, mOrV, mNotV, mB, mIf, mV, mNeg, mCall, mOp2, mTup, mLst, mMeth, mSl, mPart, preL, seqM, M.bind, M.pure, M.lift, M.stuck, Out.andThen, mVar, Opn.pre, Opn.rd, rdM, rdLM, rdL, cellD, initC, initAt, outsOf, outAt, gNm, gTp, gNms, mNew, mFrz, mPar, mFld, mCallF, mCallK, mCallN, appF, rdA, setOuts, ownSlots, ownPos, mSeqI, mEnum, mRange1, itemsOf, e_is_from, h5, h6])]
    rw [mSeq_next (ρ' := [.own (.rcd ["many"] [.int n]), .dat (.int n), .dat (.lst (rows.map rowD)), .dat (.int t), x, y]) (by simp [mSetF, mkFn, mSeq, mIfS, mDo, mRet, mRetN, mSkip, mExpr, mAsg, mAnd, mOr, mNot, mAndV, mOrV, mNotV, mB, mIf, mV, mNeg, mCall, mOp2, mTup, mLst, mMeth, mSl, mPart, preL, seqM, M.bind, M.pure, M.lift, M.stuck, Out.andThen, mVar, Opn.pre, Opn.rd, rdM, rdLM, rdL, cellD, initC, initAt, outsOf, outAt, gNm, gTp, gNms, mNew, mFrz, mPar, mFld, mCallF, mCallK, mCallN, appF, rdA, setOuts, ownSlots, ownPos, mSeqI, mEnum, mRange1, itemsOf, ownAt])]
    have n1 : ¬ ("rows" : Str) = ("many" : Str) := by decide
    have n2 : ¬ ("most" : Str) = ("many" : Str) := by decide
    have n3 : ¬ ("most" : Str) = ("rows" : Str) := by decide
    rw [mSeq_next (ρ' := [.own (.rcd ["many", "rows"] [.int n, .tup (rows.map rowD)]), .dat (.int n), .dat (.lst (rows.map rowD)), .dat (.int t), x, y]) (by simp [mSetF, mkFn, mSeq, mIfS, mDo, mRet, mRetN, mSkip, mExpr, mAsg, mAnd, mOr, mNot, mAndV, mOrV, mNotV, mB, mIf, mV, mNeg, mCall, mOp2, mTup, mLst, mMeth, mSl, mPart, preL, seqM, M.bind, M.pure, M.lift, M.stuck, Out.andThen, mVar, Opn.pre, Opn.rd, rdM, rdLM, rdL, cellD, initC, initAt, outsOf, outAt, gNm, gTp, gNms, mNew, mFrz, mPar, mFld, mCallF, mCallK, mCallN, appF, rdA, setOuts, ownSlots, ownPos, mSeqI, mEnum, mRange1, itemsOf, ownAt, sTuple, n1])]
    simp [mSetF, mkFn, mSeq, mIfS, mDo, mRet, mRetN, mSkip, mExpr, mAsg, mAnd, mOr, mNot, mAndV, mOrV, mNotV, mB, mIf, mV, mNeg, mCall, mOp2, mTup, mLst, mMeth, mSl, mPart, preL, seqM, M.bind, M.pure, M.lift, M.stuck, Out.andThen, mVar, Opn.pre, Opn.rd, rdM, rdLM, rdL, cellD, initC, initAt, outsOf, outAt, gNm, gTp, gNms, mNew, mFrz, mPar, mFld, mCallF, mCallK, mCallN, appF, rdA, setOuts, ownSlots, ownPos, mSeqI, mEnum, mRange1, itemsOf, ownAt, n2, n3, farmD]
  unfold m_Farmdd_initdd
  rw [mkFn_next e3]
  rfl
structure FarmOk (n : Int) (rows : List (List Int)) : Prop where
  n1 : 1 ≤ n
  n2 : n ≤ 30
  len : rows.length ≤ 60
  row : ∀ r ∈ rows, RowOk n r
theorem atI_nat {α : Type} (l : List α) (s : Nat) : atI l (s : Int) = l[s]? := by
  unfold atI ixN
  rw [if_pos (Int.natCast_nonneg s)]
  by_cases h : s < l.length
  · rw [if_pos (by omega)]
    simp
  · rw [if_neg (by omega), List.getElem?_eq_none (by omega)]
    rfl
theorem idxF_ints (v : Int) : ∀ {r : List Int}, v ∈ r → idxF (.int v) (r.map .int) = some (r.idxOf v)
  | [], h => by cases h
  | a :: r, h => by
    rw [List.map_cons]
    unfold idxF
    by_cases e : a = v
    · subst e
      simp [eqF, List.idxOf_cons]
    · have hm : v ∈ r := by
        rcases List.mem_cons.mp h with z | z
        · exact absurd z.symm e
        · exact z
      have e2 : (a == v) = false := by simpa using e
      simp [eqF, e2, idxF_ints v hm, List.idxOf_cons]
theorem flat_ints : ∀ r : List Int, (r.map D.int).all flatD = true
  | [] => rfl
  | a :: r => by simp [flatD]
theorem sTix_row {v : Int} {r : List Int} (h : v ∈ r) : sTix (rowD r) [.int v] = some (.int (r.idxOf v)) := by
  unfold sTix rowD sIndex
  simp [itemsOf, flatD, idxF_ints v h]
theorem e_pil {n t : Int} {rows : List (List Int)} {p : List (Option Int)} {s : Nat} {r : List Int} {v : Int} (hr : rows[s]? = some r) (hp : p[s]? = some (some v)) (hv : v ∈ r) : m_place_in_list [farmD n rows t, plcD p, .int s] = .ret (.int (r.idxOf v)) [] := by
  have l1 : sIx (.tup (rows.map rowD)) (.int s) = some (rowD r) := by simp [sIx, atI_nat, hr]
  have l2 : sIx (plcD p) (.int s) = some (.int v) := by simp [sIx, plcD, atI_nat, hp, optD]
  have l3 : isTup (rowD r) = true := rfl
  simp [m_place_in_list, b_place_in_list, mkFn, mSeq, mIfS, mDo, mRet, mRetN, mSkip, mExpr, mAsg, mAnd, mOr, mNot, mAndV, mOrV, mNotV, mB, mIf, mV, mNeg, mCall, mOp2, mTup, mLst, mMeth, mSl, mPart, preL, seqM, M.bind, M.pure, M.lift, M.stuck, Out.andThen, mVar, Opn.pre, Opn.rd, rdM, rdLM, rdL, cellD, initC, initAt, outsOf, outAt, gNm, gTp, gNms, mNew, mFrz, mPar, mFld, mCallF, mCallK, mCallN, appF, rdA, setOuts, ownSlots, ownPos, mSeqI, mEnum, mRange1, itemsOf, farmD, lk_rows, l1, l2, l3, sTix_row hv]
theorem cut_take (l : List D) (k : Nat) : cutD l none (some (k : Int)) = l.take k := by
  unfold cutD
  rw [HT.sIx_none, HT.sIx_nat, Nat.sub_zero, List.drop_zero]
  by_cases h : k ≤ l.length
  · rw [Nat.min_eq_left h]
  · rw [Nat.min_eq_right (by omega), List.take_length, List.take_of_length_le (by omega)]
theorem e_po {n t : Int} {rows : List (List Int)} {p : List (Option Int)} {s : Nat} {r : List Int} {v : Int} (hr : rows[s]? = some r) (hp : p[s]? = some (some v)) (hv : v ∈ r) : m_passed_over [farmD n rows t, plcD p, .int s] = .ret (rowD (r.take (r.idxOf v))) [] := by
  have l1 : sIx (.tup (rows.map rowD)) (.int s) = some (rowD r) := by simp [sIx, atI_nat, hr]
  have l2 : m_place_in_list [.rcd ["many", "rows", "most"] [.int n, .tup (rows.map rowD), .int t], plcD p, .int s] = .ret (.int (r.idxOf v)) [] := e_pil hr hp hv
  have l3 : sCut (rowD r) none (some (r.idxOf v : Int)) = some (rowD (r.take (r.idxOf v))) := by
    simp [sCut, rowD, cut_take, List.map_take]
  simp [m_passed_over, b_passed_over, mkFn, mSeq, mIfS, mDo, mRet, mRetN, mSkip, mExpr, mAsg, mAnd, mOr, mNot, mAndV, mOrV, mNotV, mB, mIf, mV, mNeg, mCall, mOp2, mTup, mLst, mMeth, mSl, mPart, preL, seqM, M.bind, M.pure, M.lift, M.stuck, Out.andThen, mVar, Opn.pre, Opn.rd, rdM, rdLM, rdL, cellD, initC, initAt, outsOf, outAt, gNm, gTp, gNms, mNew, mFrz, mPar, mFld, mCallF, mCallK, mCallN, appF, rdA, setOuts, ownSlots, ownPos, mSeqI, mEnum, mRange1, itemsOf, farmD, lk_rows, l1, l2, l3]
def mvF (st : List Int) : Nat → List (Option Int) → List Int
  | _, [] => []
  | n, none :: p => mvF st (n + 1) p
  | n, some _ :: p => if (n : Int) ∈ st then mvF st (n + 1) p else (n : Int) :: mvF st (n + 1) p
def mvP (st : List Int) : D → Bool
  | .tup [.int i, d] => !isNon d && !decide (i ∈ st)
  | _ => false
def mvf : D → D
  | .tup [i, _] => i
  | _ => .non
theorem mvF_is (st : List Int) : ∀ (n : Nat) (p : List (Option Int)), ((enumD n (p.map optD)).filter (mvP st)).map mvf = (mvF st n p).map .int
  | n, [] => rfl
  | n, none :: p => by
    rw [List.map_cons]
    simp only [enumD, mvF, List.filter_cons]
    rw [if_neg (by simp [mvP, optD, isNon])]
    exact mvF_is st (n + 1) p
  | n, some v :: p => by
    rw [List.map_cons]
    simp only [enumD, mvF, List.filter_cons]
    by_cases h : (n : Int) ∈ st
    · rw [if_neg (by simp [mvP, optD, isNon, h]), if_pos h]
      exact mvF_is st (n + 1) p
    · rw [if_pos (by simp [mvP, optD, isNon, h]), if_neg h, List.map_cons, List.map_cons, mvF_is st (n + 1) p]
      rfl
theorem enum_mem {p : List (Option Int)} {e : D} (h : e ∈ enumD 0 (p.map optD)) : ∃ (i : Nat) (o : Option Int), p[i]? = some o ∧ e = .tup [.int i, optD o] := by
  obtain ⟨i, hi⟩ := List.mem_iff_getElem?.mp h
  obtain ⟨d, h1, rfl⟩ := enumD_inv 0 i _ _ hi
  rw [List.getElem?_map] at h1
  cases hp : p[i]? with
  | none => rw [hp] at h1; cases h1
  | some o =>
    rw [hp] at h1
    cases h1
    exact ⟨i, o, hp, by rw [Nat.zero_add]⟩
theorem mv_lc (p : List (Option Int)) (st : List Int) : mLc (mEnum (mVar 0)) (gTp [2, 3]) (mAnd (mB (mOp2 sNotN (.dat (mVar 3)) (.dat (M.pure .non)))) (mB (mOp2 sNin (.dat (mVar 2)) (.dat (mVar 1))))) (mVar 2) [2, 3] [.dat (plcD p), .dat (.tup (st.map .int)), .no, .no] = .ok (.lst ((mvF st 0 p).map .int)) [.dat (plcD p), .dat (.tup (st.map .int)), .no, .no] := by
  rw [mLc_pure (ds := enumD 0 (p.map optD)) (mvP st) mvf (by simp [mkFn, mSeq, mIfS, mDo, mRet, mRetN, mSkip, mExpr, mAsg, mAnd, mOr, mNot, mAndV, mOrV, mNotV, mB, mIf, mV, mNeg, mCall, mOp2, mTup, mLst, mMeth, mSl, mPart, preL, seqM, M.bind, M.pure, M.lift, M.stuck, Out.andThen, mVar, Opn.pre, Opn.rd, rdM, rdLM, rdL, cellD, initC, initAt, outsOf, outAt, gNm, gTp, gNms, mNew, mFrz, mPar, mFld, mCallF, mCallK, mCallN, appF, rdA, setOuts, ownSlots, ownPos, mSeqI, mEnum, mRange1, itemsOf, plcD]) (by simp [isOwn]) (fun d hd => by
    obtain ⟨i, o, _, rfl⟩ := enum_mem hd
    refine ⟨[.dat (plcD p), .dat (.tup (st.map .int)), .dat (.int i), .dat (optD o)], by simp [gTp, gNms, wipeC], ?_, fun _ => by simp [mkFn, mSeq, mIfS, mDo, mRet, mRetN, mSkip, mExpr, mAsg, mAnd, mOr, mNot, mAndV, mOrV, mNotV, mB, mIf, mV, mNeg, mCall, mOp2, mTup, mLst, mMeth, mSl, mPart, preL, seqM, M.bind, M.pure, M.lift, M.stuck, Out.andThen, mVar, Opn.pre, Opn.rd, rdM, rdLM, rdL, cellD, initC, initAt, outsOf, outAt, gNm, gTp, gNms, mNew, mFrz, mPar, mFld, mCallF, mCallK, mCallN, appF, rdA, setOuts, ownSlots, ownPos, mSeqI, mEnum, mRange1, itemsOf, mvf], by simp [wipeC]⟩
    cases o with
    | none => simp [mkFn, mSeq, mIfS, mDo, mRet, mRetN, mSkip, mExpr, mAsg, mAnd, mOr, mNot, mAndV, mOrV, mNotV, mB, mIf, mV, mNeg, mCall, mOp2, mTup, mLst, mMeth, mSl, mPart, preL, seqM, M.bind, M.pure, M.lift, M.stuck, Out.andThen, mVar, Opn.pre, Opn.rd, rdM, rdLM, rdL, cellD, initC, initAt, outsOf, outAt, gNm, gTp, gNms, mNew, mFrz, mPar, mFld, mCallF, mCallK, mCallN, appF, rdA, setOuts, ownSlots, ownPos, mSeqI, mEnum, mRange1, itemsOf, optD, sNotN, isNon, mvP]
    | some v => simp [mkFn, mSeq, mIfS, mDo, mRet, mRetN, mSkip, mExpr, mAsg, mAnd, mOr, mNot, mAndV, mOrV, mNotV, mB, mIf, mV, mNeg, mCall, mOp2, mTup, mLst, mMeth, mSl, mPart, preL, seqM, M.bind, M.pure, M.lift, M.stuck, Out.andThen, mVar, Opn.pre, Opn.rd, rdM, rdLM, rdL, cellD, initC, initAt, outsOf, outAt, gNm, gTp, gNms, mNew, mFrz, mPar, mFld, mCallF, mCallK, mCallN, appF, rdA, setOuts, ownSlots, ownPos, mSeqI, mEnum, mRange1, itemsOf, optD, sNotN, isNon, mvP, sNin_tup])]
  rw [mvF_is]
theorem e_movers (p : List (Option Int)) (st : List Int) : m_movers [plcD p, .tup (st.map .int)] = .ret (.lst ((mvF st 0 p).map .int)) [] := by
  unfold m_movers
  rw [mkFn_ret (d := .lst ((mvF st 0 p).map .int)) (ρ := [.dat (plcD p), .dat (.tup (st.map .int)), .no, .no]) (by
    show b_movers [.dat (plcD p), .dat (.tup (st.map .int)), .no, .no] = _
    unfold b_movers mRet mDo
    rw [mv_lc])]
  rfl
def wellD (a b d : Int) : D := .lst [.int a, .int b, .int d]
theorem ix0 {x y z : D} : sIx (.lst [x, y, z]) (.int 0) = some x := by rfl
theorem ix1 {x y z : D} : sIx (.lst [x, y, z]) (.int 1) = some y := by rfl
theorem ix2 {x y z : D} : sIx (.lst [x, y, z]) (.int 2) = some z := by rfl
theorem fmod_in {a n : Int} (h : 0 < n) : 0 ≤ a.fmod n ∧ a.fmod n < n := by
  rw [Int.fmod_eq_emod_of_nonneg _ (Int.le_of_lt h)]
  exact ⟨Int.emod_nonneg _ (by omega), Int.emod_lt_of_pos _ h⟩
theorem sMul_l {i j : Int} (h : inR i = true) : sMul (.int i) (.int j) = some (.int (i * j)) := by simp [sMul, h]
theorem sMul_r {i j : Int} (h : inR j = true) : sMul (.int i) (.int j) = some (.int (i * j)) := by simp [sMul, h]
theorem inR_fmod {a n : Int} (h : 0 < n) (h2 : n ≤ 2147483647) : inR (a.fmod n) = true := by
  have := fmod_in (a := a) h
  simp [inR]
  omega
theorem e_draw (a b d : Int) {lim : Int} (h : 0 < lim) (h2 : lim < 1000000) : ∃ r a' b' d', m_law_draw [wellD a b d, .int lim] = .ret (.int r) [wellD a' b' d'] ∧ 0 ≤ r ∧ r < lim := by
  have hl : lim ≠ 0 := by omega
  have hb : lim.natAbs < 1073741824 := by omega
  by_cases ha : 0 < a
  · refine ⟨a.fmod lim, a.fdiv lim, b, d, ?_, fmod_in h⟩
    unfold m_law_draw
    rw [mkFn_ret (d := .int (a.fmod lim)) (ρ := [.own (wellD (a.fdiv lim) b d), .dat (.int lim), .dat (.int (a.fmod lim)), .no]) (by
      show b_law_draw [.own (wellD a b d), .dat (.int lim), .no, .no] = _
      unfold b_law_draw
      rw [mSeq_ret]
      rw [mIfS_t (ρ' := [.own (wellD a b d), .dat (.int lim), .no, .no]) (by simp [mkFn, mSeq, mIfS, mDo, mRet, mRetN, mSkip, mExpr, mAsg, mAnd, mOr, mNot, mAndV, mOrV, mNotV, mB, mIf, mV, mNeg, mCall, mOp2, mTup, mLst, mMeth, mSl, mPart, preL, seqM, M.bind, M.pure, M.lift, M.stuck, Out.andThen, mVar, Opn.pre, Opn.rd, rdM, rdLM, rdL, cellD, initC, initAt, outsOf, outAt, gNm, gTp, gNms, mNew, mFrz, mPar, mFld, mCallF, mCallK, mCallN, appF, rdA, setOuts, ownSlots, ownPos, mSeqI, mEnum, mRange1, itemsOf, wellD, ix0, sGt, ha])]
      simp [mkFn, mSeq, mIfS, mDo, mRet, mRetN, mSkip, mExpr, mAsg, mAnd, mOr, mNot, mAndV, mOrV, mNotV, mB, mIf, mV, mNeg, mCall, mOp2, mTup, mLst, mMeth, mSl, mPart, preL, seqM, M.bind, M.pure, M.lift, M.stuck, Out.andThen, mVar, Opn.pre, Opn.rd, rdM, rdLM, rdL, cellD, initC, initAt, outsOf, outAt, gNm, gTp, gNms, mNew, mFrz, mPar, mFld, mCallF, mCallK, mCallN, appF, rdA, setOuts, ownSlots, ownPos, mSeqI, mEnum, mRange1, itemsOf, wellD, ix0, sMod, sFdiv, hl, hb, mSetIx, ownAt, ixN])]
    rfl
  · let x0 := (b + 104729 * (d + 1) + 1)
    let x1 := (x0 * 48271).fmod 2147483647
    let x2 := (x1 * (x1.fdiv 1009 + 69621)).fmod 2147483647
    let x3 := (x2 * (x2.fdiv 2003 + 40692)).fmod 2147483399
    refine ⟨x3.fmod lim, a, b, d + 1, ?_, fmod_in h⟩
    have r1 : inR x1 = true := inR_fmod (by omega) (by omega)
    have r2 : inR x2 = true := inR_fmod (by omega) (by omega)
    unfold m_law_draw
    rw [mkFn_ret (d := .int (x3.fmod lim)) (ρ := [.own (wellD a b (d + 1)), .dat (.int lim), .no, .dat (.int x2)]) (by
      show b_law_draw [.own (wellD a b d), .dat (.int lim), .no, .no] = _
      unfold b_law_draw
      rw [mSeq_next (ρ' := [.own (wellD a b d), .dat (.int lim), .no, .no]) (by
        rw [mIfS_f (ρ' := [.own (wellD a b d), .dat (.int lim), .no, .no]) (by simp [mkFn, mSeq, mIfS, mDo, mRet, mRetN, mSkip, mExpr, mAsg, mAnd, mOr, mNot, mAndV, mOrV, mNotV, mB, mIf, mV, mNeg, mCall, mOp2, mTup, mLst, mMeth, mSl, mPart, preL, seqM, M.bind, M.pure, M.lift, M.stuck, Out.andThen, mVar, Opn.pre, Opn.rd, rdM, rdLM, rdL, cellD, initC, initAt, outsOf, outAt, gNm, gTp, gNms, mNew, mFrz, mPar, mFld, mCallF, mCallK, mCallN, appF, rdA, setOuts, ownSlots, ownPos, mSeqI, mEnum, mRange1, itemsOf, wellD, ix0, sGt, ha])]
        simp [mkFn, mSeq, mIfS, mDo, mRet, mRetN, mSkip, mExpr, mAsg, mAnd, mOr, mNot, mAndV, mOrV, mNotV, mB, mIf, mV, mNeg, mCall, mOp2, mTup, mLst, mMeth, mSl, mPart, preL, seqM, M.bind, M.pure, M.lift, M.stuck, Out.andThen, mVar, Opn.pre, Opn.rd, rdM, rdLM, rdL, cellD, initC, initAt, outsOf, outAt, gNm, gTp, gNms, mNew, mFrz, mPar, mFld, mCallF, mCallK, mCallN, appF, rdA, setOuts, ownSlots, ownPos, mSeqI, mEnum, mRange1, itemsOf])]
      rw [mSeq_next (ρ' := [.own (wellD a b (d + 1)), .dat (.int lim), .no, .no]) (by simp [mkFn, mSeq, mIfS, mDo, mRet, mRetN, mSkip, mExpr, mAsg, mAnd, mOr, mNot, mAndV, mOrV, mNotV, mB, mIf, mV, mNeg, mCall, mOp2, mTup, mLst, mMeth, mSl, mPart, preL, seqM, M.bind, M.pure, M.lift, M.stuck, Out.andThen, mVar, Opn.pre, Opn.rd, rdM, rdLM, rdL, cellD, initC, initAt, outsOf, outAt, gNm, gTp, gNms, mNew, mFrz, mPar, mFld, mCallF, mCallK, mCallN, appF, rdA, setOuts, ownSlots, ownPos, mSeqI, mEnum, mRange1, itemsOf, wellD, ix2, sAdd, mSetIx, ownAt, ixN])]
      have k1 : sMul (.int 104729) (.int (d + 1)) = some (.int (104729 * (d + 1))) := sMul_l (by decide)
      have k2 : sMul (.int x0) (.int 48271) = some (.int (x0 * 48271)) := sMul_r (by decide)
      rw [mSeq_next (ρ' := [.own (wellD a b (d + 1)), .dat (.int lim), .no, .dat (.int x1)]) (by simp [mkFn, mSeq, mIfS, mDo, mRet, mRetN, mSkip, mExpr, mAsg, mAnd, mOr, mNot, mAndV, mOrV, mNotV, mB, mIf, mV, mNeg, mCall, mOp2, mTup, mLst, mMeth, mSl, mPart, preL, seqM, M.bind, M.pure, M.lift, M.stuck, Out.andThen, mVar, Opn.pre, Opn.rd, rdM, rdLM, rdL, cellD, initC, initAt, outsOf, outAt, gNm, gTp, gNms, mNew, mFrz, mPar, mFld, mCallF, mCallK, mCallN, appF, rdA, setOuts, ownSlots, ownPos, mSeqI, mEnum, mRange1, itemsOf, wellD, ix1, ix2, sAdd, sMod, k1]; simp [x0] at k2; simp [k2, x1, x0, sMod])]
      have k3 : sMul (.int x1) (.int (x1.fdiv 1009 + 69621)) = some (.int (x1 * (x1.fdiv 1009 + 69621))) := sMul_l r1
      rw [mSeq_next (ρ' := [.own (wellD a b (d + 1)), .dat (.int lim), .no, .dat (.int x2)]) (by simp [mkFn, mSeq, mIfS, mDo, mRet, mRetN, mSkip, mExpr, mAsg, mAnd, mOr, mNot, mAndV, mOrV, mNotV, mB, mIf, mV, mNeg, mCall, mOp2, mTup, mLst, mMeth, mSl, mPart, preL, seqM, M.bind, M.pure, M.lift, M.stuck, Out.andThen, mVar, Opn.pre, Opn.rd, rdM, rdLM, rdL, cellD, initC, initAt, outsOf, outAt, gNm, gTp, gNms, mNew, mFrz, mPar, mFld, mCallF, mCallK, mCallN, appF, rdA, setOuts, ownSlots, ownPos, mSeqI, mEnum, mRange1, itemsOf, sAdd, sMod, sFdiv, k3]; rfl)]
      have k4 : sMul (.int x2) (.int (x2.fdiv 2003 + 40692)) = some (.int (x2 * (x2.fdiv 2003 + 40692))) := sMul_l r2
      simp [mkFn, mSeq, mIfS, mDo, mRet, mRetN, mSkip, mExpr, mAsg, mAnd, mOr, mNot, mAndV, mOrV, mNotV, mB, mIf, mV, mNeg, mCall, mOp2, mTup, mLst, mMeth, mSl, mPart, preL, seqM, M.bind, M.pure, M.lift, M.stuck, Out.andThen, mVar, Opn.pre, Opn.rd, rdM, rdLM, rdL, cellD, initC, initAt, outsOf, outAt, gNm, gTp, gNms, mNew, mFrz, mPar, mFld, mCallF, mCallK, mCallN, appF, rdA, setOuts, ownSlots, ownPos, mSeqI, mEnum, mRange1, itemsOf, sAdd, sMod, sFdiv, k4, hl]
      rfl)]
    rfl
theorem eraseIdx_map (l : List Int) (k : Nat) : (l.map D.int).eraseIdx k = (l.eraseIdx k).map D.int := erase_mapD l k
theorem mMethWR1 {sem : D → List D → Option (D × D)} {i : Nat} {f : M D} {ρ ρ1 : Cells} {x0 : List D} {d e : D} {r : D × D} (h0 : ρ[i]? = some (.own (.lst x0))) (h1 : f ρ = .ok e ρ1) (h2 : ρ1[i]? = some (.own d)) (h3 : sem d [e] = some r) : mMethWR sem i [f] ρ = .ok r.1 (ρ1.set i (.own r.2)) := by
  unfold mMethWR
  simp [ownAt, M.bind, M.pure, M.lift, Out.andThen, seqM, isLst, h0, h1, h2, h3, setOwn]
theorem cons_erase : ∀ {l : List Int} {i : Nat} {x : Int}, l[i]? = some x → (x :: l.eraseIdx i).Perm l
  | [], i, x, h => by simp at h
  | a :: l, 0, x, h => by
    simp at h
    subst h
    exact List.Perm.refl _
  | a :: l, i + 1, x, h => by
    rw [List.eraseIdx_cons_succ]
    exact (List.Perm.swap a x _).trans ((cons_erase (l := l) (by simpa using h)).cons a)
theorem lcM_state {g : TgM} {tt : M Bool} {fe : M D} {vs : List Nat} (I : Cells → Prop) (Pe : D → Prop) : ∀ (ds : List D) (ρ : Cells), I ρ →
    (∀ d ∈ ds, ∀ ρ, I ρ → ∃ ρ1 e ρ2, g d (wipeC ρ vs) = some ρ1 ∧ tt ρ1 = .ok true ρ1 ∧ fe ρ1 = .ok e ρ2 ∧ Pe e ∧ I ρ2) →
    ∃ es ρ', lcM g tt fe vs ds ρ = some (es, ρ') ∧ es.length = ds.length ∧ (∀ e ∈ es, Pe e) ∧ I ρ'
  | [], ρ, hI, _ => ⟨[], ρ, rfl, rfl, (fun e h => nomatch h), hI⟩
  | d :: ds, ρ, hI, h => by
    obtain ⟨ρ1, e, ρ2, h1, h2, h3, h4, h5⟩ := h d List.mem_cons_self ρ hI
    obtain ⟨es, ρ', q1, q2, q3, q4⟩ := lcM_state I Pe ds ρ2 h5 fun x hx => h x (List.mem_cons_of_mem _ hx)
    refine ⟨e :: es, ρ', ?_, by rw [List.length_cons, List.length_cons, q2], fun x hx => ?_, q4⟩
    · unfold lcM
      simp [h1, h2, h3, q1]
    · rcases List.mem_cons.mp hx with z | z
      · subst z; exact h4
      · exact q3 x z
def rng (k : Nat) : List Int := (List.range k).map fun (i : Nat) => 0 + (i : Int)
theorem rng_D (k : Nat) : rangeD 0 k = (rng k).map .int := by
  unfold rangeD rng
  rw [List.map_map]
  rfl
theorem rng_len (k : Nat) : (rng k).length = k := by simp [rng]
theorem rng_nd (k : Nat) : (rng k).Nodup := by
  unfold rng
  rw [List.Nodup, List.pairwise_map]
  exact List.Pairwise.imp (fun h => by omega) List.nodup_range
theorem rng_mem {k : Nat} {v : Int} (h : v ∈ rng k) : 0 ≤ v ∧ v < k := by
  obtain ⟨i, hi, rfl⟩ := List.mem_map.mp h
  have := List.mem_range.mp hi
  omega
theorem cut_take' (l : List D) (k : Int) (hk : 0 ≤ k) : cutD l none (some k) = l.take k.toNat := by
  have := cut_take l k.toNat
  rwa [Int.toNat_of_nonneg hk] at this
def PlOk (rows : List (List Int)) (p : List (Option Int)) : Prop := ∀ (s : Nat) (v : Int), p[s]? = some (some v) → ∃ r, rows[s]? = some r ∧ v ∈ r
theorem mem_mvF {st : List Int} : ∀ {n : Nat} {p : List (Option Int)} {v : Int}, v ∈ mvF st n p ↔ ∃ (i : Nat) (x : Int), v = ((n + i : Nat) : Int) ∧ p[i]? = some (some x) ∧ v ∉ st
  | n, [], v => by simp [mvF]
  | n, none :: p, v => by
    unfold mvF
    rw [mem_mvF]
    constructor
    · rintro ⟨i, x, h1, h2, h3⟩
      exact ⟨i + 1, x, by omega, by simpa using h2, h3⟩
    · rintro ⟨i, x, h1, h2, h3⟩
      cases i with
      | zero => simp at h2
      | succ i => exact ⟨i, x, by omega, by simpa using h2, h3⟩
  | n, some y :: p, v => by
    unfold mvF
    split
    · rename_i hst
      rw [mem_mvF]
      constructor
      · rintro ⟨i, x, h1, h2, h3⟩
        exact ⟨i + 1, x, by omega, by simpa using h2, h3⟩
      · rintro ⟨i, x, h1, h2, h3⟩
        cases i with
        | zero => exact absurd (by rw [h1]; simpa using hst) h3
        | succ i => exact ⟨i, x, by omega, by simpa using h2, h3⟩
    · rename_i hst
      rw [List.mem_cons, mem_mvF]
      constructor
      · rintro (h | ⟨i, x, h1, h2, h3⟩)
        · exact ⟨0, y, by simpa using h, by simp, by rw [h]; exact hst⟩
        · exact ⟨i + 1, x, by omega, by simpa using h2, h3⟩
      · rintro ⟨i, x, h1, h2, h3⟩
        cases i with
        | zero => exact .inl (by simpa using h1)
        | succ i => exact .inr ⟨i, x, by omega, by simpa using h2, h3⟩
theorem asc_mvF {st : List Int} : ∀ (n : Nat) (p : List (Option Int)), (mvF st n p).Pairwise (· < ·)
  | n, [] => List.Pairwise.nil
  | n, none :: p => asc_mvF (n + 1) p
  | n, some y :: p => by
    unfold mvF
    split
    · exact asc_mvF (n + 1) p
    · refine List.pairwise_cons.mpr ⟨fun v hv => ?_, asc_mvF (n + 1) p⟩
      obtain ⟨i, x, h1, _⟩ := mem_mvF.mp hv
      omega
theorem nd_mvF {st : List Int} (n : Nat) (p : List (Option Int)) : (mvF st n p).Nodup := (asc_mvF n p).imp fun h => by omega
theorem len_mvF {st : List Int} : ∀ (n : Nat) (p : List (Option Int)), (mvF st n p).length ≤ p.length
  | n, [] => Nat.le_refl _
  | n, none :: p => by
    have := len_mvF (st := st) (n + 1) p
    unfold mvF
    rw [List.length_cons]
    omega
  | n, some y :: p => by
    have := len_mvF (st := st) (n + 1) p
    unfold mvF
    split <;> simp <;> omega
structure StOk (p : List (Option Int)) (st : List Int) : Prop where
  nd : st.Nodup
  mem : ∀ v ∈ st, ∃ (i : Nat) (x : Int), v = (i : Int) ∧ p[i]? = some (some x)
def rowAt (rows : List (List Int)) (s : Int) : List Int := rows.getD s.toNat []
def plAt (p : List (Option Int)) (s : Int) : Int := (p.getD s.toNat none).getD 0
def passI (rows : List (List Int)) (p : List (Option Int)) (s : Int) : List Int := (rowAt rows s).take ((rowAt rows s).idxOf (plAt p s))
def Pres (p : List (Option Int)) (s : Int) : Prop := ∃ (i : Nat) (x : Int), s = (i : Int) ∧ p[i]? = some (some x)
theorem Pres.at {rows : List (List Int)} {p : List (Option Int)} {s : Int} (h : Pres p s) (hok : PlOk rows p) : ∃ (i : Nat) (x : Int) (r : List Int), s = (i : Int) ∧ p[i]? = some (some x) ∧ rows[i]? = some r ∧ x ∈ r ∧ rowAt rows s = r ∧ plAt p s = x := by
  obtain ⟨i, x, rfl, h2⟩ := h
  obtain ⟨r, h3, h4⟩ := hok i x h2
  refine ⟨i, x, r, rfl, h2, h3, h4, ?_, ?_⟩
  · unfold rowAt
    rw [Int.toNat_natCast, List.getD_eq_getElem?_getD, h3]
    rfl
  · unfold plAt
    rw [Int.toNat_natCast, List.getD_eq_getElem?_getD, h2]
    rfl
theorem mv_pres {p : List (Option Int)} {st : List Int} {s : Int} (h : s ∈ mvF st 0 p) : Pres p s := by
  obtain ⟨i, x, h1, h2, _⟩ := mem_mvF.mp h
  exact ⟨i, x, by rw [h1, Nat.zero_add], h2⟩
theorem st_pres {p : List (Option Int)} {st : List Int} (h : StOk p st) {s : Int} (hs : s ∈ st) : Pres p s := h.mem s hs
theorem sIx_pl {p : List (Option Int)} {s : Int} (h : Pres p s) : sIx (plcD p) (.int s) = some (.int (plAt p s)) := by
  obtain ⟨i, x, rfl, h2⟩ := h
  have : plAt p (i : Int) = x := by
    unfold plAt
    rw [Int.toNat_natCast, List.getD_eq_getElem?_getD, h2]
    rfl
  rw [this]
  simp [sIx, plcD, atI_nat, h2, optD]
theorem e_po' {n t : Int} {rows : List (List Int)} {p : List (Option Int)} {s : Int} (h : Pres p s) (hok : PlOk rows p) : m_passed_over [farmD n rows t, plcD p, .int s] = .ret (rowD (passI rows p s)) [] := by
  obtain ⟨i, x, r, rfl, h2, h3, h4, h5, h6⟩ := h.at hok
  unfold passI
  rw [h5, h6]
  exact e_po h3 h2 h4
theorem e_pil' {n t : Int} {rows : List (List Int)} {p : List (Option Int)} {s : Int} (h : Pres p s) (hok : PlOk rows p) : m_place_in_list [farmD n rows t, plcD p, .int s] = .ret (.int ((rowAt rows s).idxOf (plAt p s))) [] := by
  obtain ⟨i, x, r, rfl, h2, h3, h4, h5, h6⟩ := h.at hok
  rw [h5, h6]
  exact e_pil h3 h2 h4
theorem e_lpassed {rows : List (List Int)} {p : List (Option Int)} {s : Int} (h : Pres p s) (hok : PlOk rows p) : m_law_passed [.lst (rows.map rowD), plcD p, .int s] = .ret (rowD (passI rows p s)) [] := by
  obtain ⟨i, x, r, rfl, h2, h3, h4, h5, h6⟩ := h.at hok
  unfold passI
  rw [h5, h6]
  have l1 : sIx (.lst (rows.map rowD)) (.int i) = some (rowD r) := by simp [sIx, atI_nat, h3]
  have l2 : sIx (plcD p) (.int i) = some (.int x) := by simp [sIx, plcD, atI_nat, h2, optD]
  have l3 : isTup (rowD r) = true := rfl
  have l4 : sCut (rowD r) none (some (r.idxOf x : Int)) = some (rowD (r.take (r.idxOf x))) := by
    simp [sCut, rowD, cut_take, List.map_take]
  simp [m_law_passed, b_law_passed, mkFn, mSeq, mIfS, mDo, mRet, mRetN, mSkip, mExpr, mAsg, mAnd, mOr, mNot, mAndV, mOrV, mNotV, mB, mIf, mV, mNeg, mCall, mOp2, mTup, mLst, mMeth, mSl, mPart, preL, seqM, M.bind, M.pure, M.lift, M.stuck, Out.andThen, mVar, Opn.pre, Opn.rd, rdM, rdLM, rdL, cellD, initC, initAt, outsOf, outAt, gNm, gTp, gNms, mNew, mFrz, mPar, mFld, mCallF, mCallK, mCallN, appF, rdA, setOuts, ownSlots, ownPos, mSeqI, mEnum, mRange1, itemsOf, l1, l2, l3, sTix_row h4, l4]
theorem filter_int (Q : Int → Bool) (P : D → Bool) (h : ∀ i, P (.int i) = Q i) : ∀ l : List Int, (l.map D.int).filter P = (l.filter Q).map .int
  | [] => rfl
  | a :: l => by
    rw [List.map_cons, List.filter_cons, List.filter_cons, h a, filter_int Q P h l]
    cases Q a <;> rfl
def ofInt (Q : Int → Bool) : D → Bool
  | .int i => Q i
  | _ => false
def heldBy (rows : List (List Int)) (p : List (Option Int)) (st : List Int) (s : Int) : Bool := (st.filter fun o => decide (plAt p o ∈ passI rows p s)) ≠ []
theorem find_any (Q : Int → Bool) : ∀ l : List Int, (match (l.map D.int).find? (ofInt Q) with | some _ => true | none => false) = l.any Q
  | [] => rfl
  | a :: l => by
    have := find_any Q l
    rw [List.map_cons, List.find?_cons, List.any_cons]
    cases h : Q a with
    | true => simp [ofInt, h]
    | false =>
      have ho : ofInt Q (.int a) = false := h
      rw [ho]
      simpa using this
theorem mOp2_dd {sem : D → D → Option D} {f g : M D} {ρ ρ1 ρ2 : Cells} {x y r : D} (h1 : f ρ = .ok x ρ1) (h2 : g ρ1 = .ok y ρ2) (h3 : sem x y = some r) : mOp2 sem (.dat f) (.dat g) ρ = .ok r ρ2 := by
  unfold mOp2 M.bind
  simp [Opn.pre, h1, h2, Out.andThen, rdM, Opn.rd, M.lift, h3]
theorem mB_ok {f : M D} {ρ ρ1 : Cells} {b : Bool} (h : f ρ = .ok (.bl b) ρ1) : mB f ρ = .ok b ρ1 := by
  unfold mB M.bind
  simp [h, Out.andThen, M.pure]
def idxI (rows : List (List Int)) (p : List (Option Int)) (s : Int) : Int := ((rowAt rows s).idxOf (plAt p s) : Nat)
theorem find_ints (Q : Int → Bool) : ∀ l : List Int, (l.map D.int).find? (ofInt Q) = (l.find? Q).map .int
  | [] => rfl
  | a :: l => by
    rw [List.map_cons, List.find?_cons, List.find?_cons, show ofInt Q (.int a) = Q a from rfl, find_ints Q l]
    cases Q a <;> rfl
def farQ (rows : List (List Int)) (p : List (Option Int)) (t s : Int) : Bool := decide (t < idxI rows p s)
def optI : Option Int → D
  | some s => .int s
  | none => .non
theorem e_first_far {n t : Int} {rows : List (List Int)} {p : List (Option Int)} {st : List Int} (hok : PlOk rows p) :
    m_first_far [farmD n rows t, plcD p, .tup (st.map .int)] = .ret (optI ((mvF st 0 p).find? (farQ rows p t))) [] := by
  obtain ⟨ρ', ⟨x, hρ⟩, e⟩ := loop_find (g := gNm 3) (body := mIfS (mB (mOp2 sGt (.dat (mCallF m_place_in_list [(.dat (mVar 0)), (.dat (mVar 1)), (.dat (mVar 3))])) (.dat (mFld (mVar 0) "most")))) (mRet (mVar 3)) mSkip)
    (fun ρ => ∃ x, ρ = [.dat (farmD n rows t), .dat (plcD p), .dat (.tup (st.map .int)), x]) (ofInt (farQ rows p t)) id ((mvF st 0 p).map .int) [.dat (farmD n rows t), .dat (plcD p), .dat (.tup (st.map .int)), .no] ⟨.no, rfl⟩
    (fun dd ρ hd ⟨x, hρ⟩ => by
      obtain ⟨s, hs, rfl⟩ := List.mem_map.mp hd
      subst hρ
      have z1 : m_place_in_list [.rcd ["many", "rows", "most"] [.int n, .tup (rows.map rowD), .int t], plcD p, .int s] = .ret (.int (idxI rows p s)) [] := e_pil' (mv_pres hs) hok
      refine ⟨[.dat (farmD n rows t), .dat (plcD p), .dat (.tup (st.map .int)), .dat (.int s)], by simp [gNm], [.dat (farmD n rows t), .dat (plcD p), .dat (.tup (st.map .int)), .dat (.int s)], ⟨_, rfl⟩, ?_⟩
      by_cases h : t < idxI rows p s
      · simp [mkFn, mSeq, mIfS, mDo, mRet, mRetN, mSkip, mExpr, mAsg, mAnd, mOr, mNot, mAndV, mOrV, mNotV, mB, mIf, mV, mNeg, mCall, mOp2, mTup, mLst, mMeth, mSl, mPart, preL, seqM, M.bind, M.pure, M.lift, M.stuck, Out.andThen, mVar, Opn.pre, Opn.rd, rdM, rdLM, rdL, cellD, initC, initAt, outsOf, outAt, gNm, gTp, gNms, mNew, mFrz, mPar, mFld, mCallF, mCallK, mCallN, appF, rdA, setOuts, ownSlots, ownPos, mSeqI, mEnum, mRange1, itemsOf, farmD, z1, lk_most, sGt, h, ofInt, farQ]
      · simp [mkFn, mSeq, mIfS, mDo, mRet, mRetN, mSkip, mExpr, mAsg, mAnd, mOr, mNot, mAndV, mOrV, mNotV, mB, mIf, mV, mNeg, mCall, mOp2, mTup, mLst, mMeth, mSl, mPart, preL, seqM, M.bind, M.pure, M.lift, M.stuck, Out.andThen, mVar, Opn.pre, Opn.rd, rdM, rdLM, rdL, cellD, initC, initAt, outsOf, outAt, gNm, gTp, gNms, mNew, mFrz, mPar, mFld, mCallF, mCallK, mCallN, appF, rdA, setOuts, ownSlots, ownPos, mSeqI, mEnum, mRange1, itemsOf, farmD, z1, lk_most, sGt, h, ofInt, farQ])
  subst hρ
  rw [find_ints] at e
  have f1 : mSeqI (mCallF m_movers [(.dat (mVar 1)), (.dat (mVar 2))]) [.dat (farmD n rows t), .dat (plcD p), .dat (.tup (st.map .int)), .no] = .ok ((mvF st 0 p).map .int) [.dat (farmD n rows t), .dat (plcD p), .dat (.tup (st.map .int)), .no] := by
    have := e_movers p st
    simp [mkFn, mSeq, mIfS, mDo, mRet, mRetN, mSkip, mExpr, mAsg, mAnd, mOr, mNot, mAndV, mOrV, mNotV, mB, mIf, mV, mNeg, mCall, mOp2, mTup, mLst, mMeth, mSl, mPart, preL, seqM, M.bind, M.pure, M.lift, M.stuck, Out.andThen, mVar, Opn.pre, Opn.rd, rdM, rdLM, rdL, cellD, initC, initAt, outsOf, outAt, gNm, gTp, gNms, mNew, mFrz, mPar, mFld, mCallF, mCallK, mCallN, appF, rdA, setOuts, ownSlots, ownPos, mSeqI, mEnum, mRange1, itemsOf, this]
  unfold m_first_far
  rw [mkFn_ret (d := optI ((mvF st 0 p).find? (farQ rows p t))) (ρ := [.dat (farmD n rows t), .dat (plcD p), .dat (.tup (st.map .int)), x]) (by
    show b_first_far [.dat (farmD n rows t), .dat (plcD p), .dat (.tup (st.map .int)), .no] = _
    unfold b_first_far
    cases hf : (mvF st 0 p).find? (farQ rows p t) with
    | some z =>
      rw [hf] at e
      rw [mSeq_ret (by rw [mFor_next f1]; exact e)]
      rfl
    | none =>
      rw [hf] at e
      rw [mSeq_next (by rw [mFor_next f1]; exact e)]
      rfl)]
  rfl
end
section
theorem mLenF_ok {F : Fn} {fe : M D} {ρ ρ1 : Cells} {d : D} {k : Int} {o : List D} (h1 : fe ρ = .ok d ρ1) (h2 : isRcd d = true) (h3 : F [d] = .ret (.int k) o) (h4 : 0 ≤ k ∧ k < 2 ^ 63) : mLenF F fe ρ = .ok (.int k) ρ1 := by
  unfold mLenF M.bind
  rw [h1]
  show (if isRcd d = true then _ else _) = _
  rw [if_pos h2, h3]
  exact if_pos h4
theorem small63 {k : Nat} (h : k ≤ 1000) : (0 : Int) ≤ (k : Int) ∧ (k : Int) < 2 ^ 63 := by
  refine ⟨Int.natCast_nonneg k, ?_⟩
  have h2 : (k : Int) ≤ 1000 := by omega
  have h3 : (1000 : Int) < 2 ^ 63 := by decide
  exact Int.lt_of_le_of_lt h2 h3
theorem ix_row {rows : List (List Int)} {i : Nat} {r : List Int} (hr : rows[i]? = some r) : sIx (.tup (rows.map rowD)) (.int i) = some (rowD r) := by simp [sIx, atI_nat, hr]
theorem e_lenF {n t : Int} {rows : List (List Int)} (h : rows.length ≤ 1000) {ρ : Cells} (h0 : mVar 0 ρ = .ok (farmD n rows t) ρ) : mLenF m_Farmdd_lendd (mVar 0) ρ = .ok (.int rows.length) ρ := mLenF_ok h0 rfl (e_len n rows t) (small63 h)
theorem cp_body {n t : Int} {rows : List (List Int)} {p : List (Option Int)} (hok : PlOk rows p) (hrow : ∀ r ∈ rows, RowOk n r) {j : Nat} {o : Option Int} (hj : p[j]? = some o) :
    mIfS (mAnd (mB (mOp2 sNotN (.dat (mVar 3)) (.dat (M.pure .non)))) (mOr (mNot (mB (mCallF m_is_from [(.dat (mVar 3)), (.dat (M.pure (.int 0))), (.dat (mOp2 sSub (.dat (mFld (mVar 0) "many")) (.dat (M.pure (.int 1)))))]))) (mB (mOp2 sNin (.dat (mVar 3)) (.dat (mOp2 sIx (.dat (mFld (mVar 0) "rows")) (.dat (mVar 2)))))))) (mRaise 2 [(mVar 2)]) mSkip [.dat (farmD n rows t), .dat (plcD p), .dat (.int j), .dat (optD o)] = .next [.dat (farmD n rows t), .dat (plcD p), .dat (.int j), .dat (optD o)] := by
  cases o with
  | none => simp [mkFn, mSeq, mIfS, mDo, mRet, mRetN, mSkip, mExpr, mAsg, mAnd, mOr, mNot, mAndV, mOrV, mNotV, mB, mIf, mV, mNeg, mCall, mOp2, mTup, mLst, mMeth, mSl, mPart, preL, seqM, M.bind, M.pure, M.lift, M.stuck, Out.andThen, mVar, Opn.pre, Opn.rd, rdM, rdLM, rdL, cellD, initC, initAt, outsOf, outAt, gNm, gTp, gNms, mNew, mFrz, mPar, mFld, mCallF, mCallK, mCallN, appF, rdA, setOuts, ownSlots, ownPos, mSeqI, mEnum, mRange1, itemsOf, optD, sNotN, isNon]
  | some v =>
    obtain ⟨r, h1, h2⟩ := hok j v hj
    obtain ⟨k1, k2⟩ := (hrow r (List.mem_of_getElem? h1)).2.1 v h2
    have k3 : v ≤ n - 1 := by omega
    have z1 := ix_row h1
    have z2 : sNin (.int v) (rowD r) = some (.bl false) := by
      have := sNin_tup v r
      rwa [decide_eq_true h2] at this
    simp [mkFn, mSeq, mIfS, mDo, mRet, mRetN, mSkip, mExpr, mAsg, mAnd, mOr, mNot, mAndV, mOrV, mNotV, mB, mIf, mV, mNeg, mCall, mOp2, mTup, mLst, mMeth, mSl, mPart, preL, seqM, M.bind, M.pure, M.lift, M.stuck, Out.andThen, mVar, Opn.pre, Opn.rd, rdM, rdLM, rdL, cellD, initC, initAt, outsOf, outAt, gNm, gTp, gNms, mNew, mFrz, mPar, mFld, mCallF, mCallK, mCallN, appF, rdA, setOuts, ownSlots, ownPos, mSeqI, mEnum, mRange1, itemsOf, optD, sNotN, isNon, farmD, lk_many, lk_rows, sSub, e_is_from, k1, k3, z1, z2]
theorem cp_tup {p : List (Option Int)} : sIsi [plcD p, .raw (.ty "tuple")] = some (.bl true) := by simp [sIsi, plcD, tyName, kit_tt]
theorem cp_len {p : List (Option Int)} : sLen [plcD p] = some (.int p.length) := by simp [sLen, plcD]
theorem cp_head {F : M D} {n t : Int} {rows : List (List Int)} {p : List (Option Int)} (hlen : p.length = rows.length) (g4 : F [.dat (farmD n rows t), .dat (plcD p), .no, .no] = .ok (.int rows.length) [.dat (farmD n rows t), .dat (plcD p), .no, .no]) : (mIfS (mOr (mNot (mB (mCall sIsi [(.dat (mVar 1)), (.dat (M.pure (.raw (.ty "tuple"))))]))) (mB (mOp2 sNe (.dat (mCall sLen [(.dat (mVar 1))])) (.dat F)))) (mRaise 2 [(mNeg (M.pure (.int 1)))]) mSkip) [.dat (farmD n rows t), .dat (plcD p), .no, .no] = .next [.dat (farmD n rows t), .dat (plcD p), .no, .no] := by
  simp [mkFn, mSeq, mIfS, mDo, mRet, mRetN, mSkip, mExpr, mAsg, mAnd, mOr, mNot, mAndV, mOrV, mNotV, mB, mIf, mV, mNeg, mCall, mOp2, mTup, mLst, mMeth, mSl, mPart, preL, seqM, M.bind, M.pure, M.lift, M.stuck, Out.andThen, mVar, Opn.pre, Opn.rd, rdM, rdLM, rdL, cellD, initC, initAt, outsOf, outAt, gNm, gTp, gNms, mNew, mFrz, mPar, mFld, mCallF, mCallK, mCallN, appF, rdA, setOuts, ownSlots, ownPos, mSeqI, mEnum, mRange1, itemsOf, cp_tup, cp_len, g4, sNe_int, hlen]
theorem e_check_placement {n t : Int} {rows : List (List Int)} {p : List (Option Int)} (hlen : p.length = rows.length) (h1000 : rows.length ≤ 1000) (hok : PlOk rows p) (hrow : ∀ r ∈ rows, RowOk n r) :
    m_check_placement [farmD n rows t, plcD p] = .ret .non [] := by
  obtain ⟨ρ', e, x, y, hρ⟩ := loop_inv (g := gTp [2, 3]) (body := mIfS (mAnd (mB (mOp2 sNotN (.dat (mVar 3)) (.dat (M.pure .non)))) (mOr (mNot (mB (mCallF m_is_from [(.dat (mVar 3)), (.dat (M.pure (.int 0))), (.dat (mOp2 sSub (.dat (mFld (mVar 0) "many")) (.dat (M.pure (.int 1)))))]))) (mB (mOp2 sNin (.dat (mVar 3)) (.dat (mOp2 sIx (.dat (mFld (mVar 0) "rows")) (.dat (mVar 2)))))))) (mRaise 2 [(mVar 2)]) mSkip)
    (fun _ ρ => ∃ x y, ρ = [.dat (farmD n rows t), .dat (plcD p), x, y]) (enumD 0 (p.map optD)) 0 [.dat (farmD n rows t), .dat (plcD p), .no, .no] ⟨.no, .no, rfl⟩
    (fun i dd ρ hd ⟨x, y, hρ⟩ => by
      obtain ⟨j, o, hj, rfl⟩ := enum_mem (List.mem_of_getElem? hd)
      subst hρ
      exact ⟨[.dat (farmD n rows t), .dat (plcD p), .dat (.int j), .dat (optD o)], by simp [gTp, gNms], [.dat (farmD n rows t), .dat (plcD p), .dat (.int j), .dat (optD o)], cp_body hok hrow hj, _, _, rfl⟩)
  subst hρ
  unfold m_check_placement
  rw [mkFn_next (ρ := [.dat (farmD n rows t), .dat (plcD p), x, y]) (by
    show b_check_placement [.dat (farmD n rows t), .dat (plcD p), .no, .no] = _
    unfold b_check_placement
    rw [mSeq_next (cp_head hlen (e_lenF h1000 rfl))]
    rw [mFor_next (ds := enumD 0 (p.map optD)) (ρ1 := [.dat (farmD n rows t), .dat (plcD p), .no, .no]) (by simp [mkFn, mSeq, mIfS, mDo, mRet, mRetN, mSkip, mExpr, mAsg, mAnd, mOr, mNot, mAndV, mOrV, mNotV, mB, mIf, mV, mNeg, mCall, mOp2, mTup, mLst, mMeth, mSl, mPart, preL, seqM, M.bind, M.pure, M.lift, M.stuck, Out.andThen, mVar, Opn.pre, Opn.rd, rdM, rdLM, rdL, cellD, initC, initAt, outsOf, outAt, gNm, gTp, gNms, mNew, mFrz, mPar, mFld, mCallF, mCallK, mCallN, appF, rdA, setOuts, ownSlots, ownPos, mSeqI, mEnum, mRange1, itemsOf, plcD])]
    exact e)]
  rfl
theorem nd_take : ∀ {l : List Int} {i : Nat} {v : Int}, l.Nodup → l[i]? = some v → v ∉ l.take i
  | [], i, v, _, h => by simp at h
  | a :: l, 0, v, _, h => by simp
  | a :: l, i + 1, v, hn, h => by
    obtain ⟨h1, h2⟩ := List.nodup_cons.mp hn
    have h3 : l[i]? = some v := by simpa using h
    have h4 := List.mem_of_getElem? h3
    rw [List.take_succ_cons, List.mem_cons]
    rintro (z | z)
    · exact h1 (by rw [← z]; exact h4)
    · exact nd_take h2 h3 z
theorem cs_body {F : M D} {n t : Int} {rows : List (List Int)} {p : List (Option Int)} {st : List Int} (hlen : p.length = rows.length) (hst : StOk p st) {i : Nat} {v : Int} (hi : st[i]? = some v) (g4 : F [.dat (farmD n rows t), .dat (plcD p), .dat (.tup (st.map .int)), .dat (.int i), .dat (.int v)] = .ok (.int rows.length) [.dat (farmD n rows t), .dat (plcD p), .dat (.tup (st.map .int)), .dat (.int i), .dat (.int v)]) :
    mIfS (mOr (mNot (mB (mCallF m_is_from [(.dat (mVar 4)), (.dat (M.pure (.int 0))), (.dat (mOp2 sSub (.dat F) (.dat (M.pure (.int 1)))))]))) (mOr (mB (mOp2 sIn (.dat (mVar 4)) (.dat (mSl sCut (.dat (mVar 2)) none (some (mVar 3)))))) (mB (mOp2 sIsN (.dat (mOp2 sIx (.dat (mVar 1)) (.dat (mVar 4)))) (.dat (M.pure .non)))))) (mRaise 3 [(mVar 3)]) mSkip [.dat (farmD n rows t), .dat (plcD p), .dat (.tup (st.map .int)), .dat (.int i), .dat (.int v)] = .next [.dat (farmD n rows t), .dat (plcD p), .dat (.tup (st.map .int)), .dat (.int i), .dat (.int v)] := by
  have hp := st_pres hst (List.mem_of_getElem? hi)
  have z3 := sIx_pl hp
  obtain ⟨j, x, hj, hx⟩ := hp
  have hjl := (List.getElem?_eq_some_iff.mp hx).1
  have k1 : 0 ≤ v := by omega
  have k2 : v ≤ (rows.length : Int) - 1 := by omega
  have z1 : sCut (.tup (st.map .int)) none (some (i : Int)) = some (.tup ((st.take i).map .int)) := by simp [sCut, cut_take, List.map_take]
  have z2 : sIn (.int v) (.tup ((st.take i).map .int)) = some (.bl false) := by
    have := sIn_tup v (st.take i)
    rwa [decide_eq_false (nd_take hst.nd hi)] at this
  simp only [List.map_take] at z2 z1
  simp [mkFn, mSeq, mIfS, mDo, mRet, mRetN, mSkip, mExpr, mAsg, mAnd, mOr, mNot, mAndV, mOrV, mNotV, mB, mIf, mV, mNeg, mCall, mOp2, mTup, mLst, mMeth, mSl, mPart, preL, seqM, M.bind, M.pure, M.lift, M.stuck, Out.andThen, mVar, Opn.pre, Opn.rd, rdM, rdLM, rdL, cellD, initC, initAt, outsOf, outAt, gNm, gTp, gNms, mNew, mFrz, mPar, mFld, mCallF, mCallK, mCallN, appF, rdA, setOuts, ownSlots, ownPos, mSeqI, mEnum, mRange1, itemsOf, g4, sSub, e_is_from, k1, k2, z1, z2, z3, sIsN, isNon]
theorem cs_head {S : D} {x y : Cell} (g1 : sIsi [S, .raw (.ty "tuple")] = some (.bl true)) : (mIfS (mNot (mB (mCall sIsi [(.dat (mVar 2)), (.dat (M.pure (.raw (.ty "tuple"))))]))) (mRaise 3 [(mNeg (M.pure (.int 1)))]) mSkip) [x, y, .dat S, .no, .no] = .next [x, y, .dat S, .no, .no] := by
  simp [mkFn, mSeq, mIfS, mDo, mRet, mRetN, mSkip, mExpr, mAsg, mAnd, mOr, mNot, mAndV, mOrV, mNotV, mB, mIf, mV, mNeg, mCall, mOp2, mTup, mLst, mMeth, mSl, mPart, preL, seqM, M.bind, M.pure, M.lift, M.stuck, Out.andThen, mVar, Opn.pre, Opn.rd, rdM, rdLM, rdL, cellD, initC, initAt, outsOf, outAt, gNm, gTp, gNms, mNew, mFrz, mPar, mFld, mCallF, mCallK, mCallN, appF, rdA, setOuts, ownSlots, ownPos, mSeqI, mEnum, mRange1, itemsOf, g1]
theorem cs_tup (st : List Int) : sIsi [.tup (st.map .int), .raw (.ty "tuple")] = some (.bl true) := by simp [sIsi, tyName, kit_tt]
theorem cs_loop {n t : Int} {rows : List (List Int)} {p : List (Option Int)} {st : List Int} (B : MS) (h : ∀ (i : Nat) (v : Int), st[i]? = some v → B [.dat (farmD n rows t), .dat (plcD p), .dat (.tup (st.map .int)), .dat (.int i), .dat (.int v)] = .next [.dat (farmD n rows t), .dat (plcD p), .dat (.tup (st.map .int)), .dat (.int i), .dat (.int v)]) :
    ∃ x y, loopM (gTp [3, 4]) B (enumD 0 (st.map .int)) [.dat (farmD n rows t), .dat (plcD p), .dat (.tup (st.map .int)), .no, .no] = .next [.dat (farmD n rows t), .dat (plcD p), .dat (.tup (st.map .int)), x, y] := by
  obtain ⟨ρ', e, x, y, hρ⟩ := loop_inv (g := gTp [3, 4]) (body := B)
    (fun _ ρ => ∃ x y, ρ = [.dat (farmD n rows t), .dat (plcD p), .dat (.tup (st.map .int)), x, y]) (enumD 0 (st.map .int)) 0 [.dat (farmD n rows t), .dat (plcD p), .dat (.tup (st.map .int)), .no, .no] ⟨.no, .no, rfl⟩
    (fun i dd ρ hd ⟨x, y, hρ⟩ => by
      obtain ⟨d', h7, rfl⟩ := enumD_inv 0 i _ _ hd
      rw [List.getElem?_map] at h7
      cases hr : st[i]? with
      | none => rw [hr] at h7; cases h7
      | some v =>
        rw [hr] at h7
        cases h7
        subst hρ
        rw [Nat.zero_add]
        exact ⟨[.dat (farmD n rows t), .dat (plcD p), .dat (.tup (st.map .int)), .dat (.int i), .dat (.int v)], by simp [gTp, gNms], [.dat (farmD n rows t), .dat (plcD p), .dat (.tup (st.map .int)), .dat (.int i), .dat (.int v)], h i v hr, _, _, rfl⟩)
  subst hρ
  exact ⟨x, y, e⟩
theorem cs_fin {n t : Int} {rows : List (List Int)} {p : List (Option Int)} {st : List Int} (h : ∃ x y, loopM (gTp [3, 4]) (mIfS (mOr (mNot (mB (mCallF m_is_from [(.dat (mVar 4)), (.dat (M.pure (.int 0))), (.dat (mOp2 sSub (.dat (mLenF m_Farmdd_lendd (mVar 0))) (.dat (M.pure (.int 1)))))]))) (mOr (mB (mOp2 sIn (.dat (mVar 4)) (.dat (mSl sCut (.dat (mVar 2)) none (some (mVar 3)))))) (mB (mOp2 sIsN (.dat (mOp2 sIx (.dat (mVar 1)) (.dat (mVar 4)))) (.dat (M.pure .non)))))) (mRaise 3 [(mVar 3)]) mSkip) (enumD 0 (st.map .int)) [.dat (farmD n rows t), .dat (plcD p), .dat (.tup (st.map .int)), .no, .no] = .next [.dat (farmD n rows t), .dat (plcD p), .dat (.tup (st.map .int)), x, y]) :
    ∃ x y, b_check_staying [.dat (farmD n rows t), .dat (plcD p), .dat (.tup (st.map .int)), .no, .no] = .next [.dat (farmD n rows t), .dat (plcD p), .dat (.tup (st.map .int)), x, y] := by
  obtain ⟨x, y, e⟩ := h
  refine ⟨x, y, ?_⟩
  unfold b_check_staying
  rw [mSeq_next (cs_head (cs_tup st))]
  rw [mFor_next (ds := enumD 0 (st.map .int)) (ρ1 := [.dat (farmD n rows t), .dat (plcD p), .dat (.tup (st.map .int)), .no, .no]) (by simp [mkFn, mSeq, mIfS, mDo, mRet, mRetN, mSkip, mExpr, mAsg, mAnd, mOr, mNot, mAndV, mOrV, mNotV, mB, mIf, mV, mNeg, mCall, mOp2, mTup, mLst, mMeth, mSl, mPart, preL, seqM, M.bind, M.pure, M.lift, M.stuck, Out.andThen, mVar, Opn.pre, Opn.rd, rdM, rdLM, rdL, cellD, initC, initAt, outsOf, outAt, gNm, gTp, gNms, mNew, mFrz, mPar, mFld, mCallF, mCallK, mCallN, appF, rdA, setOuts, ownSlots, ownPos, mSeqI, mEnum, mRange1, itemsOf])]
  exact e
theorem cs_end {n t : Int} {rows : List (List Int)} {p : List (Option Int)} {st : List Int} (h : ∃ x y, b_check_staying [.dat (farmD n rows t), .dat (plcD p), .dat (.tup (st.map .int)), .no, .no] = .next [.dat (farmD n rows t), .dat (plcD p), .dat (.tup (st.map .int)), x, y]) :
    m_check_staying [farmD n rows t, plcD p, .tup (st.map .int)] = .ret .non [] := by
  obtain ⟨x, y, e⟩ := h
  exact mkFn_next (k := 5) (bs := []) (m := b_check_staying) (ds := [farmD n rows t, plcD p, .tup (st.map .int)]) e
theorem e_check_staying {n t : Int} {rows : List (List Int)} {p : List (Option Int)} {st : List Int} (hlen : p.length = rows.length) (h1000 : rows.length ≤ 1000) (hst : StOk p st) :
    m_check_staying [farmD n rows t, plcD p, .tup (st.map .int)] = .ret .non [] :=
  cs_end (cs_fin (cs_loop (mIfS (mOr (mNot (mB (mCallF m_is_from [(.dat (mVar 4)), (.dat (M.pure (.int 0))), (.dat (mOp2 sSub (.dat (mLenF m_Farmdd_lendd (mVar 0))) (.dat (M.pure (.int 1)))))]))) (mOr (mB (mOp2 sIn (.dat (mVar 4)) (.dat (mSl sCut (.dat (mVar 2)) none (some (mVar 3)))))) (mB (mOp2 sIsN (.dat (mOp2 sIx (.dat (mVar 1)) (.dat (mVar 4)))) (.dat (M.pure .non)))))) (mRaise 3 [(mVar 3)]) mSkip) fun i v hi => cs_body hlen hst hi (e_lenF h1000 rfl)))
theorem mem_insI {a x : Int} : ∀ {l : List Int}, x ∈ insI a l ↔ x = a ∨ x ∈ l
  | [] => by simp [insI]
  | b :: l => by
    unfold insI
    split
    · simp
    · rw [List.mem_cons, mem_insI, List.mem_cons]
      constructor
      · rintro (h | h | h)
        · exact .inr (.inl h)
        · exact .inl h
        · exact .inr (.inr h)
      · rintro (h | h | h)
        · exact .inr (.inl h)
        · exact .inl h
        · exact .inr (.inr h)
theorem mem_sortI {x : Int} : ∀ {l : List Int}, x ∈ sortI l ↔ x ∈ l
  | [] => by simp [sortI]
  | a :: l => by
    unfold sortI
    rw [mem_insI, mem_sortI, List.mem_cons]
def hQ (rows : List (List Int)) (p : List (Option Int)) (s o : Int) : Bool := decide (plAt p o ∈ passI rows p s)
theorem held_any {rows : List (List Int)} {p : List (Option Int)} {st : List Int} {s : Int} : (sortI st).any (hQ rows p s) = heldBy rows p st s := by
  rw [Bool.eq_iff_iff, List.any_eq_true]
  unfold heldBy hQ
  rw [decide_eq_true_iff]
  constructor
  · rintro ⟨o, h1, h2⟩
    exact List.ne_nil_of_mem (List.mem_filter.mpr ⟨mem_sortI.mp h1, h2⟩)
  · intro h
    obtain ⟨o, ho⟩ := List.exists_mem_of_ne_nil _ h
    obtain ⟨h1, h2⟩ := List.mem_filter.mp ho
    exact ⟨o, mem_sortI.mpr h1, h2⟩
def heldF (rows : List (List Int)) (p : List (Option Int)) (st : List Int) : D → D
  | .int s => match (sortI st).find? (hQ rows p s) with
    | some o => .tup [.int s, .int o]
    | none => .non
  | _ => .non
theorem fh_in {n t : Int} {rows : List (List Int)} {p : List (Option Int)} {st : List Int} (hok : PlOk rows p) (hst : StOk p st) {s : Int} (hs : Pres p s) (x y : Cell) :
    ∃ z z2, (mSeq (mAsg (mCallF m_passed_over [(.dat (mVar 0)), (.dat (mVar 1)), (.dat (mVar 3))]) (gNm 4)) (mFor (mSeqI (mCall sSorted [(.dat (mVar 2))])) (gNm 5) (mIfS (mB (mOp2 sIn (.dat (mOp2 sIx (.dat (mVar 1)) (.dat (mVar 5)))) (.dat (mVar 4)))) (mRet (mTup [(mVar 3), (mVar 5)])) mSkip))) [.dat (farmD n rows t), .dat (plcD p), .dat (.tup (st.map .int)), .dat (.int s), x, y] =
      if heldBy rows p st s = true then .ret (heldF rows p st (.int s)) [.dat (farmD n rows t), .dat (plcD p), .dat (.tup (st.map .int)), .dat (.int s), z, z2] else .next [.dat (farmD n rows t), .dat (plcD p), .dat (.tup (st.map .int)), .dat (.int s), z, z2] := by
  have z1 := e_po' (n := n) (t := t) hs hok
  obtain ⟨ρ', ⟨w, hρ⟩, e⟩ := loop_find (g := gNm 5) (body := mIfS (mB (mOp2 sIn (.dat (mOp2 sIx (.dat (mVar 1)) (.dat (mVar 5)))) (.dat (mVar 4)))) (mRet (mTup [(mVar 3), (mVar 5)])) mSkip)
    (fun ρ => ∃ w, ρ = [.dat (farmD n rows t), .dat (plcD p), .dat (.tup (st.map .int)), .dat (.int s), .dat (rowD (passI rows p s)), w]) (ofInt (hQ rows p s)) (fun d => .tup [.int s, d]) ((sortI st).map .int) [.dat (farmD n rows t), .dat (plcD p), .dat (.tup (st.map .int)), .dat (.int s), .dat (rowD (passI rows p s)), y] ⟨y, rfl⟩
    (fun dd ρ hd ⟨w, hρ⟩ => by
      obtain ⟨o, ho, rfl⟩ := List.mem_map.mp hd
      subst hρ
      have q1 := sIx_pl (st_pres hst (mem_sortI.mp ho))
      have q2 : sIn (.int (plAt p o)) (rowD (passI rows p s)) = some (.bl (hQ rows p s o)) := sIn_tup _ _
      refine ⟨[.dat (farmD n rows t), .dat (plcD p), .dat (.tup (st.map .int)), .dat (.int s), .dat (rowD (passI rows p s)), .dat (.int o)], by simp [gNm], [.dat (farmD n rows t), .dat (plcD p), .dat (.tup (st.map .int)), .dat (.int s), .dat (rowD (passI rows p s)), .dat (.int o)], ⟨_, rfl⟩, ?_⟩
      cases hh : hQ rows p s o with
      | true =>
        rw [hh] at q2
        simp [mkFn, mSeq, mIfS, mDo, mRet, mRetN, mSkip, mExpr, mAsg, mAnd, mOr, mNot, mAndV, mOrV, mNotV, mB, mIf, mV, mNeg, mCall, mOp2, mTup, mLst, mMeth, mSl, mPart, preL, seqM, M.bind, M.pure, M.lift, M.stuck, Out.andThen, mVar, Opn.pre, Opn.rd, rdM, rdLM, rdL, cellD, initC, initAt, outsOf, outAt, gNm, gTp, gNms, mNew, mFrz, mPar, mFld, mCallF, mCallK, mCallN, appF, rdA, setOuts, ownSlots, ownPos, mSeqI, mEnum, mRange1, itemsOf, q1, q2, ofInt, hh]
      | false =>
        rw [hh] at q2
        simp [mkFn, mSeq, mIfS, mDo, mRet, mRetN, mSkip, mExpr, mAsg, mAnd, mOr, mNot, mAndV, mOrV, mNotV, mB, mIf, mV, mNeg, mCall, mOp2, mTup, mLst, mMeth, mSl, mPart, preL, seqM, M.bind, M.pure, M.lift, M.stuck, Out.andThen, mVar, Opn.pre, Opn.rd, rdM, rdLM, rdL, cellD, initC, initAt, outsOf, outAt, gNm, gTp, gNms, mNew, mFrz, mPar, mFld, mCallF, mCallK, mCallN, appF, rdA, setOuts, ownSlots, ownPos, mSeqI, mEnum, mRange1, itemsOf, q1, q2, ofInt, hh])
  subst hρ
  rw [find_ints] at e
  refine ⟨.dat (rowD (passI rows p s)), w, ?_⟩
  have f1 : mSeqI (mCall sSorted [(.dat (mVar 2))]) [.dat (farmD n rows t), .dat (plcD p), .dat (.tup (st.map .int)), .dat (.int s), .dat (rowD (passI rows p s)), y] = .ok ((sortI st).map .int) [.dat (farmD n rows t), .dat (plcD p), .dat (.tup (st.map .int)), .dat (.int s), .dat (rowD (passI rows p s)), y] := by
    simp [mkFn, mSeq, mIfS, mDo, mRet, mRetN, mSkip, mExpr, mAsg, mAnd, mOr, mNot, mAndV, mOrV, mNotV, mB, mIf, mV, mNeg, mCall, mOp2, mTup, mLst, mMeth, mSl, mPart, preL, seqM, M.bind, M.pure, M.lift, M.stuck, Out.andThen, mVar, Opn.pre, Opn.rd, rdM, rdLM, rdL, cellD, initC, initAt, outsOf, outAt, gNm, gTp, gNms, mNew, mFrz, mPar, mFld, mCallF, mCallK, mCallN, appF, rdA, setOuts, ownSlots, ownPos, mSeqI, mEnum, mRange1, itemsOf, sSorted, intsOf_map]
  rw [mSeq_next (ρ' := [.dat (farmD n rows t), .dat (plcD p), .dat (.tup (st.map .int)), .dat (.int s), .dat (rowD (passI rows p s)), y]) (by simp [mkFn, mSeq, mIfS, mDo, mRet, mRetN, mSkip, mExpr, mAsg, mAnd, mOr, mNot, mAndV, mOrV, mNotV, mB, mIf, mV, mNeg, mCall, mOp2, mTup, mLst, mMeth, mSl, mPart, preL, seqM, M.bind, M.pure, M.lift, M.stuck, Out.andThen, mVar, Opn.pre, Opn.rd, rdM, rdLM, rdL, cellD, initC, initAt, outsOf, outAt, gNm, gTp, gNms, mNew, mFrz, mPar, mFld, mCallF, mCallK, mCallN, appF, rdA, setOuts, ownSlots, ownPos, mSeqI, mEnum, mRange1, itemsOf, z1])]
  rw [mFor_next f1, e, ← held_any]
  cases hf : (sortI st).find? (hQ rows p s) with
  | some o =>
    have := List.find?_some hf
    have h2 : (sortI st).any (hQ rows p s) = true := List.any_eq_true.mpr ⟨o, List.mem_of_find?_eq_some hf, this⟩
    rw [if_pos h2]
    simp only [heldF, hf]
    rfl
  | none =>
    have h2 : ¬ (sortI st).any (hQ rows p s) = true := by
      intro z
      obtain ⟨o, h1, h2⟩ := List.any_eq_true.mp z
      exact List.find?_eq_none.mp hf o h1 h2
    rw [if_neg h2]
    rfl
end
section
theorem while_two {t : M Bool} {body : MS} (I : Nat → Cells → Prop) (E : Cells → Prop) (Rt : D → Cells → Prop) (h : ∀ (m : Nat) (ρ : Cells), I m ρ → ∃ b ρ1, t ρ = .ok b ρ1 ∧ (b = false → E ρ1) ∧ (b = true → (∃ ρ2 m', body ρ1 = .next ρ2 ∧ m' < m ∧ I m' ρ2) ∨ ∃ d ρ2, body ρ1 = .ret d ρ2 ∧ Rt d ρ2)) :
    ∀ (n m : Nat) (ρ : Cells), m < n → I m ρ → ∃ ρ', (whileM t body n ρ = .next ρ' ∧ E ρ') ∨ ∃ d, whileM t body n ρ = .ret d ρ' ∧ Rt d ρ'
  | 0, _, _, hn, _ => by omega
  | n + 1, m, ρ, hn, hI => by
    obtain ⟨b, ρ1, h1, h2, h3⟩ := h m ρ hI
    unfold whileM
    simp only [h1]
    cases b with
    | false => exact ⟨ρ1, .inl ⟨by simp, h2 rfl⟩⟩
    | true =>
      rcases h3 rfl with ⟨ρ2, m', h4, h5, h6⟩ | ⟨d, ρ2, h4, h5⟩
      · obtain ⟨ρ', e⟩ := while_two I E Rt h n m' ρ2 (by omega) h6
        exact ⟨ρ', by simpa [h4] using e⟩
      · exact ⟨ρ2, .inr ⟨d, by simp [h4], h5⟩⟩
theorem dcM_pure {g : TgM} {fk fe : M D} {vs : List Nat} {w : Cells} (f : Int → D) : ∀ (l : List Int) (ks : List Key) (ρ : Cells), wipeC ρ vs = w → l.Nodup → (∀ i ∈ l, (Sum.inl i : Key) ∉ ks) →
    (∀ i ∈ l, ∃ ρ1, g (.int i) w = some ρ1 ∧ fk ρ1 = .ok (.int i) ρ1 ∧ fe ρ1 = .ok (f i) ρ1 ∧ wipeC ρ1 vs = w) →
    ∃ ρ', dcM g (M.pure true) fk fe vs (l.map .int) ks ρ = some ((l.map Sum.inl, l.map f), ρ') ∧ wipeC ρ' vs = w
  | [], ks, ρ, hw, _, _, _ => ⟨ρ, rfl, hw⟩
  | i :: l, ks, ρ, hw, hn, hk, h => by
    obtain ⟨n1, n2⟩ := List.nodup_cons.mp hn
    obtain ⟨ρ1, h1, h2, h3, h4⟩ := h i List.mem_cons_self
    obtain ⟨ρ', e, hw'⟩ := dcM_pure (g := g) (fk := fk) (fe := fe) f l (ks ++ [Sum.inl i]) ρ1 h4 n2 (fun j hj z => by
      rcases List.mem_append.mp z with z | z
      · exact hk j (List.mem_cons_of_mem _ hj) z
      · have z : (Sum.inl j : Key) = Sum.inl i := by simpa using z
        cases z
        exact n1 hj) fun x hx => h x (List.mem_cons_of_mem _ hx)
    refine ⟨ρ', ?_, hw'⟩
    have hf : ¬ (ks.any fun x => decide (x = (Sum.inl i : Key))) = true := by
      intro z
      obtain ⟨x, q1, q2⟩ := List.any_eq_true.mp z
      have q2 : x = Sum.inl i := of_decide_eq_true q2
      exact hk i List.mem_cons_self (by rw [← q2]; exact q1)
    rw [List.map_cons]
    unfold dcM
    rw [hw]
    simp only [h1, M.pure, h2, h3, keyD, if_neg hf, e]
    rfl
theorem mDc_pure {fi : M (List D)} {g : TgM} {fk fe : M D} {vs : List Nat} {ρ : Cells} {l : List Int} (f : Int → D) (hi : fi ρ = .ok (l.map .int) ρ) (ho : vs.all (fun v => !isOwn ρ[v]?) = true) (hn : l.Nodup)
    (h : ∀ i ∈ l, ∃ ρ1, g (.int i) (wipeC ρ vs) = some ρ1 ∧ fk ρ1 = .ok (.int i) ρ1 ∧ fe ρ1 = .ok (f i) ρ1 ∧ wipeC ρ1 vs = wipeC ρ vs) :
    mDc fi g (M.pure true) fk fe vs ρ = .ok (.dic (l.map Sum.inl) (l.map f)) ρ := by
  obtain ⟨ρ', e, hw⟩ := dcM_pure (g := g) (fk := fk) (fe := fe) f l [] ρ rfl hn (fun _ _ z => nomatch z) h
  unfold mDc M.bind
  rw [hi]
  show (if vs.all (fun v => !isOwn ρ[v]?) = true then _ else _) = _
  rw [if_pos ho, e]
  show Out.ok _ (unwipe ρ ρ' vs) = _
  rw [unwipe_same hw]
theorem valD_ints (f : Int → D) {i : Int} : ∀ {l : List Int}, i ∈ l → valD (l.map Sum.inl) (l.map f) (Sum.inl i) = some (f i)
  | [], h => nomatch h
  | a :: l, h => by
    unfold valD
    rw [List.map_cons, List.map_cons, List.zip_cons_cons, List.find?_cons]
    by_cases e : a = i
    · subst e
      simp
    · have h2 : i ∈ l := by
        rcases List.mem_cons.mp h with z | z
        · exact absurd z.symm e
        · exact z
      have e2 : ¬ (Sum.inl a : Key) = Sum.inl i := by
        intro z
        cases z
        exact e rfl
      simp only [e2, decide_false]
      exact valD_ints f h2
theorem sDix_ints (f : Int → D) {i : Int} {l : List Int} (h : i ∈ l) : sDix (.dic (l.map Sum.inl) (l.map f)) (.int i) = some (f i) := valD_ints f h
def Ps (rows : List (List Int)) (p : List (Option Int)) (s o : Int) : Prop := plAt p o ∈ passI rows p s
theorem sIx_last (w : List Int) (x : Int) : sIx (.lst ((w ++ [x]).map .int)) (.int (-1)) = some (.int x) := by
  have h : atI ((w ++ [x]).map D.int) (-1) = some (.int x) := by
    unfold atI ixN
    rw [if_neg (by omega)]
    rw [if_pos (by rw [List.length_map, List.length_append, List.length_singleton]; omega)]
    have z : ((((w ++ [x]).map D.int).length : Int) + (-1)).toNat = w.length := by
      rw [List.length_map, List.length_append, List.length_singleton]
      omega
    simp only [Option.bind_some, z]
    simp
    rw [show (-1 + ((w.length : Int) + 1)).toNat = w.length by omega]
    simp
  exact h
theorem sIx_zero (a : Int) (l : List Int) : sIx (.lst ((a :: l).map .int)) (.int 0) = some (.int a) := by
  have := atI_nat ((a :: l).map D.int) 0
  exact this
theorem sCut_last (w : List Int) (x : Int) : sCut (.lst ((w ++ [x]).map .int)) none (some (-1)) = some (.lst (w.map .int)) := by
  have h : cutD ((w ++ [x]).map D.int) none (some (-1)) = w.map .int := by
    unfold cutD
    rw [HT.sIx_none, Nat.sub_zero, List.drop_zero]
    have z : HT.sIx ((w ++ [x]).map D.int).length ((w ++ [x]).map D.int).length (some (-1)) = w.length := by
      rw [List.length_map, List.length_append, List.length_singleton]
      simp [HT.sIx]
      omega
    rw [z]
    simp
  show some (D.lst _) = _
  rw [h]
theorem flatE (v : Int) : flatD (.int v) = true := rfl
theorem sLix_in {v : Int} {r : List Int} (h : v ∈ r) : sLix (.lst (r.map .int)) [.int v] = some (.int (r.idxOf v)) := by
  unfold sLix sIndex
  simp only [itemsOf, Option.bind_some, flatE, flat_ints, Bool.and_self, if_true, idxF_ints v h, Option.map_some]
theorem ra_test (a b c : D) (w : List Int) (x : Int) (z1 z2 : Cell) :
    mB (mOp2 sNin (.dat (mOp2 sIx (.own 3) (.dat (mNeg (M.pure (.int 1)))))) (.dat (mSl sCut (.own 3) none (some (mNeg (M.pure (.int 1))))))) [.dat a, .dat b, .dat c, .own (.lst ((w ++ [x]).map .int)), z1, z2] = .ok (!decide (x ∈ w)) [.dat a, .dat b, .dat c, .own (.lst ((w ++ [x]).map .int)), z1, z2] := by
  have h1 := sIx_last w x
  have h2 := sCut_last w x
  have h3 := sNin_lst x w
  generalize (w ++ [x]).map D.int = W at h1 h2 ⊢
  simp [mkFn, mSeq, mIfS, mDo, mRet, mRetN, mSkip, mExpr, mAsg, mAnd, mOr, mNot, mAndV, mOrV, mNotV, mB, mIf, mV, mNeg, mCall, mOp2, mTup, mLst, mMeth, mSl, mPart, preL, seqM, M.bind, M.pure, M.lift, M.stuck, Out.andThen, mVar, Opn.pre, Opn.rd, rdM, rdLM, rdL, cellD, initC, initAt, outsOf, outAt, gNm, gTp, gNms, mNew, mFrz, mPar, mFld, mCallF, mCallK, mCallN, appF, rdA, setOuts, ownSlots, ownPos, mSeqI, mEnum, mRange1, itemsOf, h1, h2, h3]
theorem ra_body {n t : Int} {rows : List (List Int)} {p : List (Option Int)} (hok : PlOk rows p) {left : List Int} (hp : ∀ s ∈ left, Pres p s) {w : List Int} {x o : Int} (hx : x ∈ left) (ho : o ∈ left) (hr : Ps rows p x o) (hl : w.length ≤ 4000) (z1 z2 : Cell) (hz : isOwn (some z2) = false) :
    ∃ o ∈ left, (mSeq (mAsg (mCallF m_passed_over [(.dat (mVar 0)), (.dat (mVar 1)), (.dat (mOp2 sIx (.own 3) (.dat (mNeg (M.pure (.int 1))))))]) (gNm 4)) (mExpr (mMethWR wAppend 3 [(mOp2 sIx (.dat (mLc (mSeqI (mVar 2)) (gNm 5) (mB (mOp2 sIn (.dat (mOp2 sIx (.dat (mVar 1)) (.dat (mVar 5)))) (.dat (mVar 4)))) (mVar 5) [5])) (.dat (M.pure (.int 0))))]))) [.dat (farmD n rows t), .dat (plcD p), .dat (.lst (left.map .int)), .own (.lst ((w ++ [x]).map .int)), z1, z2] =
      .next [.dat (farmD n rows t), .dat (plcD p), .dat (.lst (left.map .int)), .own (.lst (((w ++ [x]) ++ [o]).map .int)), .dat (rowD (passI rows p x)), z2] := by
  have q1 := e_po' (n := n) (t := t) (hp x hx) hok
  have h1 := sIx_last w x
  have e1 : mCallF m_passed_over [(.dat (mVar 0)), (.dat (mVar 1)), (.dat (mOp2 sIx (.own 3) (.dat (mNeg (M.pure (.int 1))))))] [.dat (farmD n rows t), .dat (plcD p), .dat (.lst (left.map .int)), .own (.lst ((w ++ [x]).map .int)), z1, z2] = .ok (rowD (passI rows p x)) [.dat (farmD n rows t), .dat (plcD p), .dat (.lst (left.map .int)), .own (.lst ((w ++ [x]).map .int)), z1, z2] := by
    generalize (w ++ [x]).map D.int = W at h1 ⊢
    simp [mkFn, mSeq, mIfS, mDo, mRet, mRetN, mSkip, mExpr, mAsg, mAnd, mOr, mNot, mAndV, mOrV, mNotV, mB, mIf, mV, mNeg, mCall, mOp2, mTup, mLst, mMeth, mSl, mPart, preL, seqM, M.bind, M.pure, M.lift, M.stuck, Out.andThen, mVar, Opn.pre, Opn.rd, rdM, rdLM, rdL, cellD, initC, initAt, outsOf, outAt, gNm, gTp, gNms, mNew, mFrz, mPar, mFld, mCallF, mCallK, mCallN, appF, rdA, setOuts, ownSlots, ownPos, mSeqI, mEnum, mRange1, itemsOf, h1, q1]
  have e2 : mLc (mSeqI (mVar 2)) (gNm 5) (mB (mOp2 sIn (.dat (mOp2 sIx (.dat (mVar 1)) (.dat (mVar 5)))) (.dat (mVar 4)))) (mVar 5) [5] [.dat (farmD n rows t), .dat (plcD p), .dat (.lst (left.map .int)), .own (.lst ((w ++ [x]).map .int)), .dat (rowD (passI rows p x)), z2] =
      .ok (.lst ((left.filter (hQ rows p x)).map .int)) [.dat (farmD n rows t), .dat (plcD p), .dat (.lst (left.map .int)), .own (.lst ((w ++ [x]).map .int)), .dat (rowD (passI rows p x)), z2] := by
    generalize (w ++ [x]).map D.int = W
    rw [mLc_pure (ds := left.map .int) (ofInt (hQ rows p x)) id (by simp [mkFn, mSeq, mIfS, mDo, mRet, mRetN, mSkip, mExpr, mAsg, mAnd, mOr, mNot, mAndV, mOrV, mNotV, mB, mIf, mV, mNeg, mCall, mOp2, mTup, mLst, mMeth, mSl, mPart, preL, seqM, M.bind, M.pure, M.lift, M.stuck, Out.andThen, mVar, Opn.pre, Opn.rd, rdM, rdLM, rdL, cellD, initC, initAt, outsOf, outAt, gNm, gTp, gNms, mNew, mFrz, mPar, mFld, mCallF, mCallK, mCallN, appF, rdA, setOuts, ownSlots, ownPos, mSeqI, mEnum, mRange1, itemsOf]) (by simp [hz]) (fun dd hd => by
      obtain ⟨o, ho, rfl⟩ := List.mem_map.mp hd
      refine ⟨[.dat (farmD n rows t), .dat (plcD p), .dat (.lst (left.map .int)), .own (.lst W), .dat (rowD (passI rows p x)), .dat (.int o)], by simp [gNm, wipeC], ?_, fun _ => by simp [mkFn, mSeq, mIfS, mDo, mRet, mRetN, mSkip, mExpr, mAsg, mAnd, mOr, mNot, mAndV, mOrV, mNotV, mB, mIf, mV, mNeg, mCall, mOp2, mTup, mLst, mMeth, mSl, mPart, preL, seqM, M.bind, M.pure, M.lift, M.stuck, Out.andThen, mVar, Opn.pre, Opn.rd, rdM, rdLM, rdL, cellD, initC, initAt, outsOf, outAt, gNm, gTp, gNms, mNew, mFrz, mPar, mFld, mCallF, mCallK, mCallN, appF, rdA, setOuts, ownSlots, ownPos, mSeqI, mEnum, mRange1, itemsOf], by simp [wipeC]⟩
      have z1 := sIx_pl (hp o ho)
      have z3 : sIn (.int (plAt p o)) (rowD (passI rows p x)) = some (.bl (hQ rows p x o)) := sIn_tup _ _
      simp [mkFn, mSeq, mIfS, mDo, mRet, mRetN, mSkip, mExpr, mAsg, mAnd, mOr, mNot, mAndV, mOrV, mNotV, mB, mIf, mV, mNeg, mCall, mOp2, mTup, mLst, mMeth, mSl, mPart, preL, seqM, M.bind, M.pure, M.lift, M.stuck, Out.andThen, mVar, Opn.pre, Opn.rd, rdM, rdLM, rdL, cellD, initC, initAt, outsOf, outAt, gNm, gTp, gNms, mNew, mFrz, mPar, mFld, mCallF, mCallK, mCallN, appF, rdA, setOuts, ownSlots, ownPos, mSeqI, mEnum, mRange1, itemsOf, z1, z3, ofInt])]
    rw [filter_int (hQ rows p x) _ (fun i => rfl), List.map_id]
  have hne : left.filter (hQ rows p x) ≠ [] := List.ne_nil_of_mem (List.mem_filter.mpr ⟨ho, decide_eq_true hr⟩)
  obtain ⟨y, ys, hy⟩ := List.exists_cons_of_ne_nil hne
  have hy2 : y ∈ left := (List.mem_filter.mp (by rw [hy]; exact List.mem_cons_self)).1
  refine ⟨y, hy2, ?_⟩
  rw [hy] at e2
  have e3 : mOp2 sIx (.dat (mLc (mSeqI (mVar 2)) (gNm 5) (mB (mOp2 sIn (.dat (mOp2 sIx (.dat (mVar 1)) (.dat (mVar 5)))) (.dat (mVar 4)))) (mVar 5) [5])) (.dat (M.pure (.int 0))) [.dat (farmD n rows t), .dat (plcD p), .dat (.lst (left.map .int)), .own (.lst ((w ++ [x]).map .int)), .dat (rowD (passI rows p x)), z2] = .ok (.int y) [.dat (farmD n rows t), .dat (plcD p), .dat (.lst (left.map .int)), .own (.lst ((w ++ [x]).map .int)), .dat (rowD (passI rows p x)), z2] :=
    mOp2_dd e2 rfl (sIx_zero y ys)
  have e4 : wAppend (.lst ((w ++ [x]).map .int)) [.int y] = some (.non, .lst (((w ++ [x]) ++ [y]).map .int)) := by
    have q : (w ++ [x]).length < 16777216 := by
      rw [List.length_append, List.length_singleton]
      omega
    generalize w ++ [x] = W at q ⊢
    simp [wAppend, q]
  have e5 := mMethWR1 (sem := wAppend) (i := 3) (x0 := (w ++ [x]).map .int) (ρ := [.dat (farmD n rows t), .dat (plcD p), .dat (.lst (left.map .int)), .own (.lst ((w ++ [x]).map .int)), .dat (rowD (passI rows p x)), z2]) rfl e3 rfl e4
  rw [mSeq_next (ρ' := [.dat (farmD n rows t), .dat (plcD p), .dat (.lst (left.map .int)), .own (.lst ((w ++ [x]).map .int)), .dat (rowD (passI rows p x)), z2]) (by
    unfold mAsg mDo
    rw [e1]
    rfl)]
  unfold mExpr mDo
  rw [e5]
  rfl
end
section
variable {n t : Int} {rows : List (List Int)} {p : List (Option Int)} {st : List Int}
theorem mAsg_ok {f : M D} {g : TgM} {ρ ρ1 ρ2 : Cells} {d : D} (h : f ρ = .ok d ρ1) (h2 : g d ρ1 = some ρ2) : mAsg f g ρ = .next ρ2 := by
  unfold mAsg mDo
  rw [h]
  show (match g d ρ1 with | some ρ2 => OutS.next ρ2 | none => OutS.stuck) = _
  rw [h2]
theorem so_far : PyData.strOk "far" = true := by
  unfold PyData.strOk
  rw [← Array.all_toList]
  decide
theorem so_held : PyData.strOk "held" = true := by
  unfold PyData.strOk
  rw [← Array.all_toList]
  decide
theorem so_order : PyData.strOk "order" = true := by
  unfold PyData.strOk
  rw [← Array.all_toList]
  decide
theorem so_ring : PyData.strOk "ring" = true := by
  unfold PyData.strOk
  rw [← Array.all_toList]
  decide
theorem callF2 {F : Fn} {f g : M D} {ρ : Cells} {a b d : D} (h1 : f ρ = .ok a ρ) (h2 : g ρ = .ok b ρ) (h : F [a, b] = .ret d []) : mCallF F [.dat f, .dat g] ρ = .ok d ρ := by
  unfold mCallF
  simp [preL, M.bind, Opn.pre, h1, h2, Out.andThen, M.pure, rdA, Opn.rd, setOuts, ownSlots, h]
theorem callF3 {F : Fn} {f g k : M D} {ρ : Cells} {a b c d : D} (h1 : f ρ = .ok a ρ) (h2 : g ρ = .ok b ρ) (h3 : k ρ = .ok c ρ) (h : F [a, b, c] = .ret d []) : mCallF F [.dat f, .dat g, .dat k] ρ = .ok d ρ := by
  unfold mCallF
  simp [preL, M.bind, Opn.pre, h1, h2, h3, Out.andThen, M.pure, rdA, Opn.rd, setOuts, ownSlots, h]
theorem exprF {f : M D} {ρ ρ1 : Cells} {d : D} (h : f ρ = .ok d ρ1) : mExpr f ρ = .next ρ1 := by
  unfold mExpr mDo
  rw [h]
theorem oq_dc (hok : PlOk rows p) {l : List Int} (hp : ∀ s ∈ l, Pres p s) (hn : l.Nodup) (o : D) (a c d : Cell) :
    (mDc (mSeqI (mVar 5)) (gNm 8) (M.pure true) (mVar 8) (mCallF m_passed_over [(.dat (mVar 0)), (.dat (mVar 1)), (.dat (mVar 8))]) [8]) [.dat (farmD n rows t), .dat (plcD p), .dat (.tup (st.map .int)), .dat .non, .dat .non, .dat (D.lst (List.map D.int l)), .dat o, a, .no, c, d, .no] = .ok (D.dic (List.map Sum.inl l) (List.map (fun s => rowD (passI rows p s)) l)) [.dat (farmD n rows t), .dat (plcD p), .dat (.tup (st.map .int)), .dat .non, .dat .non, .dat (D.lst (List.map D.int l)), .dat o, a, .no, c, d, .no] := by
  refine mDc_pure (fun s => rowD (passI rows p s)) (by simp [mkFn, mSeq, mIfS, mDo, mRet, mRetN, mSkip, mExpr, mAsg, mAnd, mOr, mNot, mAndV, mOrV, mNotV, mB, mIf, mV, mNeg, mCall, mOp2, mTup, mLst, mMeth, mSl, mPart, preL, seqM, M.bind, M.pure, M.lift, M.stuck, Out.andThen, mVar, Opn.pre, Opn.rd, rdM, rdLM, rdL, cellD, initC, initAt, outsOf, outAt, gNm, gTp, gNms, mNew, mFrz, mPar, mFld, mCallF, mCallK, mCallN, appF, rdA, setOuts, ownSlots, ownPos, mSeqI, mEnum, mRange1, itemsOf]) (by simp [isOwn]) hn fun i hi => ?_
  have q := e_po' (n := n) (t := t) (hp i hi) hok
  refine ⟨[.dat (farmD n rows t), .dat (plcD p), .dat (.tup (st.map .int)), .dat .non, .dat .non, .dat (D.lst (List.map D.int l)), .dat o, a, .dat (.int i), c, d, .no], by simp [gNm, wipeC], by simp [mkFn, mSeq, mIfS, mDo, mRet, mRetN, mSkip, mExpr, mAsg, mAnd, mOr, mNot, mAndV, mOrV, mNotV, mB, mIf, mV, mNeg, mCall, mOp2, mTup, mLst, mMeth, mSl, mPart, preL, seqM, M.bind, M.pure, M.lift, M.stuck, Out.andThen, mVar, Opn.pre, Opn.rd, rdM, rdLM, rdL, cellD, initC, initAt, outsOf, outAt, gNm, gTp, gNms, mNew, mFrz, mPar, mFld, mCallF, mCallK, mCallN, appF, rdA, setOuts, ownSlots, ownPos, mSeqI, mEnum, mRange1, itemsOf], by simp [mkFn, mSeq, mIfS, mDo, mRet, mRetN, mSkip, mExpr, mAsg, mAnd, mOr, mNot, mAndV, mOrV, mNotV, mB, mIf, mV, mNeg, mCall, mOp2, mTup, mLst, mMeth, mSl, mPart, preL, seqM, M.bind, M.pure, M.lift, M.stuck, Out.andThen, mVar, Opn.pre, Opn.rd, rdM, rdLM, rdL, cellD, initC, initAt, outsOf, outAt, gNm, gTp, gNms, mNew, mFrz, mPar, mFld, mCallF, mCallK, mCallN, appF, rdA, setOuts, ownSlots, ownPos, mSeqI, mEnum, mRange1, itemsOf, q], by simp [wipeC]⟩
def onI (g : Int → Int) : D → D
  | .int i => .int (g i)
  | _ => .non
theorem map_onI (g : Int → Int) (l : List Int) : (l.map D.int).map (onI g) = (l.map g).map .int := by
  rw [List.map_map, List.map_map]
  rfl
theorem oq_us {l : List Int} (hp : ∀ s ∈ l, Pres p s) (o : D) (a c d : Cell) :
    (mLc (mSeqI (mVar 5)) (gNm 8) (M.pure true) (mOp2 sIx (.dat (mVar 1)) (.dat (mVar 8))) [8]) [.dat (farmD n rows t), .dat (plcD p), .dat (.tup (st.map .int)), .dat .non, .dat .non, .dat (D.lst (List.map D.int l)), .dat o, a, .no, c, d, .no] = .ok (D.lst (List.map D.int (l.map (plAt p)))) [.dat (farmD n rows t), .dat (plcD p), .dat (.tup (st.map .int)), .dat .non, .dat .non, .dat (D.lst (List.map D.int l)), .dat o, a, .no, c, d, .no] := by
  rw [mLc_pure (ds := l.map .int) (fun _ => true) (onI (plAt p)) (by simp [mkFn, mSeq, mIfS, mDo, mRet, mRetN, mSkip, mExpr, mAsg, mAnd, mOr, mNot, mAndV, mOrV, mNotV, mB, mIf, mV, mNeg, mCall, mOp2, mTup, mLst, mMeth, mSl, mPart, preL, seqM, M.bind, M.pure, M.lift, M.stuck, Out.andThen, mVar, Opn.pre, Opn.rd, rdM, rdLM, rdL, cellD, initC, initAt, outsOf, outAt, gNm, gTp, gNms, mNew, mFrz, mPar, mFld, mCallF, mCallK, mCallN, appF, rdA, setOuts, ownSlots, ownPos, mSeqI, mEnum, mRange1, itemsOf]) (by simp [isOwn]) (fun dd hd => by
    obtain ⟨i, hi, rfl⟩ := List.mem_map.mp hd
    have q := sIx_pl (hp i hi)
    exact ⟨[.dat (farmD n rows t), .dat (plcD p), .dat (.tup (st.map .int)), .dat .non, .dat .non, .dat (D.lst (List.map D.int l)), .dat o, a, .dat (.int i), c, d, .no], by simp [gNm, wipeC], by simp [mkFn, mSeq, mIfS, mDo, mRet, mRetN, mSkip, mExpr, mAsg, mAnd, mOr, mNot, mAndV, mOrV, mNotV, mB, mIf, mV, mNeg, mCall, mOp2, mTup, mLst, mMeth, mSl, mPart, preL, seqM, M.bind, M.pure, M.lift, M.stuck, Out.andThen, mVar, Opn.pre, Opn.rd, rdM, rdLM, rdL, cellD, initC, initAt, outsOf, outAt, gNm, gTp, gNms, mNew, mFrz, mPar, mFld, mCallF, mCallK, mCallN, appF, rdA, setOuts, ownSlots, ownPos, mSeqI, mEnum, mRange1, itemsOf], fun _ => by simp [mkFn, mSeq, mIfS, mDo, mRet, mRetN, mSkip, mExpr, mAsg, mAnd, mOr, mNot, mAndV, mOrV, mNotV, mB, mIf, mV, mNeg, mCall, mOp2, mTup, mLst, mMeth, mSl, mPart, preL, seqM, M.bind, M.pure, M.lift, M.stuck, Out.andThen, mVar, Opn.pre, Opn.rd, rdM, rdLM, rdL, cellD, initC, initAt, outsOf, outAt, gNm, gTp, gNms, mNew, mFrz, mPar, mFld, mCallF, mCallK, mCallN, appF, rdA, setOuts, ownSlots, ownPos, mSeqI, mEnum, mRange1, itemsOf, q, onI], by simp [wipeC]⟩)]
  rw [List.filter_eq_self.mpr (fun _ _ => rfl), map_onI]
def lastQ (rows : List (List Int)) (p : List (Option Int)) (u : List Int) (s : Int) : Bool := decide ((passI rows p s).filter (fun v => decide (v ∈ u)) = [])
theorem oq_in {l u : List Int} {s : Int} (hs : s ∈ l) (o : D) (d : Cell) :
    (mLc (mSeqI (mOp2 sDix (.dat (mVar 7)) (.dat (mVar 8)))) (gNm 11) (mB (mOp2 sIn (.dat (mVar 11)) (.dat (mVar 9)))) (mVar 11) [11]) [.dat (farmD n rows t), .dat (plcD p), .dat (.tup (st.map .int)), .dat .non, .dat .non, .dat (D.lst (List.map D.int l)), .dat o, .dat (D.dic (List.map Sum.inl l) (List.map (fun s => rowD (passI rows p s)) l)), .dat (.int s), .dat (D.lst (List.map D.int u)), d, .no] = .ok (D.lst (List.map D.int ((passI rows p s).filter (fun v => decide (v ∈ u))))) [.dat (farmD n rows t), .dat (plcD p), .dat (.tup (st.map .int)), .dat .non, .dat .non, .dat (D.lst (List.map D.int l)), .dat o, .dat (D.dic (List.map Sum.inl l) (List.map (fun s => rowD (passI rows p s)) l)), .dat (.int s), .dat (D.lst (List.map D.int u)), d, .no] := by
  have q := sDix_ints (fun s => rowD (passI rows p s)) hs
  generalize (D.dic (List.map Sum.inl l) (List.map (fun s => rowD (passI rows p s)) l)) = dd at q ⊢
  rw [mLc_pure (ds := (passI rows p s).map .int) (ofInt fun v => decide (v ∈ u)) id (by simp [mkFn, mSeq, mIfS, mDo, mRet, mRetN, mSkip, mExpr, mAsg, mAnd, mOr, mNot, mAndV, mOrV, mNotV, mB, mIf, mV, mNeg, mCall, mOp2, mTup, mLst, mMeth, mSl, mPart, preL, seqM, M.bind, M.pure, M.lift, M.stuck, Out.andThen, mVar, Opn.pre, Opn.rd, rdM, rdLM, rdL, cellD, initC, initAt, outsOf, outAt, gNm, gTp, gNms, mNew, mFrz, mPar, mFld, mCallF, mCallK, mCallN, appF, rdA, setOuts, ownSlots, ownPos, mSeqI, mEnum, mRange1, itemsOf, q, rowD]) (by simp [isOwn]) (fun e he => by
    obtain ⟨v, hv, rfl⟩ := List.mem_map.mp he
    have q2 := sIn_lst v u
    exact ⟨[.dat (farmD n rows t), .dat (plcD p), .dat (.tup (st.map .int)), .dat .non, .dat .non, .dat (D.lst (List.map D.int l)), .dat o, .dat dd, .dat (.int s), .dat (D.lst (List.map D.int u)), d, .dat (.int v)], by simp [gNm, wipeC], by simp [mkFn, mSeq, mIfS, mDo, mRet, mRetN, mSkip, mExpr, mAsg, mAnd, mOr, mNot, mAndV, mOrV, mNotV, mB, mIf, mV, mNeg, mCall, mOp2, mTup, mLst, mMeth, mSl, mPart, preL, seqM, M.bind, M.pure, M.lift, M.stuck, Out.andThen, mVar, Opn.pre, Opn.rd, rdM, rdLM, rdL, cellD, initC, initAt, outsOf, outAt, gNm, gTp, gNms, mNew, mFrz, mPar, mFld, mCallF, mCallK, mCallN, appF, rdA, setOuts, ownSlots, ownPos, mSeqI, mEnum, mRange1, itemsOf, q2, ofInt], fun _ => by simp [mkFn, mSeq, mIfS, mDo, mRet, mRetN, mSkip, mExpr, mAsg, mAnd, mOr, mNot, mAndV, mOrV, mNotV, mB, mIf, mV, mNeg, mCall, mOp2, mTup, mLst, mMeth, mSl, mPart, preL, seqM, M.bind, M.pure, M.lift, M.stuck, Out.andThen, mVar, Opn.pre, Opn.rd, rdM, rdLM, rdL, cellD, initC, initAt, outsOf, outAt, gNm, gTp, gNms, mNew, mFrz, mPar, mFld, mCallF, mCallK, mCallN, appF, rdA, setOuts, ownSlots, ownPos, mSeqI, mEnum, mRange1, itemsOf], by simp [wipeC]⟩)]
  rw [filter_int (fun v => decide (v ∈ u)) _ (fun i => rfl), List.map_id]
theorem mTrue_dd {f : M D} {ρ ρ1 : Cells} {l : List Int} (h : f ρ = .ok (D.lst (List.map D.int l)) ρ1) : mB (mOp2 sEq (.dat f) (.dat (mLst []))) ρ = .ok (decide (l = [])) ρ1 := by
  refine mB_ok (mOp2_dd h (show mLst [] _ = .ok (.lst (([] : List Int).map .int)) _ from rfl) ?_)
  rw [sEq_lst]
theorem mNe_dd {f : M D} {ρ ρ1 : Cells} {l : List Int} (h : f ρ = .ok (D.lst (List.map D.int l)) ρ1) : mB (mOp2 sNe (.dat f) (.dat (mLst []))) ρ = .ok (!decide (l = [])) ρ1 := by
  refine mB_ok (mOp2_dd h (show mLst [] _ = .ok (.lst (([] : List Int).map .int)) _ from rfl) ?_)
  rw [sNe_lst]
theorem oq_la {l u : List Int} (o : D) (d : Cell) :
    (mLc (mSeqI (mVar 5)) (gNm 8) (mB (mOp2 sEq (.dat (mLc (mSeqI (mOp2 sDix (.dat (mVar 7)) (.dat (mVar 8)))) (gNm 11) (mB (mOp2 sIn (.dat (mVar 11)) (.dat (mVar 9)))) (mVar 11) [11])) (.dat (mLst [])))) (mVar 8) [8]) [.dat (farmD n rows t), .dat (plcD p), .dat (.tup (st.map .int)), .dat .non, .dat .non, .dat (D.lst (List.map D.int l)), .dat o, .dat (D.dic (List.map Sum.inl l) (List.map (fun s => rowD (passI rows p s)) l)), .no, .dat (D.lst (List.map D.int u)), d, .no] = .ok (D.lst (List.map D.int (l.filter (lastQ rows p u)))) [.dat (farmD n rows t), .dat (plcD p), .dat (.tup (st.map .int)), .dat .non, .dat .non, .dat (D.lst (List.map D.int l)), .dat o, .dat (D.dic (List.map Sum.inl l) (List.map (fun s => rowD (passI rows p s)) l)), .no, .dat (D.lst (List.map D.int u)), d, .no] := by
  have hh : ∀ s ∈ l, mB (mOp2 sEq (.dat (mLc (mSeqI (mOp2 sDix (.dat (mVar 7)) (.dat (mVar 8)))) (gNm 11) (mB (mOp2 sIn (.dat (mVar 11)) (.dat (mVar 9)))) (mVar 11) [11])) (.dat (mLst []))) [.dat (farmD n rows t), .dat (plcD p), .dat (.tup (st.map .int)), .dat .non, .dat .non, .dat (D.lst (List.map D.int l)), .dat o, .dat (D.dic (List.map Sum.inl l) (List.map (fun s => rowD (passI rows p s)) l)), .dat (.int s), .dat (D.lst (List.map D.int u)), d, .no] = .ok (lastQ rows p u s) [.dat (farmD n rows t), .dat (plcD p), .dat (.tup (st.map .int)), .dat .non, .dat .non, .dat (D.lst (List.map D.int l)), .dat o, .dat (D.dic (List.map Sum.inl l) (List.map (fun s => rowD (passI rows p s)) l)), .dat (.int s), .dat (D.lst (List.map D.int u)), d, .no] := fun s hs => mTrue_dd (oq_in hs o d)
  generalize (D.dic (List.map Sum.inl l) (List.map (fun s => rowD (passI rows p s)) l)) = dd at hh ⊢
  rw [mLc_pure (ds := l.map .int) (ofInt (lastQ rows p u)) id (by simp [mkFn, mSeq, mIfS, mDo, mRet, mRetN, mSkip, mExpr, mAsg, mAnd, mOr, mNot, mAndV, mOrV, mNotV, mB, mIf, mV, mNeg, mCall, mOp2, mTup, mLst, mMeth, mSl, mPart, preL, seqM, M.bind, M.pure, M.lift, M.stuck, Out.andThen, mVar, Opn.pre, Opn.rd, rdM, rdLM, rdL, cellD, initC, initAt, outsOf, outAt, gNm, gTp, gNms, mNew, mFrz, mPar, mFld, mCallF, mCallK, mCallN, appF, rdA, setOuts, ownSlots, ownPos, mSeqI, mEnum, mRange1, itemsOf]) (by simp [isOwn]) (fun e he => by
    obtain ⟨s, hs, rfl⟩ := List.mem_map.mp he
    exact ⟨[.dat (farmD n rows t), .dat (plcD p), .dat (.tup (st.map .int)), .dat .non, .dat .non, .dat (D.lst (List.map D.int l)), .dat o, .dat dd, .dat (.int s), .dat (D.lst (List.map D.int u)), d, .no], by simp [gNm, wipeC], hh s hs, fun _ => by simp [mkFn, mSeq, mIfS, mDo, mRet, mRetN, mSkip, mExpr, mAsg, mAnd, mOr, mNot, mAndV, mOrV, mNotV, mB, mIf, mV, mNeg, mCall, mOp2, mTup, mLst, mMeth, mSl, mPart, preL, seqM, M.bind, M.pure, M.lift, M.stuck, Out.andThen, mVar, Opn.pre, Opn.rd, rdM, rdLM, rdL, cellD, initC, initAt, outsOf, outAt, gNm, gTp, gNms, mNew, mFrz, mPar, mFld, mCallF, mCallK, mCallN, appF, rdA, setOuts, ownSlots, ownPos, mSeqI, mEnum, mRange1, itemsOf], by simp [wipeC]⟩)]
  rw [filter_int (lastQ rows p u) _ (fun i => rfl), List.map_id]
theorem oq_nx {l m : List Int} (o : D) (a c : Cell) :
    (mLc (mSeqI (mVar 5)) (gNm 8) (mB (mOp2 sNin (.dat (mVar 8)) (.dat (mVar 10)))) (mVar 8) [8]) [.dat (farmD n rows t), .dat (plcD p), .dat (.tup (st.map .int)), .dat .non, .dat .non, .dat (D.lst (List.map D.int l)), .dat o, a, .no, c, .dat (D.lst (List.map D.int m)), .no] = .ok (D.lst (List.map D.int (l.filter (fun s => !decide (s ∈ m))))) [.dat (farmD n rows t), .dat (plcD p), .dat (.tup (st.map .int)), .dat .non, .dat .non, .dat (D.lst (List.map D.int l)), .dat o, a, .no, c, .dat (D.lst (List.map D.int m)), .no] := by
  rw [mLc_pure (ds := l.map .int) (ofInt fun s => !decide (s ∈ m)) id (by simp [mkFn, mSeq, mIfS, mDo, mRet, mRetN, mSkip, mExpr, mAsg, mAnd, mOr, mNot, mAndV, mOrV, mNotV, mB, mIf, mV, mNeg, mCall, mOp2, mTup, mLst, mMeth, mSl, mPart, preL, seqM, M.bind, M.pure, M.lift, M.stuck, Out.andThen, mVar, Opn.pre, Opn.rd, rdM, rdLM, rdL, cellD, initC, initAt, outsOf, outAt, gNm, gTp, gNms, mNew, mFrz, mPar, mFld, mCallF, mCallK, mCallN, appF, rdA, setOuts, ownSlots, ownPos, mSeqI, mEnum, mRange1, itemsOf]) (by simp [isOwn]) (fun e he => by
    obtain ⟨s, hs, rfl⟩ := List.mem_map.mp he
    have q2 := sNin_lst s m
    exact ⟨[.dat (farmD n rows t), .dat (plcD p), .dat (.tup (st.map .int)), .dat .non, .dat .non, .dat (D.lst (List.map D.int l)), .dat o, a, .dat (.int s), c, .dat (D.lst (List.map D.int m)), .no], by simp [gNm, wipeC], by simp [mkFn, mSeq, mIfS, mDo, mRet, mRetN, mSkip, mExpr, mAsg, mAnd, mOr, mNot, mAndV, mOrV, mNotV, mB, mIf, mV, mNeg, mCall, mOp2, mTup, mLst, mMeth, mSl, mPart, preL, seqM, M.bind, M.pure, M.lift, M.stuck, Out.andThen, mVar, Opn.pre, Opn.rd, rdM, rdLM, rdL, cellD, initC, initAt, outsOf, outAt, gNm, gTp, gNms, mNew, mFrz, mPar, mFld, mCallF, mCallK, mCallN, appF, rdA, setOuts, ownSlots, ownPos, mSeqI, mEnum, mRange1, itemsOf, q2, ofInt], fun _ => by simp [mkFn, mSeq, mIfS, mDo, mRet, mRetN, mSkip, mExpr, mAsg, mAnd, mOr, mNot, mAndV, mOrV, mNotV, mB, mIf, mV, mNeg, mCall, mOp2, mTup, mLst, mMeth, mSl, mPart, preL, seqM, M.bind, M.pure, M.lift, M.stuck, Out.andThen, mVar, Opn.pre, Opn.rd, rdM, rdLM, rdL, cellD, initC, initAt, outsOf, outAt, gNm, gTp, gNms, mNew, mFrz, mPar, mFld, mCallF, mCallK, mCallN, appF, rdA, setOuts, ownSlots, ownPos, mSeqI, mEnum, mRange1, itemsOf], by simp [wipeC]⟩)]
  rw [filter_int (fun s => !decide (s ∈ m)) _ (fun i => rfl), List.map_id]
theorem last_iff {l : List Int} {s : Int} : lastQ rows p (l.map (plAt p)) s = false ↔ ∃ o ∈ l, Ps rows p s o := by
  unfold lastQ Ps
  rw [decide_eq_false_iff_not]
  constructor
  · intro h
    obtain ⟨v, hv⟩ := List.exists_mem_of_ne_nil _ h
    obtain ⟨h1, h2⟩ := List.mem_filter.mp hv
    obtain ⟨o, ho, rfl⟩ := List.mem_map.mp (of_decide_eq_true h2)
    exact ⟨o, ho, h1⟩
  · rintro ⟨o, ho, h⟩
    exact List.ne_nil_of_mem (List.mem_filter.mpr ⟨h, decide_eq_true (List.mem_map.mpr ⟨o, ho, rfl⟩)⟩)
theorem mIfN {f : M D} {m : MS} {ρ ρ1 : Cells} (h : f ρ = .ok .non ρ1) : mIfS (mB (mOp2 sNotN (.dat f) (.dat (M.pure .non)))) m mSkip ρ = .next ρ1 := by
  rw [mIfS_f (mB_ok (mOp2_dd h (show M.pure D.non ρ1 = .ok .non ρ1 from rfl) rfl))]
  rfl
theorem mIfNs {f : M D} {m : MS} {d : D} {ρ ρ1 : Cells} (h : f ρ = .ok d ρ1) (hd : sNotN d .non = some (.bl true)) : mIfS (mB (mOp2 sNotN (.dat f) (.dat (M.pure .non)))) m mSkip ρ = m ρ1 := by
  rw [mIfS_t (mB_ok (mOp2_dd h (show M.pure D.non ρ1 = .ok .non ρ1 from rfl) hd))]
end
section
variable {n t : Int} {rows : List (List Int)} {p : List (Option Int)} {st : List Int}
def mx (l : List Int) : Int := (maxI (l ++ [0])).getD 0
theorem maxI_mx (l : List Int) : maxI (l ++ [0]) = some (mx l) := by
  unfold mx
  cases l with
  | nil => rfl
  | cons a l => rfl
theorem mx_mem (l : List Int) : mx l ∈ l ++ [0] ∧ ∀ x ∈ l ++ [0], x ≤ mx l := by
  cases l with
  | nil => exact ⟨by simp [mx, maxI], by simp [mx, maxI]⟩
  | cons a l => exact foldl_max (l ++ [0]) a
theorem mx_le {l : List Int} {k : Int} (h0 : 0 ≤ k) : mx l ≤ k ↔ ∀ x ∈ l, x ≤ k := by
  obtain ⟨h1, h2⟩ := mx_mem l
  constructor
  · intro h x hx
    exact Int.le_trans (h2 x (List.mem_append_left _ hx)) h
  · intro h
    rcases List.mem_append.mp h1 with z | z
    · exact h _ z
    · have z : mx l = 0 := by simpa using z
      omega
theorem sNe_str {a b : Str} (ha : PyData.strOk a = true) (hb : PyData.strOk b = true) : sNe (.str a) (.str b) = some (.bl (!decide (a = b))) := by
  simp [sNe, plain, toPy, PyData.canLay0, PyData.depth, eqD, PyData.eqv, ha, hb]
  by_cases h : a = b
  · subst h; simp
  · simp [h]
theorem sEq_str {a b : Str} (ha : PyData.strOk a = true) (hb : PyData.strOk b = true) : sEq (.str a) (.str b) = some (.bl (decide (a = b))) := by
  simp [sEq, plain, toPy, PyData.canLay0, PyData.depth, eqD, PyData.eqv, ha, hb]
  by_cases h : a = b
  · subst h; simp
  · simp [h]
theorem sNe_bl (a b : Bool) : sNe (.bl a) (.bl b) = some (.bl (!decide (a = b))) := by
  cases a <;> cases b <;> rfl
end
section
variable {n t k a b d : Int} {rows : List (List Int)} {p : List (Option Int)} {st : List Int}
theorem callO1 {F : Fn} {W W' d : D} {ρ : Cells} (h : F [W] = .ret d [W']) : mCallF F [.own 0] (.own W :: ρ) = .ok d (.own W' :: ρ) := by
  unfold mCallF
  simp [preL, cellD, M.bind, Opn.pre, Out.andThen, M.pure, rdA, Opn.rd, setOuts, ownSlots, h]
theorem callO2 {F : Fn} {f : M D} {W W1 W' a d : D} {ρ : Cells} (h1 : f (.own W :: ρ) = .ok a (.own W1 :: ρ)) (h : F [W1, a] = .ret d [W']) : mCallF F [.own 0, .dat f] (.own W :: ρ) = .ok d (.own W' :: ρ) := by
  unfold mCallF
  simp [preL, cellD, M.bind, Opn.pre, h1, Out.andThen, M.pure, rdA, Opn.rd, setOuts, ownSlots, h]
theorem callO3 {F : Fn} {f g : M D} {W W1 W2 W' a b d : D} {ρ : Cells} (h1 : f (.own W :: ρ) = .ok a (.own W1 :: ρ)) (h2 : g (.own W1 :: ρ) = .ok b (.own W2 :: ρ)) (h : F [W2, a, b] = .ret d [W']) : mCallF F [.own 0, .dat f, .dat g] (.own W :: ρ) = .ok d (.own W' :: ρ) := by
  unfold mCallF
  simp [preL, cellD, M.bind, Opn.pre, h1, h2, Out.andThen, M.pure, rdA, Opn.rd, setOuts, ownSlots, h]
theorem make3 {F : Fn} {f g j : M D} {ρ ρ1 : Cells} {a b d : D} {ns : List Str} {es : List D} (h1 : f ρ = .ok a ρ) (h2 : g ρ = .ok b ρ) (h3 : j ρ = .ok d ρ1) (h : F [.rcd [] [], a, b, d] = .ret .non [.rcd ns es]) : mMake F [f, g, j] ρ = .ok (.rcd ns es) ρ1 := by
  unfold mMake M.bind
  simp only [seqM, M.bind, h1, h2, h3, Out.andThen, M.pure, h]
theorem callKo {F : Fn} {f g j : M D} {ρ : Cells} {a b c d : D} {o : List D} (h1 : f ρ = .ok a ρ) (h2 : g ρ = .ok b ρ) (h3 : j ρ = .ok c ρ) (h : F [a, b, c] = .ret d o) : mCallK F (fun ds es => ds ++ es) [f, g] [j] ρ = .ok d ρ := by
  unfold mCallK M.bind
  simp only [seqM, M.bind, h1, h2, h3, Out.andThen, M.pure, appF, List.cons_append, List.nil_append, h]
theorem mOr_ff {f g : M Bool} {ρ ρ1 ρ2 : Cells} (h1 : f ρ = .ok false ρ1) (h2 : g ρ1 = .ok false ρ2) : mOr f g ρ = .ok false ρ2 := by
  unfold mOr M.bind
  rw [h1]
  exact h2
theorem call1_ok {sem : List D → Option D} {f g : M D} {ρ : Cells} {a b d : D} (h1 : f ρ = .ok a ρ) (h2 : g ρ = .ok b ρ) (h : sem [a, b] = some d) : mCall sem [.dat f, .dat g] ρ = .ok d ρ := by
  unfold mCall
  simp [preL, M.bind, Opn.pre, h1, h2, Out.andThen, M.pure, rdLM, Opn.rd, rdL, rdM, M.lift, h]
theorem opt_bool (o : Option Int) : sIsi [optI o, .raw (.ty "bool")] = some (.bl false) := by
  cases o <;> simp [optI, sIsi, tyName, kit_nb, kit_ib]
theorem stOk_nil (p : List (Option Int)) : StOk p [] := ⟨List.nodup_nil, fun _ h => nomatch h⟩
end
section
theorem pow18 : sPow (.int 10) (.int 18) = some (.int (10 ^ 18)) := by
  show (if (0 : Int) ≤ 18 ∧ (18 : Int) ≤ 1000000 ∧ (10 : Int).natAbs < 2 ^ 64 then some (D.int (10 ^ (18 : Int).toNat)) else none) = _
  rw [if_pos ⟨by decide, by decide, by decide⟩]
  rfl
theorem callN2 {F : Fn} {f g : M D} {ρ : Cells} {a b d : D} {o : List D} (h1 : f ρ = .ok a ρ) (h2 : g ρ = .ok b ρ) (h : F [a, b] = .ret d o) : mCallN F f [g] ρ = .ok d ρ := by
  unfold mCallN M.bind
  simp only [h1, Out.andThen, seqM, M.bind, h2, M.pure, h]
theorem call1 {sem : List D → Option D} {f : M D} {ρ : Cells} {a d : D} (h1 : f ρ = .ok a ρ) (h : sem [a] = some d) : mCall sem [.dat f] ρ = .ok d ρ := by
  unfold mCall
  simp [preL, M.bind, Opn.pre, h1, Out.andThen, M.pure, rdLM, Opn.rd, rdL, rdM, M.lift, h]
theorem lst3 {f g k : M D} {ρ : Cells} {a b d : D} (h1 : f ρ = .ok a ρ) (h2 : g ρ = .ok b ρ) (h3 : k ρ = .ok d ρ) : mLst [f, g, k] ρ = .ok (.lst [a, b, d]) ρ := by
  unfold mLst M.bind
  simp only [seqM, M.bind, h1, h2, h3, Out.andThen, M.pure]
theorem not_ff {f : M Bool} {ρ ρ1 : Cells} (h : f ρ = .ok true ρ1) : mNot f ρ = .ok false ρ1 := by
  unfold mNot M.bind
  rw [h]
  rfl
end
section
variable {n t k f : Int} {rows : List (List Int)}
theorem loop_ext {α : Type} {g : TgM} {body : MS} (St : List D → α → Cells) (f : D → List D) (N : Nat) : ∀ (ds : List D) (L : List D) (c : α), L.length + (ds.flatMap f).length ≤ N →
    (∀ d ∈ ds, ∀ (L : List D) (c : α), L.length + (f d).length ≤ N → ∃ ρ1 c', g d (St L c) = some ρ1 ∧ body ρ1 = .next (St (L ++ f d) c')) →
    ∃ c', loopM g body ds (St L c) = .next (St (L ++ ds.flatMap f) c')
  | [], L, c, _, _ => ⟨c, by rw [List.flatMap_nil, List.append_nil]; rfl⟩
  | d :: ds, L, c, hN, h => by
    rw [List.flatMap_cons, List.length_append] at hN
    obtain ⟨ρ1, c', h1, h2⟩ := h d List.mem_cons_self L c (by omega)
    obtain ⟨c2, e⟩ := loop_ext St f N ds (L ++ f d) c' (by rw [List.length_append]; omega) fun x hx => h x (List.mem_cons_of_mem _ hx)
    refine ⟨c2, ?_⟩
    rw [List.flatMap_cons, ← List.append_assoc, ← e]
    conv => lhs; unfold loopM
    simp only [h1, h2]
theorem loop_app {α : Type} {g : TgM} {body : MS} (St : List D → α → Cells) (f : D → D) (ds : List D) (c : α) (h : ∀ d ∈ ds, ∀ (L : List D) (c : α), L.length < ds.length → ∃ ρ1 c', g d (St L c) = some ρ1 ∧ body ρ1 = .next (St (L ++ [f d]) c')) :
    ∃ c', loopM g body ds (St [] c) = .next (St (ds.map f) c') := by
  have hf : ∀ l : List D, (l.flatMap fun d => [f d]) = l.map f := fun l => by
    induction l with
    | nil => rfl
    | cons a l ih => rw [List.flatMap_cons, ih]; rfl
  obtain ⟨c', e⟩ := loop_ext (body := body) (g := g) St (fun d => [f d]) ds.length ds [] c (by rw [hf]; simp) (fun d hd L c hl => h d hd L c (by have : L.length + 1 ≤ ds.length := hl; omega))
  rw [hf] at e
  exact ⟨c', by simpa using e⟩
theorem app_ok {i : Nat} {f : M D} {ρ : Cells} {e : D} {L : List D} (h0 : ρ[i]? = some (.own (.lst L))) (h1 : f ρ = .ok e ρ) (hl : L.length < 16777216) : mExpr (mMethWR wAppend i [f]) ρ = .next (ρ.set i (.own (.lst (L ++ [e])))) := by
  have h2 : wAppend (.lst L) [e] = some (.non, .lst (L ++ [e])) := if_pos hl
  exact exprF (mMethWR1 h0 h1 h0 h2)
theorem ext_ok {i : Nat} {f : M D} {ρ : Cells} {L Ms : List D} (h0 : ρ[i]? = some (.own (.lst L))) (h1 : f ρ =   .ok (.lst Ms) ρ) (hl : L.length + Ms.length ≤ 16777216) : mExpr (mMethW wExtend i [.dat f]) ρ = .next (ρ.set i (.own (.lst (L ++ Ms)))) := by
  have h2 : wExtend (.lst L) [.lst Ms] = some (.non, .lst (L ++ Ms)) := if_pos hl
  refine exprF (d := .non) ?_
  unfold mMethW
  simp [M.bind, ownAt, h0, Out.andThen, isLst, preL, Opn.pre, h1, rdLM, Opn.rd, rdL, M.pure, M.lift, h2, setOwn, rdM]
theorem range_ok {f : M D} {ρ : Cells} {j : Int} (h : f ρ = .ok (.int j) ρ) (h1 : -16777216 ≤ j) (h2 : j ≤ 16777216) : mRange1 f ρ = .ok ((rng j.toNat).map .int) ρ := by
  unfold mRange1 M.bind
  rw [h]
  show (if j ≤ 16777216 ∧ -16777216 ≤ j then M.pure (rangeD 0 j.toNat) else M.stuck) _ = _
  rw [if_pos ⟨h2, h1⟩, rng_D]
  rfl
theorem flatMap_map_int {β : Type} (f : D → List β) : ∀ l : List Int, (l.map D.int).flatMap f = l.flatMap fun i => f (.int i)
  | [] => rfl
  | a :: l => by rw [List.map_cons, List.flatMap_cons, List.flatMap_cons, flatMap_map_int f l]
theorem inR_small {i : Int} (h0 : 0 ≤ i) (h1 : i ≤ 1000000) : inR i = true := by
  simp [inR]
  omega
def onL (g : Int → D) : D → D
  | .int i => g i
  | _ => .non
theorem map_onL (g : Int → D) (l : List Int) : (l.map D.int).map (onL g) = l.map g := by
  rw [List.map_map]
  rfl
end
section
variable {n t v : Int} {rows : List (List Int)}
theorem cutN (l : List Int) {j : Int} (h : 0 ≤ j) : sCut (rowD l) none (some j) = some (rowD (l.take j.toNat)) := by
  simp [sCut, rowD, cut_take' _ _ h, List.map_take]
end
section
variable {n t v : Int} {rows : List (List Int)}
theorem callF1 {F : Fn} {f : M D} {ρ : Cells} {a d : D} (h1 : f ρ = .ok a ρ) (h : F [a] = .ret d []) : mCallF F [.dat f] ρ = .ok d ρ := by
  unfold mCallF
  simp [preL, M.bind, Opn.pre, h1, Out.andThen, M.pure, rdA, Opn.rd, setOuts, ownSlots, h]
theorem meth0 {F : Fn} {m : Str} {f : M D} {ρ : Cells} {d e : D} (h1 : f ρ = .ok d ρ) (h2 : noName m d = true) (h3 : F [d] = .ret e []) : mMethF F m f [] ρ = .ok e ρ := by
  unfold mMethF M.bind
  simp only [h1, Out.andThen, h2, if_true, seqM, M.pure, M.bind, appF, h3]
theorem sl_ok {sem : D → Option Int → Option Int → Option D} {f g : M D} {ρ : Cells} {d e : D} {j : Int} (h1 : f ρ = .ok d ρ) (h2 : g ρ = .ok (.int j) ρ) (h3 : sem d none (some j) = some e) : mSl sem (.dat f) none (some g) ρ = .ok e ρ := by
  unfold mSl
  simp [M.bind, Opn.pre, h1, mPart, h2, Out.andThen, M.pure, rdM, Opn.rd, M.lift, h3]
theorem sNe_tup (l m : List Int) : sNe (.tup (l.map .int)) (.tup (m.map .int)) = some (.bl (!decide (l = m))) := by
  simp [sNe, plain, toPy, PyData.canLay0, lay_ints, PyData.depth, dep_ints, eqD, PyData.eqv, eqv_ints]
theorem sNe_tup_same (l : List Int) : sNe (.tup (l.map .int)) (.tup (l.map .int)) = some (.bl false) := by
  rw [sNe_tup, decide_eq_true rfl]
  rfl
theorem tup_two {f g : M D} {ρ : Cells} {a b : D} (h1 : f ρ = .ok a ρ) (h2 : g ρ = .ok b ρ) : mTup [f, g] ρ = .ok (.tup [a, b]) ρ := by
  unfold mTup M.bind
  simp only [seqM, M.bind, h1, h2, Out.andThen, M.pure]
theorem meth1 {is : D → Bool} {sem : D → List D → Option D} {f g : M D} {ρ : Cells} {a b d : D} (h1 : f ρ = .ok a ρ) (h2 : is a = true) (h3 : g ρ = .ok b ρ) (h4 : sem a [b] = some d) : mMeth is sem (.dat f) [(.dat g)] ρ = .ok d ρ := by
  unfold mMeth
  simp [M.bind, Opn.pre, h1, Out.andThen, rdM, Opn.rd, M.pure, h2, preL, h3, rdLM, rdL, M.lift, h4]
end
section
variable {n k f : Int}
theorem tup_three {f g j : M D} {ρ : Cells} {a b d : D} (h1 : f ρ = .ok a ρ) (h2 : g ρ = .ok b ρ) (h3 : j ρ = .ok d ρ) : mTup [f, g, j] ρ = .ok (.tup [a, b, d]) ρ := by
  unfold mTup M.bind
  simp only [seqM, M.bind, h1, h2, h3, Out.andThen, M.pure]
theorem andV_tt {f g : M D} {ρ ρ1 ρ2 : Cells} {d : D} (h1 : f ρ = .ok (.bl true) ρ1) (h2 : g ρ1 = .ok d ρ2) : mAndV f g ρ = .ok d ρ2 := by
  unfold mAndV M.bind
  rw [mB_ok h1]
  exact h2
end
section
variable {n k f sz : Int}
theorem loop_extT {α β : Type} {g : TgM} {body : MS} (St : List D → α → Cells) (em : β → D) (f : β → List D) (N : Nat) : ∀ (xs : List β) (L : List D) (c : α), L.length + (xs.flatMap f).length ≤ N →
    (∀ x ∈ xs, ∀ (L : List D) (c : α), L.length + (f x).length ≤ N → ∃ ρ1 c', g (em x) (St L c) = some ρ1 ∧ body ρ1 = .next (St (L ++ f x) c')) →
    ∃ c', loopM g body (xs.map em) (St L c) = .next (St (L ++ xs.flatMap f) c')
  | [], L, c, _, _ => ⟨c, by rw [List.flatMap_nil, List.append_nil]; rfl⟩
  | x :: xs, L, c, hN, h => by
    rw [List.flatMap_cons, List.length_append] at hN
    obtain ⟨ρ1, c', h1, h2⟩ := h x List.mem_cons_self L c (by omega)
    obtain ⟨c2, e⟩ := loop_extT St em f N xs (L ++ f x) c' (by rw [List.length_append]; omega) fun y hy => h y (List.mem_cons_of_mem _ hy)
    refine ⟨c2, ?_⟩
    rw [List.flatMap_cons, ← List.append_assoc, ← e, List.map_cons]
    conv => lhs; unfold loopM
    simp only [h1, h2]
theorem lcM_T {β : Type} {g : TgM} {tt : M Bool} {fe : M D} {vs : List Nat} {w : Cells} (em : β → D) (P : β → Bool) (f : β → D) : ∀ (xs : List β) (ρ : Cells), wipeC ρ vs = w →
    (∀ x ∈ xs, ∃ ρ1, g (em x) w = some ρ1 ∧ tt ρ1 = .ok (P x) ρ1 ∧ (P x = true → fe ρ1 = .ok (f x) ρ1) ∧ wipeC ρ1 vs = w) →
    ∃ ρ', lcM g tt fe vs (xs.map em) ρ = some ((xs.filter P).map f, ρ') ∧ wipeC ρ' vs = w
  | [], ρ, hw, _ => ⟨ρ, rfl, hw⟩
  | x :: xs, ρ, hw, h => by
    obtain ⟨ρ1, h1, h2, h3, h4⟩ := h x List.mem_cons_self
    obtain ⟨ρ', e, hw'⟩ := lcM_T (g := g) (tt := tt) (fe := fe) em P f xs ρ1 h4 fun y hy => h y (List.mem_cons_of_mem _ hy)
    refine ⟨ρ', ?_, hw'⟩
    rw [List.map_cons]
    unfold lcM
    rw [hw]
    simp only [h1, h2]
    cases hP : P x with
    | true => simp [hP, h3 hP, e]
    | false => simp [hP, e]
theorem mLc_T {β : Type} {fi : M (List D)} {g : TgM} {tt : M Bool} {fe : M D} {vs : List Nat} {ρ : Cells} (em : β → D) (P : β → Bool) (f : β → D) {xs : List β} (hi : fi ρ = .ok (xs.map em) ρ) (ho : vs.all (fun v => !isOwn ρ[v]?) = true)
    (h : ∀ x ∈ xs, ∃ ρ1, g (em x) (wipeC ρ vs) = some ρ1 ∧ tt ρ1 = .ok (P x) ρ1 ∧ (P x = true → fe ρ1 = .ok (f x) ρ1) ∧ wipeC ρ1 vs = wipeC ρ vs) :
    mLc fi g tt fe vs ρ = .ok (.lst ((xs.filter P).map f)) ρ := by
  obtain ⟨ρ', e, hw⟩ := lcM_T (g := g) (tt := tt) (fe := fe) em P f xs ρ rfl h
  unfold mLc M.bind
  rw [hi]
  show (if vs.all (fun v => !isOwn ρ[v]?) = true then _ else _) = _
  rw [if_pos ho, e]
  show Out.ok _ (unwipe ρ ρ' vs) = _
  rw [unwipe_same hw]
theorem filter_true {β : Type} (l : List β) : l.filter (fun _ => true) = l := List.filter_eq_self.mpr fun _ _ => rfl
theorem mOr_t {f g : M Bool} {ρ ρ1 : Cells} (h1 : f ρ = .ok true ρ1) : mOr f g ρ = .ok true ρ1 := by
  unfold mOr M.bind
  rw [h1]
  rfl
theorem mOr_f {f g : M Bool} {ρ ρ1 ρ2 : Cells} {b : Bool} (h1 : f ρ = .ok false ρ1) (h2 : g ρ1 = .ok b ρ2) : mOr f g ρ = .ok b ρ2 := by
  unfold mOr M.bind
  rw [h1]
  exact h2
theorem flat_map {β γ : Type} (f : β → List γ) (h : γ → D) (l : List β) : l.flatMap (fun x => (f x).map h) = (l.flatMap f).map h := by
  rw [List.map_flatMap]
end
section
variable {n k f : Int}
theorem seqI_ok {f : M D} {ρ ρ1 : Cells} {d : D} {ds : List D} (h : f ρ = .ok d ρ1) (h2 : itemsOf d = some ds) : mSeqI f ρ = .ok ds ρ1 := by
  unfold mSeqI M.bind
  rw [h]
  show M.lift (itemsOf d) ρ1 = _
  rw [h2]
  rfl
def cellO : Option D → Cell
  | none => .no
  | some d => .dat d
theorem cellO_no (o : Option D) : isOwn (some (cellO o)) = false := by cases o <;> rfl
end
section
theorem callF1' {F : Fn} {f : M D} {ρ ρ1 : Cells} {a d : D} (h1 : f ρ = .ok a ρ1) (h : F [a] = .ret d []) : mCallF F [.dat f] ρ = .ok d ρ1 := by
  unfold mCallF
  simp [preL, M.bind, Opn.pre, h1, Out.andThen, M.pure, rdA, Opn.rd, setOuts, ownSlots, h]
theorem par_ok {f g : M D} {ρ ρ1 ρ2 : Cells} {i j : Nat} {a b : D} (h1 : f ρ = .ok a ρ1) (h2 : g ρ1 = .ok b ρ2) : mPar f g i j ρ = .next ((ρ2.set i (.dat a)).set j (.dat b)) := by
  unfold mPar mDo
  simp only [h1, h2]
theorem draw_c (a b d : Int) {lim : Int} (h : 0 < lim) (h2 : lim < 1000000) : ∃ r a' b' d', (∀ (f : M D) (ρ : Cells), f (.own (wellD a b d) :: ρ) = .ok (.int lim) (.own (wellD a b d) :: ρ) → (mCallF m_law_draw [(.own 0), (.dat (f))]) (.own (wellD a b d) :: ρ) = .ok (.int r) (.own (wellD a' b' d') :: ρ)) ∧ 0 ≤ r ∧ r < lim := by
  obtain ⟨r, a', b', d', e, q1, q2⟩ := e_draw a b d h h2
  exact ⟨r, a', b', d', fun f ρ hf => callO2 hf e, q1, q2⟩
theorem pick_c (a b d : Int) {x y : Int} (h1 : 0 < x) (h2 : x ≤ 1000) (h3 : 0 < y) (h4 : y ≤ 1000) : ∃ r a' b' d', (∀ (ρ : Cells), (mCallF m_law_draw [(.own 0), (.dat (mOp2 sIx (.dat (mLst [(M.pure (.int x)), (M.pure (.int y))])) (.dat (mCallF m_law_draw [(.own 0), (.dat (M.pure (.int 2)))]))))]) (.own (wellD a b d) :: ρ) = .ok (.int r) (.own (wellD a' b' d') :: ρ)) ∧ 0 ≤ r ∧ (r < x ∨ r < y) := by
  obtain ⟨r1, a1, b1, d1, e1, q1, q2⟩ := e_draw a b d (lim := 2) (by omega) (by omega)
  have hr : r1 = 0 ∨ r1 = 1 := by omega
  have key : ∃ z : Int, (z = x ∨ z = y) ∧ sIx (.lst [.int x, .int y]) (.int r1) = some (.int z) := by
    rcases hr with rfl | rfl
    · exact ⟨x, .inl rfl, atI_nat [D.int x, .int y] 0⟩
    · exact ⟨y, .inr rfl, atI_nat [D.int x, .int y] 1⟩
  obtain ⟨z, hz, e2⟩ := key
  obtain ⟨r, a', b', d', e, q3, q4⟩ := e_draw a1 b1 d1 (lim := z) (by omega) (by omega)
  refine ⟨r, a', b', d', fun ρ => callO2 (mOp2_dd (x := .lst [.int x, .int y]) rfl (callO2 rfl e1) e2) e, q3, by omega⟩
theorem ret_and3 {f g h : M D} {ρ : Cells} (h1 : f ρ = .ok (.bl true) ρ) (h2 : g ρ = .ok (.bl true) ρ) (h3 : h ρ = .ok (.bl true) ρ) : mRet (mAndV f (mAndV g h)) ρ = .ret (.bl true) ρ := by
  unfold mRet mDo
  rw [andV_tt h1 (andV_tt h2 h3)]
end
end Fx
set_option Elab.async false
set_option linter.all false
set_option maxRecDepth 100000
set_option maxHeartbeats 1000000
namespace Fx
open PySem L2
section
variable {n t : Int} {rows : List (List Int)} {p : List (Option Int)} {st : List Int}
/-! ### the first held one -/
def heldR (rows : List (List Int)) (p : List (Option Int)) (st : List Int) : D := match (mvF st 0 p).find? (heldBy rows p st) with
  | some s => heldF rows p st (.int s)
  | none => .non
theorem e_first_held (hok : PlOk rows p) (hst : StOk p st) : m_first_held [farmD n rows t, plcD p, (.tup (st.map .int))] = .ret (heldR rows p st) [] := by
  obtain ⟨ρ', ⟨x, y, z, hρ⟩, e⟩ := loop_find (g := gNm 3) (body := mSeq (mAsg (mCallF m_passed_over [(.dat (mVar 0)), (.dat (mVar 1)), (.dat (mVar 3))]) (gNm 4)) (mFor (mSeqI (mCall sSorted [(.dat (mVar 2))])) (gNm 5) (mIfS (mB (mOp2 sIn (.dat (mOp2 sIx (.dat (mVar 1)) (.dat (mVar 5)))) (.dat (mVar 4)))) (mRet (mTup [(mVar 3), (mVar 5)])) mSkip)))
    (fun ρ => ∃ x y z, ρ = [.dat (farmD n rows t), .dat (plcD p), .dat (.tup (st.map .int)), x, y, z]) (ofInt (heldBy rows p st)) (heldF rows p st) ((mvF st 0 p).map .int) [.dat (farmD n rows t), .dat (plcD p), .dat (.tup (st.map .int)), .no, .no, .no] ⟨.no, .no, .no, rfl⟩
    (fun dd ρ hd ⟨x, y, z, hρ⟩ => by
      obtain ⟨s, hs, rfl⟩ := List.mem_map.mp hd
      subst hρ
      obtain ⟨w, w2, q⟩ := fh_in (n := n) (t := t) hok hst (mv_pres hs) y z
      exact ⟨[.dat (farmD n rows t), .dat (plcD p), .dat (.tup (st.map .int)), .dat (.int s), y, z], by simp [gNm], [.dat (farmD n rows t), .dat (plcD p), .dat (.tup (st.map .int)), .dat (.int s), w, w2], ⟨_, _, _, rfl⟩, q⟩)
  subst hρ
  rw [find_ints] at e
  have f1 : mSeqI (mCallF m_movers [(.dat (mVar 1)), (.dat (mVar 2))]) [.dat (farmD n rows t), .dat (plcD p), .dat (.tup (st.map .int)), .no, .no, .no] = .ok ((mvF st 0 p).map .int) [.dat (farmD n rows t), .dat (plcD p), .dat (.tup (st.map .int)), .no, .no, .no] := seqI_ok (callF2 rfl rfl (e_movers p st)) rfl
  have fin : ∀ d, b_first_held [.dat (farmD n rows t), .dat (plcD p), .dat (.tup (st.map .int)), .no, .no, .no] = .ret d [.dat (farmD n rows t), .dat (plcD p), .dat (.tup (st.map .int)), x, y, z] → m_first_held [farmD n rows t, plcD p, (.tup (st.map .int))] = .ret d [] := fun d h => by
    unfold m_first_held
    rw [mkFn_ret (d := d) (ρ := [.dat (farmD n rows t), .dat (plcD p), .dat (.tup (st.map .int)), x, y, z]) h]
    rfl
  unfold heldR
  cases hf : (mvF st 0 p).find? (heldBy rows p st) with
  | some s =>
    rw [hf] at e
    refine fin _ ?_
    unfold b_first_held
    rw [mSeq_ret (by rw [mFor_next f1]; exact e)]
  | none =>
    rw [hf] at e
    refine fin _ ?_
    unfold b_first_held
    rw [mSeq_next (by rw [mFor_next f1]; exact e)]
    rfl
theorem held_some {s : Int} (h : heldBy rows p st s = true) : ∃ o, (sortI st).find? (hQ rows p s) = some o := by
  rw [← held_any] at h
  obtain ⟨o, q1, q2⟩ := List.any_eq_true.mp h
  cases hg : (sortI st).find? (hQ rows p s) with
  | some o => exact ⟨o, rfl⟩
  | none => exact absurd q2 (List.find?_eq_none.mp hg o q1)
/-! ### a ring -/
def Walk (R : Int → Int → Prop) (l : List Int) : Prop := ∀ (k : Nat) (a b : Int), l[k]? = some a → l[k + 1]? = some b → R a b
theorem Walk.snoc {R : Int → Int → Prop} {l : List Int} {x y : Int} (h : Walk R (l ++ [x])) (r : R x y) : Walk R (l ++ [x] ++ [y]) := by
  intro k a b h1 h2
  by_cases hk : k + 1 < (l ++ [x]).length
  · rw [List.getElem?_append_left hk] at h2
    rw [List.getElem?_append_left (by omega)] at h1
    exact h k a b h1 h2
  · have hl : (l ++ [x]).length = l.length + 1 := by simp
    have hk2 := (List.getElem?_eq_some_iff.mp h2).1
    have hl2 : (l ++ [x] ++ [y]).length = l.length + 2 := by simp
    have hk3 : k = l.length := by omega
    subst hk3
    have e1 : (l ++ [x] ++ [y])[l.length]? = some x := by simp
    have e2 : (l ++ [x] ++ [y])[l.length + 1]? = some y := by
      rw [List.getElem?_append_right (by omega), hl]
      simp
    rw [e1] at h1
    rw [e2] at h2
    cases h1
    cases h2
    exact r
structure RingOk (rows : List (List Int)) (p : List (Option Int)) (L ring : List Int) : Prop where
  ne : ring ≠ []
  nd : ring.Nodup
  sub : ∀ s ∈ ring, s ∈ L
  nxt : Walk (Ps rows p) ring
  cyc : ∀ a b, ring[ring.length - 1]? = some a → ring[0]? = some b → Ps rows p a b
theorem ring_of {L w : List Int} {x : Int} (hx : x ∈ w) (hn : w.Nodup) (hs : ∀ s ∈ w, s ∈ L) (hw : Walk (Ps rows p) (w ++ [x])) : RingOk rows p L (w.drop (w.idxOf x)) := by
  have hj := List.idxOf_lt_length_of_mem hx
  refine ⟨fun z => ?_, hn.sublist (List.drop_sublist _ _), fun s h => hs s (List.mem_of_mem_drop h), fun k a b h1 h2 => ?_, fun a b h1 h2 => ?_⟩
  · have := congrArg List.length z
    rw [List.length_drop, List.length_nil] at this
    omega
  · rw [List.getElem?_drop] at h1 h2
    have l1 := (List.getElem?_eq_some_iff.mp h1).1
    have l2 := (List.getElem?_eq_some_iff.mp h2).1
    refine hw (w.idxOf x + k) a b (by rw [List.getElem?_append_left l1]; exact h1) ?_
    rw [List.getElem?_append_left (by omega)]
    exact h2
  · rw [List.length_drop, List.getElem?_drop] at h1
    rw [List.getElem?_drop] at h2
    have l1 := (List.getElem?_eq_some_iff.mp h1).1
    have e : w.idxOf x + (w.length - w.idxOf x - 1) = w.length - 1 := by omega
    rw [e] at h1 l1
    have e2 : b = x := by
      rw [Nat.add_zero, List.getElem?_eq_getElem hj, List.getElem_idxOf] at h2
      exact (Option.some.inj h2).symm
    subst e2
    refine hw (w.length - 1) a b (by rw [List.getElem?_append_left l1]; exact h1) ?_
    have e3 : w.length - 1 + 1 = w.length := by omega
    rw [e3]
    simp
theorem sCut_mid (w : List Int) (x : Int) {j : Nat} (hj : j ≤ w.length) : sCut (.lst ((w ++ [x]).map .int)) (some (j : Int)) (some (-1)) = some (D.lst (List.map D.int (w.drop j))) := by
  have h : cutD ((w ++ [x]).map D.int) (some (j : Int)) (some (-1)) = (w.drop j).map .int := by
    unfold cutD
    have z : HT.sIx ((w ++ [x]).map D.int).length ((w ++ [x]).map D.int).length (some (-1)) = w.length := by
      rw [List.length_map, List.length_append, List.length_singleton]
      simp [HT.sIx]
      omega
    have z2 : HT.sIx ((w ++ [x]).map D.int).length 0 (some (j : Int)) = j := by
      rw [HT.sIx_nat, List.length_map, List.length_append, List.length_singleton]
      omega
    rw [z, z2, ← List.map_drop, List.drop_append_of_le_length hj, List.map_append, List.take_append_of_le_length (by rw [List.length_map, List.length_drop]; exact Nat.le_refl _), List.take_of_length_le (by rw [List.length_map, List.length_drop]; exact Nat.le_refl _)]
  show some (D.lst _) = _
  rw [h]
/-- as in the walk: the next one is one that is passed over -/
theorem ra_next (hok : PlOk rows p) {left : List Int} (hp : ∀ s ∈ left, Pres p s) {w : List Int} {x o : Int} (hx : x ∈ left) (ho : o ∈ left) (hr : Ps rows p x o) (hl : w.length ≤ 4000) (z1 z2 : Cell) (hz : isOwn (some z2) = false) :
    ∃ o ∈ left, Ps rows p x o ∧ (mSeq (mAsg (mCallF m_passed_over [(.dat (mVar 0)), (.dat (mVar 1)), (.dat (mOp2 sIx (.own 3) (.dat (mNeg (M.pure (.int 1))))))]) (gNm 4)) (mExpr (mMethWR wAppend 3 [(mOp2 sIx (.dat (mLc (mSeqI (mVar 2)) (gNm 5) (mB (mOp2 sIn (.dat (mOp2 sIx (.dat (mVar 1)) (.dat (mVar 5)))) (.dat (mVar 4)))) (mVar 5) [5])) (.dat (M.pure (.int 0))))]))) [.dat (farmD n rows t), .dat (plcD p), .dat (D.lst (List.map D.int left)), .own (.lst ((w ++ [x]).map .int)), z1, z2] =
      .next [.dat (farmD n rows t), .dat (plcD p), .dat (D.lst (List.map D.int left)), .own (.lst (((w ++ [x]) ++ [o]).map .int)), .dat (rowD (passI rows p x)), z2] := by
  have q1 := e_po' (n := n) (t := t) (hp x hx) hok
  have h1 := sIx_last w x
  have e1 : mCallF m_passed_over [(.dat (mVar 0)), (.dat (mVar 1)), (.dat (mOp2 sIx (.own 3) (.dat (mNeg (M.pure (.int 1))))))] [.dat (farmD n rows t), .dat (plcD p), .dat (D.lst (List.map D.int left)), .own (.lst ((w ++ [x]).map .int)), z1, z2] = .ok (rowD (passI rows p x)) [.dat (farmD n rows t), .dat (plcD p), .dat (D.lst (List.map D.int left)), .own (.lst ((w ++ [x]).map .int)), z1, z2] := by
    generalize (w ++ [x]).map D.int = W at h1 ⊢
    simp [mkFn, mSeq, mIfS, mDo, mRet, mRetN, mSkip, mExpr, mAsg, mAnd, mOr, mNot, mAndV, mOrV, mNotV, mB, mIf, mV, mNeg, mCall, mOp2, mTup, mLst, mMeth, mSl, mPart, preL, seqM, M.bind, M.pure, M.lift, M.stuck, Out.andThen, mVar, Opn.pre, Opn.rd, rdM, rdLM, rdL, cellD, initC, initAt, outsOf, outAt, gNm, gTp, gNms, mNew, mFrz, mPar, mFld, mCallF, mCallK, mCallN, appF, rdA, setOuts, ownSlots, ownPos, mSeqI, mEnum, mRange1, itemsOf, h1, q1]
  have e2 : mLc (mSeqI (mVar 2)) (gNm 5) (mB (mOp2 sIn (.dat (mOp2 sIx (.dat (mVar 1)) (.dat (mVar 5)))) (.dat (mVar 4)))) (mVar 5) [5] [.dat (farmD n rows t), .dat (plcD p), .dat (D.lst (List.map D.int left)), .own (.lst ((w ++ [x]).map .int)), .dat (rowD (passI rows p x)), z2] =
      .ok (.lst ((left.filter (hQ rows p x)).map .int)) [.dat (farmD n rows t), .dat (plcD p), .dat (D.lst (List.map D.int left)), .own (.lst ((w ++ [x]).map .int)), .dat (rowD (passI rows p x)), z2] := by
    generalize (w ++ [x]).map D.int = W
    exact mLc_T (xs := left) D.int (hQ rows p x) D.int (by simp [mkFn, mSeq, mIfS, mDo, mRet, mRetN, mSkip, mExpr, mAsg, mAnd, mOr, mNot, mAndV, mOrV, mNotV, mB, mIf, mV, mNeg, mCall, mOp2, mTup, mLst, mMeth, mSl, mPart, preL, seqM, M.bind, M.pure, M.lift, M.stuck, Out.andThen, mVar, Opn.pre, Opn.rd, rdM, rdLM, rdL, cellD, initC, initAt, outsOf, outAt, gNm, gTp, gNms, mNew, mFrz, mPar, mFld, mCallF, mCallK, mCallN, appF, rdA, setOuts, ownSlots, ownPos, mSeqI, mEnum, mRange1, itemsOf]) (by simp [hz]) (fun o ho => by
      refine ⟨[.dat (farmD n rows t), .dat (plcD p), .dat (D.lst (List.map D.int left)), .own (.lst W), .dat (rowD (passI rows p x)), .dat (.int o)], by simp [gNm, wipeC], ?_, fun _ => by simp [mkFn, mSeq, mIfS, mDo, mRet, mRetN, mSkip, mExpr, mAsg, mAnd, mOr, mNot, mAndV, mOrV, mNotV, mB, mIf, mV, mNeg, mCall, mOp2, mTup, mLst, mMeth, mSl, mPart, preL, seqM, M.bind, M.pure, M.lift, M.stuck, Out.andThen, mVar, Opn.pre, Opn.rd, rdM, rdLM, rdL, cellD, initC, initAt, outsOf, outAt, gNm, gTp, gNms, mNew, mFrz, mPar, mFld, mCallF, mCallK, mCallN, appF, rdA, setOuts, ownSlots, ownPos, mSeqI, mEnum, mRange1, itemsOf], by simp [wipeC]⟩
      have z1 := sIx_pl (hp o ho)
      have z3 : sIn (.int (plAt p o)) (rowD (passI rows p x)) = some (.bl (hQ rows p x o)) := sIn_tup _ _
      simp [mkFn, mSeq, mIfS, mDo, mRet, mRetN, mSkip, mExpr, mAsg, mAnd, mOr, mNot, mAndV, mOrV, mNotV, mB, mIf, mV, mNeg, mCall, mOp2, mTup, mLst, mMeth, mSl, mPart, preL, seqM, M.bind, M.pure, M.lift, M.stuck, Out.andThen, mVar, Opn.pre, Opn.rd, rdM, rdLM, rdL, cellD, initC, initAt, outsOf, outAt, gNm, gTp, gNms, mNew, mFrz, mPar, mFld, mCallF, mCallK, mCallN, appF, rdA, setOuts, ownSlots, ownPos, mSeqI, mEnum, mRange1, itemsOf, z1, z3])
  have hne : left.filter (hQ rows p x) ≠ [] := List.ne_nil_of_mem (List.mem_filter.mpr ⟨ho, decide_eq_true hr⟩)
  obtain ⟨y, ys, hy⟩ := List.exists_cons_of_ne_nil hne
  obtain ⟨hy2, hy3⟩ := List.mem_filter.mp (show y ∈ left.filter (hQ rows p x) by rw [hy]; exact List.mem_cons_self)
  refine ⟨y, hy2, (of_decide_eq_true (p := plAt p y ∈ passI rows p x) hy3 : plAt p y ∈ passI rows p x), ?_⟩
  rw [hy] at e2
  have e3 : mOp2 sIx (.dat (mLc (mSeqI (mVar 2)) (gNm 5) (mB (mOp2 sIn (.dat (mOp2 sIx (.dat (mVar 1)) (.dat (mVar 5)))) (.dat (mVar 4)))) (mVar 5) [5])) (.dat (M.pure (.int 0))) [.dat (farmD n rows t), .dat (plcD p), .dat (D.lst (List.map D.int left)), .own (.lst ((w ++ [x]).map .int)), .dat (rowD (passI rows p x)), z2] = .ok (.int y) [.dat (farmD n rows t), .dat (plcD p), .dat (D.lst (List.map D.int left)), .own (.lst ((w ++ [x]).map .int)), .dat (rowD (passI rows p x)), z2] :=
    mOp2_dd e2 rfl (sIx_zero y ys)
  rw [mSeq_next (ρ' := [.dat (farmD n rows t), .dat (plcD p), .dat (D.lst (List.map D.int left)), .own (.lst ((w ++ [x]).map .int)), .dat (rowD (passI rows p x)), z2]) (by exact mAsg_ok e1 rfl)]
  rw [app_ok (i := 3) (L := (w ++ [x]).map .int) rfl e3 (by rw [List.length_map, List.length_append, List.length_singleton]; omega), List.map_append (l₁ := w ++ [x])]
  rfl
theorem e_ring_among (hok : PlOk rows p) {left : List Int} (hp : ∀ s ∈ left, Pres p s) (h0 : left ≠ []) (hl : left.length ≤ 1000) (hc : Cl (Ps rows p) left) :
    ∃ ring, m_ring_among [farmD n rows t, plcD p, (D.lst (List.map D.int left))] = .ret (.tup (ring.map .int)) [] ∧ RingOk rows p left ring := by
  obtain ⟨y0, ys, hy⟩ := List.exists_cons_of_ne_nil h0
  have hy0 : y0 ∈ left := by rw [hy]; exact List.mem_cons_self
  obtain ⟨ρ', e1, w, x, z1, z2, hx, hn, hw, hwalk, he⟩ := while_inv (t := mB (mOp2 sNin (.dat (mOp2 sIx (.own 3) (.dat (mNeg (M.pure (.int 1)))))) (.dat (mSl sCut (.own 3) none (some (mNeg (M.pure (.int 1)))))))) (body := mSeq (mAsg (mCallF m_passed_over [(.dat (mVar 0)), (.dat (mVar 1)), (.dat (mOp2 sIx (.own 3) (.dat (mNeg (M.pure (.int 1))))))]) (gNm 4)) (mExpr (mMethWR wAppend 3 [(mOp2 sIx (.dat (mLc (mSeqI (mVar 2)) (gNm 5) (mB (mOp2 sIn (.dat (mOp2 sIx (.dat (mVar 1)) (.dat (mVar 5)))) (.dat (mVar 4)))) (mVar 5) [5])) (.dat (M.pure (.int 0))))])))
    (fun k ρ => ∃ (w : List Int) (x : Int) (z1 z2 : Cell), ρ = [.dat (farmD n rows t), .dat (plcD p), .dat (D.lst (List.map D.int left)), .own (.lst ((w ++ [x]).map .int)), z1, z2] ∧ isOwn (some z2) = false ∧ w.Nodup ∧ (∀ s ∈ w, s ∈ left) ∧ x ∈ left ∧ k + w.length = left.length ∧ Walk (Ps rows p) (w ++ [x]))
    (fun ρ => ∃ (w : List Int) (x : Int) (z1 z2 : Cell), x ∈ w ∧ w.Nodup ∧ (∀ s ∈ w, s ∈ left) ∧ Walk (Ps rows p) (w ++ [x]) ∧ ρ = [.dat (farmD n rows t), .dat (plcD p), .dat (D.lst (List.map D.int left)), .own (.lst ((w ++ [x]).map .int)), z1, z2])
    (fun k ρ ⟨w, x, z1, z2, e, hz, hn, hw, hx, hk, hwk⟩ => by
      subst e
      refine ⟨_, _, ra_test _ _ _ w x z1 z2, fun hb => ⟨w, x, z1, z2, by simpa using hb, hn, hw, hwk, rfl⟩, fun hb => ?_⟩
      have hxw : x ∉ w := by simpa using hb
      obtain ⟨o, ho, hr⟩ := hc x hx
      have hlw := pigeon w left hn hw
      obtain ⟨o2, ho2, hr2, e2⟩ := ra_next (n := n) (t := t) hok hp (w := w) hx ho hr (by omega) z1 z2 hz
      have hn2 : (w ++ [x]).Nodup := by
        rw [List.nodup_append]
        refine ⟨hn, by simp, fun a ha b hb => ?_⟩
        have hb : b = x := by simpa using hb
        subst hb
        intro z
        subst z
        exact hxw ha
      have hw2 : ∀ s ∈ w ++ [x], s ∈ left := fun s hs => by
        rcases List.mem_append.mp hs with z | z
        · exact hw s z
        · have z : s = x := by simpa using z
          subst z
          exact hx
      have hlw2 := pigeon _ left hn2 hw2
      rw [List.length_append, List.length_singleton] at hlw2
      exact ⟨_, k - 1, e2, by omega, w ++ [x], o2, _, z2, rfl, hz, hn2, hw2, ho2, by rw [List.length_append, List.length_singleton]; omega, hwk.snoc hr2⟩) 4096 left.length _ (by omega) ⟨[], y0, .no, .no, rfl, rfl, List.nodup_nil, (fun _ h => nomatch h), hy0, by simp, fun k a b h1 h2 => by simp at h2⟩
  subst he
  have h1 := sIx_last w x
  have hj := List.idxOf_lt_length_of_mem hx
  have hix : (w ++ [x]).idxOf x = w.idxOf x := by rw [List.idxOf_append, if_pos hx]
  have h2 : sLix (.lst ((w ++ [x]).map .int)) [.int x] = some (.int (w.idxOf x : Nat)) := by
    rw [sLix_in (List.mem_append_left _ hx), hix]
  have h3 := sCut_mid w x (j := w.idxOf x) (by omega)
  have h0' : sIx (D.lst (List.map D.int left)) (.int 0) = some (.int y0) := by
    rw [hy]
    exact sIx_zero y0 ys
  refine ⟨w.drop (w.idxOf x), ?_, ring_of hx hn hw hwalk⟩
  have fin : b_ring_among [.dat (farmD n rows t), .dat (plcD p), .dat (D.lst (List.map D.int left)), .no, .no, .no] = .ret (.tup ((w.drop (w.idxOf x)).map .int)) [.dat (farmD n rows t), .dat (plcD p), .dat (D.lst (List.map D.int left)), .own (.lst ((w ++ [x]).map .int)), z1, z2] := by
    unfold b_ring_among
    rw [mSeq_next (ρ' := [.dat (farmD n rows t), .dat (plcD p), .dat (D.lst (List.map D.int left)), .own (.lst (([] ++ [y0]).map .int)), .no, .no]) (by simp [mkFn, mSeq, mIfS, mDo, mRet, mRetN, mSkip, mExpr, mAsg, mAnd, mOr, mNot, mAndV, mOrV, mNotV, mB, mIf, mV, mNeg, mCall, mOp2, mTup, mLst, mMeth, mSl, mPart, preL, seqM, M.bind, M.pure, M.lift, M.stuck, Out.andThen, mVar, Opn.pre, Opn.rd, rdM, rdLM, rdL, cellD, initC, initAt, outsOf, outAt, gNm, gTp, gNms, mNew, mFrz, mPar, mFld, mCallF, mCallK, mCallN, appF, rdA, setOuts, ownSlots, ownPos, mSeqI, mEnum, mRange1, itemsOf, h0'])]
    rw [mSeq_next e1]
    have h4 : isLst (.lst ((w ++ [x]).map .int)) = true := rfl
    generalize (w ++ [x]).map D.int = W at h1 h2 h3 h4 ⊢
    generalize w.idxOf x = K at h2 h3 ⊢
    simp [mkFn, mSeq, mIfS, mDo, mRet, mRetN, mSkip, mExpr, mAsg, mAnd, mOr, mNot, mAndV, mOrV, mNotV, mB, mIf, mV, mNeg, mCall, mOp2, mTup, mLst, mMeth, mSl, mPart, preL, seqM, M.bind, M.pure, M.lift, M.stuck, Out.andThen, mVar, Opn.pre, Opn.rd, rdM, rdLM, rdL, cellD, initC, initAt, outsOf, outAt, gNm, gTp, gNms, mNew, mFrz, mPar, mFld, mCallF, mCallK, mCallN, appF, rdA, setOuts, ownSlots, ownPos, mSeqI, mEnum, mRange1, itemsOf, h1, h2, h3, h4, sTuple]
  unfold m_ring_among
  rw [mkFn_ret (d := .tup ((w.drop (w.idxOf x)).map .int)) (ρ := [.dat (farmD n rows t), .dat (plcD p), .dat (D.lst (List.map D.int left)), .own (.lst ((w ++ [x]).map .int)), z1, z2]) fin]
  rfl
end
end Fx
set_option Elab.async false
set_option linter.all false
set_option maxRecDepth 100000
set_option maxHeartbeats 1000000
namespace Fx
open PySem L2
section
variable {n t : Int} {rows : List (List Int)} {p : List (Option Int)} {st : List Int}
structure OrdOk (rows : List (List Int)) (p : List (Option Int)) (M os : List Int) : Prop where
  perm : os.Perm M
  ord : os.Pairwise fun o s => ¬ Ps rows p s o
/-- what order_of answers -/
inductive OrdRes (t : Int) (rows : List (List Int)) (p : List (Option Int)) (st : List Int) : D → Prop
  | far (s : Int) : (mvF st 0 p).find? (farQ rows p t) = some s → OrdRes t rows p st (.tup [.str "far", .int s])
  | held (s o : Int) : (mvF st 0 p).find? (farQ rows p t) = none → (mvF st 0 p).find? (heldBy rows p st) = some s → (sortI st).find? (hQ rows p s) = some o → OrdRes t rows p st (.tup [.str "held", .int s, .int o])
  | order (os : List Int) : (mvF st 0 p).find? (farQ rows p t) = none → (mvF st 0 p).find? (heldBy rows p st) = none → NoCore (Ps rows p) (mvF st 0 p) → OrdOk rows p (mvF st 0 p) os → OrdRes t rows p st (.tup [.str "order", .tup (os.map .int)])
  | ring (r : List Int) : (mvF st 0 p).find? (farQ rows p t) = none → (mvF st 0 p).find? (heldBy rows p st) = none → ¬ NoCore (Ps rows p) (mvF st 0 p) → RingOk rows p (mvF st 0 p) r → OrdRes t rows p st (.tup [.str "ring", .tup (r.map .int)])
/-- what is ordered, and what is left -/
structure OrdInv (rows : List (List Int)) (p : List (Option Int)) (M l os : List Int) : Prop where
  perm : (l ++ os).Perm M
  cross : ∀ s ∈ os, ∀ o ∈ l, ¬ Ps rows p s o
  ord : os.Pairwise fun o s => ¬ Ps rows p s o
theorem split_perm (f : Int → Bool) : ∀ l : List Int, (l.filter (fun s => !f s) ++ l.filter f).Perm l
  | [] => List.Perm.refl _
  | a :: l => by
    rw [List.filter_cons, List.filter_cons]
    have ih := split_perm f l
    cases h : f a with
    | true => simpa using List.perm_middle.trans (ih.cons a)
    | false => simpa using ih.cons a
theorem OrdInv.step {M l os : List Int} (h : OrdInv rows p M l os) : OrdInv rows p M (l.filter (fun s => !lastQ rows p (l.map (plAt p)) s)) (l.filter (lastQ rows p (l.map (plAt p))) ++ os) := by
  have hl : ∀ s ∈ l.filter (lastQ rows p (l.map (plAt p))), ∀ o ∈ l, ¬ Ps rows p s o := fun s hs o ho hr => by
    have := (List.mem_filter.mp hs).2
    have h2 := last_iff.mpr ⟨o, ho, hr⟩
    rw [this] at h2
    cases h2
  refine ⟨?_, fun s hs o ho => ?_, ?_⟩
  · rw [← List.append_assoc]
    exact ((split_perm _ l).append_right os).trans h.perm
  · have ho := (List.mem_filter.mp ho).1
    rcases List.mem_append.mp hs with z | z
    · exact hl s z o ho
    · exact h.cross s z o ho
  · rw [List.pairwise_append]
    refine ⟨?_, h.ord, fun o ho s hs => h.cross s hs o (List.mem_filter.mp ho).1⟩
    exact List.pairwise_of_forall_mem_list fun o ho s hs => hl s hs o (List.mem_filter.mp ho).1
theorem or_body (hok : PlOk rows p) {l os : List Int} (hp : ∀ s ∈ l, Pres p s) (hn : l.Nodup) (h0 : l ≠ []) (hl : l.length + os.length ≤ 1000) (a c d : Cell) :
    (∃ a' c' d', (mSeq (mAsg (mDc (mSeqI (mVar 5)) (gNm 8) (M.pure true) (mVar 8) (mCallF m_passed_over [(.dat (mVar 0)), (.dat (mVar 1)), (.dat (mVar 8))]) [8]) (gNm 7)) (mSeq (mAsg (mLc (mSeqI (mVar 5)) (gNm 8) (M.pure true) (mOp2 sIx (.dat (mVar 1)) (.dat (mVar 8))) [8]) (gNm 9)) (mSeq (mAsg (mLc (mSeqI (mVar 5)) (gNm 8) (mB (mOp2 sEq (.dat (mLc (mSeqI (mOp2 sDix (.dat (mVar 7)) (.dat (mVar 8)))) (gNm 11) (mB (mOp2 sIn (.dat (mVar 11)) (.dat (mVar 9)))) (mVar 11) [11])) (.dat (mLst [])))) (mVar 8) [8]) (gNm 10)) (mSeq (mIfS (mB (mOp2 sEq (.dat (mVar 10)) (.dat (mLst [])))) (mRet (mTup [(M.pure (.str "ring")), (mCallF m_ring_among [(.dat (mVar 0)), (.dat (mVar 1)), (.dat (mVar 5))])])) mSkip) (mSeq (mAsg (mOp2 sAdd (.dat (mVar 10)) (.dat (mVar 6))) (gNm 6)) (mAsg (mLc (mSeqI (mVar 5)) (gNm 8) (mB (mOp2 sNin (.dat (mVar 8)) (.dat (mVar 10)))) (mVar 8) [8]) (gNm 5))))))) [.dat (farmD n rows t), .dat (plcD p), .dat (.tup (st.map .int)), .dat .non, .dat .non, .dat (D.lst (List.map D.int l)), .dat (D.lst (List.map D.int os)), a, .no, c, d, .no] = .next [.dat (farmD n rows t), .dat (plcD p), .dat (.tup (st.map .int)), .dat .non, .dat .non, .dat (D.lst (List.map D.int (l.filter (fun s => !lastQ rows p (l.map (plAt p)) s)))), .dat (D.lst (List.map D.int (l.filter (lastQ rows p (l.map (plAt p))) ++ os))), a', .no, c', d', .no] ∧ (l.filter (fun s => !lastQ rows p (l.map (plAt p)) s)).length < l.length) ∨
    (∃ r a' c' d', (mSeq (mAsg (mDc (mSeqI (mVar 5)) (gNm 8) (M.pure true) (mVar 8) (mCallF m_passed_over [(.dat (mVar 0)), (.dat (mVar 1)), (.dat (mVar 8))]) [8]) (gNm 7)) (mSeq (mAsg (mLc (mSeqI (mVar 5)) (gNm 8) (M.pure true) (mOp2 sIx (.dat (mVar 1)) (.dat (mVar 8))) [8]) (gNm 9)) (mSeq (mAsg (mLc (mSeqI (mVar 5)) (gNm 8) (mB (mOp2 sEq (.dat (mLc (mSeqI (mOp2 sDix (.dat (mVar 7)) (.dat (mVar 8)))) (gNm 11) (mB (mOp2 sIn (.dat (mVar 11)) (.dat (mVar 9)))) (mVar 11) [11])) (.dat (mLst [])))) (mVar 8) [8]) (gNm 10)) (mSeq (mIfS (mB (mOp2 sEq (.dat (mVar 10)) (.dat (mLst [])))) (mRet (mTup [(M.pure (.str "ring")), (mCallF m_ring_among [(.dat (mVar 0)), (.dat (mVar 1)), (.dat (mVar 5))])])) mSkip) (mSeq (mAsg (mOp2 sAdd (.dat (mVar 10)) (.dat (mVar 6))) (gNm 6)) (mAsg (mLc (mSeqI (mVar 5)) (gNm 8) (mB (mOp2 sNin (.dat (mVar 8)) (.dat (mVar 10)))) (mVar 8) [8]) (gNm 5))))))) [.dat (farmD n rows t), .dat (plcD p), .dat (.tup (st.map .int)), .dat .non, .dat .non, .dat (D.lst (List.map D.int l)), .dat (D.lst (List.map D.int os)), a, .no, c, d, .no] = .ret (.tup [.str "ring", .tup (r.map .int)]) [.dat (farmD n rows t), .dat (plcD p), .dat (.tup (st.map .int)), .dat .non, .dat .non, .dat (D.lst (List.map D.int l)), .dat (D.lst (List.map D.int os)), a', .no, c', d', .no] ∧ Cl (Ps rows p) l ∧ RingOk rows p l r) := by
  let u := l.map (plAt p)
  let m := l.filter (lastQ rows p u)
  have b1 := mAsg_ok (g := gNm 7) (ρ2 := [.dat (farmD n rows t), .dat (plcD p), .dat (.tup (st.map .int)), .dat .non, .dat .non, .dat (D.lst (List.map D.int l)), .dat (D.lst (List.map D.int os)), .dat (D.dic (List.map Sum.inl l) (List.map (fun s => rowD (passI rows p s)) l)), .no, c, d, .no]) (oq_dc (n := n) (t := t) (st := st) hok hp hn (D.lst (List.map D.int os)) a c d) (by simp [gNm])
  have b2 := mAsg_ok (g := gNm 9) (ρ2 := [.dat (farmD n rows t), .dat (plcD p), .dat (.tup (st.map .int)), .dat .non, .dat .non, .dat (D.lst (List.map D.int l)), .dat (D.lst (List.map D.int os)), .dat (D.dic (List.map Sum.inl l) (List.map (fun s => rowD (passI rows p s)) l)), .no, .dat (D.lst (List.map D.int u)), d, .no]) (oq_us (n := n) (t := t) (rows := rows) (st := st) hp (D.lst (List.map D.int os)) (.dat (D.dic (List.map Sum.inl l) (List.map (fun s => rowD (passI rows p s)) l))) c d) (by simp [gNm, u])
  have b3 := mAsg_ok (g := gNm 10) (ρ2 := [.dat (farmD n rows t), .dat (plcD p), .dat (.tup (st.map .int)), .dat .non, .dat .non, .dat (D.lst (List.map D.int l)), .dat (D.lst (List.map D.int os)), .dat (D.dic (List.map Sum.inl l) (List.map (fun s => rowD (passI rows p s)) l)), .no, .dat (D.lst (List.map D.int u)), .dat (D.lst (List.map D.int m)), .no]) (oq_la (n := n) (t := t) (rows := rows) (p := p) (st := st) (l := l) (u := u) (D.lst (List.map D.int os)) d) (by simp [gNm, m])
  have b4 : mB (mOp2 sEq (.dat (mVar 10)) (.dat (mLst []))) [.dat (farmD n rows t), .dat (plcD p), .dat (.tup (st.map .int)), .dat .non, .dat .non, .dat (D.lst (List.map D.int l)), .dat (D.lst (List.map D.int os)), .dat (D.dic (List.map Sum.inl l) (List.map (fun s => rowD (passI rows p s)) l)), .no, .dat (D.lst (List.map D.int u)), .dat (D.lst (List.map D.int m)), .no] = .ok (decide (m = [])) [.dat (farmD n rows t), .dat (plcD p), .dat (.tup (st.map .int)), .dat .non, .dat .non, .dat (D.lst (List.map D.int l)), .dat (D.lst (List.map D.int os)), .dat (D.dic (List.map Sum.inl l) (List.map (fun s => rowD (passI rows p s)) l)), .no, .dat (D.lst (List.map D.int u)), .dat (D.lst (List.map D.int m)), .no] := mTrue_dd (by rfl)
  by_cases hm : m = []
  · right
    have hc : Cl (Ps rows p) l := fun s hs => by
      refine last_iff.mp ?_
      cases hh : lastQ rows p (l.map (plAt p)) s with
      | false => rfl
      | true => exact absurd (List.mem_filter.mpr ⟨hs, hh⟩) (by show s ∉ m; rw [hm]; exact List.not_mem_nil)
    obtain ⟨r, e, hr⟩ := e_ring_among (n := n) (t := t) hok hp h0 (by omega) hc
    refine ⟨r, .dat (D.dic (List.map Sum.inl l) (List.map (fun s => rowD (passI rows p s)) l)), .dat (D.lst (List.map D.int u)), .dat (D.lst (List.map D.int m)), ?_, hc, hr⟩
    rw [decide_eq_true hm] at b4
    rw [mSeq_next b1, mSeq_next b2, mSeq_next b3]
    refine mSeq_ret ?_
    rw [mIfS_t b4]
    generalize (D.dic (List.map Sum.inl l) (List.map (fun s => rowD (passI rows p s)) l)) = dd
    simp [mkFn, mSeq, mIfS, mDo, mRet, mRetN, mSkip, mExpr, mAsg, mAnd, mOr, mNot, mAndV, mOrV, mNotV, mB, mIf, mV, mNeg, mCall, mOp2, mTup, mLst, mMeth, mSl, mPart, preL, seqM, M.bind, M.pure, M.lift, M.stuck, Out.andThen, mVar, Opn.pre, Opn.rd, rdM, rdLM, rdL, cellD, initC, initAt, outsOf, outAt, gNm, gTp, gNms, mNew, mFrz, mPar, mFld, mCallF, mCallK, mCallN, appF, rdA, setOuts, ownSlots, ownPos, mSeqI, mEnum, mRange1, itemsOf, e]
  · left
    rw [decide_eq_false hm] at b4
    have hsub : m.length ≤ l.length := List.length_filter_le _ _
    have b5 : mOp2 sAdd (.dat (mVar 10)) (.dat (mVar 6)) [.dat (farmD n rows t), .dat (plcD p), .dat (.tup (st.map .int)), .dat .non, .dat .non, .dat (D.lst (List.map D.int l)), .dat (D.lst (List.map D.int os)), .dat (D.dic (List.map Sum.inl l) (List.map (fun s => rowD (passI rows p s)) l)), .no, .dat (D.lst (List.map D.int u)), .dat (D.lst (List.map D.int m)), .no] = .ok (D.lst (List.map D.int (m ++ os))) [.dat (farmD n rows t), .dat (plcD p), .dat (.tup (st.map .int)), .dat .non, .dat .non, .dat (D.lst (List.map D.int l)), .dat (D.lst (List.map D.int os)), .dat (D.dic (List.map Sum.inl l) (List.map (fun s => rowD (passI rows p s)) l)), .no, .dat (D.lst (List.map D.int u)), .dat (D.lst (List.map D.int m)), .no] := mOp2_dd (by rfl) (by rfl) (by
      have q : (m.map D.int).length + (os.map D.int).length ≤ 16777216 := by
        rw [List.length_map, List.length_map]
        omega
      show (if (m.map D.int).length + (os.map D.int).length ≤ 16777216 then some (D.lst (m.map D.int ++ os.map D.int)) else none) = _
      rw [if_pos q, List.map_append])
    have b6 := mAsg_ok (g := gNm 6) (ρ2 := [.dat (farmD n rows t), .dat (plcD p), .dat (.tup (st.map .int)), .dat .non, .dat .non, .dat (D.lst (List.map D.int l)), .dat (D.lst (List.map D.int (m ++ os))), .dat (D.dic (List.map Sum.inl l) (List.map (fun s => rowD (passI rows p s)) l)), .no, .dat (D.lst (List.map D.int u)), .dat (D.lst (List.map D.int m)), .no]) b5 (by rfl)
    have b7 := mAsg_ok (g := gNm 5) (ρ2 := [.dat (farmD n rows t), .dat (plcD p), .dat (.tup (st.map .int)), .dat .non, .dat .non, .dat (D.lst (List.map D.int (l.filter (fun s => !decide (s ∈ m))))), .dat (D.lst (List.map D.int (m ++ os))), .dat (D.dic (List.map Sum.inl l) (List.map (fun s => rowD (passI rows p s)) l)), .no, .dat (D.lst (List.map D.int u)), .dat (D.lst (List.map D.int m)), .no]) (oq_nx (n := n) (t := t) (rows := rows) (p := p) (st := st) (l := l) (m := m) (D.lst (List.map D.int (m ++ os))) (.dat (D.dic (List.map Sum.inl l) (List.map (fun s => rowD (passI rows p s)) l))) (.dat (D.lst (List.map D.int u)))) (by rfl)
    have hfil : l.filter (fun s => !decide (s ∈ m)) = l.filter (fun s => !lastQ rows p u s) := List.filter_congr fun s hs => by
      congr 1
      rw [Bool.eq_iff_iff, decide_eq_true_iff]
      constructor
      · intro h; exact (List.mem_filter.mp h).2
      · intro h; exact List.mem_filter.mpr ⟨hs, h⟩
    have hlen := (split_perm (lastQ rows p u) l).length_eq
    rw [List.length_append] at hlen
    have hmp := List.length_pos_iff.mpr hm
    have hm2 : m.length = (l.filter (lastQ rows p u)).length := rfl
    rw [hfil] at b7
    refine ⟨.dat (D.dic (List.map Sum.inl l) (List.map (fun s => rowD (passI rows p s)) l)), .dat (D.lst (List.map D.int u)), .dat (D.lst (List.map D.int m)), ?_, by show (l.filter (fun s => !lastQ rows p u s)).length < _; omega⟩
    rw [mSeq_next b1, mSeq_next b2, mSeq_next b3]
    rw [mSeq_next (by rw [mIfS_f b4]; rfl), mSeq_next b6]
    exact b7
theorem e_order (hlen : p.length = rows.length) (h1000 : rows.length ≤ 1000) (hok : PlOk rows p) (hrow : ∀ r ∈ rows, RowOk n r) (hst : StOk p st) :
    ∃ r, m_order_of [farmD n rows t, plcD p, (.tup (st.map .int))] = .ret r [] ∧ OrdRes t rows p st r := by
  have c1 := e_check_placement (n := n) (t := t) hlen h1000 hok hrow
  have c2 := e_check_staying (n := n) (t := t) hlen h1000 hst
  have c3 := e_first_far (n := n) (t := t) (st := st) hok
  have c4 := e_first_held (n := n) (t := t) hok hst
  have c7 := e_movers p st
  have s1 : (mExpr (mCallF m_check_placement [(.dat (mVar 0)), (.dat (mVar 1))])) [.dat (farmD n rows t), .dat (plcD p), .dat (.tup (st.map .int)), .no, .no, .no, .no, .no, .no, .no, .no, .no] = .next [.dat (farmD n rows t), .dat (plcD p), .dat (.tup (st.map .int)), .no, .no, .no, .no, .no, .no, .no, .no, .no] := exprF (callF2 rfl rfl c1)
  have s2 : (mExpr (mCallF m_check_staying [(.dat (mVar 0)), (.dat (mVar 1)), (.dat (mVar 2))])) [.dat (farmD n rows t), .dat (plcD p), .dat (.tup (st.map .int)), .no, .no, .no, .no, .no, .no, .no, .no, .no] = .next [.dat (farmD n rows t), .dat (plcD p), .dat (.tup (st.map .int)), .no, .no, .no, .no, .no, .no, .no, .no, .no] := exprF (callF3 rfl rfl rfl c2)
  have s3 : (mAsg (mCallF m_first_far [(.dat (mVar 0)), (.dat (mVar 1)), (.dat (mVar 2))]) (gNm 3)) [.dat (farmD n rows t), .dat (plcD p), .dat (.tup (st.map .int)), .no, .no, .no, .no, .no, .no, .no, .no, .no] = .next [.dat (farmD n rows t), .dat (plcD p), .dat (.tup (st.map .int)), .dat (optI ((mvF st 0 p).find? (farQ rows p t))), .no, .no, .no, .no, .no, .no, .no, .no] := mAsg_ok (callF3 rfl rfl rfl c3) rfl
  have fin : ∀ r ρ, b_order_of [.dat (farmD n rows t), .dat (plcD p), .dat (.tup (st.map .int)), .no, .no, .no, .no, .no, .no, .no, .no, .no] = .ret r ρ → m_order_of [farmD n rows t, plcD p, (.tup (st.map .int))] = .ret r [] := fun r ρ h => by
    have h' : b_order_of (initC 12 [] [farmD n rows t, plcD p, (.tup (st.map .int))]) = .ret r ρ := by
      rw [show initC 12 [] [farmD n rows t, plcD p, (.tup (st.map .int))] = [.dat (farmD n rows t), .dat (plcD p), .dat (.tup (st.map .int)), .no, .no, .no, .no, .no, .no, .no, .no, .no] from rfl]
      exact h
    unfold m_order_of
    rw [mkFn_ret h']
    rfl
  cases hf : (mvF st 0 p).find? (farQ rows p t) with
  | some s =>
    rw [hf] at s3
    simp only [optI] at s3
    refine ⟨_, fin _ [.dat (farmD n rows t), .dat (plcD p), .dat (.tup (st.map .int)), .dat (.int s), .no, .no, .no, .no, .no, .no, .no, .no] ?_, .far s hf⟩
    unfold b_order_of
    rw [mSeq_next s1, mSeq_next s2, mSeq_next s3]
    refine mSeq_ret ?_
    rw [mIfNs (f := mVar 3) (d := .int s) (ρ1 := [.dat (farmD n rows t), .dat (plcD p), .dat (.tup (st.map .int)), .dat (.int s), .no, .no, .no, .no, .no, .no, .no, .no]) rfl rfl]
    rfl
  | none =>
    rw [hf] at s3
    simp only [optI] at s3
    have s4 : (mAsg (mCallF m_first_held [(.dat (mVar 0)), (.dat (mVar 1)), (.dat (mVar 2))]) (gNm 4)) [.dat (farmD n rows t), .dat (plcD p), .dat (.tup (st.map .int)), .dat .non, .no, .no, .no, .no, .no, .no, .no, .no] = .next [.dat (farmD n rows t), .dat (plcD p), .dat (.tup (st.map .int)), .dat .non, .dat (heldR rows p st), .no, .no, .no, .no, .no, .no, .no] := mAsg_ok (callF3 rfl rfl rfl c4) rfl
    cases hh : (mvF st 0 p).find? (heldBy rows p st) with
    | some s =>
      obtain ⟨o, ho⟩ := held_some (List.find?_some hh)
      have e : heldR rows p st = .tup [.int s, .int o] := by
        unfold heldR
        rw [hh]
        simp only [heldF, ho]
      rw [e] at s4
      refine ⟨_, fin _ [.dat (farmD n rows t), .dat (plcD p), .dat (.tup (st.map .int)), .dat .non, .dat (.tup [.int s, .int o]), .no, .no, .no, .no, .no, .no, .no] ?_, .held s o hf hh ho⟩
      unfold b_order_of
      rw [mSeq_next s1, mSeq_next s2, mSeq_next s3]
      rw [mSeq_next (mIfN (f := mVar 3) rfl)]
      rw [mSeq_next s4]
      refine mSeq_ret ?_
      rw [mIfNs (f := mVar 4) (d := .tup [.int s, .int o]) (ρ1 := [.dat (farmD n rows t), .dat (plcD p), .dat (.tup (st.map .int)), .dat .non, .dat (.tup [.int s, .int o]), .no, .no, .no, .no, .no, .no, .no]) rfl rfl]
      rfl
    | none =>
      have e : heldR rows p st = .non := by
        unfold heldR
        rw [hh]
      rw [e] at s4
      have s5 : (mAsg (mCallF m_movers [(.dat (mVar 1)), (.dat (mVar 2))]) (gNm 5)) [.dat (farmD n rows t), .dat (plcD p), .dat (.tup (st.map .int)), .dat .non, .dat .non, .no, .no, .no, .no, .no, .no, .no] = .next [.dat (farmD n rows t), .dat (plcD p), .dat (.tup (st.map .int)), .dat .non, .dat .non, .dat (D.lst (List.map D.int (mvF st 0 p))), .no, .no, .no, .no, .no, .no] := mAsg_ok (callF2 rfl rfl c7) rfl
      have s6 : (mAsg (mLst []) (gNm 6)) [.dat (farmD n rows t), .dat (plcD p), .dat (.tup (st.map .int)), .dat .non, .dat .non, .dat (D.lst (List.map D.int (mvF st 0 p))), .no, .no, .no, .no, .no, .no] = .next [.dat (farmD n rows t), .dat (plcD p), .dat (.tup (st.map .int)), .dat .non, .dat .non, .dat (D.lst (List.map D.int (mvF st 0 p))), .dat (D.lst (List.map D.int ([] : List Int))), .no, .no, .no, .no, .no] := by rfl
      have hml := len_mvF (st := st) 0 p
      obtain ⟨ρ', hw⟩ := while_two (t := mB (mOp2 sNe (.dat (mVar 5)) (.dat (mLst [])))) (body := (mSeq (mAsg (mDc (mSeqI (mVar 5)) (gNm 8) (M.pure true) (mVar 8) (mCallF m_passed_over [(.dat (mVar 0)), (.dat (mVar 1)), (.dat (mVar 8))]) [8]) (gNm 7)) (mSeq (mAsg (mLc (mSeqI (mVar 5)) (gNm 8) (M.pure true) (mOp2 sIx (.dat (mVar 1)) (.dat (mVar 8))) [8]) (gNm 9)) (mSeq (mAsg (mLc (mSeqI (mVar 5)) (gNm 8) (mB (mOp2 sEq (.dat (mLc (mSeqI (mOp2 sDix (.dat (mVar 7)) (.dat (mVar 8)))) (gNm 11) (mB (mOp2 sIn (.dat (mVar 11)) (.dat (mVar 9)))) (mVar 11) [11])) (.dat (mLst [])))) (mVar 8) [8]) (gNm 10)) (mSeq (mIfS (mB (mOp2 sEq (.dat (mVar 10)) (.dat (mLst [])))) (mRet (mTup [(M.pure (.str "ring")), (mCallF m_ring_among [(.dat (mVar 0)), (.dat (mVar 1)), (.dat (mVar 5))])])) mSkip) (mSeq (mAsg (mOp2 sAdd (.dat (mVar 10)) (.dat (mVar 6))) (gNm 6)) (mAsg (mLc (mSeqI (mVar 5)) (gNm 8) (mB (mOp2 sNin (.dat (mVar 8)) (.dat (mVar 10)))) (mVar 8) [8]) (gNm 5))))))))
        (fun k ρ => ∃ (l os : List Int) (a c d : Cell), ρ = [.dat (farmD n rows t), .dat (plcD p), .dat (.tup (st.map .int)), .dat .non, .dat .non, .dat (D.lst (List.map D.int l)), .dat (D.lst (List.map D.int os)), a, .no, c, d, .no] ∧ l.length = k ∧ l.Nodup ∧ OrdInv rows p (mvF st 0 p) l os ∧ Keeps (Ps rows p) (mvF st 0 p) l)
        (fun ρ => ∃ (os : List Int) (a c d : Cell), ρ = [.dat (farmD n rows t), .dat (plcD p), .dat (.tup (st.map .int)), .dat .non, .dat .non, .dat (D.lst (List.map D.int ([] : List Int))), .dat (D.lst (List.map D.int os)), a, .no, c, d, .no] ∧ NoCore (Ps rows p) (mvF st 0 p) ∧ OrdInv rows p (mvF st 0 p) [] os)
        (fun d ρ => ∃ r : List Int, d = .tup [.str "ring", .tup (r.map .int)] ∧ ¬ NoCore (Ps rows p) (mvF st 0 p) ∧ RingOk rows p (mvF st 0 p) r)
        (fun k ρ ⟨l, os, a, c, d, e, hk, hn, hI, hK⟩ => by
          subst e
          refine ⟨!decide (l = []), [.dat (farmD n rows t), .dat (plcD p), .dat (.tup (st.map .int)), .dat .non, .dat .non, .dat (D.lst (List.map D.int l)), .dat (D.lst (List.map D.int os)), a, .no, c, d, .no], mNe_dd rfl, fun hb => ?_, fun hb => ?_⟩
          · have z : l = [] := by simpa using hb
            subst z
            exact ⟨os, a, c, d, rfl, hK.empty, hI⟩
          · have z : l ≠ [] := by simpa using hb
            have hpl := hI.perm.length_eq
            rw [List.length_append] at hpl
            have hle : l.length + os.length ≤ 1000 := by omega
            rcases or_body (n := n) (t := t) (st := st) (l := l) (os := os) hok (fun s hs => mv_pres (hK.1 s hs)) hn z hle a c d with ⟨a', c', d', e, q1⟩ | ⟨r, a', c', d', e, hc, hr⟩
            · refine .inl ⟨_, _, e, by rw [← hk]; exact q1, _, _, a', c', d', rfl, rfl, hn.sublist List.filter_sublist, hI.step, hK.step fun s => ?_⟩
              rw [List.mem_filter]
              refine and_congr_right fun hs => ?_
              rw [Bool.not_eq_true', ← last_iff]
            · exact .inr ⟨_, _, e, r, rfl, hK.full z hc, ⟨hr.ne, hr.nd, fun s hs => hK.1 s (hr.sub s hs), hr.nxt, hr.cyc⟩⟩) 4096 (mvF st 0 p).length [.dat (farmD n rows t), .dat (plcD p), .dat (.tup (st.map .int)), .dat .non, .dat .non, .dat (D.lst (List.map D.int (mvF st 0 p))), .dat (D.lst (List.map D.int ([] : List Int))), .no, .no, .no, .no, .no] (by omega) ⟨_, [], .no, .no, .no, rfl, rfl, nd_mvF 0 p, ⟨by simp, (fun _ h => nomatch h), List.Pairwise.nil⟩, Keeps.start⟩
      rcases hw with ⟨hw, os, a, c, d, e, hN, hI⟩ | ⟨d, hw, r, rfl, hN, hr⟩
      · subst e
        refine ⟨_, fin _ [.dat (farmD n rows t), .dat (plcD p), .dat (.tup (st.map .int)), .dat .non, .dat .non, .dat (D.lst (List.map D.int ([] : List Int))), .dat (D.lst (List.map D.int os)), a, .no, c, d, .no] ?_, .order os hf hh hN ⟨by simpa using hI.perm, hI.ord⟩⟩
        unfold b_order_of
        rw [mSeq_next s1, mSeq_next s2, mSeq_next s3]
        rw [mSeq_next (mIfN (f := mVar 3) rfl)]
        rw [mSeq_next s4]
        rw [mSeq_next (mIfN (f := mVar 4) rfl)]
        rw [mSeq_next s5, mSeq_next s6, mSeq_next hw]
        simp [mkFn, mSeq, mIfS, mDo, mRet, mRetN, mSkip, mExpr, mAsg, mAnd, mOr, mNot, mAndV, mOrV, mNotV, mB, mIf, mV, mNeg, mCall, mOp2, mTup, mLst, mMeth, mSl, mPart, preL, seqM, M.bind, M.pure, M.lift, M.stuck, Out.andThen, mVar, Opn.pre, Opn.rd, rdM, rdLM, rdL, cellD, initC, initAt, outsOf, outAt, gNm, gTp, gNms, mNew, mFrz, mPar, mFld, mCallF, mCallK, mCallN, appF, rdA, setOuts, ownSlots, ownPos, mSeqI, mEnum, mRange1, itemsOf, sTuple]
      · refine ⟨_, fin _ ρ' ?_, .ring r hf hh hN hr⟩
        unfold b_order_of
        rw [mSeq_next s1, mSeq_next s2, mSeq_next s3]
        rw [mSeq_next (mIfN (f := mVar 3) rfl)]
        rw [mSeq_next s4]
        rw [mSeq_next (mIfN (f := mVar 4) rfl)]
        rw [mSeq_next s5, mSeq_next s6]
        exact mSeq_ret hw
end
end Fx
set_option Elab.async false
set_option linter.all false
set_option maxRecDepth 100000
set_option maxHeartbeats 1000000
namespace Fx
open PySem L2
/-! ### the order of the staying ones does not matter -/
theorem insI_comm (a b : Int) : ∀ l : List Int, insI a (insI b l) = insI b (insI a l)
  | [] => by
    unfold insI
    unfold insI
    by_cases h : a ≤ b <;> by_cases h2 : b ≤ a <;> simp [h, h2] <;> omega
  | c :: l => by
    have ih := insI_comm a b l
    by_cases hb : b ≤ c <;> by_cases ha : a ≤ c
    · by_cases h : a ≤ b <;> by_cases h2 : b ≤ a <;> simp [insI, ha, hb, h, h2] <;> omega
    · have h : ¬ a ≤ b := by omega
      simp [insI, ha, hb, h]
    · have h : ¬ b ≤ a := by omega
      simp [insI, ha, hb, h]
    · simp [insI, ha, hb, ih]
theorem sortI_eq {l m : List Int} (h : l.Perm m) : sortI l = sortI m := by
  induction h with
  | nil => rfl
  | cons a _ ih =>
    show insI a (sortI _) = insI a (sortI _)
    rw [ih]
  | swap a b l => exact insI_comm b a (sortI l)
  | trans _ _ h1 h2 => exact h1.trans h2
theorem sortI_asc : ∀ {l : List Int}, l.Pairwise (· < ·) → sortI l = l
  | [], _ => rfl
  | a :: l, h => by
    obtain ⟨h1, h2⟩ := List.pairwise_cons.mp h
    unfold sortI
    rw [sortI_asc h2]
    cases l with
    | nil => rfl
    | cons b l =>
      unfold insI
      rw [if_pos (Int.le_of_lt (h1 b List.mem_cons_self))]
section
variable {n t : Int} {rows : List (List Int)} {p : List (Option Int)} {st st' : List Int}
theorem mvF_congr (h : ∀ v : Int, v ∈ st ↔ v ∈ st') : ∀ (i : Nat) (p : List (Option Int)), mvF st i p = mvF st' i p
  | _, [] => rfl
  | i, none :: p => mvF_congr h (i + 1) p
  | i, some v :: p => by
    unfold mvF
    rw [mvF_congr h (i + 1) p]
    by_cases hv : (i : Int) ∈ st
    · rw [if_pos hv, if_pos ((h _).mp hv)]
    · rw [if_neg hv, if_neg fun z => hv ((h _).mpr z)]
theorem OrdRes.turn {r : D} (hp : st.Perm st') (h : OrdRes t rows p st r) : OrdRes t rows p st' r := by
  have hm := mvF_congr (fun v => hp.mem_iff (a := v)) 0 p
  have hs := sortI_eq hp
  have hh : heldBy rows p st = heldBy rows p st' := by
    funext s
    rw [← held_any, ← held_any, hs]
  cases h with
  | far s h1 => exact .far s (by rw [← hm]; exact h1)
  | held s o h1 h2 h3 => exact .held s o (by rw [← hm]; exact h1) (by rw [← hm, ← hh]; exact h2) (by rw [← hs]; exact h3)
  | order os h1 h2 h3 h4 => exact .order os (by rw [← hm]; exact h1) (by rw [← hm, ← hh]; exact h2) (by rw [← hm]; exact h3) (by rw [← hm]; exact h4)
  | ring q h1 h2 h3 h4 => exact .ring q (by rw [← hm]; exact h1) (by rw [← hm, ← hh]; exact h2) (by rw [← hm]; exact h3) (by rw [← hm]; exact h4)
/-! ### the law's first one -/
def partsD (n : Int) (rows : List (List Int)) (t : Int) : D := .tup [.int n, .lst (rows.map rowD), .int t]
theorem pass_idx {s : Int} (h : Pres p s) (hok : PlOk rows p) : ((passI rows p s).length : Int) = idxI rows p s := by
  obtain ⟨i, x, r, rfl, h2, h3, h4, h5, h6⟩ := h.at hok
  have := List.idxOf_lt_length_of_mem h4
  unfold passI idxI
  rw [h5, h6, List.length_take]
  omega
def dueR (t : Int) (rows : List (List Int)) (p : List (Option Int)) (st : List Int) : D := match (mvF st 0 p).find? (farQ rows p t) with
  | some s => .tup [.str "far", .int s]
  | none => match (mvF st 0 p).find? (heldBy rows p st) with
    | some s => match (sortI st).find? (hQ rows p s) with
      | some o => .tup [.str "held", .int s, .int o]
      | none => .non
    | none => .non
theorem filter_find (f : Int → Bool) : ∀ l : List Int, (l.filter f = [] ∧ l.find? f = none) ∨ ∃ o os, l.filter f = o :: os ∧ l.find? f = some o
  | [] => .inl ⟨rfl, rfl⟩
  | a :: l => by
    rw [List.filter_cons, List.find?_cons]
    cases h : f a with
    | true => exact .inr ⟨a, l.filter f, rfl, rfl⟩
    | false => simpa using filter_find f l
theorem f_far (hok : PlOk rows p) {s : Int} (hs : Pres p s) (b c d : Cell) : (mIfS (mB (mOp2 sGt (.dat (mCall sLen [(.dat (mCallF m_law_passed [(.dat (mVar 4)), (.dat (mVar 1)), (.dat (mVar 6))]))])) (.dat (mVar 5)))) (mRet (mTup [(M.pure (.str "far")), (mVar 6)])) mSkip) [.dat (partsD n rows t), .dat (plcD p), .dat (.tup (st.map .int)), .dat (D.lst (List.map D.int (mvF st 0 p))), .dat (.lst (rows.map rowD)), .dat (.int t), .dat (.int s), b, c, d] = if farQ rows p t s = true then .ret (.tup [.str "far", .int s]) [.dat (partsD n rows t), .dat (plcD p), .dat (.tup (st.map .int)), .dat (D.lst (List.map D.int (mvF st 0 p))), .dat (.lst (rows.map rowD)), .dat (.int t), .dat (.int s), b, c, d] else .next [.dat (partsD n rows t), .dat (plcD p), .dat (.tup (st.map .int)), .dat (D.lst (List.map D.int (mvF st 0 p))), .dat (.lst (rows.map rowD)), .dat (.int t), .dat (.int s), b, c, d] := by
  have h1 : mCall sLen [(.dat (mCallF m_law_passed [(.dat (mVar 4)), (.dat (mVar 1)), (.dat (mVar 6))]))] [.dat (partsD n rows t), .dat (plcD p), .dat (.tup (st.map .int)), .dat (D.lst (List.map D.int (mvF st 0 p))), .dat (.lst (rows.map rowD)), .dat (.int t), .dat (.int s), b, c, d] = .ok (.int (idxI rows p s)) [.dat (partsD n rows t), .dat (plcD p), .dat (.tup (st.map .int)), .dat (D.lst (List.map D.int (mvF st 0 p))), .dat (.lst (rows.map rowD)), .dat (.int t), .dat (.int s), b, c, d] := call1 (callF3 rfl rfl rfl (e_lpassed hs hok)) (by rw [← pass_idx hs hok]; simp [sLen, rowD])
  have h2 : mB (mOp2 sGt (.dat (mCall sLen [(.dat (mCallF m_law_passed [(.dat (mVar 4)), (.dat (mVar 1)), (.dat (mVar 6))]))])) (.dat (mVar 5))) [.dat (partsD n rows t), .dat (plcD p), .dat (.tup (st.map .int)), .dat (D.lst (List.map D.int (mvF st 0 p))), .dat (.lst (rows.map rowD)), .dat (.int t), .dat (.int s), b, c, d] = .ok (farQ rows p t s) [.dat (partsD n rows t), .dat (plcD p), .dat (.tup (st.map .int)), .dat (D.lst (List.map D.int (mvF st 0 p))), .dat (.lst (rows.map rowD)), .dat (.int t), .dat (.int s), b, c, d] := mB_ok (mOp2_dd h1 (y := .int t) rfl rfl)
  cases hf : farQ rows p t s with
  | true => rw [hf] at h2; rw [mIfS_t h2]; rfl
  | false => rw [hf] at h2; rw [mIfS_f h2]; rfl
theorem f_held (hok : PlOk rows p) (hst : StOk p st) {s : Int} (hs : Pres p s) (b c : Cell) : ∃ b' c', (mSeq (mAsg (mCallF m_law_passed [(.dat (mVar 4)), (.dat (mVar 1)), (.dat (mVar 6))]) (gNm 7)) (mSeq (mAsg (mLc (mSeqI (mCall sSorted [(.dat (mVar 2))])) (gNm 9) (mB (mOp2 sIn (.dat (mOp2 sIx (.dat (mVar 1)) (.dat (mVar 9)))) (.dat (mVar 7)))) (mVar 9) [9]) (gNm 8)) (mIfS (mB (mOp2 sNe (.dat (mVar 8)) (.dat (mLst [])))) (mRet (mTup [(M.pure (.str "held")), (mVar 6), (mOp2 sIx (.dat (mVar 8)) (.dat (M.pure (.int 0))))])) mSkip))) [.dat (partsD n rows t), .dat (plcD p), .dat (.tup (st.map .int)), .dat (D.lst (List.map D.int (mvF st 0 p))), .dat (.lst (rows.map rowD)), .dat (.int t), .dat (.int s), b, c, .no] = if heldBy rows p st s = true then .ret (.tup [.str "held", .int s, (match (sortI st).find? (hQ rows p s) with | some o => .int o | none => .non)]) [.dat (partsD n rows t), .dat (plcD p), .dat (.tup (st.map .int)), .dat (D.lst (List.map D.int (mvF st 0 p))), .dat (.lst (rows.map rowD)), .dat (.int t), .dat (.int s), b', c', .no] else .next [.dat (partsD n rows t), .dat (plcD p), .dat (.tup (st.map .int)), .dat (D.lst (List.map D.int (mvF st 0 p))), .dat (.lst (rows.map rowD)), .dat (.int t), .dat (.int s), b', c', .no] := by
  have h1 : mAsg (mCallF m_law_passed [(.dat (mVar 4)), (.dat (mVar 1)), (.dat (mVar 6))]) (gNm 7) [.dat (partsD n rows t), .dat (plcD p), .dat (.tup (st.map .int)), .dat (D.lst (List.map D.int (mvF st 0 p))), .dat (.lst (rows.map rowD)), .dat (.int t), .dat (.int s), b, c, .no] = .next [.dat (partsD n rows t), .dat (plcD p), .dat (.tup (st.map .int)), .dat (D.lst (List.map D.int (mvF st 0 p))), .dat (.lst (rows.map rowD)), .dat (.int t), .dat (.int s), .dat (rowD (passI rows p s)), c, .no] := mAsg_ok (callF3 rfl rfl rfl (e_lpassed hs hok)) rfl
  have h2 : (mLc (mSeqI (mCall sSorted [(.dat (mVar 2))])) (gNm 9) (mB (mOp2 sIn (.dat (mOp2 sIx (.dat (mVar 1)) (.dat (mVar 9)))) (.dat (mVar 7)))) (mVar 9) [9]) [.dat (partsD n rows t), .dat (plcD p), .dat (.tup (st.map .int)), .dat (D.lst (List.map D.int (mvF st 0 p))), .dat (.lst (rows.map rowD)), .dat (.int t), .dat (.int s), .dat (rowD (passI rows p s)), c, .no] = .ok (D.lst (List.map D.int ((sortI st).filter (hQ rows p s)))) [.dat (partsD n rows t), .dat (plcD p), .dat (.tup (st.map .int)), .dat (D.lst (List.map D.int (mvF st 0 p))), .dat (.lst (rows.map rowD)), .dat (.int t), .dat (.int s), .dat (rowD (passI rows p s)), c, .no] := by
    refine mLc_T (xs := sortI st) D.int (hQ rows p s) D.int (seqI_ok (call1 (f := mVar 2) (d := (D.lst (List.map D.int (sortI st)))) rfl (by simp [sSorted, itemsOf, intsOf_map])) rfl) (by simp [isOwn]) (fun o ho => ?_)
    have q1 := sIx_pl (st_pres hst (mem_sortI.mp ho))
    have q2 : sIn (.int (plAt p o)) (rowD (passI rows p s)) = some (.bl (hQ rows p s o)) := sIn_tup _ _
    exact ⟨[.dat (partsD n rows t), .dat (plcD p), .dat (.tup (st.map .int)), .dat (D.lst (List.map D.int (mvF st 0 p))), .dat (.lst (rows.map rowD)), .dat (.int t), .dat (.int s), .dat (rowD (passI rows p s)), c, .dat (.int o)], by simp [gNm, wipeC], mB_ok (mOp2_dd (mOp2_dd (x := plcD p) (y := .int o) rfl rfl q1) (y := rowD (passI rows p s)) rfl q2), fun _ => rfl, by simp [wipeC]⟩
  have h3 := mAsg_ok (g := gNm 8) (ρ2 := [.dat (partsD n rows t), .dat (plcD p), .dat (.tup (st.map .int)), .dat (D.lst (List.map D.int (mvF st 0 p))), .dat (.lst (rows.map rowD)), .dat (.int t), .dat (.int s), .dat (rowD (passI rows p s)), .dat (D.lst (List.map D.int ((sortI st).filter (hQ rows p s)))), .no]) h2 rfl
  have h4 : mB (mOp2 sNe (.dat (mVar 8)) (.dat (mLst []))) [.dat (partsD n rows t), .dat (plcD p), .dat (.tup (st.map .int)), .dat (D.lst (List.map D.int (mvF st 0 p))), .dat (.lst (rows.map rowD)), .dat (.int t), .dat (.int s), .dat (rowD (passI rows p s)), .dat (D.lst (List.map D.int ((sortI st).filter (hQ rows p s)))), .no] = .ok (!decide ((sortI st).filter (hQ rows p s) = [])) [.dat (partsD n rows t), .dat (plcD p), .dat (.tup (st.map .int)), .dat (D.lst (List.map D.int (mvF st 0 p))), .dat (.lst (rows.map rowD)), .dat (.int t), .dat (.int s), .dat (rowD (passI rows p s)), .dat (D.lst (List.map D.int ((sortI st).filter (hQ rows p s)))), .no] := mNe_dd rfl
  refine ⟨.dat (rowD (passI rows p s)), .dat (D.lst (List.map D.int ((sortI st).filter (hQ rows p s)))), ?_⟩
  rw [mSeq_next h1, mSeq_next h3]
  rcases filter_find (hQ rows p s) (sortI st) with ⟨q1, q2⟩ | ⟨o, os, q1, q2⟩
  · have hh : heldBy rows p st s = false := by
      rw [← held_any, List.any_eq_false]
      exact fun x hx => List.find?_eq_none.mp q2 x hx
    rw [hh, if_neg (by decide)]
    rw [q1, decide_eq_true rfl] at h4
    rw [q1, mIfS_f h4]
    rfl
  · have hh : heldBy rows p st s = true := by
      rw [← held_any]
      exact List.any_eq_true.mpr ⟨o, List.mem_of_find?_eq_some q2, List.find?_some q2⟩
    rw [hh, if_pos rfl, q2]
    rw [q1, decide_eq_false (List.cons_ne_nil _ _)] at h4
    rw [q1, mIfS_t h4]
    have h5 : mOp2 sIx (.dat (mVar 8)) (.dat (M.pure (.int 0))) [.dat (partsD n rows t), .dat (plcD p), .dat (.tup (st.map .int)), .dat (D.lst (List.map D.int (mvF st 0 p))), .dat (.lst (rows.map rowD)), .dat (.int t), .dat (.int s), .dat (rowD (passI rows p s)), .dat (D.lst (List.map D.int (o :: os))), .no] = .ok (.int o) [.dat (partsD n rows t), .dat (plcD p), .dat (.tup (st.map .int)), .dat (D.lst (List.map D.int (mvF st 0 p))), .dat (.lst (rows.map rowD)), .dat (.int t), .dat (.int s), .dat (rowD (passI rows p s)), .dat (D.lst (List.map D.int (o :: os))), .no] := mOp2_dd (x := (D.lst (List.map D.int (o :: os)))) (y := .int 0) rfl rfl (sIx_zero o os)
    unfold mRet mDo
    rw [tup_three (f := M.pure (.str "held")) (g := mVar 6) rfl rfl h5]
theorem e_law_first (hok : PlOk rows p) (hst : StOk p st) : m_law_first [partsD n rows t, plcD p, (.tup (st.map .int)), (D.lst (List.map D.int (mvF st 0 p)))] = .ret (dueR t rows p st) [] := by
  obtain ⟨ρ1, ⟨a1, hρ1⟩, e1⟩ := loop_find (g := gNm 6) (body := (mIfS (mB (mOp2 sGt (.dat (mCall sLen [(.dat (mCallF m_law_passed [(.dat (mVar 4)), (.dat (mVar 1)), (.dat (mVar 6))]))])) (.dat (mVar 5)))) (mRet (mTup [(M.pure (.str "far")), (mVar 6)])) mSkip)) (fun ρ => ∃ a, ρ = [.dat (partsD n rows t), .dat (plcD p), .dat (.tup (st.map .int)), .dat (D.lst (List.map D.int (mvF st 0 p))), .dat (.lst (rows.map rowD)), .dat (.int t), a, .no, .no, .no]) (ofInt (farQ rows p t)) (fun d => .tup [.str "far", d]) ((mvF st 0 p).map .int) [.dat (partsD n rows t), .dat (plcD p), .dat (.tup (st.map .int)), .dat (D.lst (List.map D.int (mvF st 0 p))), .dat (.lst (rows.map rowD)), .dat (.int t), .no, .no, .no, .no] ⟨.no, rfl⟩
    (fun dd ρ hd ⟨a, hρ⟩ => by
      obtain ⟨s, hs, rfl⟩ := List.mem_map.mp hd
      subst hρ
      exact ⟨[.dat (partsD n rows t), .dat (plcD p), .dat (.tup (st.map .int)), .dat (D.lst (List.map D.int (mvF st 0 p))), .dat (.lst (rows.map rowD)), .dat (.int t), .dat (.int s), .no, .no, .no], rfl, [.dat (partsD n rows t), .dat (plcD p), .dat (.tup (st.map .int)), .dat (D.lst (List.map D.int (mvF st 0 p))), .dat (.lst (rows.map rowD)), .dat (.int t), .dat (.int s), .no, .no, .no], ⟨_, rfl⟩, f_far hok (mv_pres hs) _ _ _⟩)
  subst hρ1
  rw [find_ints] at e1
  obtain ⟨ρ2, ⟨a2, b2, c2, hρ2⟩, e2⟩ := loop_find (g := gNm 6) (body := (mSeq (mAsg (mCallF m_law_passed [(.dat (mVar 4)), (.dat (mVar 1)), (.dat (mVar 6))]) (gNm 7)) (mSeq (mAsg (mLc (mSeqI (mCall sSorted [(.dat (mVar 2))])) (gNm 9) (mB (mOp2 sIn (.dat (mOp2 sIx (.dat (mVar 1)) (.dat (mVar 9)))) (.dat (mVar 7)))) (mVar 9) [9]) (gNm 8)) (mIfS (mB (mOp2 sNe (.dat (mVar 8)) (.dat (mLst [])))) (mRet (mTup [(M.pure (.str "held")), (mVar 6), (mOp2 sIx (.dat (mVar 8)) (.dat (M.pure (.int 0))))])) mSkip)))) (fun ρ => ∃ a b c, ρ = [.dat (partsD n rows t), .dat (plcD p), .dat (.tup (st.map .int)), .dat (D.lst (List.map D.int (mvF st 0 p))), .dat (.lst (rows.map rowD)), .dat (.int t), a, b, c, .no]) (ofInt (heldBy rows p st)) (fun d => match d with | .int s => .tup [.str "held", .int s, (match (sortI st).find? (hQ rows p s) with | some o => .int o | none => .non)] | _ => .non) ((mvF st 0 p).map .int) [.dat (partsD n rows t), .dat (plcD p), .dat (.tup (st.map .int)), .dat (D.lst (List.map D.int (mvF st 0 p))), .dat (.lst (rows.map rowD)), .dat (.int t), a1, .no, .no, .no] ⟨_, _, _, rfl⟩
    (fun dd ρ hd ⟨a, b, c, hρ⟩ => by
      obtain ⟨s, hs, rfl⟩ := List.mem_map.mp hd
      subst hρ
      obtain ⟨b', c', e⟩ := f_held (n := n) (t := t) hok hst (mv_pres hs) b c
      exact ⟨[.dat (partsD n rows t), .dat (plcD p), .dat (.tup (st.map .int)), .dat (D.lst (List.map D.int (mvF st 0 p))), .dat (.lst (rows.map rowD)), .dat (.int t), .dat (.int s), b, c, .no], rfl, [.dat (partsD n rows t), .dat (plcD p), .dat (.tup (st.map .int)), .dat (D.lst (List.map D.int (mvF st 0 p))), .dat (.lst (rows.map rowD)), .dat (.int t), .dat (.int s), b', c', .no], ⟨_, _, _, rfl⟩, e⟩)
  subst hρ2
  rw [find_ints] at e2
  have p1 : mOp2 sIx (.dat (mVar 0)) (.dat (M.pure (.int 1))) [.dat (partsD n rows t), .dat (plcD p), .dat (.tup (st.map .int)), .dat (D.lst (List.map D.int (mvF st 0 p))), .no, .no, .no, .no, .no, .no] = .ok (.lst (rows.map rowD)) [.dat (partsD n rows t), .dat (plcD p), .dat (.tup (st.map .int)), .dat (D.lst (List.map D.int (mvF st 0 p))), .no, .no, .no, .no, .no, .no] := mOp2_dd (x := partsD n rows t) (y := .int 1) rfl rfl (atI_nat [D.int n, (.lst (rows.map rowD)), .int t] 1)
  have p2 : mOp2 sIx (.dat (mVar 0)) (.dat (M.pure (.int 2))) [.dat (partsD n rows t), .dat (plcD p), .dat (.tup (st.map .int)), .dat (D.lst (List.map D.int (mvF st 0 p))), .no, .no, .no, .no, .no, .no] = .ok (.int t) [.dat (partsD n rows t), .dat (plcD p), .dat (.tup (st.map .int)), .dat (D.lst (List.map D.int (mvF st 0 p))), .no, .no, .no, .no, .no, .no] := mOp2_dd (x := partsD n rows t) (y := .int 2) rfl rfl (atI_nat [D.int n, (.lst (rows.map rowD)), .int t] 2)
  have s1 : mPar (mOp2 sIx (.dat (mVar 0)) (.dat (M.pure (.int 1)))) (mOp2 sIx (.dat (mVar 0)) (.dat (M.pure (.int 2)))) 4 5 [.dat (partsD n rows t), .dat (plcD p), .dat (.tup (st.map .int)), .dat (D.lst (List.map D.int (mvF st 0 p))), .no, .no, .no, .no, .no, .no] = .next [.dat (partsD n rows t), .dat (plcD p), .dat (.tup (st.map .int)), .dat (D.lst (List.map D.int (mvF st 0 p))), .dat (.lst (rows.map rowD)), .dat (.int t), .no, .no, .no, .no] :=
    par_ok p1 p2
  have f1 : mSeqI (mVar 3) [.dat (partsD n rows t), .dat (plcD p), .dat (.tup (st.map .int)), .dat (D.lst (List.map D.int (mvF st 0 p))), .dat (.lst (rows.map rowD)), .dat (.int t), .no, .no, .no, .no] = .ok ((mvF st 0 p).map .int) [.dat (partsD n rows t), .dat (plcD p), .dat (.tup (st.map .int)), .dat (D.lst (List.map D.int (mvF st 0 p))), .dat (.lst (rows.map rowD)), .dat (.int t), .no, .no, .no, .no] := rfl
  have f2 : mSeqI (mVar 3) [.dat (partsD n rows t), .dat (plcD p), .dat (.tup (st.map .int)), .dat (D.lst (List.map D.int (mvF st 0 p))), .dat (.lst (rows.map rowD)), .dat (.int t), a1, .no, .no, .no] = .ok ((mvF st 0 p).map .int) [.dat (partsD n rows t), .dat (plcD p), .dat (.tup (st.map .int)), .dat (D.lst (List.map D.int (mvF st 0 p))), .dat (.lst (rows.map rowD)), .dat (.int t), a1, .no, .no, .no] := rfl
  have fin : ∀ r ρ, b_law_first [.dat (partsD n rows t), .dat (plcD p), .dat (.tup (st.map .int)), .dat (D.lst (List.map D.int (mvF st 0 p))), .no, .no, .no, .no, .no, .no] = .ret r ρ → m_law_first [partsD n rows t, plcD p, (.tup (st.map .int)), (D.lst (List.map D.int (mvF st 0 p)))] = .ret r [] := fun r ρ h => by
    have h' : b_law_first (initC 10 [] [partsD n rows t, plcD p, (.tup (st.map .int)), (D.lst (List.map D.int (mvF st 0 p)))]) = .ret r ρ := h
    unfold m_law_first
    rw [mkFn_ret h']
    rfl
  unfold dueR
  cases hf : (mvF st 0 p).find? (farQ rows p t) with
  | some s =>
    rw [hf] at e1
    refine fin _ [.dat (partsD n rows t), .dat (plcD p), .dat (.tup (st.map .int)), .dat (D.lst (List.map D.int (mvF st 0 p))), .dat (.lst (rows.map rowD)), .dat (.int t), a1, .no, .no, .no] ?_
    unfold b_law_first
    rw [mSeq_next s1]
    exact mSeq_ret (by rw [mFor_next f1]; exact e1)
  | none =>
    rw [hf] at e1
    cases hh : (mvF st 0 p).find? (heldBy rows p st) with
    | some s =>
      rw [hh] at e2
      obtain ⟨o, ho⟩ := held_some (List.find?_some hh)
      refine fin _ [.dat (partsD n rows t), .dat (plcD p), .dat (.tup (st.map .int)), .dat (D.lst (List.map D.int (mvF st 0 p))), .dat (.lst (rows.map rowD)), .dat (.int t), a2, b2, c2, .no] ?_
      unfold b_law_first
      rw [mSeq_next s1, mSeq_next (by rw [mFor_next f1]; exact e1)]
      refine mSeq_ret ?_
      rw [mFor_next f2, e2]
      simp only [Option.map_some, ho]
    | none =>
      rw [hh] at e2
      refine fin _ [.dat (partsD n rows t), .dat (plcD p), .dat (.tup (st.map .int)), .dat (D.lst (List.map D.int (mvF st 0 p))), .dat (.lst (rows.map rowD)), .dat (.int t), a2, b2, c2, .no] ?_
      unfold b_law_first
      rw [mSeq_next s1, mSeq_next (by rw [mFor_next f1]; exact e1), mSeq_next (by rw [mFor_next f2]; exact e2)]
      rfl
end
end Fx
set_option Elab.async false
set_option linter.all false
set_option maxRecDepth 100000
set_option maxHeartbeats 1000000
namespace Fx
open PySem L2
section
variable {n t : Int} {rows : List (List Int)} {p : List (Option Int)} {st : List Int}
/-! ### what is left -/
def lastT (rows : List (List Int)) (p : List (Option Int)) (l : List Int) (s : Int) : Bool := decide (l.filter (hQ rows p s) = [])
theorem lastT_iff {l : List Int} {s : Int} : lastT rows p l s = false ↔ ∃ o ∈ l, Ps rows p s o := by
  unfold lastT
  rw [decide_eq_false_iff_not]
  constructor
  · intro h
    obtain ⟨o, ho⟩ := List.exists_mem_of_ne_nil _ h
    obtain ⟨h1, h2⟩ := List.mem_filter.mp ho
    exact ⟨o, h1, of_decide_eq_true (p := plAt p o ∈ passI rows p s) h2⟩
  · rintro ⟨o, ho, h⟩
    exact List.ne_nil_of_mem (List.mem_filter.mpr ⟨ho, decide_eq_true (p := plAt p o ∈ passI rows p s) h⟩)
theorem flat_if (f : Int → Bool) : ∀ l : List Int, (l.flatMap fun s => if f s = true then [D.int s] else []) = (l.filter f).map .int
  | [] => rfl
  | a :: l => by
    rw [List.flatMap_cons, List.filter_cons, flat_if f l]
    cases f a <;> rfl
theorem l_one (hok : PlOk rows p) {l : List Int} (hp : ∀ s ∈ l, Pres p s) (hl : l.length ≤ 1000) {s : Int} (hs : s ∈ l) (g : Bool) (L : List D) (hL : L.length ≤ 1000) (c : Cell) :
    ∃ c', (mSeq (mAsg (mCallF m_law_passed [(.dat (mVar 0)), (.dat (mVar 1)), (.dat (mVar 5))]) (gNm 6)) (mIfS (mB (mOp2 sEq (.dat (mLc (mSeqI (mVar 2)) (gNm 7) (mB (mOp2 sIn (.dat (mOp2 sIx (.dat (mVar 1)) (.dat (mVar 7)))) (.dat (mVar 6)))) (mVar 7) [7])) (.dat (mLst [])))) (mExpr (mMethWR wAppend 4 [(mVar 5)])) mSkip)) [.dat (.lst (rows.map rowD)), .dat (plcD p), .dat (D.lst (List.map D.int l)), .dat (.bl g), .own (.lst L), .dat (.int s), c, .no] = .next [.dat (.lst (rows.map rowD)), .dat (plcD p), .dat (D.lst (List.map D.int l)), .dat (.bl g), .own (.lst (L ++ if lastT rows p l s = true then [D.int s] else [])), .dat (.int s), c', .no] := by
  have h1 : mAsg (mCallF m_law_passed [(.dat (mVar 0)), (.dat (mVar 1)), (.dat (mVar 5))]) (gNm 6) [.dat (.lst (rows.map rowD)), .dat (plcD p), .dat (D.lst (List.map D.int l)), .dat (.bl g), .own (.lst L), .dat (.int s), c, .no] = .next [.dat (.lst (rows.map rowD)), .dat (plcD p), .dat (D.lst (List.map D.int l)), .dat (.bl g), .own (.lst L), .dat (.int s), .dat (rowD (passI rows p s)), .no] := mAsg_ok (callF3 rfl rfl rfl (e_lpassed (hp s hs) hok)) rfl
  have h2 : (mLc (mSeqI (mVar 2)) (gNm 7) (mB (mOp2 sIn (.dat (mOp2 sIx (.dat (mVar 1)) (.dat (mVar 7)))) (.dat (mVar 6)))) (mVar 7) [7]) [.dat (.lst (rows.map rowD)), .dat (plcD p), .dat (D.lst (List.map D.int l)), .dat (.bl g), .own (.lst L), .dat (.int s), .dat (rowD (passI rows p s)), .no] = .ok (D.lst (List.map D.int (l.filter (hQ rows p s)))) [.dat (.lst (rows.map rowD)), .dat (plcD p), .dat (D.lst (List.map D.int l)), .dat (.bl g), .own (.lst L), .dat (.int s), .dat (rowD (passI rows p s)), .no] := by
    refine mLc_T (xs := l) D.int (hQ rows p s) D.int rfl (by simp [isOwn]) (fun o ho => ?_)
    have q1 := sIx_pl (hp o ho)
    have q2 : sIn (.int (plAt p o)) (rowD (passI rows p s)) = some (.bl (hQ rows p s o)) := sIn_tup _ _
    exact ⟨[.dat (.lst (rows.map rowD)), .dat (plcD p), .dat (D.lst (List.map D.int l)), .dat (.bl g), .own (.lst L), .dat (.int s), .dat (rowD (passI rows p s)), .dat (.int o)], by simp [gNm, wipeC], mB_ok (mOp2_dd (mOp2_dd (x := plcD p) (y := .int o) rfl rfl q1) (y := rowD (passI rows p s)) rfl q2), fun _ => rfl, by simp [wipeC]⟩
  have h3 := mTrue_dd h2
  refine ⟨.dat (rowD (passI rows p s)), ?_⟩
  rw [mSeq_next h1]
  have h4 : decide (l.filter (hQ rows p s) = []) = lastT rows p l s := rfl
  rw [h4] at h3
  cases hh : lastT rows p l s with
  | true =>
    rw [hh] at h3
    rw [mIfS_t h3, if_pos rfl]
    exact app_ok rfl rfl (by omega)
  | false =>
    rw [hh] at h3
    rw [mIfS_f h3, if_neg (by decide), List.append_nil]
    rfl
theorem l_turn (hok : PlOk rows p) {l : List Int} (hp : ∀ s ∈ l, Pres p s) (hl : l.length ≤ 1000) (g : Bool) (a c : Cell) (b : Option D) :
    ∃ b' c', (mSeq (mNew (mLst []) 4) (mSeq (mFor (mSeqI (mVar 2)) (gNm 5) (mSeq (mAsg (mCallF m_law_passed [(.dat (mVar 0)), (.dat (mVar 1)), (.dat (mVar 5))]) (gNm 6)) (mIfS (mB (mOp2 sEq (.dat (mLc (mSeqI (mVar 2)) (gNm 7) (mB (mOp2 sIn (.dat (mOp2 sIx (.dat (mVar 1)) (.dat (mVar 7)))) (.dat (mVar 6)))) (mVar 7) [7])) (.dat (mLst [])))) (mExpr (mMethWR wAppend 4 [(mVar 5)])) mSkip))) (mSeq (mAsg (mLc (mSeqI (mVar 2)) (gNm 5) (mB (mOp2 sNin (.dat (mVar 5)) (.own 4))) (mVar 5) [5]) (gNm 2)) (mAsg (mOp2 sNe (.own 4) (.dat (mLst []))) (gNm 3))))) [.dat (.lst (rows.map rowD)), .dat (plcD p), .dat (D.lst (List.map D.int l)), .dat (.bl g), a, cellO b, c, .no] = .next [.dat (.lst (rows.map rowD)), .dat (plcD p), .dat (D.lst (List.map D.int (l.filter (fun s => !lastT rows p l s)))), .dat (.bl (!decide (l.filter (lastT rows p l) = []))), .own (D.lst (List.map D.int (l.filter (lastT rows p l)))), cellO b', c', .no] := by
  obtain ⟨⟨b', c'⟩, e⟩ := loop_extT (α := Option D × Cell) (g := gNm 5) (body := (mSeq (mAsg (mCallF m_law_passed [(.dat (mVar 0)), (.dat (mVar 1)), (.dat (mVar 5))]) (gNm 6)) (mIfS (mB (mOp2 sEq (.dat (mLc (mSeqI (mVar 2)) (gNm 7) (mB (mOp2 sIn (.dat (mOp2 sIx (.dat (mVar 1)) (.dat (mVar 7)))) (.dat (mVar 6)))) (mVar 7) [7])) (.dat (mLst [])))) (mExpr (mMethWR wAppend 4 [(mVar 5)])) mSkip))) (fun L x => [.dat (.lst (rows.map rowD)), .dat (plcD p), .dat (D.lst (List.map D.int l)), .dat (.bl g), .own (.lst L), cellO x.1, x.2, .no]) D.int (fun s => if lastT rows p l s = true then [D.int s] else []) 1000 l [] (b, c) (by
    rw [flat_if, List.length_nil, List.length_map, Nat.zero_add]
    exact Nat.le_trans (List.length_filter_le _ _) hl) (fun s hs L x hN => by
    obtain ⟨c', e⟩ := l_one hok hp hl hs g L (by omega) x.2
    exact ⟨[.dat (.lst (rows.map rowD)), .dat (plcD p), .dat (D.lst (List.map D.int l)), .dat (.bl g), .own (.lst L), .dat (.int s), x.2, .no], (some (.int s), c'), rfl, e⟩)
  rw [flat_if, List.nil_append] at e
  let m := l.filter (lastT rows p l)
  have hfil : l.filter (fun s => !decide (s ∈ m)) = l.filter (fun s => !lastT rows p l s) := List.filter_congr fun s hs => by
    congr 1
    rw [Bool.eq_iff_iff, decide_eq_true_iff]
    constructor
    · intro h; exact (List.mem_filter.mp h).2
    · intro h; exact List.mem_filter.mpr ⟨hs, h⟩
  have h2 : (mLc (mSeqI (mVar 2)) (gNm 5) (mB (mOp2 sNin (.dat (mVar 5)) (.own 4))) (mVar 5) [5]) [.dat (.lst (rows.map rowD)), .dat (plcD p), .dat (D.lst (List.map D.int l)), .dat (.bl g), .own (D.lst (List.map D.int m)), cellO b', c', .no] = .ok (D.lst (List.map D.int (l.filter (fun s => !decide (s ∈ m))))) [.dat (.lst (rows.map rowD)), .dat (plcD p), .dat (D.lst (List.map D.int l)), .dat (.bl g), .own (D.lst (List.map D.int m)), cellO b', c', .no] := by
    refine mLc_T (xs := l) D.int (fun s => !decide (s ∈ m)) D.int rfl (by simp [cellO_no]) (fun s hs => ?_)
    have q2 := sNin_lst s m
    generalize (D.lst (List.map D.int m)) = dd at q2 ⊢
    exact ⟨[.dat (.lst (rows.map rowD)), .dat (plcD p), .dat (D.lst (List.map D.int l)), .dat (.bl g), .own dd, .dat (.int s), c', .no], by simp [gNm, wipeC], by simp [mkFn, mSeq, mIfS, mDo, mRet, mRetN, mSkip, mExpr, mAsg, mAnd, mOr, mNot, mAndV, mOrV, mNotV, mB, mIf, mV, mNeg, mCall, mOp2, mTup, mLst, mMeth, mSl, mPart, preL, seqM, M.bind, M.pure, M.lift, M.stuck, Out.andThen, mVar, Opn.pre, Opn.rd, rdM, rdLM, rdL, cellD, initC, initAt, outsOf, outAt, gNm, gTp, gNms, mNew, mFrz, mPar, mFld, mCallF, mCallK, mCallN, appF, rdA, setOuts, ownSlots, ownPos, mSeqI, mEnum, mRange1, itemsOf, q2], fun _ => rfl, by simp [wipeC]⟩
  rw [hfil] at h2
  have h3 := mAsg_ok (g := gNm 2) (ρ2 := [.dat (.lst (rows.map rowD)), .dat (plcD p), .dat (D.lst (List.map D.int (l.filter (fun s => !lastT rows p l s)))), .dat (.bl g), .own (D.lst (List.map D.int m)), cellO b', c', .no]) h2 rfl
  have h4 : mOp2 sNe (.own 4) (.dat (mLst [])) [.dat (.lst (rows.map rowD)), .dat (plcD p), .dat (D.lst (List.map D.int (l.filter (fun s => !lastT rows p l s)))), .dat (.bl g), .own (D.lst (List.map D.int m)), cellO b', c', .no] = .ok (.bl (!decide (m = []))) [.dat (.lst (rows.map rowD)), .dat (plcD p), .dat (D.lst (List.map D.int (l.filter (fun s => !lastT rows p l s)))), .dat (.bl g), .own (D.lst (List.map D.int m)), cellO b', c', .no] := by
    have q := sNe_lst m []
    simp only [List.map_nil] at q
    generalize (D.lst (List.map D.int m)) = dd at q ⊢
    simp [mkFn, mSeq, mIfS, mDo, mRet, mRetN, mSkip, mExpr, mAsg, mAnd, mOr, mNot, mAndV, mOrV, mNotV, mB, mIf, mV, mNeg, mCall, mOp2, mTup, mLst, mMeth, mSl, mPart, preL, seqM, M.bind, M.pure, M.lift, M.stuck, Out.andThen, mVar, Opn.pre, Opn.rd, rdM, rdLM, rdL, cellD, initC, initAt, outsOf, outAt, gNm, gTp, gNms, mNew, mFrz, mPar, mFld, mCallF, mCallK, mCallN, appF, rdA, setOuts, ownSlots, ownPos, mSeqI, mEnum, mRange1, itemsOf, q]
  have h5 := mAsg_ok (g := gNm 3) (ρ2 := [.dat (.lst (rows.map rowD)), .dat (plcD p), .dat (D.lst (List.map D.int (l.filter (fun s => !lastT rows p l s)))), .dat (.bl (!decide (m = []))), .own (D.lst (List.map D.int m)), cellO b', c', .no]) h4 rfl
  refine ⟨b', c', ?_⟩
  rw [mSeq_next (ρ' := [.dat (.lst (rows.map rowD)), .dat (plcD p), .dat (D.lst (List.map D.int l)), .dat (.bl g), .own (.lst []), cellO b, c, .no]) (by rfl)]
  rw [mSeq_next (by rw [mFor_next (ds := l.map .int) (ρ1 := [.dat (.lst (rows.map rowD)), .dat (plcD p), .dat (D.lst (List.map D.int l)), .dat (.bl g), .own (.lst []), cellO b, c, .no]) (by rfl)]; exact e)]
  rw [mSeq_next h3]
  exact h5
theorem filt_split (f : Int → Bool) : ∀ l : List Int, (l.filter f).length + (l.filter (fun s => !f s)).length = l.length
  | [] => rfl
  | a :: l => by
    have ih := filt_split f l
    rw [List.filter_cons, List.filter_cons]
    cases f a <;> simp <;> omega
theorem e_left (hok : PlOk rows p) (hlp : p.length ≤ 1000) : ∃ l : List Int, m_law_left [(.lst (rows.map rowD)), plcD p, (D.lst (List.map D.int (mvF st 0 p)))] = .ret (D.lst (List.map D.int l)) [] ∧ (l = [] ↔ NoCore (Ps rows p) (mvF st 0 p)) := by
  have hml := len_mvF (st := st) 0 p
  obtain ⟨ρ', e, l, a, b, c, hρ, hK, hC⟩ := while_inv (t := mB (mVar 3)) (body := (mSeq (mNew (mLst []) 4) (mSeq (mFor (mSeqI (mVar 2)) (gNm 5) (mSeq (mAsg (mCallF m_law_passed [(.dat (mVar 0)), (.dat (mVar 1)), (.dat (mVar 5))]) (gNm 6)) (mIfS (mB (mOp2 sEq (.dat (mLc (mSeqI (mVar 2)) (gNm 7) (mB (mOp2 sIn (.dat (mOp2 sIx (.dat (mVar 1)) (.dat (mVar 7)))) (.dat (mVar 6)))) (mVar 7) [7])) (.dat (mLst [])))) (mExpr (mMethWR wAppend 4 [(mVar 5)])) mSkip))) (mSeq (mAsg (mLc (mSeqI (mVar 2)) (gNm 5) (mB (mOp2 sNin (.dat (mVar 5)) (.own 4))) (mVar 5) [5]) (gNm 2)) (mAsg (mOp2 sNe (.own 4) (.dat (mLst []))) (gNm 3))))))
    (fun m ρ => ∃ (l : List Int) (g : Bool) (a : Cell) (b : Option D) (c : Cell), ρ = [.dat (.lst (rows.map rowD)), .dat (plcD p), .dat (D.lst (List.map D.int l)), .dat (.bl g), a, cellO b, c, .no] ∧ l.length + (if g = true then 1 else 0) = m ∧ l.length ≤ 1000 ∧ Keeps (Ps rows p) (mvF st 0 p) l ∧ (g = false → Cl (Ps rows p) l))
    (fun ρ => ∃ (l : List Int) (a : Cell) (b : Option D) (c : Cell), ρ = [.dat (.lst (rows.map rowD)), .dat (plcD p), .dat (D.lst (List.map D.int l)), .dat (.bl false), a, cellO b, c, .no] ∧ Keeps (Ps rows p) (mvF st 0 p) l ∧ Cl (Ps rows p) l)
    (fun m ρ ⟨l, g, a, b, c, e, hm, hl, hK, hC⟩ => by
      subst e
      refine ⟨g, [.dat (.lst (rows.map rowD)), .dat (plcD p), .dat (D.lst (List.map D.int l)), .dat (.bl g), a, cellO b, c, .no], mB_ok rfl, fun hb => ?_, fun hb => ?_⟩
      · subst hb
        exact ⟨l, a, b, c, rfl, hK, hC rfl⟩
      · subst hb
        obtain ⟨b', c', e⟩ := l_turn hok (fun s hs => mv_pres (hK.1 s hs)) hl true a c b
        have hs := filt_split (lastT rows p l) l
        rw [if_pos rfl] at hm
        refine ⟨_, (l.filter (fun s => !lastT rows p l s)).length + (if (!decide (l.filter (lastT rows p l) = [])) = true then 1 else 0), e, ?_, _, _, _, b', c', rfl, rfl, by omega, hK.step fun s => ?_, fun hz => ?_⟩
        · by_cases z : l.filter (lastT rows p l) = []
          · rw [decide_eq_true z, z] at *
            simp at *
            omega
          · have := List.length_pos_iff.mpr z
            rw [decide_eq_false z]
            simp
            omega
        · rw [List.mem_filter]
          refine and_congr_right fun hs => ?_
          rw [Bool.not_eq_true', ← lastT_iff]
        · have z : l.filter (lastT rows p l) = [] := by simpa using hz
          have hall : l.filter (fun s => !lastT rows p l s) = l := List.filter_eq_self.mpr fun s hs => by
            cases hh : lastT rows p l s with
            | false => rfl
            | true => exact absurd (List.mem_filter.mpr ⟨hs, hh⟩) (by rw [z]; exact List.not_mem_nil)
          rw [hall]
          intro s hs
          refine lastT_iff.mp ?_
          cases hh : lastT rows p l s with
          | false => rfl
          | true => exact absurd (List.mem_filter.mpr ⟨hs, hh⟩) (by rw [z]; exact List.not_mem_nil)) 4096 ((mvF st 0 p).length + 1) [.dat (.lst (rows.map rowD)), .dat (plcD p), .dat (D.lst (List.map D.int (mvF st 0 p))), .dat (.bl true), .no, cellO none, .no, .no] (by omega) ⟨_, true, .no, none, .no, rfl, rfl, by omega, Keeps.start, fun h => nomatch h⟩
  subst hρ
  refine ⟨l, ?_, ?_⟩
  · have fin : b_law_left [.dat (.lst (rows.map rowD)), .dat (plcD p), .dat (D.lst (List.map D.int (mvF st 0 p))), .no, .no, .no, .no, .no] = .ret (D.lst (List.map D.int l)) [.dat (.lst (rows.map rowD)), .dat (plcD p), .dat (D.lst (List.map D.int l)), .dat (.bl false), a, cellO b, c, .no] := by
      unfold b_law_left
      rw [mSeq_next (ρ' := [.dat (.lst (rows.map rowD)), .dat (plcD p), .dat (D.lst (List.map D.int (mvF st 0 p))), .dat (.bl true), .no, cellO none, .no, .no]) (by rfl)]
      rw [mSeq_next e]
      rfl
    have h' : b_law_left (initC 8 [] [(.lst (rows.map rowD)), plcD p, (D.lst (List.map D.int (mvF st 0 p)))]) = .ret (D.lst (List.map D.int l)) [.dat (.lst (rows.map rowD)), .dat (plcD p), .dat (D.lst (List.map D.int l)), .dat (.bl false), a, cellO b, c, .no] := fin
    unfold m_law_left
    rw [mkFn_ret h']
    rfl
  · constructor
    · intro z
      subst z
      exact hK.empty
    · intro hN
      exact hN l hK.1 hC
end
end Fx
set_option Elab.async false
set_option linter.all false
set_option maxRecDepth 100000
set_option maxHeartbeats 1000000
namespace Fx
open PySem L2
theorem sEq_words {w : Str} (hw : PyData.strOk w = true) (l : List Int) : sEq (.tup (.str w :: l.map .int)) (.tup (.str w :: l.map .int)) = some (.bl true) := by
  simp [sEq, plain, toPy, toPys, PyData.canLay0, PyData.canLayAll0, hw, lay_ints, PyData.depth, PyData.depthAll, dep_ints, eqD, PyData.eqv, PyData.eqvAll, eqv_ints]
theorem sNe_words {w : Str} (hw : PyData.strOk w = true) (l : List Int) : sNe (.tup (.str w :: l.map .int)) (.tup (.str w :: l.map .int)) = some (.bl false) := by
  simp [sNe, plain, toPy, toPys, PyData.canLay0, PyData.canLayAll0, hw, lay_ints, PyData.depth, PyData.depthAll, dep_ints, eqD, PyData.eqv, PyData.eqvAll, eqv_ints]
theorem sNe_wtup {w : Str} (hw : PyData.strOk w = true) (l : List Int) : sNe (.tup [.str w, .tup (l.map .int)]) (.tup [.str w, .tup (l.map .int)]) = some (.bl false) := by
  simp [sNe, plain, toPy, toPys, PyData.canLay0, PyData.canLayAll0, hw, lay_ints, PyData.depth, PyData.depthAll, dep_ints, eqD, PyData.eqv, PyData.eqvAll, eqv_ints]
theorem callF4 {F : Fn} {f g k j : M D} {ρ : Cells} {a b c e d : D} (h1 : f ρ = .ok a ρ) (h2 : g ρ = .ok b ρ) (h3 : k ρ = .ok c ρ) (h4 : j ρ = .ok e ρ) (h : F [a, b, c, e] = .ret d []) : mCallF F [.dat f, .dat g, .dat k, .dat j] ρ = .ok d ρ := by
  unfold mCallF
  simp [preL, M.bind, Opn.pre, h1, h2, h3, h4, Out.andThen, M.pure, rdA, Opn.rd, setOuts, ownSlots, h]
theorem isTuple (ds : List D) : sIsi [.tup ds, .raw (.ty "tuple")] = some (.bl true) := by simp [sIsi, tyName, kit_tt]
theorem pair_take {R : Int → Int → Prop} : ∀ {l : List Int} {i : Nat} {s o : Int}, l.Pairwise R → l[i]? = some s → o ∈ l.take i → R o s
  | [], i, s, o, _, h, _ => by simp at h
  | a :: l, 0, s, o, _, _, h => by simp at h
  | a :: l, i + 1, s, o, hp, h, ho => by
    obtain ⟨h1, h2⟩ := List.pairwise_cons.mp hp
    have h3 : l[i]? = some s := by simpa using h
    rw [List.take_succ_cons] at ho
    rcases List.mem_cons.mp ho with z | z
    · subst z
      exact h1 s (List.mem_of_getElem? h3)
    · exact pair_take h2 h3 z
section
variable {n t : Int} {rows : List (List Int)} {p : List (Option Int)} {st : List Int}
theorem tr_others (d : D) : (mLc (mEnum (mVar 1)) (gTp [6, 7]) (mAnd (mB (mOp2 sNotN (.dat (mVar 7)) (.dat (M.pure .non)))) (mB (mOp2 sNin (.dat (mVar 6)) (.dat (mVar 2))))) (mVar 6) [6, 7]) [.dat (partsD n rows t), .dat (plcD p), .dat (.tup (st.map .int)), .dat d, .dat (.lst (rows.map rowD)), .no, .no, .no, .no, .no, .no, .no, .no, .no] = .ok (D.lst (List.map D.int (mvF st 0 p))) [.dat (partsD n rows t), .dat (plcD p), .dat (.tup (st.map .int)), .dat d, .dat (.lst (rows.map rowD)), .no, .no, .no, .no, .no, .no, .no, .no, .no] := by
  rw [mLc_pure (ds := enumD 0 (p.map optD)) (mvP st) mvf (by simp [mkFn, mSeq, mIfS, mDo, mRet, mRetN, mSkip, mExpr, mAsg, mAnd, mOr, mNot, mAndV, mOrV, mNotV, mB, mIf, mV, mNeg, mCall, mOp2, mTup, mLst, mMeth, mSl, mPart, preL, seqM, M.bind, M.pure, M.lift, M.stuck, Out.andThen, mVar, Opn.pre, Opn.rd, rdM, rdLM, rdL, cellD, initC, initAt, outsOf, outAt, gNm, gTp, gNms, mNew, mFrz, mPar, mFld, mCallF, mCallK, mCallN, appF, rdA, setOuts, ownSlots, ownPos, mSeqI, mEnum, mRange1, itemsOf, plcD]) (by simp [isOwn]) (fun e hd => by
    obtain ⟨i, o, _, rfl⟩ := enum_mem hd
    refine ⟨[.dat (partsD n rows t), .dat (plcD p), .dat (.tup (st.map .int)), .dat d, .dat (.lst (rows.map rowD)), .no, .dat (.int i), .dat (optD o), .no, .no, .no, .no, .no, .no], by simp [gTp, gNms, wipeC], ?_, fun _ => by simp [mkFn, mSeq, mIfS, mDo, mRet, mRetN, mSkip, mExpr, mAsg, mAnd, mOr, mNot, mAndV, mOrV, mNotV, mB, mIf, mV, mNeg, mCall, mOp2, mTup, mLst, mMeth, mSl, mPart, preL, seqM, M.bind, M.pure, M.lift, M.stuck, Out.andThen, mVar, Opn.pre, Opn.rd, rdM, rdLM, rdL, cellD, initC, initAt, outsOf, outAt, gNm, gTp, gNms, mNew, mFrz, mPar, mFld, mCallF, mCallK, mCallN, appF, rdA, setOuts, ownSlots, ownPos, mSeqI, mEnum, mRange1, itemsOf, mvf], by simp [wipeC]⟩
    cases o with
    | none => simp [mkFn, mSeq, mIfS, mDo, mRet, mRetN, mSkip, mExpr, mAsg, mAnd, mOr, mNot, mAndV, mOrV, mNotV, mB, mIf, mV, mNeg, mCall, mOp2, mTup, mLst, mMeth, mSl, mPart, preL, seqM, M.bind, M.pure, M.lift, M.stuck, Out.andThen, mVar, Opn.pre, Opn.rd, rdM, rdLM, rdL, cellD, initC, initAt, outsOf, outAt, gNm, gTp, gNms, mNew, mFrz, mPar, mFld, mCallF, mCallK, mCallN, appF, rdA, setOuts, ownSlots, ownPos, mSeqI, mEnum, mRange1, itemsOf, optD, sNotN, isNon, mvP]
    | some v => simp [mkFn, mSeq, mIfS, mDo, mRet, mRetN, mSkip, mExpr, mAsg, mAnd, mOr, mNot, mAndV, mOrV, mNotV, mB, mIf, mV, mNeg, mCall, mOp2, mTup, mLst, mMeth, mSl, mPart, preL, seqM, M.bind, M.pure, M.lift, M.stuck, Out.andThen, mVar, Opn.pre, Opn.rd, rdM, rdLM, rdL, cellD, initC, initAt, outsOf, outAt, gNm, gTp, gNms, mNew, mFrz, mPar, mFld, mCallF, mCallK, mCallN, appF, rdA, setOuts, ownSlots, ownPos, mSeqI, mEnum, mRange1, itemsOf, optD, sNotN, isNon, mvP, sNin_tup])]
  rw [mvF_is]
theorem tr_is (w : Str) (os : List Int) (h : Cell) : (mOr (mNot (mB (mCall sIsi [(.dat (mVar 3)), (.dat (M.pure (.raw (.ty "tuple"))))]))) (mOr (mB (mOp2 sNe (.dat (mCall sLen [(.dat (mVar 3))])) (.dat (M.pure (.int 2))))) (mNot (mB (mCall sIsi [(.dat (mOp2 sIx (.dat (mVar 3)) (.dat (M.pure (.int 1))))), (.dat (M.pure (.raw (.ty "tuple"))))]))))) [.dat (partsD n rows t), .dat (plcD p), .dat (.tup (st.map .int)), .dat (.tup [.str w, .tup (os.map .int)]), .dat (.lst (rows.map rowD)), .dat (D.lst (List.map D.int (mvF st 0 p))), .no, .no, .dat .non, h, .no, .no, .no, .no] = .ok false [.dat (partsD n rows t), .dat (plcD p), .dat (.tup (st.map .int)), .dat (.tup [.str w, .tup (os.map .int)]), .dat (.lst (rows.map rowD)), .dat (D.lst (List.map D.int (mvF st 0 p))), .no, .no, .dat .non, h, .no, .no, .no, .no] := by
  have h1 : (mOp2 sIx (.dat (mVar 3)) (.dat (M.pure (.int 1)))) [.dat (partsD n rows t), .dat (plcD p), .dat (.tup (st.map .int)), .dat (.tup [.str w, .tup (os.map .int)]), .dat (.lst (rows.map rowD)), .dat (D.lst (List.map D.int (mvF st 0 p))), .no, .no, .dat .non, h, .no, .no, .no, .no] = .ok (.tup (os.map .int)) [.dat (partsD n rows t), .dat (plcD p), .dat (.tup (st.map .int)), .dat (.tup [.str w, .tup (os.map .int)]), .dat (.lst (rows.map rowD)), .dat (D.lst (List.map D.int (mvF st 0 p))), .no, .no, .dat .non, h, .no, .no, .no, .no] := mOp2_dd (x := .tup [.str w, .tup (os.map .int)]) (y := .int 1) rfl rfl (atI_nat [D.str w, .tup (os.map .int)] 1)
  have q := sNe_int 2 2
  rw [decide_eq_true rfl] at q
  refine mOr_ff (not_ff (mB_ok (call1_ok (f := mVar 3) (a := .tup [.str w, .tup (os.map .int)]) (b := .raw (.ty "tuple")) rfl rfl (isTuple _)))) (mOr_ff (mB_ok (mOp2_dd (call1 (f := mVar 3) (d := .int 2) rfl rfl) (y := .int 2) rfl q)) (not_ff (mB_ok (call1_ok (b := .raw (.ty "tuple")) h1 rfl (isTuple _)))))
theorem tr_rk (hok : PlOk rows p) (hlp : p.length ≤ 1000) {r : List Int} (hr : RingOk rows p (mvF st 0 p) r) (d : D) : (mLc (mRange1 (mCall sLen [(.dat (mVar 9))])) (gNm 10) (mB (mOp2 sNin (.dat (mOp2 sIx (.dat (mVar 1)) (.dat (mOp2 sIx (.dat (mVar 9)) (.dat (mVar 10)))))) (.dat (mCallF m_law_passed [(.dat (mVar 4)), (.dat (mVar 1)), (.dat (mOp2 sIx (.dat (mVar 9)) (.dat (mOp2 sSub (.dat (mVar 10)) (.dat (M.pure (.int 1)))))))])))) (mVar 10) [10]) [.dat (partsD n rows t), .dat (plcD p), .dat (.tup (st.map .int)), .dat d, .dat (.lst (rows.map rowD)), .dat (D.lst (List.map D.int (mvF st 0 p))), .no, .no, .dat .non, .dat (.tup (r.map .int)), .no, .no, .no, .no] = .ok (D.lst (List.map D.int ([] : List Int))) [.dat (partsD n rows t), .dat (plcD p), .dat (.tup (st.map .int)), .dat d, .dat (.lst (rows.map rowD)), .dat (D.lst (List.map D.int (mvF st 0 p))), .no, .no, .dat .non, .dat (.tup (r.map .int)), .no, .no, .no, .no] := by
  have hml := len_mvF (st := st) 0 p
  have hlr := pigeon r _ hr.nd hr.sub
  have hne := List.length_pos_iff.mpr hr.ne
  have e : mLc (mRange1 (mCall sLen [(.dat (mVar 9))])) (gNm 10) (mB (mOp2 sNin (.dat (mOp2 sIx (.dat (mVar 1)) (.dat (mOp2 sIx (.dat (mVar 9)) (.dat (mVar 10)))))) (.dat (mCallF m_law_passed [(.dat (mVar 4)), (.dat (mVar 1)), (.dat (mOp2 sIx (.dat (mVar 9)) (.dat (mOp2 sSub (.dat (mVar 10)) (.dat (M.pure (.int 1)))))))])))) (mVar 10) [10] [.dat (partsD n rows t), .dat (plcD p), .dat (.tup (st.map .int)), .dat d, .dat (.lst (rows.map rowD)), .dat (D.lst (List.map D.int (mvF st 0 p))), .no, .no, .dat .non, .dat (.tup (r.map .int)), .no, .no, .no, .no] = .ok (.lst (((rng r.length).filter fun _ => false).map .int)) [.dat (partsD n rows t), .dat (plcD p), .dat (.tup (st.map .int)), .dat d, .dat (.lst (rows.map rowD)), .dat (D.lst (List.map D.int (mvF st 0 p))), .no, .no, .dat .non, .dat (.tup (r.map .int)), .no, .no, .no, .no] := by
    refine mLc_T (xs := rng r.length) D.int (fun _ => false) D.int (range_ok (j := (r.length : Nat)) (call1 (f := mVar 9) rfl (by simp [sLen])) (by omega) (by omega)) (by simp [isOwn]) (fun k hk => ?_)
    obtain ⟨k0, k1⟩ := rng_mem hk
    obtain ⟨kk, rfl⟩ : ∃ kk : Nat, k = (kk : Int) := ⟨k.toNat, by omega⟩
    have hkk : kk < r.length := by omega
    have hb : r[kk]? = some r[kk] := List.getElem?_eq_getElem hkk
    obtain ⟨a, ha1, ha2⟩ : ∃ a, sIx (.tup (r.map .int)) (.int ((kk : Int) - 1)) = some (.int a) ∧ Ps rows p a r[kk] ∧ a ∈ r := by
      cases kk with
      | zero =>
        have hl : r[r.length - 1]? = some r[r.length - 1] := List.getElem?_eq_getElem (by omega)
        refine ⟨r[r.length - 1], ?_, hr.cyc _ _ hl hb, List.mem_of_getElem? hl⟩
        obtain ⟨w, x, hw⟩ : ∃ w x, r = w ++ [x] := ⟨r.dropLast, r.getLast hr.ne, (List.dropLast_concat_getLast hr.ne).symm⟩
        subst hw
        have := sIx_last w x
        have e2 : (w ++ [x])[(w ++ [x]).length - 1]'(by omega) = x := by simp
        rw [e2]
        exact this
      | succ kk =>
        have hl : r[kk]? = some r[kk] := List.getElem?_eq_getElem (by omega)
        refine ⟨r[kk], ?_, hr.nxt kk _ _ hl hb, List.mem_of_getElem? hl⟩
        have e2 : ((kk + 1 : Nat) : Int) - 1 = (kk : Int) := by omega
        rw [e2]
        show atI _ _ = _
        rw [atI_nat, List.getElem?_map, hl]
        rfl
    have hpa := mv_pres (hr.sub a ha2.2)
    have hpb := mv_pres (hr.sub r[kk] (List.mem_of_getElem? hb))
    have q1 : sIx (.tup (r.map .int)) (.int (kk : Int)) = some (.int r[kk]) := by
      show atI _ _ = _
      rw [atI_nat, List.getElem?_map, hb]
      rfl
    have q2 := sIx_pl hpb
    have q3 := e_lpassed hpa hok
    have q4 : sNin (.int (plAt p r[kk])) (rowD (passI rows p a)) = some (.bl false) := by
      have := sNin_tup (plAt p r[kk]) (passI rows p a)
      rw [decide_eq_true (show plAt p r[kk] ∈ passI rows p a from ha2.1)] at this
      exact this
    refine ⟨[.dat (partsD n rows t), .dat (plcD p), .dat (.tup (st.map .int)), .dat d, .dat (.lst (rows.map rowD)), .dat (D.lst (List.map D.int (mvF st 0 p))), .no, .no, .dat .non, .dat (.tup (r.map .int)), .dat (.int (kk : Int)), .no, .no, .no], by simp [gNm, wipeC], mB_ok (mOp2_dd (mOp2_dd (x := plcD p) rfl (mOp2_dd (x := .tup (r.map .int)) (y := .int (kk : Int)) rfl rfl q1) q2) (callF3 (f := mVar 4) (g := mVar 1) rfl rfl (mOp2_dd (x := .tup (r.map .int)) (y := .int ((kk : Int) - 1)) rfl (mOp2_dd (x := .int (kk : Int)) (y := .int 1) rfl rfl rfl) ha1) q3) q4), (fun z => nomatch z), by simp [wipeC]⟩
  rw [List.filter_eq_nil_iff.mpr (fun _ _ => by simp)] at e
  exact e
theorem tr_ob (hok : PlOk rows p) {w : Str} {os : List Int} (hos : OrdOk rows p (mvF st 0 p) os) {i : Nat} {s : Int} (hi : os[i]? = some s) (a b : Cell) :
    (mSeq (mAsg (mCallF m_law_passed [(.dat (mVar 4)), (.dat (mVar 1)), (.dat (mVar 6))]) (gNm 12)) (mIfS (mB (mOp2 sNe (.dat (mLc (mSeqI (mSl sCut (.dat (mOp2 sIx (.dat (mVar 3)) (.dat (M.pure (.int 1))))) none (some (mVar 11)))) (gNm 13) (mB (mOp2 sIn (.dat (mOp2 sIx (.dat (mVar 1)) (.dat (mVar 13)))) (.dat (mVar 12)))) (mVar 13) [13])) (.dat (mLst [])))) (mRet (M.pure (.bl false))) mSkip)) [.dat (partsD n rows t), .dat (plcD p), .dat (.tup (st.map .int)), .dat (.tup [.str w, .tup (os.map .int)]), .dat (.lst (rows.map rowD)), .dat (D.lst (List.map D.int (mvF st 0 p))), .dat (.int s), .no, .dat .non, .no, .no, .dat (.int i), a, .no] = .next [.dat (partsD n rows t), .dat (plcD p), .dat (.tup (st.map .int)), .dat (.tup [.str w, .tup (os.map .int)]), .dat (.lst (rows.map rowD)), .dat (D.lst (List.map D.int (mvF st 0 p))), .dat (.int s), .no, .dat .non, .no, .no, .dat (.int i), .dat (rowD (passI rows p s)), .no] := by
  have hs : Pres p s := mv_pres (hos.perm.mem_iff.mp (List.mem_of_getElem? hi))
  have h1 := mAsg_ok (g := gNm 12) (ρ2 := [.dat (partsD n rows t), .dat (plcD p), .dat (.tup (st.map .int)), .dat (.tup [.str w, .tup (os.map .int)]), .dat (.lst (rows.map rowD)), .dat (D.lst (List.map D.int (mvF st 0 p))), .dat (.int s), .no, .dat .non, .no, .no, .dat (.int i), .dat (rowD (passI rows p s)), .no]) (callF3 (F := m_law_passed) (f := mVar 4) (g := mVar 1) (k := mVar 6) (ρ := [.dat (partsD n rows t), .dat (plcD p), .dat (.tup (st.map .int)), .dat (.tup [.str w, .tup (os.map .int)]), .dat (.lst (rows.map rowD)), .dat (D.lst (List.map D.int (mvF st 0 p))), .dat (.int s), .no, .dat .non, .no, .no, .dat (.int i), a, .no]) rfl rfl rfl (e_lpassed hs hok)) rfl
  have h2 : (mOp2 sIx (.dat (mVar 3)) (.dat (M.pure (.int 1)))) [.dat (partsD n rows t), .dat (plcD p), .dat (.tup (st.map .int)), .dat (.tup [.str w, .tup (os.map .int)]), .dat (.lst (rows.map rowD)), .dat (D.lst (List.map D.int (mvF st 0 p))), .dat (.int s), .no, .dat .non, .no, .no, .dat (.int i), .dat (rowD (passI rows p s)), .no] = .ok (rowD os) [.dat (partsD n rows t), .dat (plcD p), .dat (.tup (st.map .int)), .dat (.tup [.str w, .tup (os.map .int)]), .dat (.lst (rows.map rowD)), .dat (D.lst (List.map D.int (mvF st 0 p))), .dat (.int s), .no, .dat .non, .no, .no, .dat (.int i), .dat (rowD (passI rows p s)), .no] := mOp2_dd (x := .tup [.str w, .tup (os.map .int)]) (y := .int 1) rfl rfl (atI_nat [D.str w, .tup (os.map .int)] 1)
  have h3 := sl_ok (g := mVar 11) (j := (i : Int)) h2 rfl (cutN os (Int.natCast_nonneg i))
  rw [Int.toNat_natCast] at h3
  have h4 : mLc (mSeqI (mSl sCut (.dat (mOp2 sIx (.dat (mVar 3)) (.dat (M.pure (.int 1))))) none (some (mVar 11)))) (gNm 13) (mB (mOp2 sIn (.dat (mOp2 sIx (.dat (mVar 1)) (.dat (mVar 13)))) (.dat (mVar 12)))) (mVar 13) [13] [.dat (partsD n rows t), .dat (plcD p), .dat (.tup (st.map .int)), .dat (.tup [.str w, .tup (os.map .int)]), .dat (.lst (rows.map rowD)), .dat (D.lst (List.map D.int (mvF st 0 p))), .dat (.int s), .no, .dat .non, .no, .no, .dat (.int i), .dat (rowD (passI rows p s)), .no] = .ok (.lst (((os.take i).filter (hQ rows p s)).map .int)) [.dat (partsD n rows t), .dat (plcD p), .dat (.tup (st.map .int)), .dat (.tup [.str w, .tup (os.map .int)]), .dat (.lst (rows.map rowD)), .dat (D.lst (List.map D.int (mvF st 0 p))), .dat (.int s), .no, .dat .non, .no, .no, .dat (.int i), .dat (rowD (passI rows p s)), .no] := by
    refine mLc_T (xs := os.take i) D.int (hQ rows p s) D.int (seqI_ok h3 rfl) (by simp [isOwn]) (fun o ho => ?_)
    have q1 := sIx_pl (mv_pres (hos.perm.mem_iff.mp (List.mem_of_mem_take ho)))
    have q2 : sIn (.int (plAt p o)) (rowD (passI rows p s)) = some (.bl (hQ rows p s o)) := sIn_tup _ _
    exact ⟨[.dat (partsD n rows t), .dat (plcD p), .dat (.tup (st.map .int)), .dat (.tup [.str w, .tup (os.map .int)]), .dat (.lst (rows.map rowD)), .dat (D.lst (List.map D.int (mvF st 0 p))), .dat (.int s), .no, .dat .non, .no, .no, .dat (.int i), .dat (rowD (passI rows p s)), .dat (.int o)], by simp [gNm, wipeC], mB_ok (mOp2_dd (mOp2_dd (x := plcD p) (y := .int o) rfl rfl q1) (y := rowD (passI rows p s)) rfl q2), fun _ => rfl, by simp [wipeC]⟩
  have h5 : (os.take i).filter (hQ rows p s) = [] := List.filter_eq_nil_iff.mpr fun o ho hq => pair_take hos.ord hi ho (of_decide_eq_true (p := plAt p o ∈ passI rows p s) hq)
  have h6 := mNe_dd h4
  rw [h5, decide_eq_true rfl] at h6
  rw [mSeq_next h1]
  rw [mIfS_f h6]
  rfl
theorem e_told (hok : PlOk rows p) (hst : StOk p st) (hlp : p.length ≤ 1000) {r : D} (h : OrdRes t rows p st r) : m_law_told_right [partsD n rows t, plcD p, (.tup (st.map .int)), r] = .ret (.bl true) [] := by
  have c1 := e_law_first (n := n) (t := t) hok hst
  obtain ⟨l, c2, c3⟩ := e_left (st := st) hok hlp
  have hml := len_mvF (st := st) 0 p
  have fin : ∀ ρ, b_law_told_right [.dat (partsD n rows t), .dat (plcD p), .dat (.tup (st.map .int)), .dat r, .no, .no, .no, .no, .no, .no, .no, .no, .no, .no] = .ret (.bl true) ρ → m_law_told_right [partsD n rows t, plcD p, (.tup (st.map .int)), r] = .ret (.bl true) [] := fun ρ hh => by
    have h' : b_law_told_right (initC 14 [] [partsD n rows t, plcD p, (.tup (st.map .int)), r]) = .ret (.bl true) ρ := by
      rw [show initC 14 [] [partsD n rows t, plcD p, (.tup (st.map .int)), r] = [.dat (partsD n rows t), .dat (plcD p), .dat (.tup (st.map .int)), .dat r, .no, .no, .no, .no, .no, .no, .no, .no, .no, .no] from rfl]
      exact hh
    unfold m_law_told_right
    rw [mkFn_ret h']
    rfl
  have s1 : mAsg (mOp2 sIx (.dat (mVar 0)) (.dat (M.pure (.int 1)))) (gNm 4) [.dat (partsD n rows t), .dat (plcD p), .dat (.tup (st.map .int)), .dat r, .no, .no, .no, .no, .no, .no, .no, .no, .no, .no] = .next [.dat (partsD n rows t), .dat (plcD p), .dat (.tup (st.map .int)), .dat r, .dat (.lst (rows.map rowD)), .no, .no, .no, .no, .no, .no, .no, .no, .no] := mAsg_ok (mOp2_dd (x := partsD n rows t) (y := .int 1) rfl rfl (atI_nat [D.int n, (.lst (rows.map rowD)), .int t] 1)) rfl
  have s2 := mAsg_ok (g := gNm 5) (ρ2 := [.dat (partsD n rows t), .dat (plcD p), .dat (.tup (st.map .int)), .dat r, .dat (.lst (rows.map rowD)), .dat (D.lst (List.map D.int (mvF st 0 p))), .no, .no, .no, .no, .no, .no, .no, .no]) (tr_others (n := n) (t := t) (rows := rows) (p := p) (st := st) r) rfl
  have s3 : mAsg (mCallF m_law_first [(.dat (mVar 0)), (.dat (mVar 1)), (.dat (mVar 2)), (.dat (mVar 5))]) (gNm 8) [.dat (partsD n rows t), .dat (plcD p), .dat (.tup (st.map .int)), .dat r, .dat (.lst (rows.map rowD)), .dat (D.lst (List.map D.int (mvF st 0 p))), .no, .no, .no, .no, .no, .no, .no, .no] = .next [.dat (partsD n rows t), .dat (plcD p), .dat (.tup (st.map .int)), .dat r, .dat (.lst (rows.map rowD)), .dat (D.lst (List.map D.int (mvF st 0 p))), .no, .no, .dat (dueR t rows p st), .no, .no, .no, .no, .no] := by
    exact mAsg_ok (callF4 rfl rfl rfl rfl c1) rfl
  have due2 : ∀ (w : Str) (ds : List Int), PyData.strOk w = true → r = .tup (.str w :: ds.map .int) → dueR t rows p st = r → m_law_told_right [partsD n rows t, plcD p, (.tup (st.map .int)), r] = .ret (.bl true) [] := fun w ds hw e1 e2 => by
    refine fin [.dat (partsD n rows t), .dat (plcD p), .dat (.tup (st.map .int)), .dat r, .dat (.lst (rows.map rowD)), .dat (D.lst (List.map D.int (mvF st 0 p))), .no, .no, .dat r, .no, .no, .no, .no, .no] ?_
    rw [e2] at s3
    have q : sNotN r .non = some (.bl true) := by rw [e1]; rfl
    have q2 : sEq r r = some (.bl true) := by rw [e1]; exact sEq_words hw ds
    unfold b_law_told_right
    rw [mSeq_next s1, mSeq_next s2, mSeq_next s3]
    refine mSeq_ret ?_
    rw [mIfNs (f := mVar 8) (d := r) (ρ1 := [.dat (partsD n rows t), .dat (plcD p), .dat (.tup (st.map .int)), .dat r, .dat (.lst (rows.map rowD)), .dat (D.lst (List.map D.int (mvF st 0 p))), .no, .no, .dat r, .no, .no, .no, .no, .no]) rfl q]
    unfold mRet mDo
    rw [mOp2_dd (f := mVar 3) (g := mVar 8) (x := r) (y := r) rfl rfl q2]
  have left1 : ∀ h : Cell, mB (mOp2 sNe (.dat (mCallF m_law_left [(.dat (mVar 4)), (.dat (mVar 1)), (.dat (mVar 5))])) (.dat (mLst []))) [.dat (partsD n rows t), .dat (plcD p), .dat (.tup (st.map .int)), .dat r, .dat (.lst (rows.map rowD)), .dat (D.lst (List.map D.int (mvF st 0 p))), .no, .no, .dat .non, h, .no, .no, .no, .no] = .ok (!decide (l = [])) [.dat (partsD n rows t), .dat (plcD p), .dat (.tup (st.map .int)), .dat r, .dat (.lst (rows.map rowD)), .dat (D.lst (List.map D.int (mvF st 0 p))), .no, .no, .dat .non, h, .no, .no, .no, .no] := fun h => mNe_dd (callF3 rfl rfl rfl c2)
  cases h with
  | far s h1 => exact due2 "far" [s] so_far rfl (by unfold dueR; rw [h1])
  | held s o h1 h2 h3 => exact due2 "held" [s, o] so_held rfl (by unfold dueR; rw [h1, h2]; simp only [h3])
  | order os h1 h2 h3 h4 =>
    have hd : dueR t rows p st = .non := by unfold dueR; rw [h1, h2]
    rw [hd] at s3
    have hl := c3.mpr h3
    obtain ⟨ρ', e, a, b, c, hρ⟩ := loop_inv (g := gTp [11, 6]) (body := (mSeq (mAsg (mCallF m_law_passed [(.dat (mVar 4)), (.dat (mVar 1)), (.dat (mVar 6))]) (gNm 12)) (mIfS (mB (mOp2 sNe (.dat (mLc (mSeqI (mSl sCut (.dat (mOp2 sIx (.dat (mVar 3)) (.dat (M.pure (.int 1))))) none (some (mVar 11)))) (gNm 13) (mB (mOp2 sIn (.dat (mOp2 sIx (.dat (mVar 1)) (.dat (mVar 13)))) (.dat (mVar 12)))) (mVar 13) [13])) (.dat (mLst [])))) (mRet (M.pure (.bl false))) mSkip))) (fun _ ρ => ∃ a b c, ρ = [.dat (partsD n rows t), .dat (plcD p), .dat (.tup (st.map .int)), .dat (.tup [.str "order", .tup (os.map .int)]), .dat (.lst (rows.map rowD)), .dat (D.lst (List.map D.int (mvF st 0 p))), a, .no, .dat .non, .no, .no, b, c, .no]) (enumD 0 (os.map .int)) 0 [.dat (partsD n rows t), .dat (plcD p), .dat (.tup (st.map .int)), .dat (.tup [.str "order", .tup (os.map .int)]), .dat (.lst (rows.map rowD)), .dat (D.lst (List.map D.int (mvF st 0 p))), .no, .no, .dat .non, .no, .no, .no, .no, .no] ⟨_, _, _, rfl⟩
      (fun i dd ρ hd ⟨a, b, c, hρ⟩ => by
        obtain ⟨d', h7, rfl⟩ := enumD_inv 0 i _ _ hd
        rw [List.getElem?_map] at h7
        cases hr : os[i]? with
        | none => rw [hr] at h7; cases h7
        | some s =>
          rw [hr] at h7
          cases h7
          subst hρ
          rw [Nat.zero_add]
          exact ⟨[.dat (partsD n rows t), .dat (plcD p), .dat (.tup (st.map .int)), .dat (.tup [.str "order", .tup (os.map .int)]), .dat (.lst (rows.map rowD)), .dat (D.lst (List.map D.int (mvF st 0 p))), .dat (.int s), .no, .dat .non, .no, .no, .dat (.int i), c, .no], by simp [gTp, gNms], _, tr_ob hok h4 hr c c, _, _, _, rfl⟩)
    subst hρ
    have o1 : (mOp2 sIx (.dat (mVar 3)) (.dat (M.pure (.int 1)))) [.dat (partsD n rows t), .dat (plcD p), .dat (.tup (st.map .int)), .dat (.tup [.str "order", .tup (os.map .int)]), .dat (.lst (rows.map rowD)), .dat (D.lst (List.map D.int (mvF st 0 p))), .no, .no, .dat .non, .no, .no, .no, .no, .no] = .ok (rowD os) [.dat (partsD n rows t), .dat (plcD p), .dat (.tup (st.map .int)), .dat (.tup [.str "order", .tup (os.map .int)]), .dat (.lst (rows.map rowD)), .dat (D.lst (List.map D.int (mvF st 0 p))), .no, .no, .dat .non, .no, .no, .no, .no, .no] := mOp2_dd (x := .tup [.str "order", .tup (os.map .int)]) (y := .int 1) rfl rfl (atI_nat [D.str "order", .tup (os.map .int)] 1)
    have o2 : (mOp2 sIx (.dat (mVar 3)) (.dat (M.pure (.int 0)))) [.dat (partsD n rows t), .dat (plcD p), .dat (.tup (st.map .int)), .dat (.tup [.str "order", .tup (os.map .int)]), .dat (.lst (rows.map rowD)), .dat (D.lst (List.map D.int (mvF st 0 p))), .no, .no, .dat .non, .no, .no, .no, .no, .no] = .ok (.str "order") [.dat (partsD n rows t), .dat (plcD p), .dat (.tup (st.map .int)), .dat (.tup [.str "order", .tup (os.map .int)]), .dat (.lst (rows.map rowD)), .dat (D.lst (List.map D.int (mvF st 0 p))), .no, .no, .dat .non, .no, .no, .no, .no, .no] := mOp2_dd (x := .tup [.str "order", .tup (os.map .int)]) (y := .int 0) rfl rfl (atI_nat [D.str "order", .tup (os.map .int)] 0)
    have o3 := sNe_str so_order so_order
    rw [decide_eq_true rfl] at o3
    have o4 : sSorted [rowD os] = some (D.lst (List.map D.int (mvF st 0 p))) := by
      have : sortI os = mvF st 0 p := by rw [sortI_eq h4.perm, sortI_asc (asc_mvF 0 p)]
      rw [← this]
      simp [sSorted, rowD, itemsOf, intsOf_map]
    have o5 := sNe_lst (mvF st 0 p) (mvF st 0 p)
    rw [decide_eq_true rfl] at o5
    have o6 : mOr (mB (mOp2 sNe (.dat (mOp2 sIx (.dat (mVar 3)) (.dat (M.pure (.int 0))))) (.dat (M.pure (.str "order"))))) (mB (mOp2 sNe (.dat (mCall sSorted [(.dat (mOp2 sIx (.dat (mVar 3)) (.dat (M.pure (.int 1)))))])) (.dat (mVar 5)))) [.dat (partsD n rows t), .dat (plcD p), .dat (.tup (st.map .int)), .dat (.tup [.str "order", .tup (os.map .int)]), .dat (.lst (rows.map rowD)), .dat (D.lst (List.map D.int (mvF st 0 p))), .no, .no, .dat .non, .no, .no, .no, .no, .no] = .ok false [.dat (partsD n rows t), .dat (plcD p), .dat (.tup (st.map .int)), .dat (.tup [.str "order", .tup (os.map .int)]), .dat (.lst (rows.map rowD)), .dat (D.lst (List.map D.int (mvF st 0 p))), .no, .no, .dat .non, .no, .no, .no, .no, .no] :=
      mOr_ff (mB_ok (mOp2_dd o2 (y := .str "order") rfl o3)) (mB_ok (mOp2_dd (call1 o1 o4) (y := (D.lst (List.map D.int (mvF st 0 p)))) rfl o5))
    have lf := left1 .no
    rw [hl, decide_eq_true rfl] at lf
    refine fin [.dat (partsD n rows t), .dat (plcD p), .dat (.tup (st.map .int)), .dat (.tup [.str "order", .tup (os.map .int)]), .dat (.lst (rows.map rowD)), .dat (D.lst (List.map D.int (mvF st 0 p))), a, .no, .dat .non, .no, .no, b, c, .no] ?_
    unfold b_law_told_right
    rw [mSeq_next s1, mSeq_next s2, mSeq_next s3]
    rw [mSeq_next (ρ' := [.dat (partsD n rows t), .dat (plcD p), .dat (.tup (st.map .int)), .dat (.tup [.str "order", .tup (os.map .int)]), .dat (.lst (rows.map rowD)), .dat (D.lst (List.map D.int (mvF st 0 p))), .no, .no, .dat .non, .no, .no, .no, .no, .no]) (by rw [mIfN (f := mVar 8) rfl])]
    rw [mSeq_next (ρ' := [.dat (partsD n rows t), .dat (plcD p), .dat (.tup (st.map .int)), .dat (.tup [.str "order", .tup (os.map .int)]), .dat (.lst (rows.map rowD)), .dat (D.lst (List.map D.int (mvF st 0 p))), .no, .no, .dat .non, .no, .no, .no, .no, .no]) (by rw [mIfS_f (tr_is "order" os .no)]; rfl)]
    rw [mSeq_next (ρ' := [.dat (partsD n rows t), .dat (plcD p), .dat (.tup (st.map .int)), .dat (.tup [.str "order", .tup (os.map .int)]), .dat (.lst (rows.map rowD)), .dat (D.lst (List.map D.int (mvF st 0 p))), .no, .no, .dat .non, .no, .no, .no, .no, .no]) (by rw [mIfS_f lf]; rfl)]
    rw [mSeq_next (ρ' := [.dat (partsD n rows t), .dat (plcD p), .dat (.tup (st.map .int)), .dat (.tup [.str "order", .tup (os.map .int)]), .dat (.lst (rows.map rowD)), .dat (D.lst (List.map D.int (mvF st 0 p))), .no, .no, .dat .non, .no, .no, .no, .no, .no]) (by rw [mIfS_f o6]; rfl)]
    rw [mSeq_next (by rw [mFor_next (ds := enumD 0 (os.map .int)) (ρ1 := [.dat (partsD n rows t), .dat (plcD p), .dat (.tup (st.map .int)), .dat (.tup [.str "order", .tup (os.map .int)]), .dat (.lst (rows.map rowD)), .dat (D.lst (List.map D.int (mvF st 0 p))), .no, .no, .dat .non, .no, .no, .no, .no, .no]) (by unfold mEnum M.bind; rw [o1]; rfl)]; exact e)]
    rfl
  | ring q h1 h2 h3 h4 =>
    have hd : dueR t rows p st = .non := by unfold dueR; rw [h1, h2]
    rw [hd] at s3
    have hl : l ≠ [] := fun z => h3 (c3.mp z)
    have hlr := pigeon q _ h4.nd h4.sub
    have lf := left1 .no
    rw [decide_eq_false hl] at lf
    have o1 : (mOp2 sIx (.dat (mVar 3)) (.dat (M.pure (.int 1)))) [.dat (partsD n rows t), .dat (plcD p), .dat (.tup (st.map .int)), .dat (.tup [.str "ring", .tup (q.map .int)]), .dat (.lst (rows.map rowD)), .dat (D.lst (List.map D.int (mvF st 0 p))), .no, .no, .dat .non, .no, .no, .no, .no, .no] = .ok (.tup (q.map .int)) [.dat (partsD n rows t), .dat (plcD p), .dat (.tup (st.map .int)), .dat (.tup [.str "ring", .tup (q.map .int)]), .dat (.lst (rows.map rowD)), .dat (D.lst (List.map D.int (mvF st 0 p))), .no, .no, .dat .non, .no, .no, .no, .no, .no] := mOp2_dd (x := .tup [.str "ring", .tup (q.map .int)]) (y := .int 1) rfl rfl (atI_nat [D.str "ring", .tup (q.map .int)] 1)
    have o2 : (mOp2 sIx (.dat (mVar 3)) (.dat (M.pure (.int 0)))) [.dat (partsD n rows t), .dat (plcD p), .dat (.tup (st.map .int)), .dat (.tup [.str "ring", .tup (q.map .int)]), .dat (.lst (rows.map rowD)), .dat (D.lst (List.map D.int (mvF st 0 p))), .no, .no, .dat .non, .dat (.tup (q.map .int)), .no, .no, .no, .no] = .ok (.str "ring") [.dat (partsD n rows t), .dat (plcD p), .dat (.tup (st.map .int)), .dat (.tup [.str "ring", .tup (q.map .int)]), .dat (.lst (rows.map rowD)), .dat (D.lst (List.map D.int (mvF st 0 p))), .no, .no, .dat .non, .dat (.tup (q.map .int)), .no, .no, .no, .no] := mOp2_dd (x := .tup [.str "ring", .tup (q.map .int)]) (y := .int 0) rfl rfl (atI_nat [D.str "ring", .tup (q.map .int)] 0)
    have o3 := sNe_str so_ring so_ring
    rw [decide_eq_true rfl] at o3
    have o4 := sEq_tup q []
    rw [decide_eq_false h4.ne] at o4
    have o5 : sLenSet (.tup (q.map .int)) = some (.int q.length) := by
      have hl4 : q.length ≤ 4000 := by omega
      simp [sLenSet, intsOf_map, hl4, dedup_nodup h4.nd]
    have o6 := sNe_int (q.length : Nat) (q.length : Nat)
    rw [decide_eq_true rfl] at o6
    have o7 : mOr (mB (mOp2 sNe (.dat (mOp2 sIx (.dat (mVar 3)) (.dat (M.pure (.int 0))))) (.dat (M.pure (.str "ring"))))) (mOr (mB (mOp2 sEq (.dat (mVar 9)) (.dat (mTup [])))) (mB (mOp2 sNe (.dat (mLenSet (mVar 9))) (.dat (mCall sLen [(.dat (mVar 9))]))))) [.dat (partsD n rows t), .dat (plcD p), .dat (.tup (st.map .int)), .dat (.tup [.str "ring", .tup (q.map .int)]), .dat (.lst (rows.map rowD)), .dat (D.lst (List.map D.int (mvF st 0 p))), .no, .no, .dat .non, .dat (.tup (q.map .int)), .no, .no, .no, .no] = .ok false [.dat (partsD n rows t), .dat (plcD p), .dat (.tup (st.map .int)), .dat (.tup [.str "ring", .tup (q.map .int)]), .dat (.lst (rows.map rowD)), .dat (D.lst (List.map D.int (mvF st 0 p))), .no, .no, .dat .non, .dat (.tup (q.map .int)), .no, .no, .no, .no] := by
      refine mOr_ff (mB_ok (mOp2_dd o2 (y := .str "ring") rfl o3)) (mOr_ff (mB_ok (mOp2_dd (x := .tup (q.map .int)) (y := .tup []) rfl rfl o4)) (mB_ok (mOp2_dd (x := .int (q.length : Nat)) (y := .int (q.length : Nat)) ?_ (call1 (f := mVar 9) rfl (by simp [sLen])) o6)))
      unfold mLenSet M.bind
      show M.lift (sLenSet (.tup (q.map .int))) _ = _
      rw [o5]
      rfl
    have o8 : mLc (mSeqI (mVar 9)) (gNm 6) (mB (mOp2 sNin (.dat (mVar 6)) (.dat (mVar 5)))) (mVar 6) [6] [.dat (partsD n rows t), .dat (plcD p), .dat (.tup (st.map .int)), .dat (.tup [.str "ring", .tup (q.map .int)]), .dat (.lst (rows.map rowD)), .dat (D.lst (List.map D.int (mvF st 0 p))), .no, .no, .dat .non, .dat (.tup (q.map .int)), .no, .no, .no, .no] = .ok (.lst ((q.filter fun _ => false).map .int)) [.dat (partsD n rows t), .dat (plcD p), .dat (.tup (st.map .int)), .dat (.tup [.str "ring", .tup (q.map .int)]), .dat (.lst (rows.map rowD)), .dat (D.lst (List.map D.int (mvF st 0 p))), .no, .no, .dat .non, .dat (.tup (q.map .int)), .no, .no, .no, .no] := by
      refine mLc_T (xs := q) D.int (fun _ => false) D.int rfl (by simp [isOwn]) (fun s hs => ?_)
      have q4 := sNin_lst s (mvF st 0 p)
      rw [decide_eq_true (h4.sub s hs)] at q4
      exact ⟨[.dat (partsD n rows t), .dat (plcD p), .dat (.tup (st.map .int)), .dat (.tup [.str "ring", .tup (q.map .int)]), .dat (.lst (rows.map rowD)), .dat (D.lst (List.map D.int (mvF st 0 p))), .dat (.int s), .no, .dat .non, .dat (.tup (q.map .int)), .no, .no, .no, .no], by simp [gNm, wipeC], mB_ok (mOp2_dd (x := .int s) (y := (D.lst (List.map D.int (mvF st 0 p)))) rfl rfl q4), (fun z => nomatch z), by simp [wipeC]⟩
    rw [List.filter_eq_nil_iff.mpr (fun _ _ => by simp)] at o8
    have o9 := mNe_dd (l := []) o8
    rw [decide_eq_true rfl] at o9
    have o10 := tr_rk (n := n) (t := t) hok hlp h4 (.tup [.str "ring", .tup (q.map .int)])
    have o11 := sEq_lst [] []
    rw [decide_eq_true rfl] at o11
    refine fin [.dat (partsD n rows t), .dat (plcD p), .dat (.tup (st.map .int)), .dat (.tup [.str "ring", .tup (q.map .int)]), .dat (.lst (rows.map rowD)), .dat (D.lst (List.map D.int (mvF st 0 p))), .no, .no, .dat .non, .dat (.tup (q.map .int)), .no, .no, .no, .no] ?_
    unfold b_law_told_right
    rw [mSeq_next s1, mSeq_next s2, mSeq_next s3]
    rw [mSeq_next (ρ' := [.dat (partsD n rows t), .dat (plcD p), .dat (.tup (st.map .int)), .dat (.tup [.str "ring", .tup (q.map .int)]), .dat (.lst (rows.map rowD)), .dat (D.lst (List.map D.int (mvF st 0 p))), .no, .no, .dat .non, .no, .no, .no, .no, .no]) (by rw [mIfN (f := mVar 8) rfl])]
    rw [mSeq_next (ρ' := [.dat (partsD n rows t), .dat (plcD p), .dat (.tup (st.map .int)), .dat (.tup [.str "ring", .tup (q.map .int)]), .dat (.lst (rows.map rowD)), .dat (D.lst (List.map D.int (mvF st 0 p))), .no, .no, .dat .non, .no, .no, .no, .no, .no]) (by rw [mIfS_f (tr_is "ring" q .no)]; rfl)]
    refine mSeq_ret ?_
    rw [mIfS_t lf]
    rw [mSeq_next (ρ' := [.dat (partsD n rows t), .dat (plcD p), .dat (.tup (st.map .int)), .dat (.tup [.str "ring", .tup (q.map .int)]), .dat (.lst (rows.map rowD)), .dat (D.lst (List.map D.int (mvF st 0 p))), .no, .no, .dat .non, .dat (.tup (q.map .int)), .no, .no, .no, .no]) (by exact mAsg_ok o1 rfl)]
    rw [mSeq_next (ρ' := [.dat (partsD n rows t), .dat (plcD p), .dat (.tup (st.map .int)), .dat (.tup [.str "ring", .tup (q.map .int)]), .dat (.lst (rows.map rowD)), .dat (D.lst (List.map D.int (mvF st 0 p))), .no, .no, .dat .non, .dat (.tup (q.map .int)), .no, .no, .no, .no]) (by rw [mIfS_f o7]; rfl)]
    rw [mSeq_next (ρ' := [.dat (partsD n rows t), .dat (plcD p), .dat (.tup (st.map .int)), .dat (.tup [.str "ring", .tup (q.map .int)]), .dat (.lst (rows.map rowD)), .dat (D.lst (List.map D.int (mvF st 0 p))), .no, .no, .dat .non, .dat (.tup (q.map .int)), .no, .no, .no, .no]) (by rw [mIfS_f o9]; rfl)]
    unfold mRet mDo
    rw [mOp2_dd o10 (show mLst [] _ = .ok (.lst (([] : List Int).map .int)) _ from rfl) o11]
end
end Fx
set_option Elab.async false
set_option linter.all false
set_option maxRecDepth 100000
set_option maxHeartbeats 1000000
namespace Fx
open PySem L2
theorem popAt_ok (l : List Int) {r : Int} (h1 : 0 ≤ r) (h2 : r < l.length) (hl : l.length < 4000) : wPopAt (.lst (l.map .int)) [.int r] = some (.int (l[r.toNat]'(by omega)), .lst ((l.eraseIdx r.toNat).map .int)) := by
  have hk : r.toNat < l.length := by omega
  have q : seqIndex? r (l.map D.int).length = some r.toNat := PySem.StrLaws.seqIndex_nonneg h1 (by rw [List.length_map]; exact h2)
  show (if -(2 ^ 62) ≤ r ∧ r < 2 ^ 62 then (seqIndex? r (l.map D.int).length).bind fun k => ((l.map D.int)[k]?).map fun y => (y, D.lst ((l.map D.int).eraseIdx k)) else none) = _
  rw [if_pos (by omega), q]
  simp [hk, eraseIdx_map]
theorem range_ok' {f : M D} {ρ ρ1 : Cells} {j : Int} (h : f ρ = .ok (.int j) ρ1) (h1 : -16777216 ≤ j) (h2 : j ≤ 16777216) : mRange1 f ρ = .ok ((rng j.toNat).map .int) ρ1 := by
  unfold mRange1 M.bind
  rw [h]
  show (if j ≤ 16777216 ∧ -16777216 ≤ j then M.pure (rangeD 0 j.toNat) else M.stuck) _ = _
  rw [if_pos ⟨h2, h1⟩, rng_D]
  rfl
theorem tup3' {f g j : M D} {ρ ρ1 : Cells} {a b d : D} (h1 : f ρ = .ok a ρ) (h2 : g ρ = .ok b ρ) (h3 : j ρ = .ok d ρ1) : mTup [f, g, j] ρ = .ok (.tup [a, b, d]) ρ1 := by
  unfold mTup M.bind
  simp only [seqM, M.bind, h1, h2, h3, Out.andThen, M.pure]
theorem choose2 (a b d x y : Int) : ∃ z a' b' d', (z = x ∨ z = y) ∧ ∀ ρ, (mOp2 sIx (.dat (mLst [(M.pure (.int x)), (M.pure (.int y))])) (.dat (mCallF m_law_draw [(.own 0), (.dat (M.pure (.int 2)))]))) (.own (wellD a b d) :: ρ) = .ok (.int z) (.own (wellD a' b' d') :: ρ) := by
  obtain ⟨r, a', b', d', e, q1, q2⟩ := e_draw a b d (lim := 2) (by omega) (by omega)
  have hr : r = 0 ∨ r = 1 := by omega
  rcases hr with rfl | rfl
  · exact ⟨x, a', b', d', .inl rfl, fun ρ => mOp2_dd (x := .lst [.int x, .int y]) (y := .int 0) rfl (callO2 rfl e) (atI_nat [D.int x, .int y] 0)⟩
  · exact ⟨y, a', b', d', .inr rfl, fun ρ => mOp2_dd (x := .lst [.int x, .int y]) (y := .int 1) rfl (callO2 rfl e) (atI_nat [D.int x, .int y] 1)⟩
theorem fdiv_in {r z : Int} (h : 0 ≤ r) (hz : z = 1 ∨ z = 2 ∨ z = 3) : 0 ≤ r.fdiv z ∧ r.fdiv z ≤ r := by
  rcases hz with rfl | rfl | rfl <;> (rw [Int.fdiv_eq_ediv_of_nonneg _ (by omega)]; omega)
theorem rng_mem' {n v : Int} (h : v ∈ rng n.toNat) (hn : 0 ≤ n) : 0 ≤ v ∧ v < n := by
  obtain ⟨h1, h2⟩ := rng_mem h
  omega
section
variable {mo ma n : Int}
theorem in_body (a b d : Int) (R : List (List Int)) (l m : List Int) (h : l ≠ []) (hl : l.length < 1000) (hm : m.length < 1000) (c5 c8 : Cell) : ∃ a' b' d' k x, l[k]? = some x ∧
    (mExpr (mMethWR wAppend 7 [(mMethWR wPopAt 6 [(mOp2 sFdiv (.dat (mCallF m_law_draw [(.own 0), (.dat (mCall sLen [(.own 6)]))])) (.dat (mOp2 sIx (.dat (mLst [(M.pure (.int 1)), (M.pure (.int 2))])) (.dat (mCallF m_law_draw [(.own 0), (.dat (M.pure (.int 2)))])))))])])) [.own (wellD a b d), .dat (.int mo), .dat (.int ma), .dat (.int n), .own (.lst (List.map rowD (R))), c5, .own (D.lst (List.map D.int l)), .own (D.lst (List.map D.int m)), c8] = .next [.own (wellD a' b' d'), .dat (.int mo), .dat (.int ma), .dat (.int n), .own (.lst (List.map rowD (R))), c5, .own (D.lst (List.map D.int (l.eraseIdx k))), .own (D.lst (List.map D.int (m ++ [x]))), c8] := by
  have hp : 0 < l.length := List.length_pos_iff.mpr h
  obtain ⟨r, a1, b1, d1, e1, q1, q2⟩ := e_draw a b d (lim := (l.length : Int)) (by omega) (by omega)
  obtain ⟨z, a2, b2, d2, hz, e2⟩ := choose2 a1 b1 d1 1 2
  obtain ⟨f1, f2⟩ := fdiv_in (r := r) (z := z) q1 (by omega)
  have hk : (r.fdiv z).toNat < l.length := by omega
  refine ⟨a2, b2, d2, (r.fdiv z).toNat, l[(r.fdiv z).toNat], List.getElem?_eq_getElem hk, ?_⟩
  have g1 : (mCallF m_law_draw [(.own 0), (.dat (mCall sLen [(.own 6)]))]) [.own (wellD a b d), .dat (.int mo), .dat (.int ma), .dat (.int n), .own (.lst (List.map rowD (R))), c5, .own (D.lst (List.map D.int l)), .own (D.lst (List.map D.int m)), c8] = .ok (.int r) [.own (wellD a1 b1 d1), .dat (.int mo), .dat (.int ma), .dat (.int n), .own (.lst (List.map rowD (R))), c5, .own (D.lst (List.map D.int l)), .own (D.lst (List.map D.int m)), c8] := callO2 (a := .int (l.length : Nat)) (by
    show mCall sLen [(.own 6)] _ = _
    have : sLen [(D.lst (List.map D.int l))] = some (.int (l.length : Nat)) := by simp [sLen]
    generalize (D.lst (List.map D.int l)) = dd at this ⊢
    generalize (D.lst (List.map rowD R)) = rr
    simp [mkFn, mSeq, mIfS, mDo, mRet, mRetN, mSkip, mExpr, mAsg, mAnd, mOr, mNot, mAndV, mOrV, mNotV, mB, mIf, mV, mNeg, mCall, mOp2, mTup, mLst, mMeth, mSl, mPart, preL, seqM, M.bind, M.pure, M.lift, M.stuck, Out.andThen, mVar, Opn.pre, Opn.rd, rdM, rdLM, rdL, cellD, initC, initAt, outsOf, outAt, gNm, gTp, gNms, mNew, mFrz, mPar, mFld, mCallF, mCallK, mCallN, appF, rdA, setOuts, ownSlots, ownPos, mSeqI, mEnum, mRange1, itemsOf, this]) e1
  have g2 : sFdiv (.int r) (.int z) = some (.int (r.fdiv z)) := if_pos (by omega)
  have g3 := mOp2_dd (sem := sFdiv) g1 (e2 _) g2
  have g4 := mMethWR1 (sem := wPopAt) (i := 6) (x0 := l.map .int) rfl g3 rfl (popAt_ok l f1 (by omega) (by omega))
  have g5 : wAppend (D.lst (List.map D.int m)) [.int l[(r.fdiv z).toNat]] = some (.non, (D.lst (List.map D.int (m ++ [l[(r.fdiv z).toNat]])))) := by
    have q : (m.map D.int).length < 16777216 := by rw [List.length_map]; omega
    show (if (m.map D.int).length < 16777216 then some (D.non, D.lst (m.map D.int ++ [.int l[(r.fdiv z).toNat]])) else none) = _
    rw [if_pos q, List.map_append]
    rfl
  have g6 := mMethWR1 (sem := wAppend) (i := 7) (x0 := m.map .int) (ρ := [.own (wellD a b d), .dat (.int mo), .dat (.int ma), .dat (.int n), .own (.lst (List.map rowD (R))), c5, .own (D.lst (List.map D.int l)), .own (D.lst (List.map D.int m)), c8]) rfl g4 rfl g5
  exact exprF g6
theorem rev_ok {r : List Int} (h : RowOk n r) : RowOk n r.reverse := by
  refine ⟨fun z => h.1 (by simpa using z), fun v hv => h.2.1 v (by simpa using hv), ?_, by rw [List.length_reverse]; exact h.2.2.2⟩
  exact (List.reverse_perm r).nodup_iff.mpr h.2.2.1
theorem bod (a b d : Int) (n1 : 1 ≤ n) (n2 : n ≤ 30) (R : List (List Int)) (hR : ∀ r ∈ R, RowOk n r) (hl : R.length ≤ 1000) (c5 c6 c7 c8 : Cell) : ∃ a' b' d' R' c6' c7' c8', (mSeq (mNew (mListRg (mVar 3)) 6) (mSeq (mNew (mLst []) 7) (mSeq (mFor (mRange1 (mOp2 sAdd (.dat (M.pure (.int 1))) (.dat (mCallF m_law_draw [(.own 0), (.dat (mVar 3))])))) (gNm 8) (mExpr (mMethWR wAppend 7 [(mMethWR wPopAt 6 [(mOp2 sFdiv (.dat (mCallF m_law_draw [(.own 0), (.dat (mCall sLen [(.own 6)]))])) (.dat (mOp2 sIx (.dat (mLst [(M.pure (.int 1)), (M.pure (.int 2))])) (.dat (mCallF m_law_draw [(.own 0), (.dat (M.pure (.int 2)))])))))])]))) (mSeq (mExpr (mMethWR wAppend 4 [(mCall sTuple [(.own 7)])])) (mIfS (mB (mOp2 sEq (.dat (mCallF m_law_draw [(.own 0), (.dat (M.pure (.int 4)))])) (.dat (M.pure (.int 0))))) (mExpr (mMethWR wAppend 4 [(mCall sTuple [(.dat (mRev sRev (.own 7)))])])) mSkip))))) [.own (wellD a b d), .dat (.int mo), .dat (.int ma), .dat (.int n), .own (.lst (List.map rowD (R))), c5, c6, c7, c8] = .next [.own (wellD a' b' d'), .dat (.int mo), .dat (.int ma), .dat (.int n), .own (.lst (List.map rowD (R'))), c5, c6', c7', c8'] ∧ (∀ r ∈ R', RowOk n r) ∧ R'.length ≤ R.length + 2 := by
  obtain ⟨r0, a1, b1, d1, e1, q1, q2⟩ := e_draw a b d (lim := n) (by omega) (by omega)
  obtain ⟨ρ', e2, a2, b2, d2, l2, m2, c8', hρ, hp2, hm2⟩ := loop_inv (g := gNm 8) (body := (mExpr (mMethWR wAppend 7 [(mMethWR wPopAt 6 [(mOp2 sFdiv (.dat (mCallF m_law_draw [(.own 0), (.dat (mCall sLen [(.own 6)]))])) (.dat (mOp2 sIx (.dat (mLst [(M.pure (.int 1)), (M.pure (.int 2))])) (.dat (mCallF m_law_draw [(.own 0), (.dat (M.pure (.int 2)))])))))])])))
    (fun i ρ => ∃ (a b d : Int) (l m : List Int) (c8 : Cell), ρ = [.own (wellD a b d), .dat (.int mo), .dat (.int ma), .dat (.int n), .own (.lst (List.map rowD (R))), c5, .own (D.lst (List.map D.int l)), .own (D.lst (List.map D.int m)), c8] ∧ (l ++ m).Perm (rng n.toNat) ∧ m.length = i) ((rng (1 + r0).toNat).map .int) 0 [.own (wellD a1 b1 d1), .dat (.int mo), .dat (.int ma), .dat (.int n), .own (.lst (List.map rowD (R))), c5, .own (D.lst (List.map D.int (rng n.toNat))), .own (D.lst (List.map D.int ([] : List Int))), c8] ⟨a1, b1, d1, rng n.toNat, [], c8, rfl, by simp, rfl⟩
    (fun i dd ρ hd ⟨a, b, d, l, m, c8, hρ, hp, hm⟩ => by
      rw [Nat.zero_add] at hm ⊢
      subst hρ
      have hi := (List.getElem?_eq_some_iff.mp hd).1
      rw [List.length_map, rng_len] at hi
      have hlen := hp.length_eq
      rw [List.length_append, rng_len] at hlen
      have hne : l ≠ [] := fun z => by
        subst z
        rw [List.length_nil] at hlen
        omega
      obtain ⟨a', b', d', k, x, hx, e⟩ := in_body (mo := mo) (ma := ma) (n := n) a b d R l m hne (by omega) (by omega) c5 (.dat dd)
      refine ⟨[.own (wellD a b d), .dat (.int mo), .dat (.int ma), .dat (.int n), .own (.lst (List.map rowD (R))), c5, .own (D.lst (List.map D.int l)), .own (D.lst (List.map D.int m)), .dat dd], rfl, _, e, a', b', d', _, _, _, rfl, ?_, by rw [List.length_append, List.length_singleton, hm]⟩
      have p1 : (x :: l.eraseIdx k).Perm l := cons_erase hx
      have p2 : (l.eraseIdx k ++ (m ++ [x])).Perm (x :: l.eraseIdx k ++ m) := by
        rw [← List.append_assoc]
        exact List.perm_append_comm
      exact p2.trans ((p1.append_right m).trans hp))
  subst hρ
  rw [Nat.zero_add, List.length_map, rng_len] at hm2
  have hrow : RowOk n m2 := by
    refine ⟨fun z => ?_, fun v hv => rng_mem' (hp2.mem_iff.mp (List.mem_append_right _ hv)) (by omega), ?_, ?_⟩
    · rw [z, List.length_nil] at hm2
      omega
    · exact (hp2.nodup_iff.mpr (rng_nd _)).sublist (List.sublist_append_right _ _)
    · have := hp2.length_eq
      rw [List.length_append, rng_len] at this
      omega
  have s1 : mNew (mListRg (mVar 3)) 6 [.own (wellD a b d), .dat (.int mo), .dat (.int ma), .dat (.int n), .own (.lst (List.map rowD (R))), c5, c6, c7, c8] = .next [.own (wellD a b d), .dat (.int mo), .dat (.int ma), .dat (.int n), .own (.lst (List.map rowD (R))), c5, .own (D.lst (List.map D.int (rng n.toNat))), c7, c8] := by
    have g1 : mListRg (mVar 3) [.own (wellD a b d), .dat (.int mo), .dat (.int ma), .dat (.int n), .own (.lst (List.map rowD (R))), c5, c6, c7, c8] = .ok (D.lst (List.map D.int (rng n.toNat))) [.own (wellD a b d), .dat (.int mo), .dat (.int ma), .dat (.int n), .own (.lst (List.map rowD (R))), c5, c6, c7, c8] := by
      unfold mListRg M.bind
      show (if -(2 ^ 62) ≤ n ∧ n ≤ 16777216 then M.pure (D.lst (rangeD 0 n.toNat)) else M.stuck) _ = _
      rw [if_pos (by omega), rng_D]
      rfl
    unfold mNew mDo
    rw [g1]
    rfl
  have s3 : mRange1 (mOp2 sAdd (.dat (M.pure (.int 1))) (.dat (mCallF m_law_draw [(.own 0), (.dat (mVar 3))]))) [.own (wellD a b d), .dat (.int mo), .dat (.int ma), .dat (.int n), .own (.lst (List.map rowD (R))), c5, .own (D.lst (List.map D.int (rng n.toNat))), .own (D.lst (List.map D.int ([] : List Int))), c8] = .ok ((rng (1 + r0).toNat).map .int) [.own (wellD a1 b1 d1), .dat (.int mo), .dat (.int ma), .dat (.int n), .own (.lst (List.map rowD (R))), c5, .own (D.lst (List.map D.int (rng n.toNat))), .own (D.lst (List.map D.int ([] : List Int))), c8] := by
    exact range_ok' (mOp2_dd (x := .int 1) (y := .int r0) rfl (callO2 rfl e1) rfl) (by omega) (by omega)
  have s4 : mExpr (mMethWR wAppend 4 [(mCall sTuple [(.own 7)])]) [.own (wellD a2 b2 d2), .dat (.int mo), .dat (.int ma), .dat (.int n), .own (.lst (List.map rowD (R))), c5, .own (D.lst (List.map D.int l2)), .own (D.lst (List.map D.int m2)), c8'] = .next [.own (wellD a2 b2 d2), .dat (.int mo), .dat (.int ma), .dat (.int n), .own (.lst (List.map rowD (R ++ [m2]))), c5, .own (D.lst (List.map D.int l2)), .own (D.lst (List.map D.int m2)), c8'] := by
    rw [app_ok (i := 4) (L := R.map rowD) (e := rowD m2) rfl (by rfl) (by rw [List.length_map]; omega), List.map_append]
    rfl
  obtain ⟨r4, a3, b3, d3, e5, q5, q6⟩ := e_draw a2 b2 d2 (lim := 4) (by omega) (by omega)
  have s5 : mB (mOp2 sEq (.dat (mCallF m_law_draw [(.own 0), (.dat (M.pure (.int 4)))])) (.dat (M.pure (.int 0)))) [.own (wellD a2 b2 d2), .dat (.int mo), .dat (.int ma), .dat (.int n), .own (.lst (List.map rowD (R ++ [m2]))), c5, .own (D.lst (List.map D.int l2)), .own (D.lst (List.map D.int m2)), c8'] = .ok (decide (r4 = 0)) [.own (wellD a3 b3 d3), .dat (.int mo), .dat (.int ma), .dat (.int n), .own (.lst (List.map rowD (R ++ [m2]))), c5, .own (D.lst (List.map D.int l2)), .own (D.lst (List.map D.int m2)), c8'] := mB_ok (mOp2_dd (x := .int r4) (y := .int 0) (callO2 rfl e5) rfl (sEq_int r4 0))
  have hR2 : ∀ r ∈ R ++ [m2], RowOk n r := fun r hr => by
    rcases List.mem_append.mp hr with z | z
    · exact hR r z
    · have z : r = m2 := by simpa using z
      subst z
      exact hrow
  have run : ∀ k, mSeq (mNew (mListRg (mVar 3)) 6) (mSeq (mNew (mLst []) 7) (mSeq (mFor (mRange1 (mOp2 sAdd (.dat (M.pure (.int 1))) (.dat (mCallF m_law_draw [(.own 0), (.dat (mVar 3))])))) (gNm 8) (mExpr (mMethWR wAppend 7 [(mMethWR wPopAt 6 [(mOp2 sFdiv (.dat (mCallF m_law_draw [(.own 0), (.dat (mCall sLen [(.own 6)]))])) (.dat (mOp2 sIx (.dat (mLst [(M.pure (.int 1)), (M.pure (.int 2))])) (.dat (mCallF m_law_draw [(.own 0), (.dat (M.pure (.int 2)))])))))])]))) (mSeq (mExpr (mMethWR wAppend 4 [(mCall sTuple [(.own 7)])])) k))) [.own (wellD a b d), .dat (.int mo), .dat (.int ma), .dat (.int n), .own (.lst (List.map rowD (R))), c5, c6, c7, c8] = k [.own (wellD a2 b2 d2), .dat (.int mo), .dat (.int ma), .dat (.int n), .own (.lst (List.map rowD (R ++ [m2]))), c5, .own (D.lst (List.map D.int l2)), .own (D.lst (List.map D.int m2)), c8'] := fun k => by
    rw [mSeq_next s1]
    rw [mSeq_next (ρ' := [.own (wellD a b d), .dat (.int mo), .dat (.int ma), .dat (.int n), .own (.lst (List.map rowD (R))), c5, .own (D.lst (List.map D.int (rng n.toNat))), .own (D.lst (List.map D.int ([] : List Int))), c8]) (by rfl)]
    rw [mSeq_next (by rw [mFor_next s3]; exact e2)]
    rw [mSeq_next s4]
  by_cases h0 : r4 = 0
  · rw [decide_eq_true h0] at s5
    refine ⟨a3, b3, d3, R ++ [m2] ++ [m2.reverse], .own (D.lst (List.map D.int l2)), .own (D.lst (List.map D.int m2)), c8', ?_, ?_, by simp⟩
    · rw [run, mIfS_t s5]
      have s6 : mCall sTuple [(.dat (mRev sRev (.own 7)))] [.own (wellD a3 b3 d3), .dat (.int mo), .dat (.int ma), .dat (.int n), .own (.lst (List.map rowD (R ++ [m2]))), c5, .own (D.lst (List.map D.int l2)), .own (D.lst (List.map D.int m2)), c8'] = .ok (rowD m2.reverse) [.own (wellD a3 b3 d3), .dat (.int mo), .dat (.int ma), .dat (.int n), .own (.lst (List.map rowD (R ++ [m2]))), c5, .own (D.lst (List.map D.int l2)), .own (D.lst (List.map D.int m2)), c8'] := by
        refine call1 (d := rowD m2.reverse) (a := (D.lst (List.map D.int (m2.reverse)))) ?_ rfl
        show M.lift (sRev (D.lst (List.map D.int m2))) _ = _
        have : sRev (D.lst (List.map D.int m2)) = some (D.lst (List.map D.int (m2.reverse))) := by
          show some (D.lst (List.map D.int m2).reverse) = _
          rw [List.map_reverse]
        rw [this]
        rfl
      rw [app_ok (i := 4) (L := (R ++ [m2]).map rowD) (e := rowD m2.reverse) rfl s6 (by rw [List.length_map, List.length_append, List.length_singleton]; omega), List.map_append (l₁ := R ++ [m2])]
      rfl
    · intro r hr
      rcases List.mem_append.mp hr with z | z
      · exact hR2 r z
      · have z : r = m2.reverse := by simpa using z
        subst z
        exact rev_ok hrow
  · rw [decide_eq_false h0] at s5
    refine ⟨a3, b3, d3, R ++ [m2], .own (D.lst (List.map D.int l2)), .own (D.lst (List.map D.int m2)), c8', ?_, hR2, by simp⟩
    rw [run, mIfS_f s5]
    rfl
end
theorem e_lfarm (a b d : Int) {mo ma : Int} (m1 : 1 ≤ mo) (m2 : mo ≤ 30) (k1 : 0 ≤ ma) (k2 : ma ≤ 60) : ∃ a' b' d' n rows t, m_law_farm [wellD a b d, .int mo, .int ma] = .ret (partsD n rows t) [wellD a' b' d'] ∧ FarmOk n rows ∧ 0 ≤ t ∧ t ≤ n := by
  obtain ⟨r0, a1, b1, d1, e1, q1, q2⟩ := e_draw a b d (lim := mo) (by omega) (by omega)
  obtain ⟨n, hn⟩ : ∃ n, n = 1 + r0 := ⟨_, rfl⟩
  obtain ⟨r1, a2, b2, d2, e2, q3, q4⟩ := e_draw a1 b1 d1 (lim := ma + 1) (by omega) (by omega)
  obtain ⟨z, a3, b3, d3, hz, e3⟩ := choose2 a2 b2 d2 1 3
  obtain ⟨f1, f2⟩ := fdiv_in (r := r1) (z := z) q3 (by omega)
  obtain ⟨cnt, hcnt⟩ : ∃ c, c = ma - r1.fdiv z := ⟨_, rfl⟩
  obtain ⟨ρ', e4, a4, b4, d4, R, c5, c6, c7, c8, hρ, hR, hRl⟩ := loop_inv (g := gNm 5) (body := (mSeq (mNew (mListRg (mVar 3)) 6) (mSeq (mNew (mLst []) 7) (mSeq (mFor (mRange1 (mOp2 sAdd (.dat (M.pure (.int 1))) (.dat (mCallF m_law_draw [(.own 0), (.dat (mVar 3))])))) (gNm 8) (mExpr (mMethWR wAppend 7 [(mMethWR wPopAt 6 [(mOp2 sFdiv (.dat (mCallF m_law_draw [(.own 0), (.dat (mCall sLen [(.own 6)]))])) (.dat (mOp2 sIx (.dat (mLst [(M.pure (.int 1)), (M.pure (.int 2))])) (.dat (mCallF m_law_draw [(.own 0), (.dat (M.pure (.int 2)))])))))])]))) (mSeq (mExpr (mMethWR wAppend 4 [(mCall sTuple [(.own 7)])])) (mIfS (mB (mOp2 sEq (.dat (mCallF m_law_draw [(.own 0), (.dat (M.pure (.int 4)))])) (.dat (M.pure (.int 0))))) (mExpr (mMethWR wAppend 4 [(mCall sTuple [(.dat (mRev sRev (.own 7)))])])) mSkip))))))
    (fun i ρ => ∃ (a b d : Int) (R : List (List Int)) (c5 c6 c7 c8 : Cell), ρ = [.own (wellD a b d), .dat (.int mo), .dat (.int ma), .dat (.int n), .own (.lst (List.map rowD (R))), c5, c6, c7, c8] ∧ (∀ r ∈ R, RowOk n r) ∧ R.length ≤ 2 * i) ((rng cnt.toNat).map .int) 0 [.own (wellD a3 b3 d3), .dat (.int mo), .dat (.int ma), .dat (.int n), .own (.lst (List.map rowD ([]))), .no, .no, .no, .no] ⟨a3, b3, d3, [], .no, .no, .no, .no, rfl, (fun _ h => nomatch h), by simp⟩
    (fun i dd ρ hd ⟨a, b, d, R, c5, c6, c7, c8, hρ, hR, hRl⟩ => by
      rw [Nat.zero_add] at hRl ⊢
      subst hρ
      have hi := (List.getElem?_eq_some_iff.mp hd).1
      rw [List.length_map, rng_len] at hi
      obtain ⟨a', b', d', R', c6', c7', c8', e, h1, h2⟩ := bod (mo := mo) (ma := ma) (n := n) a b d (by omega) (by omega) R hR (by omega) (.dat dd) c6 c7 c8
      exact ⟨[.own (wellD a b d), .dat (.int mo), .dat (.int ma), .dat (.int n), .own (.lst (List.map rowD (R))), .dat dd, c6, c7, c8], rfl, _, e, a', b', d', R', _, c6', c7', c8', rfl, h1, by omega⟩)
  subst hρ
  obtain ⟨r5, a5, b5, d5, e5, q5, q6⟩ := e_draw a4 b4 d4 (lim := n + 1) (by omega) (by omega)
  obtain ⟨r6, a6, b6, d6, e6, q7, q8⟩ := e_draw a5 b5 d5 (lim := 3) (by omega) (by omega)
  have hpick : ∃ t, 0 ≤ t ∧ t ≤ n ∧ sIx (.lst [.int r5, .int (if n < 2 then n else 2), .int n]) (.int r6) = some (.int t) := by
    have hr : r6 = 0 ∨ r6 = 1 ∨ r6 = 2 := by omega
    rcases hr with rfl | rfl | rfl
    · exact ⟨r5, q5, by omega, atI_nat [D.int r5, .int (if n < 2 then n else 2), .int n] 0⟩
    · refine ⟨if n < 2 then n else 2, by split <;> omega, by split <;> omega, atI_nat [D.int r5, .int (if n < 2 then n else 2), .int n] 1⟩
    · exact ⟨n, by omega, by omega, atI_nat [D.int r5, .int (if n < 2 then n else 2), .int n] 2⟩
  obtain ⟨t, t0, t1, ht⟩ := hpick
  refine ⟨a6, b6, d6, n, R.take ma.toNat, t, ?_, ⟨by omega, by omega, by rw [List.length_take]; omega, fun r hr => hR r (List.mem_of_mem_take hr)⟩, t0, t1⟩
  have s1 : mAsg (mOp2 sAdd (.dat (M.pure (.int 1))) (.dat (mCallF m_law_draw [(.own 0), (.dat (mVar 1))]))) (gNm 3) [.own (wellD a b d), .dat (.int mo), .dat (.int ma), .no, .no, .no, .no, .no, .no] = .next [.own (wellD a1 b1 d1), .dat (.int mo), .dat (.int ma), .dat (.int n), .no, .no, .no, .no, .no] := mAsg_ok (mOp2_dd (x := .int 1) (y := .int r0) rfl (callO2 rfl e1) (by rw [hn]; rfl)) rfl
  have s3 : mRange1 (mOp2 sSub (.dat (mVar 2)) (.dat (mOp2 sFdiv (.dat (mCallF m_law_draw [(.own 0), (.dat (mOp2 sAdd (.dat (mVar 2)) (.dat (M.pure (.int 1)))))])) (.dat (mOp2 sIx (.dat (mLst [(M.pure (.int 1)), (M.pure (.int 3))])) (.dat (mCallF m_law_draw [(.own 0), (.dat (M.pure (.int 2)))]))))))) [.own (wellD a1 b1 d1), .dat (.int mo), .dat (.int ma), .dat (.int n), .own (.lst (List.map rowD ([]))), .no, .no, .no, .no] = .ok ((rng cnt.toNat).map .int) [.own (wellD a3 b3 d3), .dat (.int mo), .dat (.int ma), .dat (.int n), .own (.lst (List.map rowD ([]))), .no, .no, .no, .no] := by
    have g2 : sFdiv (.int r1) (.int z) = some (.int (r1.fdiv z)) := if_pos (by omega)
    exact range_ok' (mOp2_dd (x := .int ma) (y := .int (r1.fdiv z)) rfl (mOp2_dd (callO2 (mOp2_dd (x := .int ma) (y := .int 1) rfl rfl rfl) e2) (e3 _) g2) (by rw [hcnt]; rfl)) (by omega) (by omega)
  have s4 : mNew (mSl sCutL (.own 4) none (some (mVar 2))) 4 [.own (wellD a4 b4 d4), .dat (.int mo), .dat (.int ma), .dat (.int n), .own (.lst (List.map rowD (R))), c5, c6, c7, c8] = .next [.own (wellD a4 b4 d4), .dat (.int mo), .dat (.int ma), .dat (.int n), .own (.lst (List.map rowD (R.take ma.toNat))), c5, c6, c7, c8] := by
    have g1 : sCutL (.lst (R.map rowD)) none (some ma) = some (.lst ((R.take ma.toNat).map rowD)) := by
      show some (D.lst (cutD _ none (some ma))) = _
      rw [cut_take' _ _ k1, List.map_take]
    have g2 : mSl sCutL (.own 4) none (some (mVar 2)) [.own (wellD a4 b4 d4), .dat (.int mo), .dat (.int ma), .dat (.int n), .own (.lst (List.map rowD (R))), c5, c6, c7, c8] = .ok (.lst ((R.take ma.toNat).map rowD)) [.own (wellD a4 b4 d4), .dat (.int mo), .dat (.int ma), .dat (.int n), .own (.lst (List.map rowD (R))), c5, c6, c7, c8] := by
      generalize (D.lst ((R.take ma.toNat).map rowD)) = dd2 at g1 ⊢
      generalize (D.lst (R.map rowD)) = dd at g1 ⊢
      simp [mkFn, mSeq, mIfS, mDo, mRet, mRetN, mSkip, mExpr, mAsg, mAnd, mOr, mNot, mAndV, mOrV, mNotV, mB, mIf, mV, mNeg, mCall, mOp2, mTup, mLst, mMeth, mSl, mPart, preL, seqM, M.bind, M.pure, M.lift, M.stuck, Out.andThen, mVar, Opn.pre, Opn.rd, rdM, rdLM, rdL, cellD, initC, initAt, outsOf, outAt, gNm, gTp, gNms, mNew, mFrz, mPar, mFld, mCallF, mCallK, mCallN, appF, rdA, setOuts, ownSlots, ownPos, mSeqI, mEnum, mRange1, itemsOf, g1]
    unfold mNew mDo
    rw [g2]
    rfl
  have s5 : mOp2 sIx (.dat (mLst [(mCallF m_law_draw [(.own 0), (.dat (mOp2 sAdd (.dat (mVar 3)) (.dat (M.pure (.int 1)))))]), (mCall sMin [(.dat (M.pure (.int 2))), (.dat (mVar 3))]), (mVar 3)])) (.dat (mCallF m_law_draw [(.own 0), (.dat (M.pure (.int 3)))])) [.own (wellD a4 b4 d4), .dat (.int mo), .dat (.int ma), .dat (.int n), .dat (.lst ((R.take ma.toNat).map rowD)), c5, c6, c7, c8] = .ok (.int t) [.own (wellD a6 b6 d6), .dat (.int mo), .dat (.int ma), .dat (.int n), .dat (.lst ((R.take ma.toNat).map rowD)), c5, c6, c7, c8] := by
    refine mOp2_dd (x := .lst [.int r5, .int (if n < 2 then n else 2), .int n]) (y := .int r6) ?_ (callO2 rfl e6) ht
    have g1 : (mCallF m_law_draw [(.own 0), (.dat (mOp2 sAdd (.dat (mVar 3)) (.dat (M.pure (.int 1)))))]) [.own (wellD a4 b4 d4), .dat (.int mo), .dat (.int ma), .dat (.int n), .dat (.lst ((R.take ma.toNat).map rowD)), c5, c6, c7, c8] = .ok (.int r5) [.own (wellD a5 b5 d5), .dat (.int mo), .dat (.int ma), .dat (.int n), .dat (.lst ((R.take ma.toNat).map rowD)), c5, c6, c7, c8] := callO2 (mOp2_dd (x := .int n) (y := .int 1) rfl rfl rfl) e5
    have g2 : mCall sMin [(.dat (M.pure (.int 2))), (.dat (mVar 3))] [.own (wellD a5 b5 d5), .dat (.int mo), .dat (.int ma), .dat (.int n), .dat (.lst ((R.take ma.toNat).map rowD)), c5, c6, c7, c8] = .ok (.int (if n < 2 then n else 2)) [.own (wellD a5 b5 d5), .dat (.int mo), .dat (.int ma), .dat (.int n), .dat (.lst ((R.take ma.toNat).map rowD)), c5, c6, c7, c8] := call1_ok (a := .int 2) (b := .int n) rfl rfl rfl
    unfold mLst M.bind
    simp only [seqM, M.bind, g1, g2, Out.andThen, M.pure]
    rfl
  have fin : b_law_farm [.own (wellD a b d), .dat (.int mo), .dat (.int ma), .no, .no, .no, .no, .no, .no] = .ret (partsD n (R.take ma.toNat) t) [.own (wellD a6 b6 d6), .dat (.int mo), .dat (.int ma), .dat (.int n), .dat (.lst ((R.take ma.toNat).map rowD)), c5, c6, c7, c8] := by
    unfold b_law_farm
    rw [mSeq_next s1]
    rw [mSeq_next (ρ' := [.own (wellD a1 b1 d1), .dat (.int mo), .dat (.int ma), .dat (.int n), .own (.lst (List.map rowD ([]))), .no, .no, .no, .no]) (by rfl)]
    rw [mSeq_next (by rw [mFor_next s3]; exact e4)]
    rw [mSeq_next s4]
    show mRet (mTup [(mVar 3), (mVar 4), mOp2 sIx (.dat (mLst [(mCallF m_law_draw [(.own 0), (.dat (mOp2 sAdd (.dat (mVar 3)) (.dat (M.pure (.int 1)))))]), (mCall sMin [(.dat (M.pure (.int 2))), (.dat (mVar 3))]), (mVar 3)])) (.dat (mCallF m_law_draw [(.own 0), (.dat (M.pure (.int 3)))]))]) [.own (wellD a4 b4 d4), .dat (.int mo), .dat (.int ma), .dat (.int n), .dat (.lst ((R.take ma.toNat).map rowD)), c5, c6, c7, c8] = _
    unfold mRet mDo
    rw [tup3' (f := mVar 3) (g := mVar 4) rfl rfl s5]
    rfl
  have h' : b_law_farm (initC 9 [0] [wellD a b d, .int mo, .int ma]) = .ret (partsD n (R.take ma.toNat) t) [.own (wellD a6 b6 d6), .dat (.int mo), .dat (.int ma), .dat (.int n), .dat (.lst ((R.take ma.toNat).map rowD)), c5, c6, c7, c8] := by
    rw [show initC 9 [0] [wellD a b d, .int mo, .int ma] = [.own (wellD a b d), .dat (.int mo), .dat (.int ma), .no, .no, .no, .no, .no, .no] from rfl]
    exact fin
  unfold m_law_farm
  rw [mkFn_ret h']
  rfl
end Fx
set_option Elab.async false
set_option linter.all false
set_option maxRecDepth 100000
set_option maxHeartbeats 1000000
namespace Fx
open PySem L2
/-! ### states (no mirror in sight) -/
structure SInv (t : Int) (rows : List (List Int)) (down : List Int) (sp : List (Option Int)) : Prop where
  len : sp.length = rows.length
  ok : PlOk rows sp
  dl : (down.length : Int) ≤ t
  up : ∀ (s : Nat) (v : Int), sp[s]? = some (some v) → v ∉ down
  far : ∀ (s : Nat) (v : Int) (r : List Int), sp[s]? = some (some v) → rows[s]? = some r → (r.idxOf v : Int) ≤ t
  ord : ∃ os : List Int, (∀ s, s ∈ os ↔ Pres sp s) ∧ os.Pairwise fun o s => ¬ Ps rows sp s o
/-- the first server that is up -/
def firstUp (rows : List (List Int)) (down : List Int) (s : Int) : Option Int := ((rowAt rows s).filter fun h => !decide (h ∈ down)).head?
theorem first_spec (down : List Int) : ∀ {r : List Int} {v : Int}, (r.filter fun h => !decide (h ∈ down)).head? = some v → v ∈ r ∧ v ∉ down ∧ ∀ x ∈ r.take (r.idxOf v), x ∈ down
  | [], v, h => by simp at h
  | a :: r, v, h => by
    rw [List.filter_cons] at h
    by_cases ha : a ∈ down
    · rw [if_neg (by simpa using ha)] at h
      obtain ⟨h1, h2, h3⟩ := first_spec down h
      have e : a ≠ v := fun z => h2 (z ▸ ha)
      have e2 : (a == v) = false := by simpa using e
      refine ⟨List.mem_cons_of_mem _ h1, h2, fun x hx => ?_⟩
      rw [List.idxOf_cons, e2] at hx
      simp only [cond_false, List.take_succ_cons] at hx
      rcases List.mem_cons.mp hx with z | z
      · rw [z]; exact ha
      · exact h3 x z
    · rw [if_pos (by simpa using ha)] at h
      have e : a = v := by simpa using h
      subst e
      refine ⟨List.mem_cons_self, ha, fun x hx => ?_⟩
      simp at hx
section
variable {t : Int} {rows : List (List Int)} {down : List Int} {sp : List (Option Int)}
theorem pl_at {i : Nat} {v : Int} (h : sp[i]? = some (some v)) : plAt sp (i : Int) = v := by
  unfold plAt
  rw [Int.toNat_natCast, List.getD_eq_getElem?_getD, h]
  rfl
theorem row_at {i : Nat} {r : List Int} (h : rows[i]? = some r) : rowAt rows (i : Int) = r := by
  unfold rowAt
  rw [Int.toNat_natCast, List.getD_eq_getElem?_getD, h]
  rfl
theorem pl_set_ne {sp : List (Option Int)} {i : Nat} {o : Option Int} {s : Int} (h : s.toNat ≠ i) : plAt (sp.set i o) s = plAt sp s := by
  unfold plAt
  rw [List.getD_eq_getElem?_getD, List.getD_eq_getElem?_getD, List.getElem?_set_ne (Ne.symm h)]
theorem ps_set_ne {sp : List (Option Int)} {i : Nat} {o : Option Int} {s x : Int} (h : s.toNat ≠ i) (h2 : x.toNat ≠ i) : Ps rows (sp.set i o) s x ↔ Ps rows sp s x := by
  unfold Ps passI
  rw [pl_set_ne h, pl_set_ne h2]
theorem set_none {sp : List (Option Int)} {i : Nat} (h : sp[i]? = some none) : sp.set i none = sp := by
  apply List.ext_getElem?
  intro j
  by_cases e : i = j
  · subst e
    rw [List.getElem?_set_self (List.getElem?_eq_some_iff.mp h).1, h]
  · rw [List.getElem?_set_ne e]
theorem get_set_some {sp : List (Option Int)} {i s : Nat} {o : Option Int} {v : Int} (h : (sp.set i o)[s]? = some (some v)) : (s = i ∧ o = some v) ∨ (s ≠ i ∧ sp[s]? = some (some v)) := by
  by_cases e : i = s
  · subst e
    have hl := (List.getElem?_eq_some_iff.mp h).1
    rw [List.length_set] at hl
    rw [List.getElem?_set_self hl] at h
    exact .inl ⟨rfl, Option.some.inj h⟩
  · rw [List.getElem?_set_ne e] at h
    exact .inr ⟨fun z => e z.symm, h⟩
theorem SInv.clear (h : SInv t rows down sp) (i : Nat) : SInv t rows down (sp.set i none) := by
  obtain ⟨os, o1, o2⟩ := h.ord
  refine ⟨by rw [List.length_set]; exact h.len, fun s v hs => ?_, h.dl, fun s v hs => ?_, fun s v r hs => ?_, os.filter (fun s => decide (s.toNat ≠ i)), fun s => ?_, ?_⟩
  · rcases get_set_some hs with ⟨_, z⟩ | ⟨_, z⟩
    · cases z
    · exact h.ok s v z
  · rcases get_set_some hs with ⟨_, z⟩ | ⟨_, z⟩
    · cases z
    · exact h.up s v z
  · rcases get_set_some hs with ⟨_, z⟩ | ⟨_, z⟩
    · cases z
    · exact h.far s v r z
  · rw [List.mem_filter, o1, decide_eq_true_iff]
    constructor
    · rintro ⟨⟨j, x, rfl, hx⟩, hj⟩
      rw [Int.toNat_natCast] at hj
      exact ⟨j, x, rfl, by rw [List.getElem?_set_ne (Ne.symm hj)]; exact hx⟩
    · rintro ⟨j, x, rfl, hx⟩
      rcases get_set_some hx with ⟨_, z⟩ | ⟨z1, z2⟩
      · cases z
      · exact ⟨⟨j, x, rfl, z2⟩, by rw [Int.toNat_natCast]; exact z1⟩
  · refine List.Pairwise.imp_of_mem (fun {a b} ha hb hab => ?_) (o2.filter _)
    have ha := of_decide_eq_true (List.mem_filter.mp ha).2
    have hb := of_decide_eq_true (List.mem_filter.mp hb).2
    rw [ps_set_ne hb ha]
    exact hab
theorem SInv.move (h : SInv t rows down sp) (hrow : ∀ r ∈ rows, r.Nodup) {i : Nat} (hi : sp[i]? = some none) : SInv t rows down (sp.set i (firstUp rows down (i : Int))) := by
  cases hf : firstUp rows down (i : Int) with
  | none => rw [set_none hi]; exact h
  | some v =>
    have hl := (List.getElem?_eq_some_iff.mp hi).1
    have hlr : i < rows.length := by rw [← h.len]; exact hl
    have hr : rows[i]? = some rows[i] := List.getElem?_eq_getElem hlr
    unfold firstUp at hf
    rw [row_at hr] at hf
    obtain ⟨f1, f2, f3⟩ := first_spec down hf
    have hnd := hrow _ (List.mem_of_getElem? hr)
    have hfar : ((rows[i]).idxOf v : Int) ≤ t := by
      have h1 := pigeon ((rows[i]).take ((rows[i]).idxOf v)) down (hnd.sublist (List.take_sublist _ _)) f3
      have h2 := List.idxOf_lt_length_of_mem f1
      rw [List.length_take] at h1
      have := h.dl
      omega
    obtain ⟨os, o1, o2⟩ := h.ord
    have hset : (sp.set i (some v))[i]? = some (some v) := List.getElem?_set_self hl
    have hos : ∀ s ∈ os, s.toNat ≠ i := fun s hs => by
      obtain ⟨j, x, rfl, hx⟩ := (o1 s).mp hs
      rw [Int.toNat_natCast]
      intro z
      subst z
      rw [hi] at hx
      cases hx
    refine ⟨by rw [List.length_set]; exact h.len, fun s x hs => ?_, h.dl, fun s x hs => ?_, fun s x r hs hr2 => ?_, os ++ [(i : Int)], fun s => ?_, ?_⟩
    · rcases get_set_some hs with ⟨z1, z2⟩ | ⟨_, z⟩
      · cases z2
        subst z1
        exact ⟨_, hr, f1⟩
      · exact h.ok s x z
    · rcases get_set_some hs with ⟨z1, z2⟩ | ⟨_, z⟩
      · cases z2
        exact f2
      · exact h.up s x z
    · rcases get_set_some hs with ⟨z1, z2⟩ | ⟨_, z⟩
      · cases z2
        subst z1
        rw [hr] at hr2
        cases hr2
        exact hfar
      · exact h.far s x r z hr2
    · rw [List.mem_append, o1]
      constructor
      · rintro (⟨j, x, rfl, hx⟩ | z)
        · refine ⟨j, x, rfl, ?_⟩
          have hj : i ≠ j := fun z => by
            subst z
            rw [hi] at hx
            cases hx
          rw [List.getElem?_set_ne hj]
          exact hx
        · have z : s = (i : Int) := by simpa using z
          subst z
          exact ⟨i, v, rfl, hset⟩
      · rintro ⟨j, x, rfl, hx⟩
        rcases get_set_some hx with ⟨z1, z2⟩ | ⟨_, z⟩
        · subst z1
          exact .inr (by simp)
        · exact .inl ⟨j, x, rfl, z⟩
    · rw [List.pairwise_append]
      refine ⟨List.Pairwise.imp_of_mem (fun {a b} ha hb hab => by rw [ps_set_ne (hos b hb) (hos a ha)]; exact hab) o2, by simp, fun o ho s hs => ?_⟩
      have hs : s = (i : Int) := by simpa using hs
      subst hs
      obtain ⟨j, x, rfl, hx⟩ := (o1 o).mp ho
      have hj := hos _ ho
      intro hps
      unfold Ps passI at hps
      rw [pl_set_ne hj, pl_at hset, row_at hr, pl_at hx] at hps
      exact h.up j x hx (f3 x hps)
theorem SInv.sub (h : SInv t rows down sp) {down' : List Int} (hs : ∀ x ∈ down', x ∈ down) (hl : down'.length ≤ down.length) : SInv t rows down' sp :=
  ⟨h.len, h.ok, by have := h.dl; omega, fun s v hv z => h.up s v hv (hs v z), h.far, h.ord⟩
/-- s moves, for each s of some -/
def moveAll (rows : List (List Int)) (down : List Int) : List Int → List (Option Int) → List (Option Int)
  | [], sp => sp
  | s :: M, sp => moveAll rows down M (sp.set s.toNat (firstUp rows down s))
theorem SInv.moves (hrow : ∀ r ∈ rows, r.Nodup) : ∀ (M : List Int) (sp : List (Option Int)), SInv t rows down sp → M.Nodup → (∀ s ∈ M, ∃ i : Nat, s = (i : Int) ∧ sp[i]? = some none) → SInv t rows down (moveAll rows down M sp)
  | [], sp, h, _, _ => h
  | s :: M, sp, h, hn, hM => by
    obtain ⟨n1, n2⟩ := List.nodup_cons.mp hn
    obtain ⟨i, rfl, hi⟩ := hM s List.mem_cons_self
    refine SInv.moves hrow M _ (by rw [Int.toNat_natCast]; exact h.move hrow hi) n2 fun x hx => ?_
    obtain ⟨j, rfl, hj⟩ := hM x (List.mem_cons_of_mem _ hx)
    refine ⟨j, rfl, ?_⟩
    rw [Int.toNat_natCast, List.getElem?_set_ne fun z => n1 (by rw [z]; exact hx)]
    exact hj
/-- sessions taken away -/
def clearAll : List Int → List (Option Int) → List (Option Int)
  | [], sp => sp
  | s :: M, sp => clearAll M (sp.set s.toNat none)
theorem clear_len : ∀ (M : List Int) (sp : List (Option Int)), (clearAll M sp).length = sp.length
  | [], _ => rfl
  | s :: M, sp => by
    unfold clearAll
    rw [clear_len M, List.length_set]
theorem clear_get : ∀ (M : List Int) (sp : List (Option Int)) (i : Nat), (∀ s ∈ M, 0 ≤ s) → i < sp.length → (clearAll M sp)[i]? = if (i : Int) ∈ M then some none else sp[i]?
  | [], _, _, _, _ => by simp [clearAll]
  | s :: M, sp, i, h, hi => by
    unfold clearAll
    have h0 := h s List.mem_cons_self
    rw [clear_get M _ i (fun x hx => h x (List.mem_cons_of_mem _ hx)) (by rw [List.length_set]; exact hi)]
    by_cases e : s.toNat = i
    · have es : s = (i : Int) := by omega
      rw [if_pos (show (i : Int) ∈ s :: M by rw [es]; exact List.mem_cons_self)]
      split
      · rfl
      · rw [e, List.getElem?_set_self hi]
    · have es : ¬ s = (i : Int) := by omega
      rw [List.getElem?_set_ne e]
      by_cases hm : (i : Int) ∈ M
      · rw [if_pos hm, if_pos (List.mem_cons_of_mem _ hm)]
      · rw [if_neg hm, if_neg]
        intro z
        rcases List.mem_cons.mp z with z | z
        · exact es z.symm
        · exact hm z
theorem move_len : ∀ (M : List Int) (sp : List (Option Int)), (moveAll rows down M sp).length = sp.length
  | [], _ => rfl
  | s :: M, sp => by
    unfold moveAll
    rw [move_len M, List.length_set]
theorem move_get : ∀ (M : List Int) (sp : List (Option Int)) (i : Nat), (∀ s ∈ M, 0 ≤ s) → i < sp.length → (moveAll rows down M sp)[i]? = if (i : Int) ∈ M then some (firstUp rows down (i : Int)) else sp[i]?
  | [], _, _, _, _ => by simp [moveAll]
  | s :: M, sp, i, h, hi => by
    unfold moveAll
    have h0 := h s List.mem_cons_self
    rw [move_get M _ i (fun x hx => h x (List.mem_cons_of_mem _ hx)) (by rw [List.length_set]; exact hi)]
    by_cases e : s.toNat = i
    · have es : s = (i : Int) := by omega
      rw [if_pos (show (i : Int) ∈ s :: M by rw [es]; exact List.mem_cons_self)]
      split
      · rfl
      · rw [e, List.getElem?_set_self hi, es]
    · have es : ¬ s = (i : Int) := by omega
      rw [List.getElem?_set_ne e]
      by_cases hm : (i : Int) ∈ M
      · rw [if_pos hm, if_pos (List.mem_cons_of_mem _ hm)]
      · rw [if_neg hm, if_neg]
        intro z
        rcases List.mem_cons.mp z with z | z
        · exact es z.symm
        · exact hm z
theorem move_clear {M : List Int} (h : ∀ s ∈ M, 0 ≤ s) (sp : List (Option Int)) : moveAll rows down M (clearAll M sp) = moveAll rows down M sp := by
  apply List.ext_getElem?
  intro i
  by_cases hi : i < sp.length
  · rw [move_get M _ i h (by rw [clear_len]; exact hi), move_get M _ i h hi, clear_get M _ i h hi]
    split <;> rfl
  · rw [List.getElem?_eq_none (by rw [move_len, clear_len]; omega), List.getElem?_eq_none (by rw [move_len]; omega)]
theorem SInv.clears : ∀ (M : List Int) (sp : List (Option Int)), SInv t rows down sp → SInv t rows down (clearAll M sp)
  | [], _, h => h
  | s :: M, sp, h => SInv.clears M _ (h.clear s.toNat)
/-- the sessions at a server -/
def atH (h : Int) : Nat → List (Option Int) → List Int
  | _, [] => []
  | n, o :: sp => if o = some h then (n : Int) :: atH h (n + 1) sp else atH h (n + 1) sp
theorem mem_atH {h v : Int} : ∀ {n : Nat} {sp : List (Option Int)}, v ∈ atH h n sp ↔ ∃ i : Nat, v = ((n + i : Nat) : Int) ∧ sp[i]? = some (some h)
  | n, [] => by simp [atH]
  | n, o :: sp => by
    unfold atH
    split
    · rename_i e
      subst e
      rw [List.mem_cons, mem_atH]
      constructor
      · rintro (z | ⟨i, h1, h2⟩)
        · exact ⟨0, by simpa using z, by simp⟩
        · exact ⟨i + 1, by omega, by simpa using h2⟩
      · rintro ⟨i, h1, h2⟩
        cases i with
        | zero => exact .inl (by simpa using h1)
        | succ i => exact .inr ⟨i, by omega, by simpa using h2⟩
    · rename_i e
      rw [mem_atH]
      constructor
      · rintro ⟨i, h1, h2⟩
        exact ⟨i + 1, by omega, by simpa using h2⟩
      · rintro ⟨i, h1, h2⟩
        cases i with
        | zero => exact absurd (by simpa using h2) e
        | succ i => exact ⟨i, by omega, by simpa using h2⟩
theorem asc_atH (h : Int) : ∀ (n : Nat) (sp : List (Option Int)), (atH h n sp).Pairwise (· < ·)
  | n, [] => List.Pairwise.nil
  | n, o :: sp => by
    unfold atH
    split
    · refine List.pairwise_cons.mpr ⟨fun v hv => ?_, asc_atH h (n + 1) sp⟩
      obtain ⟨i, h1, _⟩ := mem_atH.mp hv
      omega
    · exact asc_atH h (n + 1) sp
theorem SInv.goesDown (h : SInv t rows down sp) (hrow : ∀ r ∈ rows, r.Nodup) {x : Int} {down' : List Int} (hp : down'.Perm (down ++ [x])) (hl : (down.length : Int) < t) : SInv t rows down' (moveAll rows down' (atH x 0 sp) sp) := by
  have h0 : ∀ s ∈ atH x 0 sp, 0 ≤ s := fun s hs => by
    obtain ⟨i, h1, _⟩ := mem_atH.mp hs
    omega
  rw [← move_clear h0]
  have hc := SInv.clears (atH x 0 sp) sp h
  have hsub : ∀ (i : Nat) (v : Int), (clearAll (atH x 0 sp) sp)[i]? = some (some v) → sp[i]? = some (some v) ∧ v ≠ x := fun i v hv => by
    have hi := (List.getElem?_eq_some_iff.mp hv).1
    rw [clear_len] at hi
    rw [clear_get _ _ i h0 hi] at hv
    split at hv
    · cases hv
    · rename_i hn
      refine ⟨hv, fun z => hn (mem_atH.mpr ⟨i, by rw [Nat.zero_add], ?_⟩)⟩
      rw [← z]
      exact hv
  have hd : SInv t rows down' (clearAll (atH x 0 sp) sp) := by
    refine ⟨hc.len, hc.ok, ?_, fun s v hv z => ?_, hc.far, hc.ord⟩
    · have := hp.length_eq
      rw [List.length_append, List.length_singleton] at this
      omega
    · obtain ⟨h1, h2⟩ := hsub s v hv
      rcases List.mem_append.mp (hp.mem_iff.mp z) with z | z
      · exact h.up s v h1 z
      · exact h2 (by simpa using z)
  refine SInv.moves hrow _ _ hd ((asc_atH x 0 sp).imp fun z => by omega) fun s hs => ?_
  obtain ⟨i, h1, h2⟩ := mem_atH.mp hs
  rw [Nat.zero_add] at h1
  refine ⟨i, h1, ?_⟩
  rw [clear_get _ _ i h0 (List.getElem?_eq_some_iff.mp h2).1, if_pos (by rw [← h1]; exact hs)]
/-! ### a placement that arises has an order -/
theorem not_self (s : Int) : ¬ Ps rows sp s s := by
  unfold Ps passI
  intro h
  generalize rowAt rows s = r at h
  generalize plAt sp s = v at h
  have h2 : ∀ r : List Int, v ∉ r.take (r.idxOf v) := fun r => by
    induction r with
    | nil => simp
    | cons a r ih =>
      rw [List.idxOf_cons]
      by_cases e : a = v
      · subst e
        simp
      · have e2 : (a == v) = false := by simpa using e
        rw [e2]
        simp only [cond_false, List.take_succ_cons]
        intro z
        rcases List.mem_cons.mp z with z | z
        · exact e z.symm
        · exact ih z
  exact h2 r h
theorem core_of : ∀ {os : List Int}, (os.Pairwise fun o s => ¬ Ps rows sp s o) → NoCore (Ps rows sp) os
  | [], _ => fun S hS _ => by
    cases S with
    | nil => rfl
    | cons s S => exact nomatch hS s List.mem_cons_self
  | a :: os, h => fun S hS hc => by
    obtain ⟨h1, h2⟩ := List.pairwise_cons.mp h
    have ih := core_of h2
    have hS' : S.filter (fun s => decide (s ≠ a)) = [] := by
      refine ih _ (fun s hs => ?_) fun s hs => ?_
      · obtain ⟨q1, q2⟩ := List.mem_filter.mp hs
        have q2 : s ≠ a := of_decide_eq_true q2
        rcases List.mem_cons.mp (hS s q1) with z | z
        · exact absurd z q2
        · exact z
      · obtain ⟨q1, q2⟩ := List.mem_filter.mp hs
        have q2 : s ≠ a := of_decide_eq_true q2
        have hso : s ∈ os := by
          rcases List.mem_cons.mp (hS s q1) with z | z
          · exact absurd z q2
          · exact z
        obtain ⟨o, ho, hr⟩ := hc s q1
        refine ⟨o, List.mem_filter.mpr ⟨ho, decide_eq_true fun z => ?_⟩, hr⟩
        subst z
        exact h1 s hso hr
    cases S with
    | nil => rfl
    | cons s S =>
      have hall : ∀ x ∈ s :: S, x = a := fun x hx => by
        rcases Classical.em (x = a) with z | z
        · exact z
        · have : x ∈ (s :: S).filter (fun s => decide (s ≠ a)) := List.mem_filter.mpr ⟨hx, by simpa using z⟩
          rw [hS'] at this
          exact nomatch this
      obtain ⟨o, ho, hr⟩ := hc s List.mem_cons_self
      rw [hall s List.mem_cons_self, hall o ho] at hr
      exact absurd hr (not_self a)
theorem SInv.arises (h : SInv t rows down sp) {r : D} (hr : OrdRes t rows sp [] r) : ∃ os : List Int, r = .tup [.str "order", .tup (os.map .int)] := by
  have hM : ∀ s, s ∈ mvF [] 0 sp → Pres sp s := fun s hs => mv_pres hs
  have hheld : (mvF [] 0 sp).find? (heldBy rows sp []) = none := List.find?_eq_none.mpr fun s _ => by simp [heldBy]
  have hfar : (mvF [] 0 sp).find? (farQ rows sp t) = none := List.find?_eq_none.mpr fun s hs => by
    obtain ⟨i, x, r, rfl, h2, h3, h4, h5, h6⟩ := (hM s hs).at h.ok
    have := h.far i x r h2 h3
    unfold farQ idxI
    rw [h5, h6]
    simp
    omega
  obtain ⟨os, o1, o2⟩ := h.ord
  have hN : NoCore (Ps rows sp) (mvF [] 0 sp) := fun S hS hc => core_of o2 S (fun s hs => (o1 s).mpr (hM s (hS s hs))) hc
  cases hr with
  | far s h1 => rw [hfar] at h1; cases h1
  | held s o h1 h2 h3 => rw [hheld] at h2; cases h2
  | order os h1 h2 h3 h4 => exact ⟨os, rfl⟩
  | ring q h1 h2 h3 h4 => exact absurd hN h3
end
end Fx
set_option Elab.async false
set_option linter.all false
set_option maxRecDepth 100000
set_option maxHeartbeats 1000000
namespace Fx
open PySem L2
def stD (down : List Int) (sp : List (Option Int)) : D := .tup [.tup (down.map .int), plcD sp]
theorem so_end : PyData.strOk "end" = true := by
  unfold PyData.strOk
  rw [← Array.all_toList]
  decide
theorem so_begin : PyData.strOk "begin" = true := by
  unfold PyData.strOk
  rw [← Array.all_toList]
  decide
theorem so_up : PyData.strOk "up" = true := by
  unfold PyData.strOk
  rw [← Array.all_toList]
  decide
theorem so_down : PyData.strOk "down" = true := by
  unfold PyData.strOk
  rw [← Array.all_toList]
  decide
theorem setIx_ok {i : Nat} {fj fe : M D} {ρ : Cells} {d : D} {ds : List D} {k : Int} (h1 : fe ρ = .ok d ρ) (h2 : ρ[i]? = some (.own (.lst ds))) (h3 : fj ρ = .ok (.int k) ρ) (k0 : 0 ≤ k) (k1 : k < ds.length) : mSetIx i fj fe ρ = .next (ρ.set i (.own (.lst (ds.set k.toNat d)))) := by
  have h4 : ixN ds.length k = some k.toNat := by
    unfold ixN
    rw [if_pos k0, if_pos k1]
  unfold mSetIx mDo
  simp only [h1, ownAt, h2, h3, h4]
theorem w_no {w u : Str} (hw : PyData.strOk w = true) (hu : PyData.strOk u = true) (hn : w ≠ u) {X : MS} {ρ : Cells} (h : mVar 3 ρ = .ok (.str w) ρ) : mIfS (mB (mOp2 sEq (.dat (mVar 3)) (.dat (M.pure (.str u))))) X mSkip ρ = .next ρ := by
  have q := sEq_str hw hu
  rw [decide_eq_false hn] at q
  rw [mIfS_f (mB_ok (mOp2_dd h (show M.pure (D.str u) ρ = .ok (.str u) ρ from rfl) q))]
  rfl
theorem w_yes {w : Str} (hw : PyData.strOk w = true) {X : MS} {ρ : Cells} (h : mVar 3 ρ = .ok (.str w) ρ) : mIfS (mB (mOp2 sEq (.dat (mVar 3)) (.dat (M.pure (.str w))))) X mSkip ρ = X ρ := by
  have q := sEq_str hw hw
  rw [decide_eq_true rfl] at q
  rw [mIfS_t (mB_ok (mOp2_dd h (show M.pure (D.str w) ρ = .ok (.str w) ρ from rfl) q))]
theorem sEq_non_int (h : Int) : sEq .non (.int h) = some (.bl false) := by rfl
def atP (h : Int) : D → Bool
  | .tup [.int _, .int v] => decide (v = h)
  | _ => false
theorem atH_is (h : Int) : ∀ (n : Nat) (p : List (Option Int)), ((enumD n (p.map optD)).filter (atP h)).map mvf = (atH h n p).map .int
  | n, [] => rfl
  | n, none :: p => by
    rw [List.map_cons]
    simp only [enumD, atH, List.filter_cons]
    rw [if_neg (by simp [atP, optD]), if_neg (by simp)]
    exact atH_is h (n + 1) p
  | n, some v :: p => by
    rw [List.map_cons]
    simp only [enumD, atH, List.filter_cons]
    by_cases e : v = h
    · rw [if_pos (by simp [atP, optD, e]), if_pos (by rw [e]), List.map_cons, List.map_cons, atH_is h (n + 1) p]
      rfl
    · rw [if_neg (by simp [atP, optD, e]), if_neg (by simp [e])]
      exact atH_is h (n + 1) p
theorem flatAll_self : ∀ l : List Int, flatAll (l.map D.int) (l.map D.int) = true
  | [] => rfl
  | a :: l => by
    rw [List.map_cons]
    unfold flatAll
    rw [flatAll_self l]
    simp [flatOne]
section
variable {n t : Int} {rows : List (List Int)} {S E : D} {w : Str} {h : Int}
theorem mv_one {down : List Int} {sp : List (Option Int)} {mv : List Int} {s : Int} (s0 : 0 ≤ s) (s1 : s < rows.length) (hl : sp.length = rows.length) (hrow : ∀ r ∈ rows, RowOk n r) (b : Cell) :
    ∃ b', (mSeq (mAsg (mLc (mSeqI (mOp2 sIx (.dat (mVar 0)) (.dat (mVar 8)))) (gNm 9) (mB (mOp2 sNin (.dat (mVar 9)) (.own 5))) (mVar 9) [9]) (gNm 10)) (mSetIx 6 (mVar 8) (mOp2 sIx (.dat (mOp2 sAdd (.dat (mVar 10)) (.dat (mLst [(M.pure .non)])))) (.dat (M.pure (.int 0)))))) [.dat (.lst (rows.map rowD)), .dat S, .dat E, .dat (.str w), .dat (.int h), .own (D.lst (List.map D.int down)), .own (D.lst (List.map optD sp)), .dat (D.lst (List.map D.int mv)), .dat (.int s), .no, b] = .next [.dat (.lst (rows.map rowD)), .dat S, .dat E, .dat (.str w), .dat (.int h), .own (D.lst (List.map D.int down)), .own (D.lst (List.map optD (sp.set s.toNat (firstUp rows down s)))), .dat (D.lst (List.map D.int mv)), .dat (.int s), .no, b'] := by
  obtain ⟨i, rfl⟩ : ∃ i : Nat, s = (i : Int) := ⟨s.toNat, by omega⟩
  have hi : i < rows.length := by omega
  have hr : rows[i]? = some rows[i] := List.getElem?_eq_getElem hi
  have q1 : sIx (.lst (rows.map rowD)) (.int (i : Int)) = some (rowD rows[i]) := by
    show atI _ _ = _
    rw [atI_nat, List.getElem?_map, hr]
    rfl
  have hrl := (hrow _ (List.mem_of_getElem? hr)).2.2.2
  have h1 : (mLc (mSeqI (mOp2 sIx (.dat (mVar 0)) (.dat (mVar 8)))) (gNm 9) (mB (mOp2 sNin (.dat (mVar 9)) (.own 5))) (mVar 9) [9]) [.dat (.lst (rows.map rowD)), .dat S, .dat E, .dat (.str w), .dat (.int h), .own (D.lst (List.map D.int down)), .own (D.lst (List.map optD sp)), .dat (D.lst (List.map D.int mv)), .dat (.int (i : Int)), .no, b] = .ok (D.lst (List.map D.int ((rows[i]).filter fun x => !decide (x ∈ down)))) [.dat (.lst (rows.map rowD)), .dat S, .dat E, .dat (.str w), .dat (.int h), .own (D.lst (List.map D.int down)), .own (D.lst (List.map optD sp)), .dat (D.lst (List.map D.int mv)), .dat (.int (i : Int)), .no, b] := by
    refine mLc_T (xs := rows[i]) D.int (fun x => !decide (x ∈ down)) D.int (seqI_ok (mOp2_dd (x := (.lst (rows.map rowD))) (y := .int (i : Int)) rfl rfl q1) rfl) (by simp [isOwn]) (fun x hx => ?_)
    have q2 := sNin_lst x down
    refine ⟨[.dat (.lst (rows.map rowD)), .dat S, .dat E, .dat (.str w), .dat (.int h), .own (D.lst (List.map D.int down)), .own (D.lst (List.map optD sp)), .dat (D.lst (List.map D.int mv)), .dat (.int (i : Int)), .dat (.int x), b], by simp [gNm, wipeC], ?_, fun _ => rfl, by simp [wipeC]⟩
    generalize (D.lst (List.map D.int down)) = dd at q2 ⊢
    generalize (D.lst (List.map optD sp)) = ds
    simp [mkFn, mSeq, mIfS, mDo, mRet, mRetN, mSkip, mExpr, mAsg, mAnd, mOr, mNot, mAndV, mOrV, mNotV, mB, mIf, mV, mNeg, mCall, mOp2, mTup, mLst, mMeth, mSl, mPart, preL, seqM, M.bind, M.pure, M.lift, M.stuck, Out.andThen, mVar, Opn.pre, Opn.rd, rdM, rdLM, rdL, cellD, initC, initAt, outsOf, outAt, gNm, gTp, gNms, mNew, mFrz, mPar, mFld, mCallF, mCallK, mCallN, appF, rdA, setOuts, ownSlots, ownPos, mSeqI, mEnum, mRange1, itemsOf, q2]
  have h2 := mAsg_ok (g := gNm 10) (ρ2 := [.dat (.lst (rows.map rowD)), .dat S, .dat E, .dat (.str w), .dat (.int h), .own (D.lst (List.map D.int down)), .own (D.lst (List.map optD sp)), .dat (D.lst (List.map D.int mv)), .dat (.int (i : Int)), .no, .dat (D.lst (List.map D.int ((rows[i]).filter fun x => !decide (x ∈ down))))]) h1 rfl
  have h3 : mOp2 sIx (.dat (mOp2 sAdd (.dat (mVar 10)) (.dat (mLst [(M.pure .non)])))) (.dat (M.pure (.int 0))) [.dat (.lst (rows.map rowD)), .dat S, .dat E, .dat (.str w), .dat (.int h), .own (D.lst (List.map D.int down)), .own (D.lst (List.map optD sp)), .dat (D.lst (List.map D.int mv)), .dat (.int (i : Int)), .no, .dat (D.lst (List.map D.int ((rows[i]).filter fun x => !decide (x ∈ down))))] = .ok (optD (firstUp rows down (i : Int))) [.dat (.lst (rows.map rowD)), .dat S, .dat E, .dat (.str w), .dat (.int h), .own (D.lst (List.map D.int down)), .own (D.lst (List.map optD sp)), .dat (D.lst (List.map D.int mv)), .dat (.int (i : Int)), .no, .dat (D.lst (List.map D.int ((rows[i]).filter fun x => !decide (x ∈ down))))] := by
    have hf : firstUp rows down (i : Int) = ((rows[i]).filter fun x => !decide (x ∈ down)).head? := by
      unfold firstUp
      rw [row_at hr]
    rw [hf]
    have hfl : ((rows[i]).filter fun x => !decide (x ∈ down)).length ≤ 4000 := Nat.le_trans (List.length_filter_le _ _) hrl
    generalize (rows[i]).filter (fun x => !decide (x ∈ down)) = F at hfl ⊢
    have g1 : sAdd (D.lst (List.map D.int F)) (.lst [.non]) = some (.lst (F.map .int ++ [.non])) := if_pos (by rw [List.length_map, List.length_singleton]; omega)
    have g2 : sIx (.lst (F.map .int ++ [.non])) (.int 0) = some (optD F.head?) := by
      cases F with
      | nil => exact atI_nat [D.non] 0
      | cons a F => exact atI_nat ((a :: F).map D.int ++ [.non]) 0
    exact mOp2_dd (mOp2_dd (x := (D.lst (List.map D.int F))) (y := .lst [.non]) rfl rfl g1) (y := .int 0) rfl g2
  refine ⟨.dat (D.lst (List.map D.int ((rows[i]).filter fun x => !decide (x ∈ down)))), ?_⟩
  rw [mSeq_next h2]
  rw [setIx_ok (i := 6) (fj := mVar 8) (ds := sp.map optD) (k := (i : Int)) h3 rfl rfl (by omega) (by rw [List.length_map]; omega), Int.toNat_natCast, ← List.map_set]
  rfl
theorem mv_loop {down : List Int} {mv : List Int} (hrow : ∀ r ∈ rows, RowOk n r) : ∀ (Ms : List Int) (sp : List (Option Int)) (a b : Cell), sp.length = rows.length → (∀ s ∈ Ms, 0 ≤ s ∧ s < rows.length) →
    ∃ a' b', loopM (gNm 8) (mSeq (mAsg (mLc (mSeqI (mOp2 sIx (.dat (mVar 0)) (.dat (mVar 8)))) (gNm 9) (mB (mOp2 sNin (.dat (mVar 9)) (.own 5))) (mVar 9) [9]) (gNm 10)) (mSetIx 6 (mVar 8) (mOp2 sIx (.dat (mOp2 sAdd (.dat (mVar 10)) (.dat (mLst [(M.pure .non)])))) (.dat (M.pure (.int 0)))))) (Ms.map .int) [.dat (.lst (rows.map rowD)), .dat S, .dat E, .dat (.str w), .dat (.int h), .own (D.lst (List.map D.int down)), .own (D.lst (List.map optD sp)), .dat (D.lst (List.map D.int mv)), a, .no, b] = .next [.dat (.lst (rows.map rowD)), .dat S, .dat E, .dat (.str w), .dat (.int h), .own (D.lst (List.map D.int down)), .own (D.lst (List.map optD (moveAll rows down Ms sp))), .dat (D.lst (List.map D.int mv)), a', .no, b']
  | [], sp, a, b, _, _ => ⟨a, b, rfl⟩
  | s :: Ms, sp, a, b, hl, hM => by
    obtain ⟨s0, s1⟩ := hM s List.mem_cons_self
    obtain ⟨b', e1⟩ := mv_one (S := S) (E := E) (w := w) (h := h) (down := down) (mv := mv) s0 s1 hl hrow b
    obtain ⟨a2, b2, e2⟩ := mv_loop hrow Ms (sp.set s.toNat (firstUp rows down s)) (.dat (.int s)) b' (by rw [List.length_set]; exact hl) fun x hx => hM x (List.mem_cons_of_mem _ hx)
    refine ⟨a2, b2, ?_⟩
    rw [List.map_cons]
    unfold loopM
    have g : gNm 8 (.int s) [.dat (.lst (rows.map rowD)), .dat S, .dat E, .dat (.str w), .dat (.int h), .own (D.lst (List.map D.int down)), .own (D.lst (List.map optD sp)), .dat (D.lst (List.map D.int mv)), a, .no, b] = some [.dat (.lst (rows.map rowD)), .dat S, .dat E, .dat (.str w), .dat (.int h), .own (D.lst (List.map D.int down)), .own (D.lst (List.map optD sp)), .dat (D.lst (List.map D.int mv)), .dat (.int s), .no, b] := rfl
    simp only [g, e1]
    exact e2
end
section
variable {n t : Int} {rows : List (List Int)}
/-- what is the same for all events -/
theorem af_fin {down down2 : List Int} {sp sp2 : List (Option Int)} {w : Str} {h : Int} {mv : List Int} (hrow : ∀ r ∈ rows, RowOk n r) (hl : sp2.length = rows.length) (hM : ∀ s ∈ mv, 0 ≤ s ∧ s < rows.length)
    (pre : ∀ k : MS, (k = mSeq (mFor (mSeqI (mVar 7)) (gNm 8) (mSeq (mAsg (mLc (mSeqI (mOp2 sIx (.dat (mVar 0)) (.dat (mVar 8)))) (gNm 9) (mB (mOp2 sNin (.dat (mVar 9)) (.own 5))) (mVar 9) [9]) (gNm 10)) (mSetIx 6 (mVar 8) (mOp2 sIx (.dat (mOp2 sAdd (.dat (mVar 10)) (.dat (mLst [(M.pure .non)])))) (.dat (M.pure (.int 0))))))) (mRet (mTup [(mCall sTuple [(.own 5)]), (mCall sTuple [(.own 6)])]))) → b_law_after [.dat (.lst (rows.map rowD)), .dat (stD down sp), .dat (.tup [.str w, .int h]), .no, .no, .no, .no, .no, .no, .no, .no] = k [.dat (.lst (rows.map rowD)), .dat (stD down sp), .dat (.tup [.str w, .int h]), .dat (.str w), .dat (.int h), .own (D.lst (List.map D.int down2)), .own (D.lst (List.map optD sp2)), .dat (D.lst (List.map D.int mv)), .no, .no, .no]) :
    m_law_after [(.lst (rows.map rowD)), stD down sp, .tup [.str w, .int h]] = .ret (stD down2 (moveAll rows down2 mv sp2)) [] := by
  obtain ⟨a, b, e⟩ := mv_loop (S := stD down sp) (E := .tup [.str w, .int h]) (w := w) (h := h) (down := down2) (mv := mv) hrow mv sp2 .no .no hl hM
  have fin : b_law_after [.dat (.lst (rows.map rowD)), .dat (stD down sp), .dat (.tup [.str w, .int h]), .no, .no, .no, .no, .no, .no, .no, .no] = .ret (stD down2 (moveAll rows down2 mv sp2)) [.dat (.lst (rows.map rowD)), .dat (stD down sp), .dat (.tup [.str w, .int h]), .dat (.str w), .dat (.int h), .own (D.lst (List.map D.int down2)), .own (D.lst (List.map optD (moveAll rows down2 mv sp2))), .dat (D.lst (List.map D.int mv)), a, .no, b] := by
    rw [pre _ rfl]
    rw [mSeq_next (by rw [mFor_next (ds := mv.map .int) (ρ1 := [.dat (.lst (rows.map rowD)), .dat (stD down sp), .dat (.tup [.str w, .int h]), .dat (.str w), .dat (.int h), .own (D.lst (List.map D.int down2)), .own (D.lst (List.map optD sp2)), .dat (D.lst (List.map D.int mv)), .no, .no, .no]) (by rfl)]; exact e)]
    rfl
  have h' : b_law_after (initC 11 [] [(.lst (rows.map rowD)), stD down sp, .tup [.str w, .int h]]) = .ret (stD down2 (moveAll rows down2 mv sp2)) [.dat (.lst (rows.map rowD)), .dat (stD down sp), .dat (.tup [.str w, .int h]), .dat (.str w), .dat (.int h), .own (D.lst (List.map D.int down2)), .own (D.lst (List.map optD (moveAll rows down2 mv sp2))), .dat (D.lst (List.map D.int mv)), a, .no, b] := fin
  unfold m_law_after
  rw [mkFn_ret h']
  rfl
theorem af_pre (down : List Int) (sp : List (Option Int)) (w : Str) (h : Int) (k : MS) : mSeq (mAsg (mVar 2) (gTp [3, 4])) (mSeq (mNew2 (mCall sList [(.dat (mOp2 sIx (.dat (mVar 1)) (.dat (M.pure (.int 0)))))]) (mCall sList [(.dat (mOp2 sIx (.dat (mVar 1)) (.dat (M.pure (.int 1)))))]) 5 6) (mSeq (mAsg (mLst []) (gNm 7)) k)) [.dat (.lst (rows.map rowD)), .dat (stD down sp), .dat (.tup [.str w, .int h]), .no, .no, .no, .no, .no, .no, .no, .no] = k [.dat (.lst (rows.map rowD)), .dat (stD down sp), .dat (.tup [.str w, .int h]), .dat (.str w), .dat (.int h), .own (D.lst (List.map D.int down)), .own (D.lst (List.map optD sp)), .dat (D.lst (List.map D.int ([] : List Int))), .no, .no, .no] := by
  rw [mSeq_next (ρ' := [.dat (.lst (rows.map rowD)), .dat (stD down sp), .dat (.tup [.str w, .int h]), .dat (.str w), .dat (.int h), .no, .no, .no, .no, .no, .no]) (by rfl)]
  have g1 : mCall sList [(.dat (mOp2 sIx (.dat (mVar 1)) (.dat (M.pure (.int 0)))))] [.dat (.lst (rows.map rowD)), .dat (stD down sp), .dat (.tup [.str w, .int h]), .dat (.str w), .dat (.int h), .no, .no, .no, .no, .no, .no] = .ok (D.lst (List.map D.int down)) [.dat (.lst (rows.map rowD)), .dat (stD down sp), .dat (.tup [.str w, .int h]), .dat (.str w), .dat (.int h), .no, .no, .no, .no, .no, .no] := call1 (mOp2_dd (x := stD down sp) (y := .int 0) rfl rfl (atI_nat [D.tup (down.map .int), plcD sp] 0)) rfl
  have g2 : mCall sList [(.dat (mOp2 sIx (.dat (mVar 1)) (.dat (M.pure (.int 1)))))] [.dat (.lst (rows.map rowD)), .dat (stD down sp), .dat (.tup [.str w, .int h]), .dat (.str w), .dat (.int h), .no, .no, .no, .no, .no, .no] = .ok (D.lst (List.map optD sp)) [.dat (.lst (rows.map rowD)), .dat (stD down sp), .dat (.tup [.str w, .int h]), .dat (.str w), .dat (.int h), .no, .no, .no, .no, .no, .no] := call1 (mOp2_dd (x := stD down sp) (y := .int 1) rfl rfl (atI_nat [D.tup (down.map .int), plcD sp] 1)) rfl
  rw [mSeq_next (ρ' := [.dat (.lst (rows.map rowD)), .dat (stD down sp), .dat (.tup [.str w, .int h]), .dat (.str w), .dat (.int h), .own (D.lst (List.map D.int down)), .own (D.lst (List.map optD sp)), .no, .no, .no, .no]) (by
    unfold mNew2 mDo
    simp only [g1, g2]
    rfl)]
  rw [mSeq_next (ρ' := [.dat (.lst (rows.map rowD)), .dat (stD down sp), .dat (.tup [.str w, .int h]), .dat (.str w), .dat (.int h), .own (D.lst (List.map D.int down)), .own (D.lst (List.map optD sp)), .dat (D.lst (List.map D.int ([] : List Int))), .no, .no, .no]) (by rfl)]
theorem e_after_end {down : List Int} {sp : List (Option Int)} {i : Nat} (hrow : ∀ r ∈ rows, RowOk n r) (hl : sp.length = rows.length) (hi : i < sp.length) : m_law_after [(.lst (rows.map rowD)), stD down sp, .tup [.str "end", .int (i : Int)]] = .ret (stD down (sp.set i none)) [] := by
  have := af_fin (n := n) (rows := rows) (down := down) (down2 := down) (sp := sp) (sp2 := sp.set i none) (w := "end") (h := (i : Int)) (mv := []) hrow (by rw [List.length_set]; exact hl) (fun s hs => nomatch hs) (fun k hk => by
    subst hk
    unfold b_law_after
    rw [af_pre]
    rw [mSeq_next (ρ' := [.dat (.lst (rows.map rowD)), .dat (stD down sp), .dat (.tup [.str "end", .int (i : Int)]), .dat (.str "end"), .dat (.int (i : Int)), .own (D.lst (List.map D.int down)), .own (D.lst (List.map optD (sp.set i none))), .dat (D.lst (List.map D.int ([] : List Int))), .no, .no, .no]) (by
      rw [w_yes so_end (by rfl)]
      rw [setIx_ok (i := 6) (fj := mVar 4) (fe := M.pure .non) (d := .non) (ds := sp.map optD) (k := (i : Int)) (by rfl) (by rfl) (by rfl) (by omega) (by rw [List.length_map]; omega), Int.toNat_natCast, show D.non = optD none from rfl, ← List.map_set]
      rfl)]
    rw [mSeq_next (w_no so_end so_begin (by decide) (by rfl)), mSeq_next (w_no so_end so_up (by decide) (by rfl)), mSeq_next (w_no so_end so_down (by decide) (by rfl))])
  exact this
theorem e_after_begin {down : List Int} {sp : List (Option Int)} {i : Nat} (hrow : ∀ r ∈ rows, RowOk n r) (hl : sp.length = rows.length) (hi : i < sp.length) : m_law_after [(.lst (rows.map rowD)), stD down sp, .tup [.str "begin", .int (i : Int)]] = .ret (stD down (sp.set i (firstUp rows down (i : Int)))) [] := by
  have := af_fin (n := n) (rows := rows) (down := down) (down2 := down) (sp := sp) (sp2 := sp) (w := "begin") (h := (i : Int)) (mv := [(i : Int)]) hrow hl (fun s hs => by
    have : s = (i : Int) := by simpa using hs
    omega) (fun k hk => by
    subst hk
    unfold b_law_after
    rw [af_pre]
    rw [mSeq_next (w_no so_begin so_end (by decide) (by rfl))]
    rw [mSeq_next (ρ' := [.dat (.lst (rows.map rowD)), .dat (stD down sp), .dat (.tup [.str "begin", .int (i : Int)]), .dat (.str "begin"), .dat (.int (i : Int)), .own (D.lst (List.map D.int down)), .own (D.lst (List.map optD sp)), .dat (D.lst (List.map D.int [(i : Int)])), .no, .no, .no]) (by rw [w_yes so_begin (by rfl)]; rfl)]
    rw [mSeq_next (w_no so_begin so_up (by decide) (by rfl)), mSeq_next (w_no so_begin so_down (by decide) (by rfl))])
  rw [this]
  unfold moveAll moveAll
  rw [Int.toNat_natCast]
theorem findIdx_erase {h : Int} : ∀ {l : List Int}, h ∈ l → ∃ j, l.findIdx? (fun x => x == h) = some j ∧ (∀ x ∈ l.eraseIdx j, x ∈ l) ∧ (l.eraseIdx j).length ≤ l.length
  | [], hh => nomatch hh
  | a :: l, hh => by
    by_cases e : a = h
    · subst e
      exact ⟨0, by simp [List.findIdx?_cons], fun x hx => List.mem_cons_of_mem _ (by simpa using hx), by simp⟩
    · have h2 : h ∈ l := by
        rcases List.mem_cons.mp hh with z | z
        · exact absurd z.symm e
        · exact z
      obtain ⟨j, h3, h4, h5⟩ := findIdx_erase h2
      refine ⟨j + 1, by simp [List.findIdx?_cons, e, h3], fun x hx => ?_, by simpa using h5⟩
      rw [List.eraseIdx_cons_succ] at hx
      rcases List.mem_cons.mp hx with z | z
      · rw [z]; exact List.mem_cons_self
      · exact List.mem_cons_of_mem _ (h4 x z)
theorem e_after_up {down : List Int} {sp : List (Option Int)} {h : Int} (hrow : ∀ r ∈ rows, RowOk n r) (hl : sp.length = rows.length) (hh : h ∈ down) : ∃ down2 : List Int, m_law_after [(.lst (rows.map rowD)), stD down sp, .tup [.str "up", .int h]] = .ret (stD down2 sp) [] ∧ (∀ x ∈ down2, x ∈ down) ∧ down2.length ≤ down.length ∧ (∃ j, down.findIdx? (fun x => x == h) = some j ∧ down2 = down.eraseIdx j) := by
  obtain ⟨j, h1, h2, h3⟩ := findIdx_erase hh
  refine ⟨down.eraseIdx j, ?_, h2, h3, j, h1, rfl⟩
  have q : wRemove (D.lst (List.map D.int down)) [.int h] = some (.non, (D.lst (List.map D.int (down.eraseIdx j)))) := by
    show (intsOf (down.map D.int)).bind (fun is => (is.findIdx? (· == h)).map fun j => (D.non, D.lst ((down.map D.int).eraseIdx j))) = _
    rw [intsOf_map, Option.bind_some]
    rw [show (down.findIdx? (· == h)) = some j from h1]
    rw [Option.map_some, eraseIdx_map]
  exact af_fin (n := n) (rows := rows) (down := down) (down2 := down.eraseIdx j) (sp := sp) (sp2 := sp) (w := "up") (h := h) (mv := []) hrow hl (fun s hs => nomatch hs) (fun k hk => by
    subst hk
    unfold b_law_after
    rw [af_pre]
    rw [mSeq_next (w_no so_up so_end (by decide) (by rfl)), mSeq_next (w_no so_up so_begin (by decide) (by rfl))]
    rw [mSeq_next (ρ' := [.dat (.lst (rows.map rowD)), .dat (stD down sp), .dat (.tup [.str "up", .int h]), .dat (.str "up"), .dat (.int h), .own (D.lst (List.map D.int (down.eraseIdx j))), .own (D.lst (List.map optD sp)), .dat (D.lst (List.map D.int ([] : List Int))), .no, .no, .no]) (by
      rw [w_yes so_up (by rfl)]
      have g := mMethWR1 (sem := wRemove) (i := 5) (f := mVar 4) (x0 := down.map .int) (ρ := [.dat (.lst (rows.map rowD)), .dat (stD down sp), .dat (.tup [.str "up", .int h]), .dat (.str "up"), .dat (.int h), .own (D.lst (List.map D.int down)), .own (D.lst (List.map optD sp)), .dat (D.lst (List.map D.int ([] : List Int))), .no, .no, .no]) (ρ1 := [.dat (.lst (rows.map rowD)), .dat (stD down sp), .dat (.tup [.str "up", .int h]), .dat (.str "up"), .dat (.int h), .own (D.lst (List.map D.int down)), .own (D.lst (List.map optD sp)), .dat (D.lst (List.map D.int ([] : List Int))), .no, .no, .no]) (d := (D.lst (List.map D.int down))) (e := .int h) rfl rfl rfl q
      exact exprF g)]
    rw [mSeq_next (w_no so_up so_down (by decide) (by rfl))])
theorem e_after_down {down : List Int} {sp : List (Option Int)} {h : Int} (hrow : ∀ r ∈ rows, RowOk n r) (hl : sp.length = rows.length) (hd : down.length ≤ 1000) : m_law_after [(.lst (rows.map rowD)), stD down sp, .tup [.str "down", .int h]] = .ret (stD (sortI (down ++ [h])) (moveAll rows (sortI (down ++ [h])) (atH h 0 sp) sp)) [] := by
  refine af_fin (n := n) (rows := rows) (down := down) (down2 := sortI (down ++ [h])) (sp := sp) (sp2 := sp) (w := "down") (h := h) (mv := atH h 0 sp) hrow hl (fun s hs => by
    obtain ⟨i, h1, h2⟩ := mem_atH.mp hs
    have := (List.getElem?_eq_some_iff.mp h2).1
    omega) (fun k hk => by
    subst hk
    unfold b_law_after
    rw [af_pre]
    rw [mSeq_next (w_no so_down so_end (by decide) (by rfl)), mSeq_next (w_no so_down so_begin (by decide) (by rfl)), mSeq_next (w_no so_down so_up (by decide) (by rfl))]
    rw [mSeq_next (ρ' := [.dat (.lst (rows.map rowD)), .dat (stD down sp), .dat (.tup [.str "down", .int h]), .dat (.str "down"), .dat (.int h), .own (D.lst (List.map D.int (sortI (down ++ [h])))), .own (D.lst (List.map optD sp)), .dat (D.lst (List.map D.int (atH h 0 sp))), .no, .no, .no]) (by
      rw [w_yes so_down (by rfl)]
      have g1 : sAdd (D.lst (List.map D.int down)) (.lst [.int h]) = some (D.lst (List.map D.int (down ++ [h]))) := by
        have q : (down.map D.int).length + 1 ≤ 16777216 := by rw [List.length_map]; omega
        show (if (down.map D.int).length + 1 ≤ 16777216 then some (D.lst (down.map D.int ++ [.int h])) else none) = _
        rw [if_pos q, List.map_append]
        rfl
      have g2 : sSorted [(D.lst (List.map D.int (down ++ [h])))] = some (D.lst (List.map D.int (sortI (down ++ [h])))) := by simp only [sSorted, itemsOf, Option.bind_some, intsOf_map, Option.map_some]
      have g3 : mNew (mCall sSorted [(.dat (mOp2 sAdd (.own 5) (.dat (mLst [(mVar 4)]))))]) 5 [.dat (.lst (rows.map rowD)), .dat (stD down sp), .dat (.tup [.str "down", .int h]), .dat (.str "down"), .dat (.int h), .own (D.lst (List.map D.int down)), .own (D.lst (List.map optD sp)), .dat (D.lst (List.map D.int ([] : List Int))), .no, .no, .no] = .next [.dat (.lst (rows.map rowD)), .dat (stD down sp), .dat (.tup [.str "down", .int h]), .dat (.str "down"), .dat (.int h), .own (D.lst (List.map D.int (sortI (down ++ [h])))), .own (D.lst (List.map optD sp)), .dat (D.lst (List.map D.int ([] : List Int))), .no, .no, .no] := by
        have e : mOp2 sAdd (.own 5) (.dat (mLst [(mVar 4)])) [.dat (.lst (rows.map rowD)), .dat (stD down sp), .dat (.tup [.str "down", .int h]), .dat (.str "down"), .dat (.int h), .own (D.lst (List.map D.int down)), .own (D.lst (List.map optD sp)), .dat (D.lst (List.map D.int ([] : List Int))), .no, .no, .no] = .ok (D.lst (List.map D.int (down ++ [h]))) [.dat (.lst (rows.map rowD)), .dat (stD down sp), .dat (.tup [.str "down", .int h]), .dat (.str "down"), .dat (.int h), .own (D.lst (List.map D.int down)), .own (D.lst (List.map optD sp)), .dat (D.lst (List.map D.int ([] : List Int))), .no, .no, .no] := by
          generalize (D.lst (List.map D.int (down ++ [h]))) = dd2 at g1 ⊢
          generalize (D.lst (List.map D.int down)) = dd at g1 ⊢
          generalize (D.lst (List.map optD sp)) = ds
          simp [mkFn, mSeq, mIfS, mDo, mRet, mRetN, mSkip, mExpr, mAsg, mAnd, mOr, mNot, mAndV, mOrV, mNotV, mB, mIf, mV, mNeg, mCall, mOp2, mTup, mLst, mMeth, mSl, mPart, preL, seqM, M.bind, M.pure, M.lift, M.stuck, Out.andThen, mVar, Opn.pre, Opn.rd, rdM, rdLM, rdL, cellD, initC, initAt, outsOf, outAt, gNm, gTp, gNms, mNew, mFrz, mPar, mFld, mCallF, mCallK, mCallN, appF, rdA, setOuts, ownSlots, ownPos, mSeqI, mEnum, mRange1, itemsOf, g1]
        unfold mNew mDo
        rw [call1 e g2]
        rfl
      rw [mSeq_next g3]
      have g4 : (mLc (mEnum (mVar 6)) (gTp [8, 9]) (mB (mOp2 sEq (.dat (mVar 9)) (.dat (mVar 4)))) (mVar 8) [8, 9]) [.dat (.lst (rows.map rowD)), .dat (stD down sp), .dat (.tup [.str "down", .int h]), .dat (.str "down"), .dat (.int h), .own (D.lst (List.map D.int (sortI (down ++ [h])))), .dat (D.lst (List.map optD sp)), .dat (D.lst (List.map D.int ([] : List Int))), .no, .no, .no] = .ok (D.lst (List.map D.int (atH h 0 sp))) [.dat (.lst (rows.map rowD)), .dat (stD down sp), .dat (.tup [.str "down", .int h]), .dat (.str "down"), .dat (.int h), .own (D.lst (List.map D.int (sortI (down ++ [h])))), .dat (D.lst (List.map optD sp)), .dat (D.lst (List.map D.int ([] : List Int))), .no, .no, .no] := by
        rw [mLc_pure (ds := enumD 0 (sp.map optD)) (atP h) mvf (by rfl) (by simp [isOwn]) (fun e hd => by
          obtain ⟨i, o, _, rfl⟩ := enum_mem hd
          refine ⟨[.dat (.lst (rows.map rowD)), .dat (stD down sp), .dat (.tup [.str "down", .int h]), .dat (.str "down"), .dat (.int h), .own (D.lst (List.map D.int (sortI (down ++ [h])))), .dat (D.lst (List.map optD sp)), .dat (D.lst (List.map D.int ([] : List Int))), .dat (.int i), .dat (optD o), .no], by simp [gTp, gNms, wipeC], ?_, fun _ => rfl, by simp [wipeC]⟩
          cases o with
          | none => exact mB_ok (mOp2_dd (x := .non) (y := .int h) rfl rfl (sEq_non_int h))
          | some v => exact mB_ok (mOp2_dd (x := .int v) (y := .int h) rfl rfl (sEq_int v h)))]
        rw [atH_is]
      have g5 : mThaw 6 (mLc (mEnum (mVar 6)) (gTp [8, 9]) (mB (mOp2 sEq (.dat (mVar 9)) (.dat (mVar 4)))) (mVar 8) [8, 9]) [.dat (.lst (rows.map rowD)), .dat (stD down sp), .dat (.tup [.str "down", .int h]), .dat (.str "down"), .dat (.int h), .own (D.lst (List.map D.int (sortI (down ++ [h])))), .own (D.lst (List.map optD sp)), .dat (D.lst (List.map D.int ([] : List Int))), .no, .no, .no] = .ok (D.lst (List.map D.int (atH h 0 sp))) [.dat (.lst (rows.map rowD)), .dat (stD down sp), .dat (.tup [.str "down", .int h]), .dat (.str "down"), .dat (.int h), .own (D.lst (List.map D.int (sortI (down ++ [h])))), .own (D.lst (List.map optD sp)), .dat (D.lst (List.map D.int ([] : List Int))), .no, .no, .no] := by
        have q1 : flatL (D.lst (List.map D.int (atH h 0 sp))) = true := flat_ints _
        have q2 := flatAll_self (sortI (down ++ [h]))
        unfold mThaw
        show (match (mLc (mEnum (mVar 6)) (gTp [8, 9]) (mB (mOp2 sEq (.dat (mVar 9)) (.dat (mVar 4)))) (mVar 8) [8, 9]) [.dat (.lst (rows.map rowD)), .dat (stD down sp), .dat (.tup [.str "down", .int h]), .dat (.str "down"), .dat (.int h), .own (D.lst (List.map D.int (sortI (down ++ [h])))), .dat (D.lst (List.map optD sp)), .dat (D.lst (List.map D.int ([] : List Int))), .no, .no, .no] with
          | .ok e ρ' => if (flatL e && cellsOk 6 0 [.dat (.lst (rows.map rowD)), .dat (stD down sp), .dat (.tup [.str "down", .int h]), .dat (.str "down"), .dat (.int h), .own (D.lst (List.map D.int (sortI (down ++ [h])))), .own (D.lst (List.map optD sp)), .dat (D.lst (List.map D.int ([] : List Int))), .no, .no, .no] ρ') = true then Out.ok e [.dat (.lst (rows.map rowD)), .dat (stD down sp), .dat (.tup [.str "down", .int h]), .dat (.str "down"), .dat (.int h), .own (D.lst (List.map D.int (sortI (down ++ [h])))), .own (D.lst (List.map optD sp)), .dat (D.lst (List.map D.int ([] : List Int))), .no, .no, .no] else .stuck
          | _ => .stuck) = _
        rw [g4]
        show (if (flatL (D.lst (List.map D.int (atH h 0 sp))) && cellsOk 6 0 _ _) = true then _ else _) = _
        rw [if_pos (by rw [q1]; simp [cellsOk, flatEq, q2])]
      exact mAsg_ok g5 rfl)])
end
end Fx
set_option Elab.async false
set_option linter.all false
set_option maxRecDepth 100000
set_option maxHeartbeats 1000000
namespace Fx
open PySem L2
/-- a possible event -/
inductive EvOk (t : Int) (down : List Int) (sp : List (Option Int)) : D → Prop
  | ended (i : Nat) (v : Int) : sp[i]? = some (some v) → EvOk t down sp (.tup [.str "end", .int (i : Int)])
  | begun (i : Nat) : sp[i]? = some none → EvOk t down sp (.tup [.str "begin", .int (i : Int)])
  | up (h : Int) : h ∈ down → EvOk t down sp (.tup [.str "up", .int h])
  | down (h : Int) : h ∉ down → (down.length : Int) < t → EvOk t down sp (.tup [.str "down", .int h])
def evF : D → D
  | .tup [.int i, .non] => .tup [.str "begin", .int i]
  | .tup [.int i, _] => .tup [.str "end", .int i]
  | _ => .non
theorem tup2 {f g : M D} {ρ ρ1 ρ2 : Cells} {a b : D} (h1 : f ρ = .ok a ρ1) (h2 : g ρ1 = .ok b ρ2) : mTup [f, g] ρ = .ok (.tup [a, b]) ρ2 := by
  unfold mTup M.bind
  simp only [seqM, M.bind, h1, h2, Out.andThen, M.pure]
theorem callF3' {F : Fn} {f g k : M D} {ρ ρ1 : Cells} {a b c d : D} (h1 : f ρ = .ok a ρ) (h2 : g ρ = .ok b ρ) (h3 : k ρ = .ok c ρ1) (h : F [a, b, c] = .ret d []) : mCallF F [.dat f, .dat g, .dat k] ρ = .ok d ρ1 := by
  unfold mCallF
  simp [preL, M.bind, Opn.pre, h1, h2, h3, Out.andThen, M.pure, rdA, Opn.rd, setOuts, ownSlots, h]
section
variable {n t : Int} {rows : List (List Int)} {down : List Int} {sp : List (Option Int)}
theorem ev_lc : (mLc (mEnum (mVar 4)) (gTp [6, 7]) (M.pure true) (mTup [(mOp2 sIx (.dat (mLst [(M.pure (.str "end")), (M.pure (.str "begin"))])) (.dat (mCall sInt [(.dat (mOp2 sIsN (.dat (mVar 7)) (.dat (M.pure .non))))]))), (mVar 6)]) [6, 7]) [.dat (.int n), .dat (.int t), .dat (stD down sp), .dat (.tup (down.map .int)), .dat (plcD sp), .no, .no, .no] = .ok (.lst ((enumD 0 (sp.map optD)).map evF)) [.dat (.int n), .dat (.int t), .dat (stD down sp), .dat (.tup (down.map .int)), .dat (plcD sp), .no, .no, .no] := by
  rw [mLc_pure (ds := enumD 0 (sp.map optD)) (fun _ => true) evF (by rfl) (by simp [isOwn]) (fun e hd => by
    obtain ⟨i, o, _, rfl⟩ := enum_mem hd
    refine ⟨[.dat (.int n), .dat (.int t), .dat (stD down sp), .dat (.tup (down.map .int)), .dat (plcD sp), .no, .dat (.int i), .dat (optD o)], by simp [gTp, gNms, wipeC], rfl, fun _ => ?_, by simp [wipeC]⟩
    cases o with
    | none => exact tup2 (mOp2_dd (x := .lst [.str "end", .str "begin"]) (y := .int 1) rfl (call1 (mOp2_dd (x := .non) (y := .non) (r := .bl true) rfl rfl rfl) rfl) (atI_nat [D.str "end", .str "begin"] 1)) rfl
    | some v => exact tup2 (mOp2_dd (x := .lst [.str "end", .str "begin"]) (y := .int 0) rfl (call1 (mOp2_dd (x := .int v) (y := .non) (r := .bl false) rfl rfl rfl) rfl) (atI_nat [D.str "end", .str "begin"] 0)) rfl)]
  rw [filter_true]
theorem ev_body (ht : 0 ≤ t) (evs : List D) (he : ∀ e ∈ evs, EvOk t down sp e) (hl : evs.length ≤ 1000) (i : Int) : ∃ evs', (mIfS (mB (mOp2 sIn (.dat (mVar 7)) (.dat (mVar 3)))) (mExpr (mMethWR wAppend 5 [(mTup [(M.pure (.str "up")), (mVar 7)])])) (mIfS (mB (mOp2 sLt (.dat (mCall sLen [(.dat (mVar 3))])) (.dat (mVar 1)))) (mExpr (mMethWR wAppend 5 [(mTup [(M.pure (.str "down")), (mVar 7)])])) mSkip)) [.dat (.int n), .dat (.int t), .dat (stD down sp), .dat (.tup (down.map .int)), .dat (plcD sp), .own (.lst evs), .no, .dat (.int i)] = .next [.dat (.int n), .dat (.int t), .dat (stD down sp), .dat (.tup (down.map .int)), .dat (plcD sp), .own (.lst evs'), .no, .dat (.int i)] ∧ (∀ e ∈ evs', EvOk t down sp e) ∧ evs'.length ≤ evs.length + 1 := by
  have q1 := sIn_tup i down
  have t1 : mB (mOp2 sIn (.dat (mVar 7)) (.dat (mVar 3))) [.dat (.int n), .dat (.int t), .dat (stD down sp), .dat (.tup (down.map .int)), .dat (plcD sp), .own (.lst evs), .no, .dat (.int i)] = .ok (decide (i ∈ down)) [.dat (.int n), .dat (.int t), .dat (stD down sp), .dat (.tup (down.map .int)), .dat (plcD sp), .own (.lst evs), .no, .dat (.int i)] := mB_ok (mOp2_dd (x := .int i) (y := .tup (down.map .int)) rfl rfl q1)
  by_cases hd : i ∈ down
  · rw [decide_eq_true hd] at t1
    refine ⟨evs ++ [.tup [.str "up", .int i]], ?_, fun e hx => ?_, by simp⟩
    · rw [mIfS_t t1]
      exact app_ok (i := 5) (L := evs) rfl (tup2 rfl rfl) (by omega)
    · rcases List.mem_append.mp hx with z | z
      · exact he e z
      · have z : e = .tup [.str "up", .int i] := by simpa using z
        subst z
        exact .up i hd
  · rw [decide_eq_false hd] at t1
    have t2 : mB (mOp2 sLt (.dat (mCall sLen [(.dat (mVar 3))])) (.dat (mVar 1))) [.dat (.int n), .dat (.int t), .dat (stD down sp), .dat (.tup (down.map .int)), .dat (plcD sp), .own (.lst evs), .no, .dat (.int i)] = .ok (decide (((down.length : Nat) : Int) < t)) [.dat (.int n), .dat (.int t), .dat (stD down sp), .dat (.tup (down.map .int)), .dat (plcD sp), .own (.lst evs), .no, .dat (.int i)] := mB_ok (mOp2_dd (x := .int (down.length : Nat)) (y := .int t) (call1 (f := mVar 3) rfl (by simp [sLen])) rfl rfl)
    by_cases hlt : ((down.length : Nat) : Int) < t
    · rw [decide_eq_true hlt] at t2
      refine ⟨evs ++ [.tup [.str "down", .int i]], ?_, fun e hx => ?_, by simp⟩
      · rw [mIfS_f t1, mIfS_t t2]
        exact app_ok (i := 5) (L := evs) rfl (tup2 rfl rfl) (by omega)
      · rcases List.mem_append.mp hx with z | z
        · exact he e z
        · have z : e = .tup [.str "down", .int i] := by simpa using z
          subst z
          exact .down i hd hlt
    · rw [decide_eq_false hlt] at t2
      refine ⟨evs, ?_, he, by omega⟩
      rw [mIfS_f t1, mIfS_f t2]
      rfl
theorem e_events (n1 : 1 ≤ n) (n2 : n ≤ 30) (ht : 0 ≤ t) (hl : sp.length ≤ 60) : ∃ evs : List D, m_law_events [.int n, .int t, stD down sp] = .ret (.lst evs) [] ∧ (∀ e ∈ evs, EvOk t down sp e) ∧ evs.length ≤ 1000 := by
  have h0 : ∀ e ∈ (enumD 0 (sp.map optD)).map evF, EvOk t down sp e := fun e he => by
    obtain ⟨x, hx, rfl⟩ := List.mem_map.mp he
    obtain ⟨i, o, ho, rfl⟩ := enum_mem hx
    cases o with
    | none => exact .begun i ho
    | some v => exact .ended i v ho
  obtain ⟨ρ', e, evs, c, hρ, he, hlen⟩ := loop_inv (g := gNm 7) (body := (mIfS (mB (mOp2 sIn (.dat (mVar 7)) (.dat (mVar 3)))) (mExpr (mMethWR wAppend 5 [(mTup [(M.pure (.str "up")), (mVar 7)])])) (mIfS (mB (mOp2 sLt (.dat (mCall sLen [(.dat (mVar 3))])) (.dat (mVar 1)))) (mExpr (mMethWR wAppend 5 [(mTup [(M.pure (.str "down")), (mVar 7)])])) mSkip))) (fun i ρ => ∃ (evs : List D) (c : Cell), ρ = [.dat (.int n), .dat (.int t), .dat (stD down sp), .dat (.tup (down.map .int)), .dat (plcD sp), .own (.lst evs), .no, c] ∧ (∀ e ∈ evs, EvOk t down sp e) ∧ evs.length ≤ 60 + i) ((rng n.toNat).map .int) 0 [.dat (.int n), .dat (.int t), .dat (stD down sp), .dat (.tup (down.map .int)), .dat (plcD sp), .own (.lst ((enumD 0 (sp.map optD)).map evF)), .no, .no] ⟨_, .no, rfl, h0, by rw [List.length_map, enumD_len, List.length_map]; omega⟩
    (fun i dd ρ hd ⟨evs, c, hρ, he, hlen⟩ => by
      rw [Nat.zero_add] at hlen ⊢
      subst hρ
      have hi := (List.getElem?_eq_some_iff.mp hd).1
      rw [List.length_map, rng_len] at hi
      obtain ⟨j, hj, rfl⟩ := List.mem_map.mp (List.mem_of_getElem? hd)
      obtain ⟨evs', e, q1, q2⟩ := ev_body (n := n) ht evs he (by omega) j
      exact ⟨[.dat (.int n), .dat (.int t), .dat (stD down sp), .dat (.tup (down.map .int)), .dat (plcD sp), .own (.lst evs), .no, .dat (.int j)], rfl, _, e, evs', _, rfl, q1, by omega⟩)
  subst hρ
  rw [Nat.zero_add, List.length_map, rng_len] at hlen
  refine ⟨evs, ?_, he, by omega⟩
  have fin : b_law_events [.dat (.int n), .dat (.int t), .dat (stD down sp), .no, .no, .no, .no, .no] = .ret (.lst evs) [.dat (.int n), .dat (.int t), .dat (stD down sp), .dat (.tup (down.map .int)), .dat (plcD sp), .dat (.lst evs), .no, c] := by
    unfold b_law_events
    rw [mSeq_next (ρ' := [.dat (.int n), .dat (.int t), .dat (stD down sp), .dat (.tup (down.map .int)), .dat (plcD sp), .no, .no, .no]) (by rfl)]
    rw [mSeq_next (ρ' := [.dat (.int n), .dat (.int t), .dat (stD down sp), .dat (.tup (down.map .int)), .dat (plcD sp), .own (.lst ((enumD 0 (sp.map optD)).map evF)), .no, .no]) (by unfold mNew mDo; rw [ev_lc]; rfl)]
    rw [mSeq_next (by rw [mFor_next (ds := (rng n.toNat).map .int) (ρ1 := [.dat (.int n), .dat (.int t), .dat (stD down sp), .dat (.tup (down.map .int)), .dat (plcD sp), .own (.lst ((enumD 0 (sp.map optD)).map evF)), .no, .no]) (by exact range_ok rfl (by omega) (by omega))]; exact e)]
    rfl
  have h' : b_law_events (initC 8 [] [.int n, .int t, stD down sp]) = .ret (.lst evs) [.dat (.int n), .dat (.int t), .dat (stD down sp), .dat (.tup (down.map .int)), .dat (plcD sp), .dat (.lst evs), .no, c] := fin
  unfold m_law_events
  rw [mkFn_ret h']
  rfl
/-! ### one event, then many -/
theorem e_after (hI : SInv t rows down sp) (hrow : ∀ r ∈ rows, RowOk n r) (ht : t ≤ 1000) {e : D} (he : EvOk t down sp e) : ∃ down' sp', m_law_after [(.lst (rows.map rowD)), stD down sp, e] = .ret (stD down' sp') [] ∧ SInv t rows down' sp' := by
  have hnd : ∀ r ∈ rows, r.Nodup := fun r hr => (hrow r hr).2.2.1
  cases he with
  | ended i v h1 => exact ⟨_, _, e_after_end hrow hI.len (List.getElem?_eq_some_iff.mp h1).1, hI.clear i⟩
  | begun i h1 => exact ⟨_, _, e_after_begin hrow hI.len (List.getElem?_eq_some_iff.mp h1).1, hI.move hnd h1⟩
  | up h h1 =>
    obtain ⟨down2, e, q1, q2, _⟩ := e_after_up (sp := sp) hrow hI.len h1
    exact ⟨_, _, e, hI.sub q1 q2⟩
  | down h h1 h2 =>
    have := hI.dl
    exact ⟨_, _, e_after_down hrow hI.len (by omega), hI.goesDown hnd (sortI_perm _) h2⟩
theorem evs_ne {evs : List D} (he : ∀ e ∈ evs, EvOk t down sp e) : sNe (.lst evs) (.lst []) = some (.bl (!decide (evs = []))) := by
  have h1 : PyData.canLayAll0 (toPys evs) = true := by
    induction evs with
    | nil => rfl
    | cons e evs ih =>
      have ih := ih fun x hx => he x (List.mem_cons_of_mem _ hx)
      have h0 := he e List.mem_cons_self
      rw [toPys]
      unfold PyData.canLayAll0
      rw [ih]
      cases h0 <;> simp [toPy, toPys, PyData.canLay0, PyData.canLayAll0, so_end, so_begin, so_up, so_down]
  cases evs with
  | nil => rfl
  | cons e evs =>
    simp [sNe, plain, toPy, toPys, PyData.canLay0, h1, PyData.depth, PyData.depthAll, eqD, PyData.eqv, PyData.eqvAll] at h1 ⊢
    simp [h1, PyData.canLayAll0]
theorem u_body (hF : FarmOk n rows) (t0 : 0 ≤ t) (t1 : t ≤ n) {k : Int} (a b d : Int) (hI : SInv t rows down sp) (c u : Cell) : ∃ a' b' d' down' sp' u', (mSeq (mAsg (mCallF m_law_events [(.dat (mVar 4)), (.dat (mVar 6)), (.dat (mVar 2))]) (gNm 8)) (mIfS (mB (mOp2 sNe (.dat (mVar 8)) (.dat (mLst [])))) (mAsg (mCallF m_law_after [(.dat (mVar 5)), (.dat (mVar 2)), (.dat (mOp2 sIx (.dat (mVar 8)) (.dat (mCallF m_law_draw [(.own 0), (.dat (mCall sLen [(.dat (mVar 8))]))]))))]) (gNm 2)) mSkip)) [.own (wellD a b d), .dat (partsD n rows t), .dat (stD (down) (sp)), .dat (.int k), .dat (.int n), .dat (.lst (rows.map rowD)), .dat (.int t), c, u] = .next [.own (wellD a' b' d'), .dat (partsD n rows t), .dat (stD (down') (sp')), .dat (.int k), .dat (.int n), .dat (.lst (rows.map rowD)), .dat (.int t), c, u'] ∧ SInv t rows down' sp' := by
  have n2 := hF.n2
  obtain ⟨evs, e1, e2, e3⟩ := e_events (n := n) (t := t) (down := down) (sp := sp) hF.n1 hF.n2 t0 (by rw [hI.len]; exact hF.len)
  have s1 : mAsg (mCallF m_law_events [(.dat (mVar 4)), (.dat (mVar 6)), (.dat (mVar 2))]) (gNm 8) [.own (wellD a b d), .dat (partsD n rows t), .dat (stD (down) (sp)), .dat (.int k), .dat (.int n), .dat (.lst (rows.map rowD)), .dat (.int t), c, u] = .next [.own (wellD a b d), .dat (partsD n rows t), .dat (stD (down) (sp)), .dat (.int k), .dat (.int n), .dat (.lst (rows.map rowD)), .dat (.int t), c, .dat (.lst evs)] := mAsg_ok (callF3 rfl rfl rfl e1) rfl
  have s2 : mB (mOp2 sNe (.dat (mVar 8)) (.dat (mLst []))) [.own (wellD a b d), .dat (partsD n rows t), .dat (stD (down) (sp)), .dat (.int k), .dat (.int n), .dat (.lst (rows.map rowD)), .dat (.int t), c, .dat (.lst evs)] = .ok (!decide (evs = [])) [.own (wellD a b d), .dat (partsD n rows t), .dat (stD (down) (sp)), .dat (.int k), .dat (.int n), .dat (.lst (rows.map rowD)), .dat (.int t), c, .dat (.lst evs)] := mB_ok (mOp2_dd (x := .lst evs) (y := .lst []) rfl rfl (evs_ne e2))
  by_cases hz : evs = []
  · rw [decide_eq_true hz] at s2
    refine ⟨a, b, d, down, sp, .dat (.lst evs), ?_, hI⟩
    rw [mSeq_next s1, mIfS_f s2]
    rfl
  · rw [decide_eq_false hz] at s2
    have hp := List.length_pos_iff.mpr hz
    obtain ⟨r, a', b', d', e4, r0, r1⟩ := e_draw a b d (lim := (evs.length : Int)) (by omega) (by omega)
    have hr : r.toNat < evs.length := by omega
    have hat : evs[r.toNat]? = some evs[r.toNat] := List.getElem?_eq_getElem hr
    obtain ⟨down', sp', e5, hI'⟩ := e_after (n := n) hI hF.row (by omega) (e2 _ (List.getElem_mem hr))
    have q : sIx (.lst evs) (.int r) = some evs[r.toNat] := by
      have := atI_nat evs r.toNat
      rw [Int.toNat_of_nonneg r0, hat] at this
      exact this
    refine ⟨a', b', d', down', sp', .dat (.lst evs), ?_, hI'⟩
    rw [mSeq_next s1, mIfS_t s2]
    have s3 : mCallF m_law_after [(.dat (mVar 5)), (.dat (mVar 2)), (.dat (mOp2 sIx (.dat (mVar 8)) (.dat (mCallF m_law_draw [(.own 0), (.dat (mCall sLen [(.dat (mVar 8))]))]))))] [.own (wellD a b d), .dat (partsD n rows t), .dat (stD (down) (sp)), .dat (.int k), .dat (.int n), .dat (.lst (rows.map rowD)), .dat (.int t), c, .dat (.lst evs)] = .ok (stD down' sp') [.own (wellD a' b' d'), .dat (partsD n rows t), .dat (stD (down) (sp)), .dat (.int k), .dat (.int n), .dat (.lst (rows.map rowD)), .dat (.int t), c, .dat (.lst evs)] := by
      have g : mOp2 sIx (.dat (mVar 8)) (.dat (mCallF m_law_draw [(.own 0), (.dat (mCall sLen [(.dat (mVar 8))]))])) [.own (wellD a b d), .dat (partsD n rows t), .dat (stD (down) (sp)), .dat (.int k), .dat (.int n), .dat (.lst (rows.map rowD)), .dat (.int t), c, .dat (.lst evs)] = .ok evs[r.toNat] [.own (wellD a' b' d'), .dat (partsD n rows t), .dat (stD (down) (sp)), .dat (.int k), .dat (.int n), .dat (.lst (rows.map rowD)), .dat (.int t), c, .dat (.lst evs)] := mOp2_dd (x := .lst evs) (y := .int r) rfl (callO2 (call1 (f := mVar 8) rfl (by simp [sLen])) e4) q
      exact callF3' rfl rfl g e5
    exact mAsg_ok s3 rfl
theorem e_run (hF : FarmOk n rows) (t0 : 0 ≤ t) (t1 : t ≤ n) {k : Int} (k0 : 0 ≤ k) (k1 : k ≤ 1000) (a b d : Int) (hI : SInv t rows down sp) : ∃ a' b' d' down' sp', m_law_run [wellD a b d, partsD n rows t, stD down sp, .int k] = .ret (stD down' sp') [wellD a' b' d'] ∧ SInv t rows down' sp' := by
  obtain ⟨ρ', e, a2, b2, d2, down2, sp2, c, u, hρ, hI2⟩ := loop_inv (g := gNm 7) (body := (mSeq (mAsg (mCallF m_law_events [(.dat (mVar 4)), (.dat (mVar 6)), (.dat (mVar 2))]) (gNm 8)) (mIfS (mB (mOp2 sNe (.dat (mVar 8)) (.dat (mLst [])))) (mAsg (mCallF m_law_after [(.dat (mVar 5)), (.dat (mVar 2)), (.dat (mOp2 sIx (.dat (mVar 8)) (.dat (mCallF m_law_draw [(.own 0), (.dat (mCall sLen [(.dat (mVar 8))]))]))))]) (gNm 2)) mSkip))) (fun _ ρ => ∃ (a b d : Int) (down : List Int) (sp : List (Option Int)) (c u : Cell), ρ = [.own (wellD a b d), .dat (partsD n rows t), .dat (stD (down) (sp)), .dat (.int k), .dat (.int n), .dat (.lst (rows.map rowD)), .dat (.int t), c, u] ∧ SInv t rows down sp) ((rng k.toNat).map .int) 0 [.own (wellD a b d), .dat (partsD n rows t), .dat (stD (down) (sp)), .dat (.int k), .dat (.int n), .dat (.lst (rows.map rowD)), .dat (.int t), .no, .no] ⟨a, b, d, down, sp, .no, .no, rfl, hI⟩
    (fun i dd ρ hd ⟨a, b, d, down, sp, c, u, hρ, hI⟩ => by
      subst hρ
      obtain ⟨a', b', d', down', sp', u', e, hI'⟩ := u_body (k := k) hF t0 t1 a b d hI (.dat dd) u
      exact ⟨[.own (wellD a b d), .dat (partsD n rows t), .dat (stD (down) (sp)), .dat (.int k), .dat (.int n), .dat (.lst (rows.map rowD)), .dat (.int t), .dat dd, u], rfl, _, e, a', b', d', down', sp', _, u', rfl, hI'⟩)
  subst hρ
  refine ⟨a2, b2, d2, down2, sp2, ?_, hI2⟩
  have fin : b_law_run [.own (wellD a b d), .dat (partsD n rows t), .dat (stD down sp), .dat (.int k), .no, .no, .no, .no, .no] = .ret (stD down2 sp2) [.own (wellD a2 b2 d2), .dat (partsD n rows t), .dat (stD (down2) (sp2)), .dat (.int k), .dat (.int n), .dat (.lst (rows.map rowD)), .dat (.int t), c, u] := by
    unfold b_law_run
    rw [mSeq_next (ρ' := [.own (wellD a b d), .dat (partsD n rows t), .dat (stD (down) (sp)), .dat (.int k), .dat (.int n), .dat (.lst (rows.map rowD)), .dat (.int t), .no, .no]) (by rfl)]
    rw [mSeq_next (by rw [mFor_next (ds := (rng k.toNat).map .int) (ρ1 := [.own (wellD a b d), .dat (partsD n rows t), .dat (stD (down) (sp)), .dat (.int k), .dat (.int n), .dat (.lst (rows.map rowD)), .dat (.int t), .no, .no]) (by exact range_ok rfl (by omega) (by omega))]; exact e)]
    rfl
  have h' : b_law_run (initC 9 [0] [wellD a b d, partsD n rows t, stD down sp, .int k]) = .ret (stD down2 sp2) [.own (wellD a2 b2 d2), .dat (partsD n rows t), .dat (stD (down2) (sp2)), .dat (.int k), .dat (.int n), .dat (.lst (rows.map rowD)), .dat (.int t), c, u] := by
    rw [show initC 9 [0] [wellD a b d, partsD n rows t, stD down sp, .int k] = [.own (wellD a b d), .dat (partsD n rows t), .dat (stD down sp), .dat (.int k), .no, .no, .no, .no, .no] from rfl]
    exact fin
  unfold m_law_run
  rw [mkFn_ret h']
  rfl
/-! ### drawn placements -/
theorem ix_in {r : List Int} {i : Int} (h0 : 0 ≤ i) (h1 : i < r.length) : ∃ v ∈ r, sIx (rowD r) (.int i) = some (.int v) := by
  have hi : i.toNat < r.length := by omega
  refine ⟨r[i.toNat], List.getElem_mem hi, ?_⟩
  have := atI_nat (r.map D.int) i.toNat
  rw [Int.toNat_of_nonneg h0, List.getElem?_map, List.getElem?_eq_getElem hi] at this
  exact this
theorem s_body (a b d : Int) {r : List Int} (hr : r ≠ []) (hl : r.length ≤ 4000) {f : List (Option Int)} (hf : f.length ≤ 1000) (s : Cell) : ∃ a' b' d' o s', (mSeq (mAsg (mLst [(M.pure .non), (mOp2 sIx (.dat (mVar 3)) (.dat (M.pure (.int 0)))), (mOp2 sIx (.dat (mVar 3)) (.dat (mCallF m_law_draw [(.own 0), (.dat (mCall sLen [(.dat (mVar 3))]))]))), (mOp2 sIx (.dat (mVar 3)) (.dat (mCall sMin [(.dat (M.pure (.int 1))), (.dat (mOp2 sSub (.dat (mCall sLen [(.dat (mVar 3))])) (.dat (M.pure (.int 1)))))]))), (mOp2 sIx (.dat (mVar 3)) (.dat (mCallF m_law_draw [(.own 0), (.dat (mCall sLen [(.dat (mVar 3))]))])))]) (gNm 4)) (mExpr (mMethWR wAppend 2 [(mOp2 sIx (.dat (mVar 4)) (.dat (mCallF m_law_draw [(.own 0), (.dat (M.pure (.int 5)))])))]))) [.own (wellD a b d), .dat (.lst (rows.map rowD)), .own (.lst (List.map optD f)), .dat (rowD r), s] = .next [.own (wellD a' b' d'), .dat (.lst (rows.map rowD)), .own (.lst (List.map optD (f ++ [o]))), .dat (rowD r), s'] ∧ ∀ v : Int, o = some v → v ∈ r := by
  have hp := List.length_pos_iff.mpr hr
  obtain ⟨i1, a1, b1, d1, e1, p1, p2⟩ := e_draw a b d (lim := (r.length : Int)) (by omega) (by omega)
  obtain ⟨i2, a2, b2, d2, e2, p3, p4⟩ := e_draw a1 b1 d1 (lim := (r.length : Int)) (by omega) (by omega)
  obtain ⟨i3, a3, b3, d3, e3, p5, p6⟩ := e_draw a2 b2 d2 (lim := 5) (by omega) (by omega)
  obtain ⟨v0, m0, x0⟩ := ix_in (r := r) (i := 0) (by omega) (by omega)
  obtain ⟨v1, m1, x1⟩ := ix_in (r := r) (i := i1) p1 p2
  obtain ⟨v2, m2, x2⟩ := ix_in (r := r) (i := if (r.length : Int) - 1 < 1 then (r.length : Int) - 1 else 1) (by split <;> omega) (by split <;> omega)
  obtain ⟨v3, m3, x3⟩ := ix_in (r := r) (i := i2) p3 p4
  have ln : sLen [rowD r] = some (.int (r.length : Nat)) := by simp [sLen, rowD]
  have g1 : mAsg (mLst [(M.pure .non), (mOp2 sIx (.dat (mVar 3)) (.dat (M.pure (.int 0)))), (mOp2 sIx (.dat (mVar 3)) (.dat (mCallF m_law_draw [(.own 0), (.dat (mCall sLen [(.dat (mVar 3))]))]))), (mOp2 sIx (.dat (mVar 3)) (.dat (mCall sMin [(.dat (M.pure (.int 1))), (.dat (mOp2 sSub (.dat (mCall sLen [(.dat (mVar 3))])) (.dat (M.pure (.int 1)))))]))), (mOp2 sIx (.dat (mVar 3)) (.dat (mCallF m_law_draw [(.own 0), (.dat (mCall sLen [(.dat (mVar 3))]))])))]) (gNm 4) [.own (wellD a b d), .dat (.lst (rows.map rowD)), .own (.lst (List.map optD f)), .dat (rowD r), s] = .next [.own (wellD a2 b2 d2), .dat (.lst (rows.map rowD)), .own (.lst (List.map optD f)), .dat (rowD r), .dat (.lst [.non, .int v0, .int v1, .int v2, .int v3])] := by
    have h1 : mOp2 sIx (.dat (mVar 3)) (.dat (M.pure (.int 0))) [.own (wellD a b d), .dat (.lst (rows.map rowD)), .own (.lst (List.map optD f)), .dat (rowD r), s] = .ok (.int v0) [.own (wellD a b d), .dat (.lst (rows.map rowD)), .own (.lst (List.map optD f)), .dat (rowD r), s] := mOp2_dd (x := rowD r) (y := .int 0) rfl rfl x0
    have h2 : mOp2 sIx (.dat (mVar 3)) (.dat (mCallF m_law_draw [(.own 0), (.dat (mCall sLen [(.dat (mVar 3))]))])) [.own (wellD a b d), .dat (.lst (rows.map rowD)), .own (.lst (List.map optD f)), .dat (rowD r), s] = .ok (.int v1) [.own (wellD a1 b1 d1), .dat (.lst (rows.map rowD)), .own (.lst (List.map optD f)), .dat (rowD r), s] := mOp2_dd (x := rowD r) (y := .int i1) rfl (callO2 (call1 (f := mVar 3) rfl ln) e1) x1
    have h3 : mOp2 sIx (.dat (mVar 3)) (.dat (mCall sMin [(.dat (M.pure (.int 1))), (.dat (mOp2 sSub (.dat (mCall sLen [(.dat (mVar 3))])) (.dat (M.pure (.int 1)))))])) [.own (wellD a1 b1 d1), .dat (.lst (rows.map rowD)), .own (.lst (List.map optD f)), .dat (rowD r), s] = .ok (.int v2) [.own (wellD a1 b1 d1), .dat (.lst (rows.map rowD)), .own (.lst (List.map optD f)), .dat (rowD r), s] := mOp2_dd (x := rowD r) (y := .int (if (r.length : Int) - 1 < 1 then (r.length : Int) - 1 else 1)) rfl (call1_ok (a := .int 1) (b := .int ((r.length : Int) - 1)) rfl (mOp2_dd (call1 (f := mVar 3) rfl ln) (y := .int 1) rfl rfl) rfl) x2
    have h4 : mOp2 sIx (.dat (mVar 3)) (.dat (mCallF m_law_draw [(.own 0), (.dat (mCall sLen [(.dat (mVar 3))]))])) [.own (wellD a1 b1 d1), .dat (.lst (rows.map rowD)), .own (.lst (List.map optD f)), .dat (rowD r), s] = .ok (.int v3) [.own (wellD a2 b2 d2), .dat (.lst (rows.map rowD)), .own (.lst (List.map optD f)), .dat (rowD r), s] := mOp2_dd (x := rowD r) (y := .int i2) rfl (callO2 (call1 (f := mVar 3) rfl ln) e2) x3
    have h5 : (mLst [(M.pure .non), (mOp2 sIx (.dat (mVar 3)) (.dat (M.pure (.int 0)))), (mOp2 sIx (.dat (mVar 3)) (.dat (mCallF m_law_draw [(.own 0), (.dat (mCall sLen [(.dat (mVar 3))]))]))), (mOp2 sIx (.dat (mVar 3)) (.dat (mCall sMin [(.dat (M.pure (.int 1))), (.dat (mOp2 sSub (.dat (mCall sLen [(.dat (mVar 3))])) (.dat (M.pure (.int 1)))))]))), (mOp2 sIx (.dat (mVar 3)) (.dat (mCallF m_law_draw [(.own 0), (.dat (mCall sLen [(.dat (mVar 3))]))])))]) [.own (wellD a b d), .dat (.lst (rows.map rowD)), .own (.lst (List.map optD f)), .dat (rowD r), s] = .ok (.lst [.non, .int v0, .int v1, .int v2, .int v3]) [.own (wellD a2 b2 d2), .dat (.lst (rows.map rowD)), .own (.lst (List.map optD f)), .dat (rowD r), s] := by
      unfold mLst M.bind
      simp only [seqM, M.bind, h1, h2, h3, h4, Out.andThen, M.pure]
    exact mAsg_ok h5 rfl
  have hpick : ∃ o : Option Int, sIx (.lst [.non, .int v0, .int v1, .int v2, .int v3]) (.int i3) = some (optD o) ∧ ∀ v : Int, o = some v → v ∈ r := by
    have hr : i3 = 0 ∨ i3 = 1 ∨ i3 = 2 ∨ i3 = 3 ∨ i3 = 4 := by omega
    rcases hr with rfl | rfl | rfl | rfl | rfl
    · exact ⟨none, atI_nat [D.non, .int v0, .int v1, .int v2, .int v3] 0, fun v h => nomatch h⟩
    · exact ⟨some v0, atI_nat [D.non, .int v0, .int v1, .int v2, .int v3] 1, fun v h => by cases h; exact m0⟩
    · exact ⟨some v1, atI_nat [D.non, .int v0, .int v1, .int v2, .int v3] 2, fun v h => by cases h; exact m1⟩
    · exact ⟨some v2, atI_nat [D.non, .int v0, .int v1, .int v2, .int v3] 3, fun v h => by cases h; exact m2⟩
    · exact ⟨some v3, atI_nat [D.non, .int v0, .int v1, .int v2, .int v3] 4, fun v h => by cases h; exact m3⟩
  obtain ⟨o, ho, hov⟩ := hpick
  refine ⟨a3, b3, d3, o, .dat (.lst [.non, .int v0, .int v1, .int v2, .int v3]), ?_, hov⟩
  rw [mSeq_next g1]
  have g2 : mOp2 sIx (.dat (mVar 4)) (.dat (mCallF m_law_draw [(.own 0), (.dat (M.pure (.int 5)))])) [.own (wellD a2 b2 d2), .dat (.lst (rows.map rowD)), .own (.lst (List.map optD f)), .dat (rowD r), .dat (.lst [.non, .int v0, .int v1, .int v2, .int v3])] = .ok (optD o) [.own (wellD a3 b3 d3), .dat (.lst (rows.map rowD)), .own (.lst (List.map optD f)), .dat (rowD r), .dat (.lst [.non, .int v0, .int v1, .int v2, .int v3])] := mOp2_dd (x := .lst [.non, .int v0, .int v1, .int v2, .int v3]) (y := .int i3) rfl (callO2 rfl e3) ho
  have g3 : wAppend (.lst (f.map optD)) [optD o] = some (.non, .lst ((f ++ [o]).map optD)) := by
    have q : (f.map optD).length < 16777216 := by rw [List.length_map]; omega
    show (if (f.map optD).length < 16777216 then some (D.non, D.lst (f.map optD ++ [optD o])) else none) = _
    rw [if_pos q, List.map_append]
    rfl
  have g4 := mMethWR1 (sem := wAppend) (i := 2) (x0 := f.map optD) (ρ := [.own (wellD a2 b2 d2), .dat (.lst (rows.map rowD)), .own (.lst (List.map optD f)), .dat (rowD r), .dat (.lst [.non, .int v0, .int v1, .int v2, .int v3])]) rfl g2 rfl g3
  exact exprF g4
theorem e_spots (a b d : Int) (hrow : ∀ r ∈ rows, RowOk n r) (hl : rows.length ≤ 60) : ∃ a' b' d' p, m_law_spots [wellD a b d, (.lst (rows.map rowD))] = .ret (plcD p) [wellD a' b' d'] ∧ p.length = rows.length ∧ PlOk rows p := by
  obtain ⟨ρ', e1, a', b', d', p, x, y, e2, hp, hok⟩ := loop_inv (g := gNm 3) (body := (mSeq (mAsg (mLst [(M.pure .non), (mOp2 sIx (.dat (mVar 3)) (.dat (M.pure (.int 0)))), (mOp2 sIx (.dat (mVar 3)) (.dat (mCallF m_law_draw [(.own 0), (.dat (mCall sLen [(.dat (mVar 3))]))]))), (mOp2 sIx (.dat (mVar 3)) (.dat (mCall sMin [(.dat (M.pure (.int 1))), (.dat (mOp2 sSub (.dat (mCall sLen [(.dat (mVar 3))])) (.dat (M.pure (.int 1)))))]))), (mOp2 sIx (.dat (mVar 3)) (.dat (mCallF m_law_draw [(.own 0), (.dat (mCall sLen [(.dat (mVar 3))]))])))]) (gNm 4)) (mExpr (mMethWR wAppend 2 [(mOp2 sIx (.dat (mVar 4)) (.dat (mCallF m_law_draw [(.own 0), (.dat (M.pure (.int 5)))])))]))))
    (fun k ρ => ∃ (a b d : Int) (p : List (Option Int)) (x y : Cell), ρ = [.own (wellD a b d), .dat (.lst (rows.map rowD)), .own (.lst (p.map optD)), x, y] ∧ p.length = k ∧ PlOk rows p) (rows.map rowD) 0 _ ⟨a, b, d, [], .no, .no, rfl, rfl, fun s v h => by simp at h⟩
    (fun i dd ρ hd ⟨a, b, d, p, x, y, e, hp, hok⟩ => by
      subst e
      rw [Nat.zero_add] at hp ⊢
      rw [List.getElem?_map] at hd
      cases hr : rows[i]? with
      | none => rw [hr] at hd; cases hd
      | some r =>
        rw [hr] at hd
        cases hd
        have hi := (List.getElem?_eq_some_iff.mp hr).1
        obtain ⟨r1, r2, r3, r4⟩ := hrow r (List.mem_of_getElem? hr)
        obtain ⟨a', b', d', o, s', e, ho⟩ := s_body (rows := rows) a b d r1 r4 (f := p) (by omega) y
        refine ⟨[.own (wellD a b d), .dat (.lst (rows.map rowD)), .own (.lst (p.map optD)), .dat (rowD r), y], rfl, _, e, a', b', d', p ++ [o], _, _, rfl, by simp [hp], fun s v hs => ?_⟩
        by_cases hs2 : s < p.length
        · rw [List.getElem?_append_left hs2] at hs
          exact hok s v hs
        · rw [List.getElem?_append_right (by omega)] at hs
          have hs3 : s = p.length := by
            have := (List.getElem?_eq_some_iff.mp hs).1
            simp at this
            omega
          subst hs3
          rw [Nat.sub_self] at hs
          have hs : o = some v := by simpa using hs
          exact ⟨r, by rw [hp]; exact hr, ho v hs⟩)
  refine ⟨a', b', d', p, ?_, by rw [hp]; simp, hok⟩
  subst e2
  have fin : b_law_spots [.own (wellD a b d), .dat (.lst (rows.map rowD)), .no, .no, .no] = .ret (plcD p) [.own (wellD a' b' d'), .dat (.lst (rows.map rowD)), .own (.lst (p.map optD)), x, y] := by
    unfold b_law_spots
    rw [mSeq_next (ρ' := [.own (wellD a b d), .dat (.lst (rows.map rowD)), .own (.lst (([] : List (Option Int)).map optD)), .no, .no]) (by rfl)]
    rw [mSeq_next (by rw [mFor_next (ds := rows.map rowD) (ρ1 := [.own (wellD a b d), .dat (.lst (rows.map rowD)), .own (.lst (([] : List (Option Int)).map optD)), .no, .no]) (by rfl)]; exact e1)]
    rfl
  have h' : b_law_spots (initC 5 [0] [wellD a b d, (.lst (rows.map rowD))]) = .ret (plcD p) [.own (wellD a' b' d'), .dat (.lst (rows.map rowD)), .own (.lst (p.map optD)), x, y] := by
    rw [show initC 5 [0] [wellD a b d, (.lst (rows.map rowD))] = [.own (wellD a b d), .dat (.lst (rows.map rowD)), .no, .no, .no] from rfl]
    exact fin
  unfold m_law_spots
  rw [mkFn_ret h']
  rfl
end
end Fx
set_option Elab.async false
set_option linter.all false
set_option maxRecDepth 100000
set_option maxHeartbeats 1000000
namespace Fx
open PySem L2
theorem OrdRes.same {t : Int} {rows : List (List Int)} {p : List (Option Int)} {st : List Int} {r : D} (h : OrdRes t rows p st r) : sNe r r = some (.bl false) := by
  cases h with
  | far s _ => exact sNe_words so_far [s]
  | held s o _ _ _ => exact sNe_words so_held [s, o]
  | order os _ _ _ _ => exact sNe_wtup so_order os
  | ring q _ _ _ _ => exact sNe_wtup so_ring q
theorem callO4 {F : Fn} {f g k : M D} {W W1 W2 W3 W' a b c d : D} {ρ : Cells} (h1 : f (.own W :: ρ) = .ok a (.own W1 :: ρ)) (h2 : g (.own W1 :: ρ) = .ok b (.own W2 :: ρ)) (h3 : k (.own W2 :: ρ) = .ok c (.own W3 :: ρ)) (h : F [W3, a, b, c] = .ret d [W']) : mCallF F [.own 0, .dat f, .dat g, .dat k] (.own W :: ρ) = .ok d (.own W' :: ρ) := by
  unfold mCallF
  simp [preL, cellD, M.bind, Opn.pre, h1, h2, h3, Out.andThen, M.pure, rdA, Opn.rd, setOuts, ownSlots, h]
/-- a comprehension whose test draws: some of the items -/
theorem lcM_some {g : TgM} {tt : M Bool} {fe : M D} {vs : List Nat} (I : Cells → Prop) : ∀ (xs : List Int) (ρ : Cells), I ρ →
    (∀ x ∈ xs, ∀ ρ, I ρ → ∃ ρ1 b ρ2, g (.int x) (wipeC ρ vs) = some ρ1 ∧ tt ρ1 = .ok b ρ2 ∧ (b = true → fe ρ2 = .ok (.int x) ρ2) ∧ I ρ2) →
    ∃ (ys : List Int) (ρ' : Cells), lcM g tt fe vs (xs.map .int) ρ = some (ys.map D.int, ρ') ∧ ys.Sublist xs ∧ I ρ'
  | [], ρ, hI, _ => ⟨[], ρ, rfl, List.Sublist.refl _, hI⟩
  | x :: xs, ρ, hI, h => by
    obtain ⟨ρ1, b, ρ2, h1, h2, h3, h4⟩ := h x List.mem_cons_self ρ hI
    obtain ⟨ys, ρ', q1, q2, q3⟩ := lcM_some I xs ρ2 h4 fun y hy => h y (List.mem_cons_of_mem _ hy)
    cases hb : b with
    | true =>
      refine ⟨x :: ys, ρ', ?_, q2.cons_cons x, q3⟩
      rw [List.map_cons]
      unfold lcM
      simp only [h1, h2, hb, if_true, h3 hb, q1]
      rfl
    | false =>
      refine ⟨ys, ρ', ?_, q2.cons x, q3⟩
      rw [List.map_cons]
      unfold lcM
      simp only [h1, h2, hb]
      simpa using q1
theorem mLc_got {fi : M (List D)} {g : TgM} {tt : M Bool} {fe : M D} {vs : List Nat} {ρ ρ' : Cells} {ds es : List D} (hi : fi ρ = .ok ds ρ) (ho : vs.all (fun v => !isOwn ρ[v]?) = true) (h : lcM g tt fe vs ds ρ = some (es, ρ')) : mLc fi g tt fe vs ρ = .ok (.lst es) (unwipe ρ ρ' vs) := by
  unfold mLc M.bind
  rw [hi]
  show (if vs.all (fun v => !isOwn ρ[v]?) = true then _ else _) = _
  rw [if_pos ho, h]
theorem revT_ok {f : M D} {ρ : Cells} {l : List Int} (h : f ρ = .ok (D.tup (List.map D.int l)) ρ) : mRev sRevT (.dat f) ρ = .ok (D.tup (List.map D.int l.reverse)) ρ := by
  have q : sRevT (D.tup (List.map D.int l)) = some (D.tup (List.map D.int l.reverse)) := by
    show some (D.tup (List.map D.int l).reverse) = _
    rw [List.map_reverse]
  unfold mRev M.bind
  simp only [Opn.pre, h, Out.andThen, rdM, Opn.rd, M.lift, q]
theorem call1g {sem : List D → Option D} {f : M D} {ρ ρ1 : Cells} {a d : D} (h1 : f ρ = .ok a ρ1) (h : sem [a] = some d) : mCall sem [.dat f] ρ = .ok d ρ1 := by
  unfold mCall
  simp [preL, M.bind, Opn.pre, h1, Out.andThen, M.pure, rdLM, Opn.rd, rdL, rdM, M.lift, h]
section
variable {n t z : Int} {rows : List (List Int)} {sp : List (Option Int)}
theorem t_body (hF : FarmOk n rows) (t0 : 0 ≤ t) (t1 : t ≤ n) {p : List (Option Int)} (hl : p.length = rows.length) (hok : PlOk rows p) {st : List Int} (hst : StOk p st) (w : D) (h5 b7 c10 : Cell) :
    ∃ c, (mSeq (mAsg (mCallK m_order_of (fun ds es => ds ++ es) [(mVar 3), (mVar 6)] [(mVar 9)]) (gNm 10)) (mSeq (mIfS (mNot (mB (mCallF m_law_told_right [(.dat (mVar 2)), (.dat (mVar 6)), (.dat (mVar 9)), (.dat (mVar 10))]))) (mRet (M.pure (.bl false))) mSkip) (mSeq (mIfS (mNot (mB (mCallF m_law_told_right [(.dat (mVar 2)), (.dat (mVar 6)), (.dat (mVar 9)), (.dat (mCallK m_order_of (fun ds es => ds ++ es) [(mVar 3), (mVar 6)] [(mRev sRevT (.dat (mVar 9)))]))]))) (mRet (M.pure (.bl false))) mSkip) (mIfS (mB (mOp2 sNe (.dat (mCallK m_order_of (fun ds es => ds ++ es) [(mMake m_Farmdd_initdd [(mOp2 sIx (.dat (mVar 2)) (.dat (M.pure (.int 0)))), (mCall sList [(.dat (mOp2 sIx (.dat (mVar 2)) (.dat (M.pure (.int 1)))))]), (mOp2 sIx (.dat (mVar 2)) (.dat (M.pure (.int 2))))]), (mVar 6)] [(mVar 9)])) (.dat (mVar 10)))) (mRet (M.pure (.bl false))) mSkip)))) [.own (w), .dat (.int z), .dat (partsD n rows t), .dat (farmD n rows t), .dat (stD [] sp), h5, .dat (plcD p), b7, .no, .dat (D.tup (List.map D.int st)), c10] = .next [.own (w), .dat (.int z), .dat (partsD n rows t), .dat (farmD n rows t), .dat (stD [] sp), h5, .dat (plcD p), b7, .no, .dat (D.tup (List.map D.int st)), c] := by
  have hlp : rows.length ≤ 1000 := by have := hF.len; omega
  obtain ⟨r, e1, r1⟩ := e_order (n := n) (t := t) hl hlp hok hF.row hst
  have hst2 : StOk p st.reverse := ⟨(List.reverse_perm st).nodup_iff.mpr hst.nd, fun v hv => hst.mem v (by simpa using hv)⟩
  obtain ⟨r2, e2, r3⟩ := e_order (n := n) (t := t) hl hlp hok hF.row hst2
  have r4 := r3.turn (List.reverse_perm st)
  have e3 := e_told (n := n) hok hst (by omega) r1
  have e4 := e_told (n := n) hok hst (by omega) r4
  have e5 := e_make hF.n1 hF.n2 hF.len hF.row t0 t1
  have g1 : mAsg (mCallK m_order_of (fun ds es => ds ++ es) [(mVar 3), (mVar 6)] [(mVar 9)]) (gNm 10) [.own (w), .dat (.int z), .dat (partsD n rows t), .dat (farmD n rows t), .dat (stD [] sp), h5, .dat (plcD p), b7, .no, .dat (D.tup (List.map D.int st)), c10] = .next [.own (w), .dat (.int z), .dat (partsD n rows t), .dat (farmD n rows t), .dat (stD [] sp), h5, .dat (plcD p), b7, .no, .dat (D.tup (List.map D.int st)), .dat r] := mAsg_ok (callKo rfl rfl rfl e1) rfl
  have g2 : mNot (mB (mCallF m_law_told_right [(.dat (mVar 2)), (.dat (mVar 6)), (.dat (mVar 9)), (.dat (mVar 10))])) [.own (w), .dat (.int z), .dat (partsD n rows t), .dat (farmD n rows t), .dat (stD [] sp), h5, .dat (plcD p), b7, .no, .dat (D.tup (List.map D.int st)), .dat r] = .ok false [.own (w), .dat (.int z), .dat (partsD n rows t), .dat (farmD n rows t), .dat (stD [] sp), h5, .dat (plcD p), b7, .no, .dat (D.tup (List.map D.int st)), .dat r] := not_ff (mB_ok (callF4 rfl rfl rfl rfl e3))
  have g3 : (mCallK m_order_of (fun ds es => ds ++ es) [(mVar 3), (mVar 6)] [(mRev sRevT (.dat (mVar 9)))]) [.own (w), .dat (.int z), .dat (partsD n rows t), .dat (farmD n rows t), .dat (stD [] sp), h5, .dat (plcD p), b7, .no, .dat (D.tup (List.map D.int st)), .dat r] = .ok r2 [.own (w), .dat (.int z), .dat (partsD n rows t), .dat (farmD n rows t), .dat (stD [] sp), h5, .dat (plcD p), b7, .no, .dat (D.tup (List.map D.int st)), .dat r] := callKo rfl rfl (revT_ok (f := mVar 9) rfl) e2
  have g4 : mNot (mB (mCallF m_law_told_right [(.dat (mVar 2)), (.dat (mVar 6)), (.dat (mVar 9)), (.dat (mCallK m_order_of (fun ds es => ds ++ es) [(mVar 3), (mVar 6)] [(mRev sRevT (.dat (mVar 9)))]))])) [.own (w), .dat (.int z), .dat (partsD n rows t), .dat (farmD n rows t), .dat (stD [] sp), h5, .dat (plcD p), b7, .no, .dat (D.tup (List.map D.int st)), .dat r] = .ok false [.own (w), .dat (.int z), .dat (partsD n rows t), .dat (farmD n rows t), .dat (stD [] sp), h5, .dat (plcD p), b7, .no, .dat (D.tup (List.map D.int st)), .dat r] := not_ff (mB_ok (callF4 rfl rfl rfl g3 e4))
  have p0 : mOp2 sIx (.dat (mVar 2)) (.dat (M.pure (.int 0))) [.own (w), .dat (.int z), .dat (partsD n rows t), .dat (farmD n rows t), .dat (stD [] sp), h5, .dat (plcD p), b7, .no, .dat (D.tup (List.map D.int st)), .dat r] = .ok (.int n) [.own (w), .dat (.int z), .dat (partsD n rows t), .dat (farmD n rows t), .dat (stD [] sp), h5, .dat (plcD p), b7, .no, .dat (D.tup (List.map D.int st)), .dat r] := mOp2_dd (x := partsD n rows t) (y := .int 0) rfl rfl (atI_nat [D.int n, (.lst (rows.map rowD)), .int t] 0)
  have p1 : mOp2 sIx (.dat (mVar 2)) (.dat (M.pure (.int 1))) [.own (w), .dat (.int z), .dat (partsD n rows t), .dat (farmD n rows t), .dat (stD [] sp), h5, .dat (plcD p), b7, .no, .dat (D.tup (List.map D.int st)), .dat r] = .ok (.lst (rows.map rowD)) [.own (w), .dat (.int z), .dat (partsD n rows t), .dat (farmD n rows t), .dat (stD [] sp), h5, .dat (plcD p), b7, .no, .dat (D.tup (List.map D.int st)), .dat r] := mOp2_dd (x := partsD n rows t) (y := .int 1) rfl rfl (atI_nat [D.int n, (.lst (rows.map rowD)), .int t] 1)
  have p2 : mOp2 sIx (.dat (mVar 2)) (.dat (M.pure (.int 2))) [.own (w), .dat (.int z), .dat (partsD n rows t), .dat (farmD n rows t), .dat (stD [] sp), h5, .dat (plcD p), b7, .no, .dat (D.tup (List.map D.int st)), .dat r] = .ok (.int t) [.own (w), .dat (.int z), .dat (partsD n rows t), .dat (farmD n rows t), .dat (stD [] sp), h5, .dat (plcD p), b7, .no, .dat (D.tup (List.map D.int st)), .dat r] := mOp2_dd (x := partsD n rows t) (y := .int 2) rfl rfl (atI_nat [D.int n, (.lst (rows.map rowD)), .int t] 2)
  have p3 : mCall sList [(.dat (mOp2 sIx (.dat (mVar 2)) (.dat (M.pure (.int 1)))))] [.own (w), .dat (.int z), .dat (partsD n rows t), .dat (farmD n rows t), .dat (stD [] sp), h5, .dat (plcD p), b7, .no, .dat (D.tup (List.map D.int st)), .dat r] = .ok (.lst (rows.map rowD)) [.own (w), .dat (.int z), .dat (partsD n rows t), .dat (farmD n rows t), .dat (stD [] sp), h5, .dat (plcD p), b7, .no, .dat (D.tup (List.map D.int st)), .dat r] := call1 p1 rfl
  have g5 : (mCallK m_order_of (fun ds es => ds ++ es) [(mMake m_Farmdd_initdd [(mOp2 sIx (.dat (mVar 2)) (.dat (M.pure (.int 0)))), (mCall sList [(.dat (mOp2 sIx (.dat (mVar 2)) (.dat (M.pure (.int 1)))))]), (mOp2 sIx (.dat (mVar 2)) (.dat (M.pure (.int 2))))]), (mVar 6)] [(mVar 9)]) [.own (w), .dat (.int z), .dat (partsD n rows t), .dat (farmD n rows t), .dat (stD [] sp), h5, .dat (plcD p), b7, .no, .dat (D.tup (List.map D.int st)), .dat r] = .ok r [.own (w), .dat (.int z), .dat (partsD n rows t), .dat (farmD n rows t), .dat (stD [] sp), h5, .dat (plcD p), b7, .no, .dat (D.tup (List.map D.int st)), .dat r] := callKo (make3 p0 p3 p2 e5) rfl rfl e1
  have g6 : mB (mOp2 sNe (.dat (mCallK m_order_of (fun ds es => ds ++ es) [(mMake m_Farmdd_initdd [(mOp2 sIx (.dat (mVar 2)) (.dat (M.pure (.int 0)))), (mCall sList [(.dat (mOp2 sIx (.dat (mVar 2)) (.dat (M.pure (.int 1)))))]), (mOp2 sIx (.dat (mVar 2)) (.dat (M.pure (.int 2))))]), (mVar 6)] [(mVar 9)])) (.dat (mVar 10))) [.own (w), .dat (.int z), .dat (partsD n rows t), .dat (farmD n rows t), .dat (stD [] sp), h5, .dat (plcD p), b7, .no, .dat (D.tup (List.map D.int st)), .dat r] = .ok false [.own (w), .dat (.int z), .dat (partsD n rows t), .dat (farmD n rows t), .dat (stD [] sp), h5, .dat (plcD p), b7, .no, .dat (D.tup (List.map D.int st)), .dat r] := mB_ok (mOp2_dd g5 (y := r) rfl r1.same)
  refine ⟨.dat r, ?_⟩
  rw [mSeq_next g1]
  rw [mSeq_next (ρ' := [.own (w), .dat (.int z), .dat (partsD n rows t), .dat (farmD n rows t), .dat (stD [] sp), h5, .dat (plcD p), b7, .no, .dat (D.tup (List.map D.int st)), .dat r]) (by rw [mIfS_f g2]; rfl)]
  rw [mSeq_next (ρ' := [.own (w), .dat (.int z), .dat (partsD n rows t), .dat (farmD n rows t), .dat (stD [] sp), h5, .dat (plcD p), b7, .no, .dat (D.tup (List.map D.int st)), .dat r]) (by rw [mIfS_f g4]; rfl)]
  rw [mIfS_f g6]
  rfl
theorem sub_st {p : List (Option Int)} {ys : List Int} (h : ys.Sublist (mvF [] 0 p)) : StOk p ys := ⟨(nd_mvF 0 p).sublist h, fun v hv => mv_pres (h.subset hv)⟩
theorem s_spots (hF : FarmOk n rows) (t0 : 0 ≤ t) (t1 : t ≤ n) {p : List (Option Int)} (hl : p.length = rows.length) (hok : PlOk rows p) (a b d : Int) (h5 : Option D) (b7 c9 c10 : Cell) :
    ∃ a' b' d' b7' c9' c10', (mSeq (mAsg (mLc (mEnum (mVar 6)) (gTp [8, 5]) (mB (mOp2 sNotN (.dat (mVar 5)) (.dat (M.pure .non)))) (mVar 8) [8, 5]) (gNm 7)) (mFor (mSeqI (mLst [(mTup []), (mCall sTuple [(.dat (mLc (mSeqI (mVar 7)) (gNm 8) (mB (mOp2 sEq (.dat (mCallF m_law_draw [(.own 0), (.dat (M.pure (.int 4)))])) (.dat (M.pure (.int 0))))) (mVar 8) [8]))])])) (gNm 9) (mSeq (mAsg (mCallK m_order_of (fun ds es => ds ++ es) [(mVar 3), (mVar 6)] [(mVar 9)]) (gNm 10)) (mSeq (mIfS (mNot (mB (mCallF m_law_told_right [(.dat (mVar 2)), (.dat (mVar 6)), (.dat (mVar 9)), (.dat (mVar 10))]))) (mRet (M.pure (.bl false))) mSkip) (mSeq (mIfS (mNot (mB (mCallF m_law_told_right [(.dat (mVar 2)), (.dat (mVar 6)), (.dat (mVar 9)), (.dat (mCallK m_order_of (fun ds es => ds ++ es) [(mVar 3), (mVar 6)] [(mRev sRevT (.dat (mVar 9)))]))]))) (mRet (M.pure (.bl false))) mSkip) (mIfS (mB (mOp2 sNe (.dat (mCallK m_order_of (fun ds es => ds ++ es) [(mMake m_Farmdd_initdd [(mOp2 sIx (.dat (mVar 2)) (.dat (M.pure (.int 0)))), (mCall sList [(.dat (mOp2 sIx (.dat (mVar 2)) (.dat (M.pure (.int 1)))))]), (mOp2 sIx (.dat (mVar 2)) (.dat (M.pure (.int 2))))]), (mVar 6)] [(mVar 9)])) (.dat (mVar 10)))) (mRet (M.pure (.bl false))) mSkip)))))) [.own ((wellD a b d)), .dat (.int z), .dat (partsD n rows t), .dat (farmD n rows t), .dat (stD [] sp), cellO h5, .dat (plcD p), b7, .no, c9, c10] = .next [.own ((wellD a' b' d')), .dat (.int z), .dat (partsD n rows t), .dat (farmD n rows t), .dat (stD [] sp), cellO h5, .dat (plcD p), b7', .no, c9', c10'] := by
  have g1 : (mLc (mEnum (mVar 6)) (gTp [8, 5]) (mB (mOp2 sNotN (.dat (mVar 5)) (.dat (M.pure .non)))) (mVar 8) [8, 5]) [.own ((wellD a b d)), .dat (.int z), .dat (partsD n rows t), .dat (farmD n rows t), .dat (stD [] sp), cellO h5, .dat (plcD p), b7, .no, c9, c10] = .ok (D.lst (List.map D.int (mvF [] 0 p))) [.own ((wellD a b d)), .dat (.int z), .dat (partsD n rows t), .dat (farmD n rows t), .dat (stD [] sp), cellO h5, .dat (plcD p), b7, .no, c9, c10] := by
    rw [mLc_pure (ds := enumD 0 (p.map optD)) (mvP []) mvf (by rfl) (by simp [isOwn]; exact cellO_no h5) (fun e hd => by
      obtain ⟨i, o, _, rfl⟩ := enum_mem hd
      refine ⟨[.own ((wellD a b d)), .dat (.int z), .dat (partsD n rows t), .dat (farmD n rows t), .dat (stD [] sp), .dat (optD o), .dat (plcD p), b7, .dat (.int i), c9, c10], by simp [gTp, gNms, wipeC], ?_, fun _ => rfl, by simp [wipeC]⟩
      cases o with
      | none => exact mB_ok (mOp2_dd (x := .non) (y := .non) (r := .bl false) rfl rfl rfl)
      | some v => exact mB_ok (mOp2_dd (x := .int v) (y := .non) (r := .bl true) rfl rfl rfl))]
    rw [mvF_is]
  have g2 := mAsg_ok (g := gNm 7) (ρ2 := [.own ((wellD a b d)), .dat (.int z), .dat (partsD n rows t), .dat (farmD n rows t), .dat (stD [] sp), cellO h5, .dat (plcD p), .dat (D.lst (List.map D.int (mvF [] 0 p))), .no, c9, c10]) g1 rfl
  obtain ⟨ys, ρ', q1, q2, a2, b2, d2, x8, hρ⟩ := lcM_some (g := gNm 8) (tt := mB (mOp2 sEq (.dat (mCallF m_law_draw [(.own 0), (.dat (M.pure (.int 4)))])) (.dat (M.pure (.int 0))))) (fe := mVar 8) (vs := [8]) (fun ρ => ∃ (a b d : Int) (x : Cell), ρ = [.own ((wellD a b d)), .dat (.int z), .dat (partsD n rows t), .dat (farmD n rows t), .dat (stD [] sp), cellO h5, .dat (plcD p), .dat (D.lst (List.map D.int (mvF [] 0 p))), x, c9, c10]) (mvF [] 0 p) [.own ((wellD a b d)), .dat (.int z), .dat (partsD n rows t), .dat (farmD n rows t), .dat (stD [] sp), cellO h5, .dat (plcD p), .dat (D.lst (List.map D.int (mvF [] 0 p))), .no, c9, c10] ⟨a, b, d, .no, rfl⟩
    (fun x hx ρ ⟨a, b, d, y, hρ⟩ => by
      subst hρ
      obtain ⟨r, a', b', d', e, _, _⟩ := e_draw a b d (lim := 4) (by omega) (by omega)
      exact ⟨[.own ((wellD a b d)), .dat (.int z), .dat (partsD n rows t), .dat (farmD n rows t), .dat (stD [] sp), cellO h5, .dat (plcD p), .dat (D.lst (List.map D.int (mvF [] 0 p))), .dat (.int x), c9, c10], decide (r = 0), [.own ((wellD a' b' d')), .dat (.int z), .dat (partsD n rows t), .dat (farmD n rows t), .dat (stD [] sp), cellO h5, .dat (plcD p), .dat (D.lst (List.map D.int (mvF [] 0 p))), .dat (.int x), c9, c10], by simp [gNm, wipeC], mB_ok (mOp2_dd (x := .int r) (y := .int 0) (callO2 rfl e) rfl (sEq_int r 0)), fun _ => rfl, _, _, _, _, rfl⟩)
  subst hρ
  have g3 : (mLc (mSeqI (mVar 7)) (gNm 8) (mB (mOp2 sEq (.dat (mCallF m_law_draw [(.own 0), (.dat (M.pure (.int 4)))])) (.dat (M.pure (.int 0))))) (mVar 8) [8]) [.own ((wellD a b d)), .dat (.int z), .dat (partsD n rows t), .dat (farmD n rows t), .dat (stD [] sp), cellO h5, .dat (plcD p), .dat (D.lst (List.map D.int (mvF [] 0 p))), .no, c9, c10] = .ok (D.lst (List.map D.int ys)) [.own ((wellD a2 b2 d2)), .dat (.int z), .dat (partsD n rows t), .dat (farmD n rows t), .dat (stD [] sp), cellO h5, .dat (plcD p), .dat (D.lst (List.map D.int (mvF [] 0 p))), .no, c9, c10] := by
    have hi : mSeqI (mVar 7) [.own ((wellD a b d)), .dat (.int z), .dat (partsD n rows t), .dat (farmD n rows t), .dat (stD [] sp), cellO h5, .dat (plcD p), .dat (D.lst (List.map D.int (mvF [] 0 p))), .no, c9, c10] = .ok ((mvF [] 0 p).map .int) [.own ((wellD a b d)), .dat (.int z), .dat (partsD n rows t), .dat (farmD n rows t), .dat (stD [] sp), cellO h5, .dat (plcD p), .dat (D.lst (List.map D.int (mvF [] 0 p))), .no, c9, c10] := rfl
    exact mLc_got hi (by simp [isOwn]) q1
  have g4 : mSeqI (mLst [(mTup []), (mCall sTuple [(.dat (mLc (mSeqI (mVar 7)) (gNm 8) (mB (mOp2 sEq (.dat (mCallF m_law_draw [(.own 0), (.dat (M.pure (.int 4)))])) (.dat (M.pure (.int 0))))) (mVar 8) [8]))])]) [.own ((wellD a b d)), .dat (.int z), .dat (partsD n rows t), .dat (farmD n rows t), .dat (stD [] sp), cellO h5, .dat (plcD p), .dat (D.lst (List.map D.int (mvF [] 0 p))), .no, c9, c10] = .ok ([([] : List Int), ys].map fun l => (D.tup (List.map D.int l))) [.own ((wellD a2 b2 d2)), .dat (.int z), .dat (partsD n rows t), .dat (farmD n rows t), .dat (stD [] sp), cellO h5, .dat (plcD p), .dat (D.lst (List.map D.int (mvF [] 0 p))), .no, c9, c10] := by
    have k1 : mCall sTuple [(.dat (mLc (mSeqI (mVar 7)) (gNm 8) (mB (mOp2 sEq (.dat (mCallF m_law_draw [(.own 0), (.dat (M.pure (.int 4)))])) (.dat (M.pure (.int 0))))) (mVar 8) [8]))] [.own ((wellD a b d)), .dat (.int z), .dat (partsD n rows t), .dat (farmD n rows t), .dat (stD [] sp), cellO h5, .dat (plcD p), .dat (D.lst (List.map D.int (mvF [] 0 p))), .no, c9, c10] = .ok (D.tup (List.map D.int ys)) [.own ((wellD a2 b2 d2)), .dat (.int z), .dat (partsD n rows t), .dat (farmD n rows t), .dat (stD [] sp), cellO h5, .dat (plcD p), .dat (D.lst (List.map D.int (mvF [] 0 p))), .no, c9, c10] := call1g g3 rfl
    refine seqI_ok (d := .lst [.tup [], (D.tup (List.map D.int ys))]) ?_ rfl
    unfold mLst M.bind
    have k0 : mTup [] [.own ((wellD a b d)), .dat (.int z), .dat (partsD n rows t), .dat (farmD n rows t), .dat (stD [] sp), cellO h5, .dat (plcD p), .dat (D.lst (List.map D.int (mvF [] 0 p))), .no, c9, c10] = .ok (.tup []) [.own ((wellD a b d)), .dat (.int z), .dat (partsD n rows t), .dat (farmD n rows t), .dat (stD [] sp), cellO h5, .dat (plcD p), .dat (D.lst (List.map D.int (mvF [] 0 p))), .no, c9, c10] := rfl
    simp only [seqM, M.bind, k0, k1, Out.andThen, M.pure]
  obtain ⟨ρ', e, c9', c10', hρ⟩ := loop_inv (g := gNm 9) (body := (mSeq (mAsg (mCallK m_order_of (fun ds es => ds ++ es) [(mVar 3), (mVar 6)] [(mVar 9)]) (gNm 10)) (mSeq (mIfS (mNot (mB (mCallF m_law_told_right [(.dat (mVar 2)), (.dat (mVar 6)), (.dat (mVar 9)), (.dat (mVar 10))]))) (mRet (M.pure (.bl false))) mSkip) (mSeq (mIfS (mNot (mB (mCallF m_law_told_right [(.dat (mVar 2)), (.dat (mVar 6)), (.dat (mVar 9)), (.dat (mCallK m_order_of (fun ds es => ds ++ es) [(mVar 3), (mVar 6)] [(mRev sRevT (.dat (mVar 9)))]))]))) (mRet (M.pure (.bl false))) mSkip) (mIfS (mB (mOp2 sNe (.dat (mCallK m_order_of (fun ds es => ds ++ es) [(mMake m_Farmdd_initdd [(mOp2 sIx (.dat (mVar 2)) (.dat (M.pure (.int 0)))), (mCall sList [(.dat (mOp2 sIx (.dat (mVar 2)) (.dat (M.pure (.int 1)))))]), (mOp2 sIx (.dat (mVar 2)) (.dat (M.pure (.int 2))))]), (mVar 6)] [(mVar 9)])) (.dat (mVar 10)))) (mRet (M.pure (.bl false))) mSkip))))) (fun _ ρ => ∃ c9 c10 : Cell, ρ = [.own ((wellD a2 b2 d2)), .dat (.int z), .dat (partsD n rows t), .dat (farmD n rows t), .dat (stD [] sp), cellO h5, .dat (plcD p), .dat (D.lst (List.map D.int (mvF [] 0 p))), .no, c9, c10]) ([([] : List Int), ys].map fun l => (D.tup (List.map D.int l))) 0 [.own ((wellD a2 b2 d2)), .dat (.int z), .dat (partsD n rows t), .dat (farmD n rows t), .dat (stD [] sp), cellO h5, .dat (plcD p), .dat (D.lst (List.map D.int (mvF [] 0 p))), .no, c9, c10] ⟨_, _, rfl⟩
    (fun i dd ρ hd ⟨c9, c10, hρ⟩ => by
      subst hρ
      obtain ⟨st, hs, rfl⟩ := List.mem_map.mp (List.mem_of_getElem? hd)
      have hst : StOk p st := by
        have : st = [] ∨ st = ys := by simpa using hs
        rcases this with rfl | rfl
        · exact stOk_nil p
        · exact sub_st q2
      obtain ⟨c, e⟩ := t_body (z := z) (sp := sp) hF t0 t1 hl hok hst (wellD a2 b2 d2) (cellO h5) (.dat (D.lst (List.map D.int (mvF [] 0 p)))) c10
      exact ⟨[.own ((wellD a2 b2 d2)), .dat (.int z), .dat (partsD n rows t), .dat (farmD n rows t), .dat (stD [] sp), cellO h5, .dat (plcD p), .dat (D.lst (List.map D.int (mvF [] 0 p))), .no, .dat (D.tup (List.map D.int st)), c10], rfl, _, e, _, _, rfl⟩)
  subst hρ
  refine ⟨a2, b2, d2, .dat (D.lst (List.map D.int (mvF [] 0 p))), c9', c10', ?_⟩
  rw [mSeq_next g2]
  rw [mFor_next g4]
  exact e
end
end Fx
set_option Elab.async false
set_option linter.all false
set_option maxRecDepth 100000
set_option maxHeartbeats 1000000
namespace Fx
open PySem L2
theorem pick3 {z x y w : Int} (h0 : 0 ≤ z) (h1 : z < 3) : ∃ v, (v = x ∨ v = y ∨ v = w) ∧ sIx (.lst [.int x, .int y, .int w]) (.int z) = some (.int v) := by
  have hz : z = 0 ∨ z = 1 ∨ z = 2 := by omega
  rcases hz with rfl | rfl | rfl
  · exact ⟨x, .inl rfl, atI_nat [D.int x, .int y, .int w] 0⟩
  · exact ⟨y, .inr (.inl rfl), atI_nat [D.int x, .int y, .int w] 1⟩
  · exact ⟨w, .inr (.inr rfl), atI_nat [D.int x, .int y, .int w] 2⟩
section
variable {n t z : Int} {rows : List (List Int)} {sp : List (Option Int)}
theorem start_inv (h0 : 0 ≤ t) : SInv t rows [] (List.replicate rows.length none) := by
  have hn : ∀ (s : Nat) (v : Int), (List.replicate rows.length (none : Option Int))[s]? ≠ some (some v) := fun s v h => by
    rw [List.getElem?_replicate] at h
    split at h <;> cases h
  refine ⟨by simp, fun s v h => absurd h (hn s v), by simpa using h0, fun s v h => absurd h (hn s v), fun s v r h => absurd h (hn s v), [], fun s => ?_, List.Pairwise.nil⟩
  constructor
  · intro h
    exact nomatch h
  · rintro ⟨i, x, _, h⟩
    exact absurd h (hn i x)
theorem up_loop (hrow : ∀ r ∈ rows, RowOk n r) (w : D) : ∀ (down : List Int) (h5 : Option D), SInv t rows down sp → ∃ h5' : Option D, loopM (gNm 5) (mAsg (mCallF m_law_after [(.dat (mOp2 sIx (.dat (mVar 2)) (.dat (M.pure (.int 1))))), (.dat (mVar 4)), (.dat (mTup [(M.pure (.str "up")), (mVar 5)]))]) (gNm 4)) (down.map .int) [.own (w), .dat (.int z), .dat (partsD n rows t), .dat (farmD n rows t), .dat (stD (down) sp), cellO h5, .no, .no, .no, .no, .no] = .next [.own (w), .dat (.int z), .dat (partsD n rows t), .dat (farmD n rows t), .dat (stD ([]) sp), cellO h5', .no, .no, .no, .no, .no] ∧ SInv t rows [] sp
  | [], h5, hI => ⟨h5, rfl, hI⟩
  | h :: down, h5, hI => by
    obtain ⟨down2, e, q1, q2, j, q3, q4⟩ := e_after_up (sp := sp) hrow hI.len (List.mem_cons_self (a := h) (l := down))
    have hj : j = 0 := by
      rw [List.findIdx?_cons] at q3
      simpa using q3.symm
    subst hj
    have q5 : down2 = down := by rw [q4]; rfl
    subst q5
    have hI2 : SInv t rows down2 sp := hI.sub q1 q2
    obtain ⟨h5', e2, hI3⟩ := up_loop hrow w down2 (some (.int h)) hI2
    refine ⟨h5', ?_, hI3⟩
    rw [List.map_cons]
    unfold loopM
    have g : gNm 5 (.int h) [.own (w), .dat (.int z), .dat (partsD n rows t), .dat (farmD n rows t), .dat (stD (h :: down2) sp), cellO h5, .no, .no, .no, .no, .no] = some [.own (w), .dat (.int z), .dat (partsD n rows t), .dat (farmD n rows t), .dat (stD (h :: down2) sp), .dat (.int h), .no, .no, .no, .no, .no] := rfl
    have p1 : (mOp2 sIx (.dat (mVar 2)) (.dat (M.pure (.int 1)))) [.own (w), .dat (.int z), .dat (partsD n rows t), .dat (farmD n rows t), .dat (stD (h :: down2) sp), .dat (.int h), .no, .no, .no, .no, .no] = .ok (.lst (rows.map rowD)) [.own (w), .dat (.int z), .dat (partsD n rows t), .dat (farmD n rows t), .dat (stD (h :: down2) sp), .dat (.int h), .no, .no, .no, .no, .no] := mOp2_dd (x := partsD n rows t) (y := .int 1) rfl rfl (atI_nat [D.int n, (.lst (rows.map rowD)), .int t] 1)
    have b : (mAsg (mCallF m_law_after [(.dat (mOp2 sIx (.dat (mVar 2)) (.dat (M.pure (.int 1))))), (.dat (mVar 4)), (.dat (mTup [(M.pure (.str "up")), (mVar 5)]))]) (gNm 4)) [.own (w), .dat (.int z), .dat (partsD n rows t), .dat (farmD n rows t), .dat (stD (h :: down2) sp), .dat (.int h), .no, .no, .no, .no, .no] = .next [.own (w), .dat (.int z), .dat (partsD n rows t), .dat (farmD n rows t), .dat (stD (down2) sp), .dat (.int h), .no, .no, .no, .no, .no] := mAsg_ok (callF3 p1 rfl (tup2 rfl rfl) e) rfl
    simp only [g, b]
    exact e2
theorem r_first (hF : FarmOk n rows) (hI : SInv t rows [] sp) (w : D) (h5 : Cell) : mOr (mB (mOp2 sNe (.dat (mOp2 sIx (.dat (mCallF (fun ds => m_order_of (ds ++ [.tup []])) [(.dat (mVar 3)), (.dat (mOp2 sIx (.dat (mVar 4)) (.dat (M.pure (.int 1)))))])) (.dat (M.pure (.int 0))))) (.dat (M.pure (.str "order"))))) (mNot (mB (mCallF m_law_told_right [(.dat (mVar 2)), (.dat (mOp2 sIx (.dat (mVar 4)) (.dat (M.pure (.int 1))))), (.dat (mTup [])), (.dat (mCallF (fun ds => m_order_of (ds ++ [.tup []])) [(.dat (mVar 3)), (.dat (mOp2 sIx (.dat (mVar 4)) (.dat (M.pure (.int 1)))))]))]))) [.own (w), .dat (.int z), .dat (partsD n rows t), .dat (farmD n rows t), .dat (stD ([]) sp), h5, .no, .no, .no, .no, .no] = .ok false [.own (w), .dat (.int z), .dat (partsD n rows t), .dat (farmD n rows t), .dat (stD ([]) sp), h5, .no, .no, .no, .no, .no] := by
  have hlp : rows.length ≤ 1000 := by have := hF.len; omega
  have hl := hI.len
  obtain ⟨r, e1, r1⟩ := e_order (n := n) (t := t) hI.len hlp hI.ok hF.row (stOk_nil sp)
  obtain ⟨os, hr⟩ := hI.arises r1
  have e2 := e_told (n := n) hI.ok (stOk_nil sp) (by omega) r1
  simp only [List.map_nil] at e1 e2
  have e1' : (fun ds => m_order_of (ds ++ [.tup []])) [farmD n rows t, plcD sp] = .ret r [] := by
    show m_order_of ([farmD n rows t, plcD sp] ++ [D.tup []]) = _
    rw [List.cons_append, List.cons_append, List.nil_append]
    exact e1
  have p1 : (mOp2 sIx (.dat (mVar 4)) (.dat (M.pure (.int 1)))) [.own (w), .dat (.int z), .dat (partsD n rows t), .dat (farmD n rows t), .dat (stD ([]) sp), h5, .no, .no, .no, .no, .no] = .ok (plcD sp) [.own (w), .dat (.int z), .dat (partsD n rows t), .dat (farmD n rows t), .dat (stD ([]) sp), h5, .no, .no, .no, .no, .no] := mOp2_dd (x := stD [] sp) (y := .int 1) rfl rfl (atI_nat [D.tup [], plcD sp] 1)
  have g1 : (mCallF (fun ds => m_order_of (ds ++ [.tup []])) [(.dat (mVar 3)), (.dat (mOp2 sIx (.dat (mVar 4)) (.dat (M.pure (.int 1)))))]) [.own (w), .dat (.int z), .dat (partsD n rows t), .dat (farmD n rows t), .dat (stD ([]) sp), h5, .no, .no, .no, .no, .no] = .ok r [.own (w), .dat (.int z), .dat (partsD n rows t), .dat (farmD n rows t), .dat (stD ([]) sp), h5, .no, .no, .no, .no, .no] := callF2 (a := farmD n rows t) rfl p1 e1'
  have q := sNe_str so_order so_order
  rw [decide_eq_true rfl] at q
  have g2 : mOp2 sIx (.dat (mCallF (fun ds => m_order_of (ds ++ [.tup []])) [(.dat (mVar 3)), (.dat (mOp2 sIx (.dat (mVar 4)) (.dat (M.pure (.int 1)))))])) (.dat (M.pure (.int 0))) [.own (w), .dat (.int z), .dat (partsD n rows t), .dat (farmD n rows t), .dat (stD ([]) sp), h5, .no, .no, .no, .no, .no] = .ok (.str "order") [.own (w), .dat (.int z), .dat (partsD n rows t), .dat (farmD n rows t), .dat (stD ([]) sp), h5, .no, .no, .no, .no, .no] := mOp2_dd g1 (y := .int 0) rfl (by rw [hr]; exact atI_nat [D.str "order", .tup (os.map .int)] 0)
  exact mOr_ff (mB_ok (mOp2_dd g2 (y := .str "order") rfl q)) (not_ff (mB_ok (callF4 (a := partsD n rows t) (c := .tup []) rfl p1 rfl g1 e2)))
theorem r_all (hF : FarmOk n rows) (t0 : 0 ≤ t) (t1 : t ≤ n) (hI : SInv t rows [] sp) (a b d : Int) (h5 : Option D) :
    ∃ a' b' d' p6 b7 c9 c10, mFor (mSeqI (mLst [(mCallF m_law_spots [(.own 0), (.dat (mOp2 sIx (.dat (mVar 2)) (.dat (M.pure (.int 1)))))]), (mCallF m_law_spots [(.own 0), (.dat (mOp2 sIx (.dat (mVar 2)) (.dat (M.pure (.int 1)))))]), (mOp2 sIx (.dat (mVar 4)) (.dat (M.pure (.int 1))))])) (gNm 6) (mSeq (mAsg (mLc (mEnum (mVar 6)) (gTp [8, 5]) (mB (mOp2 sNotN (.dat (mVar 5)) (.dat (M.pure .non)))) (mVar 8) [8, 5]) (gNm 7)) (mFor (mSeqI (mLst [(mTup []), (mCall sTuple [(.dat (mLc (mSeqI (mVar 7)) (gNm 8) (mB (mOp2 sEq (.dat (mCallF m_law_draw [(.own 0), (.dat (M.pure (.int 4)))])) (.dat (M.pure (.int 0))))) (mVar 8) [8]))])])) (gNm 9) (mSeq (mAsg (mCallK m_order_of (fun ds es => ds ++ es) [(mVar 3), (mVar 6)] [(mVar 9)]) (gNm 10)) (mSeq (mIfS (mNot (mB (mCallF m_law_told_right [(.dat (mVar 2)), (.dat (mVar 6)), (.dat (mVar 9)), (.dat (mVar 10))]))) (mRet (M.pure (.bl false))) mSkip) (mSeq (mIfS (mNot (mB (mCallF m_law_told_right [(.dat (mVar 2)), (.dat (mVar 6)), (.dat (mVar 9)), (.dat (mCallK m_order_of (fun ds es => ds ++ es) [(mVar 3), (mVar 6)] [(mRev sRevT (.dat (mVar 9)))]))]))) (mRet (M.pure (.bl false))) mSkip) (mIfS (mB (mOp2 sNe (.dat (mCallK m_order_of (fun ds es => ds ++ es) [(mMake m_Farmdd_initdd [(mOp2 sIx (.dat (mVar 2)) (.dat (M.pure (.int 0)))), (mCall sList [(.dat (mOp2 sIx (.dat (mVar 2)) (.dat (M.pure (.int 1)))))]), (mOp2 sIx (.dat (mVar 2)) (.dat (M.pure (.int 2))))]), (mVar 6)] [(mVar 9)])) (.dat (mVar 10)))) (mRet (M.pure (.bl false))) mSkip)))))) [.own ((wellD a b d)), .dat (.int z), .dat (partsD n rows t), .dat (farmD n rows t), .dat (stD ([]) sp), cellO h5, .no, .no, .no, .no, .no] = .next [.own ((wellD a' b' d')), .dat (.int z), .dat (partsD n rows t), .dat (farmD n rows t), .dat (stD [] sp), cellO h5, p6, b7, .no, c9, c10] := by
  obtain ⟨a1, b1, d1, p, e1, l1, k1⟩ := e_spots a b d hF.row hF.len
  obtain ⟨a2, b2, d2, p', e2, l2, k2⟩ := e_spots a1 b1 d1 hF.row hF.len
  have i1 : ∀ w : D, (mOp2 sIx (.dat (mVar 2)) (.dat (M.pure (.int 1)))) [.own (w), .dat (.int z), .dat (partsD n rows t), .dat (farmD n rows t), .dat (stD ([]) sp), cellO h5, .no, .no, .no, .no, .no] = .ok (.lst (rows.map rowD)) [.own (w), .dat (.int z), .dat (partsD n rows t), .dat (farmD n rows t), .dat (stD ([]) sp), cellO h5, .no, .no, .no, .no, .no] := fun w => mOp2_dd (x := partsD n rows t) (y := .int 1) rfl rfl (atI_nat [D.int n, (.lst (rows.map rowD)), .int t] 1)
  have g1 : mCallF m_law_spots [(.own 0), (.dat (mOp2 sIx (.dat (mVar 2)) (.dat (M.pure (.int 1)))))] [.own ((wellD a b d)), .dat (.int z), .dat (partsD n rows t), .dat (farmD n rows t), .dat (stD ([]) sp), cellO h5, .no, .no, .no, .no, .no] = .ok (plcD p) [.own ((wellD a1 b1 d1)), .dat (.int z), .dat (partsD n rows t), .dat (farmD n rows t), .dat (stD ([]) sp), cellO h5, .no, .no, .no, .no, .no] := callO2 (i1 _) e1
  have g2 : mCallF m_law_spots [(.own 0), (.dat (mOp2 sIx (.dat (mVar 2)) (.dat (M.pure (.int 1)))))] [.own ((wellD a1 b1 d1)), .dat (.int z), .dat (partsD n rows t), .dat (farmD n rows t), .dat (stD ([]) sp), cellO h5, .no, .no, .no, .no, .no] = .ok (plcD p') [.own ((wellD a2 b2 d2)), .dat (.int z), .dat (partsD n rows t), .dat (farmD n rows t), .dat (stD ([]) sp), cellO h5, .no, .no, .no, .no, .no] := callO2 (i1 _) e2
  have g3 : (mOp2 sIx (.dat (mVar 4)) (.dat (M.pure (.int 1)))) [.own ((wellD a2 b2 d2)), .dat (.int z), .dat (partsD n rows t), .dat (farmD n rows t), .dat (stD ([]) sp), cellO h5, .no, .no, .no, .no, .no] = .ok (plcD sp) [.own ((wellD a2 b2 d2)), .dat (.int z), .dat (partsD n rows t), .dat (farmD n rows t), .dat (stD ([]) sp), cellO h5, .no, .no, .no, .no, .no] := mOp2_dd (x := stD [] sp) (y := .int 1) rfl rfl (atI_nat [D.tup [], plcD sp] 1)
  have g4 : mSeqI (mLst [(mCallF m_law_spots [(.own 0), (.dat (mOp2 sIx (.dat (mVar 2)) (.dat (M.pure (.int 1)))))]), (mCallF m_law_spots [(.own 0), (.dat (mOp2 sIx (.dat (mVar 2)) (.dat (M.pure (.int 1)))))]), (mOp2 sIx (.dat (mVar 4)) (.dat (M.pure (.int 1))))]) [.own ((wellD a b d)), .dat (.int z), .dat (partsD n rows t), .dat (farmD n rows t), .dat (stD ([]) sp), cellO h5, .no, .no, .no, .no, .no] = .ok ([p, p', sp].map plcD) [.own ((wellD a2 b2 d2)), .dat (.int z), .dat (partsD n rows t), .dat (farmD n rows t), .dat (stD ([]) sp), cellO h5, .no, .no, .no, .no, .no] := by
    refine seqI_ok (d := .lst [plcD p, plcD p', plcD sp]) ?_ rfl
    unfold mLst M.bind
    simp only [seqM, M.bind, g1, g2, g3, Out.andThen, M.pure]
  obtain ⟨ρ', e, a3, b3, d3, p6, b7, c9, c10, hρ⟩ := loop_inv (g := gNm 6) (body := (mSeq (mAsg (mLc (mEnum (mVar 6)) (gTp [8, 5]) (mB (mOp2 sNotN (.dat (mVar 5)) (.dat (M.pure .non)))) (mVar 8) [8, 5]) (gNm 7)) (mFor (mSeqI (mLst [(mTup []), (mCall sTuple [(.dat (mLc (mSeqI (mVar 7)) (gNm 8) (mB (mOp2 sEq (.dat (mCallF m_law_draw [(.own 0), (.dat (M.pure (.int 4)))])) (.dat (M.pure (.int 0))))) (mVar 8) [8]))])])) (gNm 9) (mSeq (mAsg (mCallK m_order_of (fun ds es => ds ++ es) [(mVar 3), (mVar 6)] [(mVar 9)]) (gNm 10)) (mSeq (mIfS (mNot (mB (mCallF m_law_told_right [(.dat (mVar 2)), (.dat (mVar 6)), (.dat (mVar 9)), (.dat (mVar 10))]))) (mRet (M.pure (.bl false))) mSkip) (mSeq (mIfS (mNot (mB (mCallF m_law_told_right [(.dat (mVar 2)), (.dat (mVar 6)), (.dat (mVar 9)), (.dat (mCallK m_order_of (fun ds es => ds ++ es) [(mVar 3), (mVar 6)] [(mRev sRevT (.dat (mVar 9)))]))]))) (mRet (M.pure (.bl false))) mSkip) (mIfS (mB (mOp2 sNe (.dat (mCallK m_order_of (fun ds es => ds ++ es) [(mMake m_Farmdd_initdd [(mOp2 sIx (.dat (mVar 2)) (.dat (M.pure (.int 0)))), (mCall sList [(.dat (mOp2 sIx (.dat (mVar 2)) (.dat (M.pure (.int 1)))))]), (mOp2 sIx (.dat (mVar 2)) (.dat (M.pure (.int 2))))]), (mVar 6)] [(mVar 9)])) (.dat (mVar 10)))) (mRet (M.pure (.bl false))) mSkip))))))) (fun _ ρ => ∃ (a b d : Int) (p6 b7 c9 c10 : Cell), ρ = [.own ((wellD a b d)), .dat (.int z), .dat (partsD n rows t), .dat (farmD n rows t), .dat (stD [] sp), cellO h5, p6, b7, .no, c9, c10]) ([p, p', sp].map plcD) 0 [.own ((wellD a2 b2 d2)), .dat (.int z), .dat (partsD n rows t), .dat (farmD n rows t), .dat (stD ([]) sp), cellO h5, .no, .no, .no, .no, .no] ⟨a2, b2, d2, .no, .no, .no, .no, rfl⟩
    (fun i dd ρ hd ⟨a, b, d, p6, b7, c9, c10, hρ⟩ => by
      subst hρ
      obtain ⟨q, hq, rfl⟩ := List.mem_map.mp (List.mem_of_getElem? hd)
      have hq2 : q.length = rows.length ∧ PlOk rows q := by
        have : q = p ∨ q = p' ∨ q = sp := by simpa using hq
        rcases this with rfl | rfl | rfl
        · exact ⟨l1, k1⟩
        · exact ⟨l2, k2⟩
        · exact ⟨hI.len, hI.ok⟩
      obtain ⟨a', b', d', b7', c9', c10', e⟩ := s_spots (z := z) (sp := sp) hF t0 t1 hq2.1 hq2.2 a b d h5 b7 c9 c10
      exact ⟨[.own ((wellD a b d)), .dat (.int z), .dat (partsD n rows t), .dat (farmD n rows t), .dat (stD [] sp), cellO h5, .dat (plcD q), b7, .no, c9, c10], rfl, _, e, a', b', d', _, b7', c9', c10', rfl⟩)
  subst hρ
  refine ⟨a3, b3, d3, p6, b7, c9, c10, ?_⟩
  rw [mFor_next g4]
  exact e
end
theorem e_law_right (a b d : Int) : ∃ outs, m_law_right [wellD a b d] = .ret (.bl true) outs := by
  obtain ⟨z, a1, b1, d1, e1, z0, z1⟩ := e_draw a b d (lim := 3) (by omega) (by omega)
  obtain ⟨mo, hmo, x1⟩ := pick3 (x := 8) (y := 8) (w := 30) z0 z1
  obtain ⟨ma, hma, x2⟩ := pick3 (x := 10) (y := 10) (w := 60) z0 z1
  obtain ⟨a2, b2, d2, n, rows, t, e2, hF, t0, t1⟩ := e_lfarm a1 b1 d1 (mo := mo) (ma := ma) (by omega) (by omega) (by omega) (by omega)
  have n2 := hF.n2
  have e3 := e_make hF.n1 hF.n2 hF.len hF.row t0 t1
  obtain ⟨a4, b4, d4, down, sp, e4, hI⟩ := e_run hF t0 t1 (k := 60) (by omega) (by omega) a2 b2 d2 (start_inv (rows := rows) t0)
  obtain ⟨h5, e5, hI2⟩ := up_loop (z := z) hF.row (wellD a4 b4 d4) down none hI
  have e6 := r_first (z := z) hF hI2 (wellD a4 b4 d4) (cellO h5)
  obtain ⟨a7, b7, d7, p6, c7, c9, c10, e7⟩ := r_all (z := z) hF t0 t1 hI2 a4 b4 d4 h5
  have s1 : mAsg (mCallF m_law_draw [(.own 0), (.dat (M.pure (.int 3)))]) (gNm 1) [.own (wellD a b d), .no, .no, .no, .no, .no, .no, .no, .no, .no, .no] = .next [.own (wellD a1 b1 d1), .dat (.int z), .no, .no, .no, .no, .no, .no, .no, .no, .no] := mAsg_ok (callO2 rfl e1) rfl
  have s2 : mAsg (mCallF m_law_farm [(.own 0), (.dat (mOp2 sIx (.dat (mLst [(M.pure (.int 8)), (M.pure (.int 8)), (M.pure (.int 30))])) (.dat (mVar 1)))), (.dat (mOp2 sIx (.dat (mLst [(M.pure (.int 10)), (M.pure (.int 10)), (M.pure (.int 60))])) (.dat (mVar 1))))]) (gNm 2) [.own (wellD a1 b1 d1), .dat (.int z), .no, .no, .no, .no, .no, .no, .no, .no, .no] = .next [.own (wellD a2 b2 d2), .dat (.int z), .dat (partsD n rows t), .no, .no, .no, .no, .no, .no, .no, .no] :=
    mAsg_ok (callO3 (mOp2_dd (x := .lst [.int 8, .int 8, .int 30]) (y := .int z) rfl rfl x1) (mOp2_dd (x := .lst [.int 10, .int 10, .int 60]) (y := .int z) rfl rfl x2) e2) rfl
  have p0 : (mOp2 sIx (.dat (mVar 2)) (.dat (M.pure (.int 0)))) [.own (wellD a2 b2 d2), .dat (.int z), .dat (partsD n rows t), .no, .no, .no, .no, .no, .no, .no, .no] = .ok (.int n) [.own (wellD a2 b2 d2), .dat (.int z), .dat (partsD n rows t), .no, .no, .no, .no, .no, .no, .no, .no] := mOp2_dd (x := partsD n rows t) (y := .int 0) rfl rfl (atI_nat [D.int n, (.lst (rows.map rowD)), .int t] 0)
  have p1 : (mOp2 sIx (.dat (mVar 2)) (.dat (M.pure (.int 1)))) [.own (wellD a2 b2 d2), .dat (.int z), .dat (partsD n rows t), .no, .no, .no, .no, .no, .no, .no, .no] = .ok (.lst (rows.map rowD)) [.own (wellD a2 b2 d2), .dat (.int z), .dat (partsD n rows t), .no, .no, .no, .no, .no, .no, .no, .no] := mOp2_dd (x := partsD n rows t) (y := .int 1) rfl rfl (atI_nat [D.int n, (.lst (rows.map rowD)), .int t] 1)
  have p2 : (mOp2 sIx (.dat (mVar 2)) (.dat (M.pure (.int 2)))) [.own (wellD a2 b2 d2), .dat (.int z), .dat (partsD n rows t), .no, .no, .no, .no, .no, .no, .no, .no] = .ok (.int t) [.own (wellD a2 b2 d2), .dat (.int z), .dat (partsD n rows t), .no, .no, .no, .no, .no, .no, .no, .no] := mOp2_dd (x := partsD n rows t) (y := .int 2) rfl rfl (atI_nat [D.int n, (.lst (rows.map rowD)), .int t] 2)
  have s3 : mAsg (mMake m_Farmdd_initdd [(mOp2 sIx (.dat (mVar 2)) (.dat (M.pure (.int 0)))), (mOp2 sIx (.dat (mVar 2)) (.dat (M.pure (.int 1)))), (mOp2 sIx (.dat (mVar 2)) (.dat (M.pure (.int 2))))]) (gNm 3) [.own (wellD a2 b2 d2), .dat (.int z), .dat (partsD n rows t), .no, .no, .no, .no, .no, .no, .no, .no] = .next [.own (wellD a2 b2 d2), .dat (.int z), .dat (partsD n rows t), .dat (farmD n rows t), .no, .no, .no, .no, .no, .no, .no] := mAsg_ok (make3 p0 p1 p2 e3) rfl
  have p3 : (mOp2 sIx (.dat (mVar 2)) (.dat (M.pure (.int 1)))) [.own (wellD a2 b2 d2), .dat (.int z), .dat (partsD n rows t), .dat (farmD n rows t), .no, .no, .no, .no, .no, .no, .no] = .ok (.lst (rows.map rowD)) [.own (wellD a2 b2 d2), .dat (.int z), .dat (partsD n rows t), .dat (farmD n rows t), .no, .no, .no, .no, .no, .no, .no] := mOp2_dd (x := partsD n rows t) (y := .int 1) rfl rfl (atI_nat [D.int n, (.lst (rows.map rowD)), .int t] 1)
  have hrep : sRepT (.tup [.non]) (.int (rows.length : Nat)) = some (plcD (List.replicate rows.length none)) := by
    have h60 := hF.len
    show (if [D.non] ≠ [] ∧ [D.non].length ≤ 1000 ∧ -1000 ≤ ((rows.length : Nat) : Int) ∧ ((rows.length : Nat) : Int) ≤ 1000 then some (D.tup (List.replicate ((rows.length : Nat) : Int).toNat [D.non]).flatten) else none) = _
    rw [if_pos ⟨by simp, by simp, by omega, by omega⟩, Int.toNat_natCast, List.flatten_replicate_singleton]
    unfold plcD
    rw [List.map_replicate]
    rfl
  have s4 : mAsg (mCallF m_law_run [(.own 0), (.dat (mVar 2)), (.dat (mTup [(mTup []), (mOp2 sRepT (.dat (mTup [(M.pure .non)])) (.dat (mCall sLen [(.dat (mOp2 sIx (.dat (mVar 2)) (.dat (M.pure (.int 1)))))])))])), (.dat (M.pure (.int 60)))]) (gNm 4) [.own (wellD a2 b2 d2), .dat (.int z), .dat (partsD n rows t), .dat (farmD n rows t), .no, .no, .no, .no, .no, .no, .no] = .next [.own (wellD a4 b4 d4), .dat (.int z), .dat (partsD n rows t), .dat (farmD n rows t), .dat (stD down sp), .no, .no, .no, .no, .no, .no] :=
    mAsg_ok (callO4 rfl (tup2 (f := mTup []) rfl (mOp2_dd (x := .tup [.non]) rfl (call1 p3 (by simp [sLen])) hrep)) rfl e4) rfl
  have s5 : mSeqI (mOp2 sIx (.dat (mVar 4)) (.dat (M.pure (.int 0)))) [.own (wellD a4 b4 d4), .dat (.int z), .dat (partsD n rows t), .dat (farmD n rows t), .dat (stD down sp), .no, .no, .no, .no, .no, .no] = .ok (down.map .int) [.own (wellD a4 b4 d4), .dat (.int z), .dat (partsD n rows t), .dat (farmD n rows t), .dat (stD down sp), .no, .no, .no, .no, .no, .no] := seqI_ok (mOp2_dd (x := stD down sp) (y := .int 0) rfl rfl (atI_nat [D.tup (down.map .int), plcD sp] 0)) rfl
  have fin : b_law_right [.own (wellD a b d), .no, .no, .no, .no, .no, .no, .no, .no, .no, .no] = .ret (.bl true) [.own ((wellD a7 b7 d7)), .dat (.int z), .dat (partsD n rows t), .dat (farmD n rows t), .dat (stD [] sp), cellO h5, p6, c7, .no, c9, c10] := by
    unfold b_law_right
    rw [mSeq_next s1, mSeq_next s2, mSeq_next s3, mSeq_next s4]
    rw [mSeq_next (by rw [mFor_next s5]; exact e5)]
    rw [mSeq_next (ρ' := [.own ((wellD a4 b4 d4)), .dat (.int z), .dat (partsD n rows t), .dat (farmD n rows t), .dat (stD ([]) sp), cellO h5, .no, .no, .no, .no, .no]) (by rw [mIfS_f e6]; rfl)]
    rw [mSeq_next e7]
    rfl
  have h' : b_law_right (initC 11 [0] [wellD a b d]) = .ret (.bl true) [.own ((wellD a7 b7 d7)), .dat (.int z), .dat (partsD n rows t), .dat (farmD n rows t), .dat (stD [] sp), cellO h5, p6, c7, .no, c9, c10] := by
    rw [show initC 11 [0] [wellD a b d] = [.own (wellD a b d), .no, .no, .no, .no, .no, .no, .no, .no, .no, .no] from rfl]
    exact fin
  refine ⟨[wellD a7 b7 d7], ?_⟩
  unfold m_law_right
  rw [mkFn_ret h']
  rfl
theorem callN1 {F : Fn} {f : M D} {ρ : Cells} {a d : D} {o : List D} (h1 : f ρ = .ok a ρ) (h : F [a] = .ret d o) : mCallN F f [] ρ = .ok d ρ := by
  unfold mCallN M.bind
  simp only [h1, Out.andThen, seqM, M.pure, M.bind, h]
theorem law_body (c0 : Cell) (i v : Int) : (mIfS (mNot (mB (mCallN m_law_right (mLst [(mOp2 sMul (.dat (mVar 2)) (.dat (mCall sInt [(.dat (mOp2 sGe (.dat (mVar 2)) (.dat (mOp2 sPow (.dat (M.pure (.int 10))) (.dat (M.pure (.int 18)))))))]))), (mOp2 sAdd (.dat (mOp2 sMod (.dat (mVar 2)) (.dat (M.pure (.int 2147483647))))) (.dat (mOp2 sMul (.dat (M.pure (.int 7919))) (.dat (mVar 1))))), (M.pure (.int 0))]) []))) (mRet (M.pure (.bl false))) mSkip) [c0, .dat (.int i), .dat (.int v)] = .next [c0, .dat (.int i), .dat (.int v)] := by
  have h1 : mOp2 sGe (.dat (mVar 2)) (.dat (mOp2 sPow (.dat (M.pure (.int 10))) (.dat (M.pure (.int 18))))) [c0, .dat (.int i), .dat (.int v)] = .ok (.bl (decide ((10 : Int) ^ 18 ≤ v))) [c0, .dat (.int i), .dat (.int v)] :=
    mOp2_dd (x := .int v) (y := .int (10 ^ 18)) rfl (mOp2_dd (x := .int 10) (y := .int 18) rfl rfl pow18) rfl
  have h2 : mCall sInt [(.dat (mOp2 sGe (.dat (mVar 2)) (.dat (mOp2 sPow (.dat (M.pure (.int 10))) (.dat (M.pure (.int 18)))))))] [c0, .dat (.int i), .dat (.int v)] = .ok (.int (if decide ((10 : Int) ^ 18 ≤ v) then 1 else 0)) [c0, .dat (.int i), .dat (.int v)] := call1 h1 rfl
  generalize hj : (if decide ((10 : Int) ^ 18 ≤ v) then (1 : Int) else 0) = j at h2
  have hj2 : inR j = true := by
    rw [← hj]
    split <;> decide
  have h3 : (mOp2 sMul (.dat (mVar 2)) (.dat (mCall sInt [(.dat (mOp2 sGe (.dat (mVar 2)) (.dat (mOp2 sPow (.dat (M.pure (.int 10))) (.dat (M.pure (.int 18)))))))]))) [c0, .dat (.int i), .dat (.int v)] = .ok (.int (v * j)) [c0, .dat (.int i), .dat (.int v)] := mOp2_dd (x := .int v) rfl h2 (sMul_r hj2)
  have h4 : (mOp2 sAdd (.dat (mOp2 sMod (.dat (mVar 2)) (.dat (M.pure (.int 2147483647))))) (.dat (mOp2 sMul (.dat (M.pure (.int 7919))) (.dat (mVar 1))))) [c0, .dat (.int i), .dat (.int v)] = .ok (.int (v.fmod 2147483647 + 7919 * i)) [c0, .dat (.int i), .dat (.int v)] :=
    mOp2_dd (x := .int (v.fmod 2147483647)) (y := .int (7919 * i)) (mOp2_dd (x := .int v) (y := .int 2147483647) rfl rfl rfl) (mOp2_dd (x := .int 7919) (y := .int i) rfl rfl (sMul_l (by decide))) rfl
  obtain ⟨o, e⟩ := e_law_right (v * j) (v.fmod 2147483647 + 7919 * i) 0
  have h5 : mCallN m_law_right (mLst [(mOp2 sMul (.dat (mVar 2)) (.dat (mCall sInt [(.dat (mOp2 sGe (.dat (mVar 2)) (.dat (mOp2 sPow (.dat (M.pure (.int 10))) (.dat (M.pure (.int 18)))))))]))), (mOp2 sAdd (.dat (mOp2 sMod (.dat (mVar 2)) (.dat (M.pure (.int 2147483647))))) (.dat (mOp2 sMul (.dat (M.pure (.int 7919))) (.dat (mVar 1))))), (M.pure (.int 0))]) [] [c0, .dat (.int i), .dat (.int v)] = .ok (.bl true) [c0, .dat (.int i), .dat (.int v)] := callN1 (lst3 h3 h4 rfl) e
  rw [mIfS_f (not_ff (mB_ok h5))]
  rfl
theorem plain_law (ns : List Int) (hl : ns.length ≤ 63) : ∃ outs, m_law [.lst (ns.map .int)] = .ret (.bl true) outs := by
  obtain ⟨ρ', e, c1, c2, hρ⟩ := loop_inv (g := gTp [1, 2]) (body := (mIfS (mNot (mB (mCallN m_law_right (mLst [(mOp2 sMul (.dat (mVar 2)) (.dat (mCall sInt [(.dat (mOp2 sGe (.dat (mVar 2)) (.dat (mOp2 sPow (.dat (M.pure (.int 10))) (.dat (M.pure (.int 18)))))))]))), (mOp2 sAdd (.dat (mOp2 sMod (.dat (mVar 2)) (.dat (M.pure (.int 2147483647))))) (.dat (mOp2 sMul (.dat (M.pure (.int 7919))) (.dat (mVar 1))))), (M.pure (.int 0))]) []))) (mRet (M.pure (.bl false))) mSkip)) (fun _ ρ => ∃ c1 c2, ρ = [.dat (.lst (ns.map .int)), c1, c2]) (enumD 0 (((ns ++ [0]).take 3).map .int)) 0 [.dat (.lst (ns.map .int)), .no, .no] ⟨.no, .no, rfl⟩
    (fun i dd ρ hd ⟨x, y, hρ⟩ => by
      obtain ⟨d', h7, rfl⟩ := enumD_inv 0 i _ _ hd
      rw [List.getElem?_map] at h7
      cases hr : ((ns ++ [0]).take 3)[i]? with
      | none => rw [hr] at h7; cases h7
      | some v =>
        rw [hr] at h7
        cases h7
        subst hρ
        exact ⟨[.dat (.lst (ns.map .int)), .dat (.int ((0 + i : Nat) : Int)), .dat (.int v)], by rfl, _, law_body _ _ _, _, _, rfl⟩)
  subst hρ
  refine ⟨[], ?_⟩
  have h1 : mEnum (mSl sCut (.dat (mOp2 sAdd (.dat (mVar 0)) (.dat (mLst [(M.pure (.int 0))])))) none (some (M.pure (.int 3)))) [.dat (.lst (ns.map .int)), .no, .no] = .ok (enumD 0 (((ns ++ [0]).take 3).map .int)) [.dat (.lst (ns.map .int)), .no, .no] := by
    have q1 : sAdd (.lst (ns.map .int)) (.lst [.int 0]) = some (.lst ((ns ++ [0]).map .int)) := by
      have q : (ns.map D.int).length + 1 ≤ 16777216 := by rw [List.length_map]; omega
      show (if (ns.map D.int).length + 1 ≤ 16777216 then some (D.lst (ns.map D.int ++ [.int 0])) else none) = _
      rw [if_pos q, List.map_append]
      rfl
    have q2 : sCut (.lst ((ns ++ [0]).map .int)) none (some 3) = some (.lst (((ns ++ [0]).take 3).map .int)) := by
      have := cut_take ((ns ++ [0]).map D.int) 3
      show some (D.lst (cutD _ none (some ((3 : Nat) : Int)))) = _
      rw [this, List.map_take]
    generalize ns ++ [0] = N at q1 q2 ⊢
    generalize (List.take 3 N).map D.int = N2 at q2 ⊢
    generalize N.map D.int = N1 at q1 q2 ⊢
    simp [mkFn, mSeq, mIfS, mDo, mRet, mRetN, mSkip, mExpr, mAsg, mAnd, mOr, mNot, mAndV, mOrV, mNotV, mB, mIf, mV, mNeg, mCall, mOp2, mTup, mLst, mMeth, mSl, mPart, preL, seqM, M.bind, M.pure, M.lift, M.stuck, Out.andThen, mVar, Opn.pre, Opn.rd, rdM, rdLM, rdL, cellD, initC, initAt, outsOf, outAt, gNm, gTp, gNms, mNew, mFrz, mPar, mFld, mCallF, mCallK, mCallN, appF, rdA, setOuts, ownSlots, ownPos, mSeqI, mEnum, mRange1, itemsOf, q1, q2]
  have fin : b_law [.dat (.lst (ns.map .int)), .no, .no] = .ret (.bl true) [.dat (.lst (ns.map .int)), c1, c2] := by
    unfold b_law
    rw [mSeq_next (by rw [mFor_next h1]; exact e)]
    rfl
  have h' : b_law (initC 3 [] [.lst (ns.map .int)]) = .ret (.bl true) [.dat (.lst (ns.map .int)), c1, c2] := by
    rw [show initC 3 [] [.lst (ns.map .int)] = [.dat (.lst (ns.map .int)), .no, .no] from rfl]
    exact fin
  unfold m_law
  rw [mkFn_ret h']
  rfl
end Fx
set_option Elab.async false
set_option linter.all false
set_option maxRecDepth 100000
set_option maxHeartbeats 8000000
namespace Fx
open PySem L2
abbrev s_x0 : Stmt := inClass (top 2) 0
theorem sc_x0 : FnScope ["self", "part", "index"] ["self", "part", "index"] (defScope s_x0) := ⟨rfl, rfl, rfl, by decide +kernel, rfl, by decide +kernel, by decide +kernel⟩
theorem ok_x0 {P : Program} {w : World} {K : PySem.W.Frag} {mg : Str → Option Value} {base : Heap} {f C CB : Addr} {fd : FuncData} (TB : BaseX K mg CB) (T : OexC K C) (hpart : PySem.W.findIn K (.ref C) "part" = some none) (hindex : PySem.W.findIn K (.ref C) "index" = some none) (F : FunD K "__init__" "NoFarm.__init__" (defArgs s_x0) (defBody s_x0) (defScope s_x0) [] [] f fd) : FnOk P w K mg base (L2.CX P w) 1 f fd ["self", "part", "index"] (spI2 C "part" "index") :=
  F.ok sc_x0 (fun vs H Q E h => by obtain ⟨a, y, z, rfl, _⟩ := h; rfl) fun cdv A outer s H vs Q E hr h => ⟨_, pss_cons (ps_expr (pe_feinit TB (pa_cons (pv 0) (pa_cons pe_str pa_nil)))) (pss_cons (ps_ost (pv 0) (pv 1)) (pss_one (ps_ost (pv 0) (pv 2)))), read2 rfl T hpart hindex h⟩
abbrev s_x2 : Stmt := inClass (top 4) 0
theorem sc_x2 : FnScope ["self", "index"] ["self", "index"] (defScope s_x2) := ⟨rfl, rfl, rfl, by decide +kernel, rfl, by decide +kernel, by decide +kernel⟩
theorem ok_x2 {P : Program} {w : World} {K : PySem.W.Frag} {mg : Str → Option Value} {base : Heap} {f C CB : Addr} {fd : FuncData} (TB : BaseX K mg CB) (T : OexC K C) (hindex : PySem.W.findIn K (.ref C) "index" = some none) (F : FunD K "__init__" "NoPlacement.__init__" (defArgs s_x2) (defBody s_x2) (defScope s_x2) [] [] f fd) : FnOk P w K mg base (L2.CX P w) 1 f fd ["self", "index"] (spI1 C "index") :=
  F.ok sc_x2 (fun vs H Q E h => by obtain ⟨a, y, rfl, _⟩ := h; rfl) fun cdv A outer s H vs Q E hr h => ⟨_, pss_cons (ps_expr (pe_feinit TB (pa_cons (pv 0) (pa_cons pe_str pa_nil)))) (pss_one (ps_ost (pv 0) (pv 1))), read1 rfl T hindex h⟩
abbrev s_x3 : Stmt := inClass (top 5) 0
theorem sc_x3 : FnScope ["self", "index"] ["self", "index"] (defScope s_x3) := ⟨rfl, rfl, rfl, by decide +kernel, rfl, by decide +kernel, by decide +kernel⟩
theorem ok_x3 {P : Program} {w : World} {K : PySem.W.Frag} {mg : Str → Option Value} {base : Heap} {f C CB : Addr} {fd : FuncData} (TB : BaseX K mg CB) (T : OexC K C) (hindex : PySem.W.findIn K (.ref C) "index" = some none) (F : FunD K "__init__" "NoSessions.__init__" (defArgs s_x3) (defBody s_x3) (defScope s_x3) [] [] f fd) : FnOk P w K mg base (L2.CX P w) 1 f fd ["self", "index"] (spI1 C "index") :=
  F.ok sc_x3 (fun vs H Q E h => by obtain ⟨a, y, rfl, _⟩ := h; rfl) fun cdv A outer s H vs Q E hr h => ⟨_, pss_cons (ps_expr (pe_feinit TB (pa_cons (pv 0) (pa_cons pe_str pa_nil)))) (pss_one (ps_ost (pv 0) (pv 1))), read1 rfl T hindex h⟩
theorem wire (plain : ∀ ns : List Int, ns.length ≤ 63 → ∃ outs, m_law [.lst (ns.map .int)] = .ret (.bl true) outs) {l : PySem.W.OpenLaw} {w : World} {K : PySem.W.Frag} {h : Heap} {mg : Str → Option Value} {fa C0 CB X0 X2 X3 : Addr} (X : K.In h) (G : h.Ns mainGlobals mg) (hfa : mg "law" = some (.ref fa))
    {xn0 xq0 : Str} {xN0 : Addr} {xb0 : List Value} {xs0 : List Str} {xu0 : List Value} {xa0 : Bool} {xc0 : Option Bool} {xd0 : Option Addr} {xe0 xf0 xg0 xh0 xi0 : Option Value}
    {xn2 xq2 : Str} {xN2 : Addr} {xb2 : List Value} {xs2 : List Str} {xu2 : List Value} {xa2 : Bool} {xc2 : Option Bool} {xd2 : Option Addr} {xe2 xf2 xg2 xh2 xi2 : Option Value}
    {xn3 xq3 : Str} {xN3 : Addr} {xb3 : List Value} {xs3 : List Str} {xu3 : List Value} {xa3 : Bool} {xc3 : Option Bool} {xd3 : Option Addr} {xe3 xf3 xg3 xh3 xi3 : Option Value}
    {t_MAX_SERVERS : Tok}
    {t_MAX_SESSIONS : Tok}
    {f_NoFarmdd_initdd : Addr} {od_NoFarmdd_initdd an_NoFarmdd_initdd : Option Addr} {sl_NoFarmdd_initdd : Array (Option Value)} {oc_NoFarmdd_initdd dc_NoFarmdd_initdd pm_NoFarmdd_initdd cd_NoFarmdd_initdd ct_NoFarmdd_initdd : Value}
    {kV_NoFarmdd_initdd : Value}
    {f_NoPlacementdd_initdd : Addr} {od_NoPlacementdd_initdd an_NoPlacementdd_initdd : Option Addr} {sl_NoPlacementdd_initdd : Array (Option Value)} {oc_NoPlacementdd_initdd dc_NoPlacementdd_initdd pm_NoPlacementdd_initdd cd_NoPlacementdd_initdd ct_NoPlacementdd_initdd : Value}
    {kV_NoPlacementdd_initdd : Value}
    {f_NoSessionsdd_initdd : Addr} {od_NoSessionsdd_initdd an_NoSessionsdd_initdd : Option Addr} {sl_NoSessionsdd_initdd : Array (Option Value)} {oc_NoSessionsdd_initdd dc_NoSessionsdd_initdd pm_NoSessionsdd_initdd cd_NoSessionsdd_initdd ct_NoSessionsdd_initdd : Value}
    {kV_NoSessionsdd_initdd : Value}
    {f_Farmdd_initdd : Addr} {od_Farmdd_initdd an_Farmdd_initdd : Option Addr} {sl_Farmdd_initdd : Array (Option Value)} {oc_Farmdd_initdd dc_Farmdd_initdd pm_Farmdd_initdd cd_Farmdd_initdd ct_Farmdd_initdd : Value}
    {kV_Farmdd_initdd : Value}
    {f_Farmdd_lendd : Addr} {od_Farmdd_lendd an_Farmdd_lendd : Option Addr} {sl_Farmdd_lendd : Array (Option Value)} {oc_Farmdd_lendd dc_Farmdd_lendd pm_Farmdd_lendd cd_Farmdd_lendd ct_Farmdd_lendd : Value}
    {kV_Farmdd_lendd : Value}
    {f_law_draw : Addr} {od_law_draw an_law_draw : Option Addr} {sl_law_draw : Array (Option Value)} {oc_law_draw dc_law_draw pm_law_draw cd_law_draw ct_law_draw : Value}
    {kV_law_draw : Value}
    {f_law_farm : Addr} {od_law_farm an_law_farm : Option Addr} {sl_law_farm : Array (Option Value)} {oc_law_farm dc_law_farm pm_law_farm cd_law_farm ct_law_farm : Value}
    {kV_law_farm : Value}
    {f_is_int : Addr} {od_is_int an_is_int : Option Addr} {sl_is_int : Array (Option Value)} {oc_is_int dc_is_int pm_is_int cd_is_int ct_is_int : Value}
    {kV_is_int : Value}
    {f_is_from : Addr} {od_is_from an_is_from : Option Addr} {sl_is_from : Array (Option Value)} {oc_is_from dc_is_from pm_is_from cd_is_from ct_is_from : Value}
    {kV_is_from : Value}
    {f_is_row : Addr} {od_is_row an_is_row : Option Addr} {sl_is_row : Array (Option Value)} {oc_is_row dc_is_row pm_is_row cd_is_row ct_is_row : Value}
    {kV_is_row : Value}
    {f_law_events : Addr} {od_law_events an_law_events : Option Addr} {sl_law_events : Array (Option Value)} {oc_law_events dc_law_events pm_law_events cd_law_events ct_law_events : Value}
    {kV_law_events : Value}
    {f_law_after : Addr} {od_law_after an_law_after : Option Addr} {sl_law_after : Array (Option Value)} {oc_law_after dc_law_after pm_law_after cd_law_after ct_law_after : Value}
    {kV_law_after : Value}
    {f_law_run : Addr} {od_law_run an_law_run : Option Addr} {sl_law_run : Array (Option Value)} {oc_law_run dc_law_run pm_law_run cd_law_run ct_law_run : Value}
    {kV_law_run : Value}
    {f_check_placement : Addr} {od_check_placement an_check_placement : Option Addr} {sl_check_placement : Array (Option Value)} {oc_check_placement dc_check_placement pm_check_placement cd_check_placement ct_check_placement : Value}
    {kV_check_placement : Value}
    {f_check_staying : Addr} {od_check_staying an_check_staying : Option Addr} {sl_check_staying : Array (Option Value)} {oc_check_staying dc_check_staying pm_check_staying cd_check_staying ct_check_staying : Value}
    {kV_check_staying : Value}
    {f_movers : Addr} {od_movers an_movers : Option Addr} {sl_movers : Array (Option Value)} {oc_movers dc_movers pm_movers cd_movers ct_movers : Value}
    {kV_movers : Value}
    {f_place_in_list : Addr} {od_place_in_list an_place_in_list : Option Addr} {sl_place_in_list : Array (Option Value)} {oc_place_in_list dc_place_in_list pm_place_in_list cd_place_in_list ct_place_in_list : Value}
    {kV_place_in_list : Value}
    {f_first_far : Addr} {od_first_far an_first_far : Option Addr} {sl_first_far : Array (Option Value)} {oc_first_far dc_first_far pm_first_far cd_first_far ct_first_far : Value}
    {kV_first_far : Value}
    {f_passed_over : Addr} {od_passed_over an_passed_over : Option Addr} {sl_passed_over : Array (Option Value)} {oc_passed_over dc_passed_over pm_passed_over cd_passed_over ct_passed_over : Value}
    {kV_passed_over : Value}
    {f_first_held : Addr} {od_first_held an_first_held : Option Addr} {sl_first_held : Array (Option Value)} {oc_first_held dc_first_held pm_first_held cd_first_held ct_first_held : Value}
    {kV_first_held : Value}
    {f_ring_among : Addr} {od_ring_among an_ring_among : Option Addr} {sl_ring_among : Array (Option Value)} {oc_ring_among dc_ring_among pm_ring_among cd_ring_among ct_ring_among : Value}
    {kV_ring_among : Value}
    {f_order_of : Addr} {od_order_of an_order_of : Option Addr} {sl_order_of : Array (Option Value)} {oc_order_of dc_order_of pm_order_of cd_order_of ct_order_of : Value}
    {kD_order_of kT_order_of : Addr} {kn_order_of : Nat}
    {f_law_passed : Addr} {od_law_passed an_law_passed : Option Addr} {sl_law_passed : Array (Option Value)} {oc_law_passed dc_law_passed pm_law_passed cd_law_passed ct_law_passed : Value}
    {kV_law_passed : Value}
    {f_law_first : Addr} {od_law_first an_law_first : Option Addr} {sl_law_first : Array (Option Value)} {oc_law_first dc_law_first pm_law_first cd_law_first ct_law_first : Value}
    {kV_law_first : Value}
    {f_law_left : Addr} {od_law_left an_law_left : Option Addr} {sl_law_left : Array (Option Value)} {oc_law_left dc_law_left pm_law_left cd_law_left ct_law_left : Value}
    {kV_law_left : Value}
    {f_law_told_right : Addr} {od_law_told_right an_law_told_right : Option Addr} {sl_law_told_right : Array (Option Value)} {oc_law_told_right dc_law_told_right pm_law_told_right cd_law_told_right ct_law_told_right : Value}
    {kV_law_told_right : Value}
    {f_law_spots : Addr} {od_law_spots an_law_spots : Option Addr} {sl_law_spots : Array (Option Value)} {oc_law_spots dc_law_spots pm_law_spots cd_law_spots ct_law_spots : Value}
    {kV_law_spots : Value}
    {f_law_right : Addr} {od_law_right an_law_right : Option Addr} {sl_law_right : Array (Option Value)} {oc_law_right dc_law_right pm_law_right cd_law_right ct_law_right : Value}
    {kV_law_right : Value}
    {f_law : Addr} {od_law an_law : Option Addr} {sl_law : Array (Option Value)} {oc_law dc_law pm_law cd_law ct_law : Value}
    {kV_law : Value}
    (aFarm : PySem.W.nsIn K mainGlobals "Farm" = some (some (.ref C0)))
    (aFE : PySem.W.nsIn K mainGlobals "FarmError" = some (some (.ref CB)))
    (aX0 : PySem.W.nsIn K mainGlobals "NoFarm" = some (some (.ref X0)))
    (xL0 : K.lookup X0 = some (PySem.excClassObj xn0 xq0 X0 xN0 xb0 [.ref CB, .type "ValueError", .type "Exception", .type "BaseException", .type "object"] true xs0 xu0 xa0 xc0 xd0 xe0 xf0 xg0 xh0 xi0 "ValueError.__new__"))
    (xsa0 : PySem.W.findIn K (.ref X0) "__setattr__" = some (some (.builtin "object.__setattr__")))
    (xex0 : PySem.W.subIn K (.ref X0) (.type "BaseException") = some true)
    (xty0 : PySem.W.typeIn K (.ref X0) = some (.type "type"))
    (xkp0 : PySem.W.keepIn K (.ref X0) = true)
    (xp0_part : PySem.W.findIn K (.ref X0) "part" = some none)
    (xp0_index : PySem.W.findIn K (.ref X0) "index" = some none)
    (aX2 : PySem.W.nsIn K mainGlobals "NoPlacement" = some (some (.ref X2)))
    (xL2 : K.lookup X2 = some (PySem.excClassObj xn2 xq2 X2 xN2 xb2 [.ref CB, .type "ValueError", .type "Exception", .type "BaseException", .type "object"] true xs2 xu2 xa2 xc2 xd2 xe2 xf2 xg2 xh2 xi2 "ValueError.__new__"))
    (xsa2 : PySem.W.findIn K (.ref X2) "__setattr__" = some (some (.builtin "object.__setattr__")))
    (xex2 : PySem.W.subIn K (.ref X2) (.type "BaseException") = some true)
    (xty2 : PySem.W.typeIn K (.ref X2) = some (.type "type"))
    (xkp2 : PySem.W.keepIn K (.ref X2) = true)
    (xp2_index : PySem.W.findIn K (.ref X2) "index" = some none)
    (aX3 : PySem.W.nsIn K mainGlobals "NoSessions" = some (some (.ref X3)))
    (xL3 : K.lookup X3 = some (PySem.excClassObj xn3 xq3 X3 xN3 xb3 [.ref CB, .type "ValueError", .type "Exception", .type "BaseException", .type "object"] true xs3 xu3 xa3 xc3 xd3 xe3 xf3 xg3 xh3 xi3 "ValueError.__new__"))
    (xsa3 : PySem.W.findIn K (.ref X3) "__setattr__" = some (some (.builtin "object.__setattr__")))
    (xex3 : PySem.W.subIn K (.ref X3) (.type "BaseException") = some true)
    (xty3 : PySem.W.typeIn K (.ref X3) = some (.type "type"))
    (xkp3 : PySem.W.keepIn K (.ref X3) = true)
    (xp3_index : PySem.W.findIn K (.ref X3) "index" = some none)
    (fB : PySem.W.specialIn K (.ref CB) "__getattribute__" = some (some (.builtin "type.__getattribute__")))
    (fR : PySem.W.readsIn K CB (.type "type") = true)
    (fV : PySem.W.findCls K (.ref CB) (.type "type") "__init__" = some (.val (.builtin "ValueError.__init__")))
    (pg : PySem.W.plainGet K C0 Str.empty = true)
    (hd : PySem.W.hasDictIn K C0 = true)
    (po : PySem.W.plainOver K C0 = true)
    (sa : PySem.W.findIn K (.ref C0) "__setattr__" = some (some (.builtin "object.__setattr__")))
    (mk : PySem.W.makesIn K C0 = true)
    (kc : PySem.W.keepIn K (.ref C0) = true)
    (n_many : PySem.W.findIn K (.ref C0) "many" = some none)
    (n_rows : PySem.W.findIn K (.ref C0) "rows" = some none)
    (n_most : PySem.W.findIn K (.ref C0) "most" = some none)
    (zlen : PySem.W.nsIn K mainGlobals "len" = some none)
    (ztuple : PySem.W.nsIn K mainGlobals "tuple" = some none)
    (zlist : PySem.W.nsIn K mainGlobals "list" = some none)
    (zint : PySem.W.nsIn K mainGlobals "int" = some none)
    (zsum : PySem.W.nsIn K mainGlobals "sum" = some none)
    (zall : PySem.W.nsIn K mainGlobals "all" = some none)
    (zmax : PySem.W.nsIn K mainGlobals "max" = some none)
    (zmin : PySem.W.nsIn K mainGlobals "min" = some none)
    (zsorted : PySem.W.nsIn K mainGlobals "sorted" = some none)
    (zisinstance : PySem.W.nsIn K mainGlobals "isinstance" = some none)
    (zenumerate : PySem.W.nsIn K mainGlobals "enumerate" = some none)
    (zrange : PySem.W.nsIn K mainGlobals "range" = some none)
    (zset : PySem.W.nsIn K mainGlobals "set" = some none)
    (zbool : PySem.W.nsIn K mainGlobals "bool" = some none)
    (zstr : PySem.W.nsIn K mainGlobals "str" = some none)
    (g_MAX_SERVERS : PySem.W.nsIn K mainGlobals "MAX_SERVERS" = some (some (.int 30 t_MAX_SERVERS)))
    (g_MAX_SESSIONS : PySem.W.nsIn K mainGlobals "MAX_SESSIONS" = some (some (.int 60 t_MAX_SESSIONS)))
    (a_NoFarmdd_initdd : PySem.W.findIn K (.ref X0) "__init__" = some (some (.ref f_NoFarmdd_initdd)))
    (l_NoFarmdd_initdd : K.lookup f_NoFarmdd_initdd = some ⟨oc_NoFarmdd_initdd, od_NoFarmdd_initdd, .func (PySem.W.fnOf "__init__" "NoFarm.__init__" (defArgs s_x0) (defBody s_x0) (defScope s_x0) .none kV_NoFarmdd_initdd dc_NoFarmdd_initdd pm_NoFarmdd_initdd an_NoFarmdd_initdd cd_NoFarmdd_initdd ct_NoFarmdd_initdd), sl_NoFarmdd_initdd⟩)
    (c_NoFarmdd_initdd : PySem.W.codeIn K cd_NoFarmdd_initdd "NoFarm.__init__" = true)
    (k_NoFarmdd_initdd : PySem.W.keepIn K (.ref f_NoFarmdd_initdd) = true)
    (i_NoFarmdd_initdd : PySem.W.typeIn K (.ref f_NoFarmdd_initdd) = some (.type "function"))
    (a_NoPlacementdd_initdd : PySem.W.findIn K (.ref X2) "__init__" = some (some (.ref f_NoPlacementdd_initdd)))
    (l_NoPlacementdd_initdd : K.lookup f_NoPlacementdd_initdd = some ⟨oc_NoPlacementdd_initdd, od_NoPlacementdd_initdd, .func (PySem.W.fnOf "__init__" "NoPlacement.__init__" (defArgs s_x2) (defBody s_x2) (defScope s_x2) .none kV_NoPlacementdd_initdd dc_NoPlacementdd_initdd pm_NoPlacementdd_initdd an_NoPlacementdd_initdd cd_NoPlacementdd_initdd ct_NoPlacementdd_initdd), sl_NoPlacementdd_initdd⟩)
    (c_NoPlacementdd_initdd : PySem.W.codeIn K cd_NoPlacementdd_initdd "NoPlacement.__init__" = true)
    (k_NoPlacementdd_initdd : PySem.W.keepIn K (.ref f_NoPlacementdd_initdd) = true)
    (i_NoPlacementdd_initdd : PySem.W.typeIn K (.ref f_NoPlacementdd_initdd) = some (.type "function"))
    (a_NoSessionsdd_initdd : PySem.W.findIn K (.ref X3) "__init__" = some (some (.ref f_NoSessionsdd_initdd)))
    (l_NoSessionsdd_initdd : K.lookup f_NoSessionsdd_initdd = some ⟨oc_NoSessionsdd_initdd, od_NoSessionsdd_initdd, .func (PySem.W.fnOf "__init__" "NoSessions.__init__" (defArgs s_x3) (defBody s_x3) (defScope s_x3) .none kV_NoSessionsdd_initdd dc_NoSessionsdd_initdd pm_NoSessionsdd_initdd an_NoSessionsdd_initdd cd_NoSessionsdd_initdd ct_NoSessionsdd_initdd), sl_NoSessionsdd_initdd⟩)
    (c_NoSessionsdd_initdd : PySem.W.codeIn K cd_NoSessionsdd_initdd "NoSessions.__init__" = true)
    (k_NoSessionsdd_initdd : PySem.W.keepIn K (.ref f_NoSessionsdd_initdd) = true)
    (i_NoSessionsdd_initdd : PySem.W.typeIn K (.ref f_NoSessionsdd_initdd) = some (.type "function"))
    (a_Farmdd_initdd : PySem.W.findIn K (.ref C0) "__init__" = some (some (.ref f_Farmdd_initdd)))
    (l_Farmdd_initdd : K.lookup f_Farmdd_initdd = some ⟨oc_Farmdd_initdd, od_Farmdd_initdd, .func (PySem.W.fnOf "__init__" "Farm.__init__" (defArgs s_Farmdd_initdd) (defBody s_Farmdd_initdd) (defScope s_Farmdd_initdd) .none kV_Farmdd_initdd dc_Farmdd_initdd pm_Farmdd_initdd an_Farmdd_initdd cd_Farmdd_initdd ct_Farmdd_initdd), sl_Farmdd_initdd⟩)
    (c_Farmdd_initdd : PySem.W.codeIn K cd_Farmdd_initdd "Farm.__init__" = true)
    (k_Farmdd_initdd : PySem.W.keepIn K (.ref f_Farmdd_initdd) = true)
    (i_Farmdd_initdd : PySem.W.isFn K (.ref f_Farmdd_initdd) = true)
    (a_Farmdd_lendd : PySem.W.findIn K (.ref C0) "__len__" = some (some (.ref f_Farmdd_lendd)))
    (l_Farmdd_lendd : K.lookup f_Farmdd_lendd = some ⟨oc_Farmdd_lendd, od_Farmdd_lendd, .func (PySem.W.fnOf "__len__" "Farm.__len__" (defArgs s_Farmdd_lendd) (defBody s_Farmdd_lendd) (defScope s_Farmdd_lendd) .none kV_Farmdd_lendd dc_Farmdd_lendd pm_Farmdd_lendd an_Farmdd_lendd cd_Farmdd_lendd ct_Farmdd_lendd), sl_Farmdd_lendd⟩)
    (c_Farmdd_lendd : PySem.W.codeIn K cd_Farmdd_lendd "Farm.__len__" = true)
    (k_Farmdd_lendd : PySem.W.keepIn K (.ref f_Farmdd_lendd) = true)
    (i_Farmdd_lendd : PySem.W.isFn K (.ref f_Farmdd_lendd) = true)
    (a_law_draw : PySem.W.nsIn K mainGlobals "_law_draw" = some (some (.ref f_law_draw)))
    (l_law_draw : K.lookup f_law_draw = some ⟨oc_law_draw, od_law_draw, .func (PySem.W.fnOf "_law_draw" "_law_draw" (defArgs s_law_draw) (defBody s_law_draw) (defScope s_law_draw) .none kV_law_draw dc_law_draw pm_law_draw an_law_draw cd_law_draw ct_law_draw), sl_law_draw⟩)
    (c_law_draw : PySem.W.codeIn K cd_law_draw "_law_draw" = true)
    (k_law_draw : PySem.W.keepIn K (.ref f_law_draw) = true)
    (a_law_farm : PySem.W.nsIn K mainGlobals "_law_farm" = some (some (.ref f_law_farm)))
    (l_law_farm : K.lookup f_law_farm = some ⟨oc_law_farm, od_law_farm, .func (PySem.W.fnOf "_law_farm" "_law_farm" (defArgs s_law_farm) (defBody s_law_farm) (defScope s_law_farm) .none kV_law_farm dc_law_farm pm_law_farm an_law_farm cd_law_farm ct_law_farm), sl_law_farm⟩)
    (c_law_farm : PySem.W.codeIn K cd_law_farm "_law_farm" = true)
    (k_law_farm : PySem.W.keepIn K (.ref f_law_farm) = true)
    (a_is_int : PySem.W.nsIn K mainGlobals "is_int" = some (some (.ref f_is_int)))
    (l_is_int : K.lookup f_is_int = some ⟨oc_is_int, od_is_int, .func (PySem.W.fnOf "is_int" "is_int" (defArgs s_is_int) (defBody s_is_int) (defScope s_is_int) .none kV_is_int dc_is_int pm_is_int an_is_int cd_is_int ct_is_int), sl_is_int⟩)
    (c_is_int : PySem.W.codeIn K cd_is_int "is_int" = true)
    (k_is_int : PySem.W.keepIn K (.ref f_is_int) = true)
    (a_is_from : PySem.W.nsIn K mainGlobals "is_from" = some (some (.ref f_is_from)))
    (l_is_from : K.lookup f_is_from = some ⟨oc_is_from, od_is_from, .func (PySem.W.fnOf "is_from" "is_from" (defArgs s_is_from) (defBody s_is_from) (defScope s_is_from) .none kV_is_from dc_is_from pm_is_from an_is_from cd_is_from ct_is_from), sl_is_from⟩)
    (c_is_from : PySem.W.codeIn K cd_is_from "is_from" = true)
    (k_is_from : PySem.W.keepIn K (.ref f_is_from) = true)
    (a_is_row : PySem.W.nsIn K mainGlobals "is_row" = some (some (.ref f_is_row)))
    (l_is_row : K.lookup f_is_row = some ⟨oc_is_row, od_is_row, .func (PySem.W.fnOf "is_row" "is_row" (defArgs s_is_row) (defBody s_is_row) (defScope s_is_row) .none kV_is_row dc_is_row pm_is_row an_is_row cd_is_row ct_is_row), sl_is_row⟩)
    (c_is_row : PySem.W.codeIn K cd_is_row "is_row" = true)
    (k_is_row : PySem.W.keepIn K (.ref f_is_row) = true)
    (a_law_events : PySem.W.nsIn K mainGlobals "_law_events" = some (some (.ref f_law_events)))
    (l_law_events : K.lookup f_law_events = some ⟨oc_law_events, od_law_events, .func (PySem.W.fnOf "_law_events" "_law_events" (defArgs s_law_events) (defBody s_law_events) (defScope s_law_events) .none kV_law_events dc_law_events pm_law_events an_law_events cd_law_events ct_law_events), sl_law_events⟩)
    (c_law_events : PySem.W.codeIn K cd_law_events "_law_events" = true)
    (k_law_events : PySem.W.keepIn K (.ref f_law_events) = true)
    (a_law_after : PySem.W.nsIn K mainGlobals "_law_after" = some (some (.ref f_law_after)))
    (l_law_after : K.lookup f_law_after = some ⟨oc_law_after, od_law_after, .func (PySem.W.fnOf "_law_after" "_law_after" (defArgs s_law_after) (defBody s_law_after) (defScope s_law_after) .none kV_law_after dc_law_after pm_law_after an_law_after cd_law_after ct_law_after), sl_law_after⟩)
    (c_law_after : PySem.W.codeIn K cd_law_after "_law_after" = true)
    (k_law_after : PySem.W.keepIn K (.ref f_law_after) = true)
    (a_law_run : PySem.W.nsIn K mainGlobals "_law_run" = some (some (.ref f_law_run)))
    (l_law_run : K.lookup f_law_run = some ⟨oc_law_run, od_law_run, .func (PySem.W.fnOf "_law_run" "_law_run" (defArgs s_law_run) (defBody s_law_run) (defScope s_law_run) .none kV_law_run dc_law_run pm_law_run an_law_run cd_law_run ct_law_run), sl_law_run⟩)
    (c_law_run : PySem.W.codeIn K cd_law_run "_law_run" = true)
    (k_law_run : PySem.W.keepIn K (.ref f_law_run) = true)
    (a_check_placement : PySem.W.nsIn K mainGlobals "check_placement" = some (some (.ref f_check_placement)))
    (l_check_placement : K.lookup f_check_placement = some ⟨oc_check_placement, od_check_placement, .func (PySem.W.fnOf "check_placement" "check_placement" (defArgs s_check_placement) (defBody s_check_placement) (defScope s_check_placement) .none kV_check_placement dc_check_placement pm_check_placement an_check_placement cd_check_placement ct_check_placement), sl_check_placement⟩)
    (c_check_placement : PySem.W.codeIn K cd_check_placement "check_placement" = true)
    (k_check_placement : PySem.W.keepIn K (.ref f_check_placement) = true)
    (a_check_staying : PySem.W.nsIn K mainGlobals "check_staying" = some (some (.ref f_check_staying)))
    (l_check_staying : K.lookup f_check_staying = some ⟨oc_check_staying, od_check_staying, .func (PySem.W.fnOf "check_staying" "check_staying" (defArgs s_check_staying) (defBody s_check_staying) (defScope s_check_staying) .none kV_check_staying dc_check_staying pm_check_staying an_check_staying cd_check_staying ct_check_staying), sl_check_staying⟩)
    (c_check_staying : PySem.W.codeIn K cd_check_staying "check_staying" = true)
    (k_check_staying : PySem.W.keepIn K (.ref f_check_staying) = true)
    (a_movers : PySem.W.nsIn K mainGlobals "movers" = some (some (.ref f_movers)))
    (l_movers : K.lookup f_movers = some ⟨oc_movers, od_movers, .func (PySem.W.fnOf "movers" "movers" (defArgs s_movers) (defBody s_movers) (defScope s_movers) .none kV_movers dc_movers pm_movers an_movers cd_movers ct_movers), sl_movers⟩)
    (c_movers : PySem.W.codeIn K cd_movers "movers" = true)
    (k_movers : PySem.W.keepIn K (.ref f_movers) = true)
    (a_place_in_list : PySem.W.nsIn K mainGlobals "place_in_list" = some (some (.ref f_place_in_list)))
    (l_place_in_list : K.lookup f_place_in_list = some ⟨oc_place_in_list, od_place_in_list, .func (PySem.W.fnOf "place_in_list" "place_in_list" (defArgs s_place_in_list) (defBody s_place_in_list) (defScope s_place_in_list) .none kV_place_in_list dc_place_in_list pm_place_in_list an_place_in_list cd_place_in_list ct_place_in_list), sl_place_in_list⟩)
    (c_place_in_list : PySem.W.codeIn K cd_place_in_list "place_in_list" = true)
    (k_place_in_list : PySem.W.keepIn K (.ref f_place_in_list) = true)
    (a_first_far : PySem.W.nsIn K mainGlobals "first_far" = some (some (.ref f_first_far)))
    (l_first_far : K.lookup f_first_far = some ⟨oc_first_far, od_first_far, .func (PySem.W.fnOf "first_far" "first_far" (defArgs s_first_far) (defBody s_first_far) (defScope s_first_far) .none kV_first_far dc_first_far pm_first_far an_first_far cd_first_far ct_first_far), sl_first_far⟩)
    (c_first_far : PySem.W.codeIn K cd_first_far "first_far" = true)
    (k_first_far : PySem.W.keepIn K (.ref f_first_far) = true)
    (a_passed_over : PySem.W.nsIn K mainGlobals "passed_over" = some (some (.ref f_passed_over)))
    (l_passed_over : K.lookup f_passed_over = some ⟨oc_passed_over, od_passed_over, .func (PySem.W.fnOf "passed_over" "passed_over" (defArgs s_passed_over) (defBody s_passed_over) (defScope s_passed_over) .none kV_passed_over dc_passed_over pm_passed_over an_passed_over cd_passed_over ct_passed_over), sl_passed_over⟩)
    (c_passed_over : PySem.W.codeIn K cd_passed_over "passed_over" = true)
    (k_passed_over : PySem.W.keepIn K (.ref f_passed_over) = true)
    (a_first_held : PySem.W.nsIn K mainGlobals "first_held" = some (some (.ref f_first_held)))
    (l_first_held : K.lookup f_first_held = some ⟨oc_first_held, od_first_held, .func (PySem.W.fnOf "first_held" "first_held" (defArgs s_first_held) (defBody s_first_held) (defScope s_first_held) .none kV_first_held dc_first_held pm_first_held an_first_held cd_first_held ct_first_held), sl_first_held⟩)
    (c_first_held : PySem.W.codeIn K cd_first_held "first_held" = true)
    (k_first_held : PySem.W.keepIn K (.ref f_first_held) = true)
    (a_ring_among : PySem.W.nsIn K mainGlobals "ring_among" = some (some (.ref f_ring_among)))
    (l_ring_among : K.lookup f_ring_among = some ⟨oc_ring_among, od_ring_among, .func (PySem.W.fnOf "ring_among" "ring_among" (defArgs s_ring_among) (defBody s_ring_among) (defScope s_ring_among) .none kV_ring_among dc_ring_among pm_ring_among an_ring_among cd_ring_among ct_ring_among), sl_ring_among⟩)
    (c_ring_among : PySem.W.codeIn K cd_ring_among "ring_among" = true)
    (k_ring_among : PySem.W.keepIn K (.ref f_ring_among) = true)
    (a_order_of : PySem.W.nsIn K mainGlobals "order_of" = some (some (.ref f_order_of)))
    (l_order_of : K.lookup f_order_of = some ⟨oc_order_of, od_order_of, .func (PySem.W.fnOf "order_of" "order_of" (defArgs s_order_of) (defBody s_order_of) (defScope s_order_of) .none (.ref kD_order_of) dc_order_of pm_order_of an_order_of cd_order_of ct_order_of), sl_order_of⟩)
    (c_order_of : PySem.W.codeIn K cd_order_of "order_of" = true)
    (k_order_of : PySem.W.keepIn K (.ref f_order_of) = true)
    (ks_order_of : PySem.W.nsIn K kD_order_of "staying" = some (some (.ref kT_order_of)))
    (kt_order_of : K.lookup kT_order_of = some { cls := .type "tuple", data := .seq ([] : List Value).toArray kn_order_of })
    (a_law_passed : PySem.W.nsIn K mainGlobals "_law_passed" = some (some (.ref f_law_passed)))
    (l_law_passed : K.lookup f_law_passed = some ⟨oc_law_passed, od_law_passed, .func (PySem.W.fnOf "_law_passed" "_law_passed" (defArgs s_law_passed) (defBody s_law_passed) (defScope s_law_passed) .none kV_law_passed dc_law_passed pm_law_passed an_law_passed cd_law_passed ct_law_passed), sl_law_passed⟩)
    (c_law_passed : PySem.W.codeIn K cd_law_passed "_law_passed" = true)
    (k_law_passed : PySem.W.keepIn K (.ref f_law_passed) = true)
    (a_law_first : PySem.W.nsIn K mainGlobals "_law_first" = some (some (.ref f_law_first)))
    (l_law_first : K.lookup f_law_first = some ⟨oc_law_first, od_law_first, .func (PySem.W.fnOf "_law_first" "_law_first" (defArgs s_law_first) (defBody s_law_first) (defScope s_law_first) .none kV_law_first dc_law_first pm_law_first an_law_first cd_law_first ct_law_first), sl_law_first⟩)
    (c_law_first : PySem.W.codeIn K cd_law_first "_law_first" = true)
    (k_law_first : PySem.W.keepIn K (.ref f_law_first) = true)
    (a_law_left : PySem.W.nsIn K mainGlobals "_law_left" = some (some (.ref f_law_left)))
    (l_law_left : K.lookup f_law_left = some ⟨oc_law_left, od_law_left, .func (PySem.W.fnOf "_law_left" "_law_left" (defArgs s_law_left) (defBody s_law_left) (defScope s_law_left) .none kV_law_left dc_law_left pm_law_left an_law_left cd_law_left ct_law_left), sl_law_left⟩)
    (c_law_left : PySem.W.codeIn K cd_law_left "_law_left" = true)
    (k_law_left : PySem.W.keepIn K (.ref f_law_left) = true)
    (a_law_told_right : PySem.W.nsIn K mainGlobals "_law_told_right" = some (some (.ref f_law_told_right)))
    (l_law_told_right : K.lookup f_law_told_right = some ⟨oc_law_told_right, od_law_told_right, .func (PySem.W.fnOf "_law_told_right" "_law_told_right" (defArgs s_law_told_right) (defBody s_law_told_right) (defScope s_law_told_right) .none kV_law_told_right dc_law_told_right pm_law_told_right an_law_told_right cd_law_told_right ct_law_told_right), sl_law_told_right⟩)
    (c_law_told_right : PySem.W.codeIn K cd_law_told_right "_law_told_right" = true)
    (k_law_told_right : PySem.W.keepIn K (.ref f_law_told_right) = true)
    (a_law_spots : PySem.W.nsIn K mainGlobals "_law_spots" = some (some (.ref f_law_spots)))
    (l_law_spots : K.lookup f_law_spots = some ⟨oc_law_spots, od_law_spots, .func (PySem.W.fnOf "_law_spots" "_law_spots" (defArgs s_law_spots) (defBody s_law_spots) (defScope s_law_spots) .none kV_law_spots dc_law_spots pm_law_spots an_law_spots cd_law_spots ct_law_spots), sl_law_spots⟩)
    (c_law_spots : PySem.W.codeIn K cd_law_spots "_law_spots" = true)
    (k_law_spots : PySem.W.keepIn K (.ref f_law_spots) = true)
    (a_law_right : PySem.W.nsIn K mainGlobals "_law_right" = some (some (.ref f_law_right)))
    (l_law_right : K.lookup f_law_right = some ⟨oc_law_right, od_law_right, .func (PySem.W.fnOf "_law_right" "_law_right" (defArgs s_law_right) (defBody s_law_right) (defScope s_law_right) .none kV_law_right dc_law_right pm_law_right an_law_right cd_law_right ct_law_right), sl_law_right⟩)
    (c_law_right : PySem.W.codeIn K cd_law_right "_law_right" = true)
    (k_law_right : PySem.W.keepIn K (.ref f_law_right) = true)
    (a_law : PySem.W.nsIn K mainGlobals "law" = some (some (.ref f_law)))
    (l_law : K.lookup f_law = some ⟨oc_law, od_law, .func (PySem.W.fnOf "law" "law" (defArgs s_law) (defBody s_law) (defScope s_law) .none kV_law dc_law pm_law an_law cd_law ct_law), sl_law⟩)
    (c_law : PySem.W.codeIn K cd_law "law" = true)
    (k_law : PySem.W.keepIn K (.ref f_law) = true) :
    ∃ fd : FuncData, (∀ (s : Shared) (v : Value), BindsTo s fd ⟨[v], []⟩ [("_law_script", v)]) ∧ ∀ base : Heap, K.In base → base.Ns mainGlobals mg → FnOk l.prog w K mg base (L2.CX l.prog w) 7 fa fd ["_law_script"] (spLaw K) := by
  have e := hfa.symm.trans (PySem.W.mg_of X G a_law)
  cases e
  have blt : Blt mg := ⟨PySem.W.mg_none_of X G zlen, PySem.W.mg_none_of X G ztuple, PySem.W.mg_none_of X G zlist, PySem.W.mg_none_of X G zint, PySem.W.mg_none_of X G zsum, PySem.W.mg_none_of X G zall, PySem.W.mg_none_of X G zmax, PySem.W.mg_none_of X G zmin, PySem.W.mg_none_of X G zsorted, PySem.W.mg_none_of X G zisinstance, PySem.W.mg_none_of X G zenumerate, PySem.W.mg_none_of X G zrange, PySem.W.mg_none_of X G zset, PySem.W.mg_none_of X G zbool, PySem.W.mg_none_of X G zstr⟩
  have T : Txt K mg C0 := ⟨blt, ⟨pg, hd, po, sa⟩, n_many, n_rows, n_most, ⟨_, PySem.W.mg_of X G g_MAX_SERVERS⟩, ⟨_, PySem.W.mg_of X G g_MAX_SESSIONS⟩⟩
  have TB : BaseX K mg CB := ⟨PySem.W.mg_of X G aFE, fB, fR, fV⟩
  have O0 : OexC K X0 := ⟨⟨_, _, _, _, _, _, _, _, _, _, _, _, _, _, _, xL0, mro_ok⟩, xsa0, xex0, xty0, xkp0⟩
  have O2 : OexC K X2 := ⟨⟨_, _, _, _, _, _, _, _, _, _, _, _, _, _, _, xL2, mro_ok⟩, xsa2, xex2, xty2, xkp2⟩
  have O3 : OexC K X3 := ⟨⟨_, _, _, _, _, _, _, _, _, _, _, _, _, _, _, xL3, mro_ok⟩, xsa3, xex3, xty3, xkp3⟩
  have F_NoFarmdd_initdd : FunD K "__init__" "NoFarm.__init__" (defArgs s_x0) (defBody s_x0) (defScope s_x0) [] [] _ _ := ⟨⟨_, _, _, _, _, _, _, _, _, _, rfl, l_NoFarmdd_initdd, c_NoFarmdd_initdd, .inl ⟨rfl, rfl⟩, .inl rfl⟩, k_NoFarmdd_initdd⟩
  have b_NoFarmdd_initdd : Binds K _ ["self", "part", "index"] [] := F_NoFarmdd_initdd.bindsN fun _ _ _ _ _ _ us hl => match us, hl with | [_, _, _], _ => rfl
  have F_NoPlacementdd_initdd : FunD K "__init__" "NoPlacement.__init__" (defArgs s_x2) (defBody s_x2) (defScope s_x2) [] [] _ _ := ⟨⟨_, _, _, _, _, _, _, _, _, _, rfl, l_NoPlacementdd_initdd, c_NoPlacementdd_initdd, .inl ⟨rfl, rfl⟩, .inl rfl⟩, k_NoPlacementdd_initdd⟩
  have b_NoPlacementdd_initdd : Binds K _ ["self", "index"] [] := F_NoPlacementdd_initdd.bindsN fun _ _ _ _ _ _ us hl => match us, hl with | [_, _], _ => rfl
  have F_NoSessionsdd_initdd : FunD K "__init__" "NoSessions.__init__" (defArgs s_x3) (defBody s_x3) (defScope s_x3) [] [] _ _ := ⟨⟨_, _, _, _, _, _, _, _, _, _, rfl, l_NoSessionsdd_initdd, c_NoSessionsdd_initdd, .inl ⟨rfl, rfl⟩, .inl rfl⟩, k_NoSessionsdd_initdd⟩
  have b_NoSessionsdd_initdd : Binds K _ ["self", "index"] [] := F_NoSessionsdd_initdd.bindsN fun _ _ _ _ _ _ us hl => match us, hl with | [_, _], _ => rfl
  have F_Farmdd_initdd : FunD K "__init__" "Farm.__init__" (defArgs s_Farmdd_initdd) (defBody s_Farmdd_initdd) (defScope s_Farmdd_initdd) [] [] _ _ := ⟨⟨_, _, _, _, _, _, _, _, _, _, rfl, l_Farmdd_initdd, c_Farmdd_initdd, .inl ⟨rfl, rfl⟩, .inl rfl⟩, k_Farmdd_initdd⟩
  have b_Farmdd_initdd : Binds K _ ["self", "servers", "lists", "failures"] [] := F_Farmdd_initdd.bindsN fun _ _ _ _ _ _ us hl => match us, hl with | [_, _, _, _], _ => rfl
  have F_Farmdd_lendd : FunD K "__len__" "Farm.__len__" (defArgs s_Farmdd_lendd) (defBody s_Farmdd_lendd) (defScope s_Farmdd_lendd) [] [] _ _ := ⟨⟨_, _, _, _, _, _, _, _, _, _, rfl, l_Farmdd_lendd, c_Farmdd_lendd, .inl ⟨rfl, rfl⟩, .inl rfl⟩, k_Farmdd_lendd⟩
  have b_Farmdd_lendd : Binds K _ ["self"] [] := F_Farmdd_lendd.bindsN fun _ _ _ _ _ _ us hl => match us, hl with | [_], _ => rfl
  have F_law_draw : FunD K "_law_draw" "_law_draw" (defArgs s_law_draw) (defBody s_law_draw) (defScope s_law_draw) [] [] _ _ := ⟨⟨_, _, _, _, _, _, _, _, _, _, rfl, l_law_draw, c_law_draw, .inl ⟨rfl, rfl⟩, .inl rfl⟩, k_law_draw⟩
  have b_law_draw : Binds K _ ["_law_well", "_law_many"] [] := F_law_draw.bindsN fun _ _ _ _ _ _ us hl => match us, hl with | [_, _], _ => rfl
  have F_law_farm : FunD K "_law_farm" "_law_farm" (defArgs s_law_farm) (defBody s_law_farm) (defScope s_law_farm) [] [] _ _ := ⟨⟨_, _, _, _, _, _, _, _, _, _, rfl, l_law_farm, c_law_farm, .inl ⟨rfl, rfl⟩, .inl rfl⟩, k_law_farm⟩
  have b_law_farm : Binds K _ ["_law_well", "_law_most", "_law_many"] [] := F_law_farm.bindsN fun _ _ _ _ _ _ us hl => match us, hl with | [_, _, _], _ => rfl
  have F_is_int : FunD K "is_int" "is_int" (defArgs s_is_int) (defBody s_is_int) (defScope s_is_int) [] [] _ _ := ⟨⟨_, _, _, _, _, _, _, _, _, _, rfl, l_is_int, c_is_int, .inl ⟨rfl, rfl⟩, .inl rfl⟩, k_is_int⟩
  have b_is_int : Binds K _ ["value"] [] := F_is_int.bindsN fun _ _ _ _ _ _ us hl => match us, hl with | [_], _ => rfl
  have F_is_from : FunD K "is_from" "is_from" (defArgs s_is_from) (defBody s_is_from) (defScope s_is_from) [] [] _ _ := ⟨⟨_, _, _, _, _, _, _, _, _, _, rfl, l_is_from, c_is_from, .inl ⟨rfl, rfl⟩, .inl rfl⟩, k_is_from⟩
  have b_is_from : Binds K _ ["value", "low", "high"] [] := F_is_from.bindsN fun _ _ _ _ _ _ us hl => match us, hl with | [_, _, _], _ => rfl
  have F_is_row : FunD K "is_row" "is_row" (defArgs s_is_row) (defBody s_is_row) (defScope s_is_row) [] [] _ _ := ⟨⟨_, _, _, _, _, _, _, _, _, _, rfl, l_is_row, c_is_row, .inl ⟨rfl, rfl⟩, .inl rfl⟩, k_is_row⟩
  have b_is_row : Binds K _ ["value", "servers"] [] := F_is_row.bindsN fun _ _ _ _ _ _ us hl => match us, hl with | [_, _], _ => rfl
  have F_law_events : FunD K "_law_events" "_law_events" (defArgs s_law_events) (defBody s_law_events) (defScope s_law_events) [] [] _ _ := ⟨⟨_, _, _, _, _, _, _, _, _, _, rfl, l_law_events, c_law_events, .inl ⟨rfl, rfl⟩, .inl rfl⟩, k_law_events⟩
  have b_law_events : Binds K _ ["_law_hosts", "_law_most", "_law_state"] [] := F_law_events.bindsN fun _ _ _ _ _ _ us hl => match us, hl with | [_, _, _], _ => rfl
  have F_law_after : FunD K "_law_after" "_law_after" (defArgs s_law_after) (defBody s_law_after) (defScope s_law_after) [] [] _ _ := ⟨⟨_, _, _, _, _, _, _, _, _, _, rfl, l_law_after, c_law_after, .inl ⟨rfl, rfl⟩, .inl rfl⟩, k_law_after⟩
  have b_law_after : Binds K _ ["_law_rows", "_law_state", "_law_event"] [] := F_law_after.bindsN fun _ _ _ _ _ _ us hl => match us, hl with | [_, _, _], _ => rfl
  have F_law_run : FunD K "_law_run" "_law_run" (defArgs s_law_run) (defBody s_law_run) (defScope s_law_run) [] [] _ _ := ⟨⟨_, _, _, _, _, _, _, _, _, _, rfl, l_law_run, c_law_run, .inl ⟨rfl, rfl⟩, .inl rfl⟩, k_law_run⟩
  have b_law_run : Binds K _ ["_law_well", "_law_farm_here", "_law_state", "_law_many"] [] := F_law_run.bindsN fun _ _ _ _ _ _ us hl => match us, hl with | [_, _, _, _], _ => rfl
  have F_check_placement : FunD K "check_placement" "check_placement" (defArgs s_check_placement) (defBody s_check_placement) (defScope s_check_placement) [] [] _ _ := ⟨⟨_, _, _, _, _, _, _, _, _, _, rfl, l_check_placement, c_check_placement, .inl ⟨rfl, rfl⟩, .inl rfl⟩, k_check_placement⟩
  have b_check_placement : Binds K _ ["farm", "placement"] [] := F_check_placement.bindsN fun _ _ _ _ _ _ us hl => match us, hl with | [_, _], _ => rfl
  have F_check_staying : FunD K "check_staying" "check_staying" (defArgs s_check_staying) (defBody s_check_staying) (defScope s_check_staying) [] [] _ _ := ⟨⟨_, _, _, _, _, _, _, _, _, _, rfl, l_check_staying, c_check_staying, .inl ⟨rfl, rfl⟩, .inl rfl⟩, k_check_staying⟩
  have b_check_staying : Binds K _ ["farm", "placement", "staying"] [] := F_check_staying.bindsN fun _ _ _ _ _ _ us hl => match us, hl with | [_, _, _], _ => rfl
  have F_movers : FunD K "movers" "movers" (defArgs s_movers) (defBody s_movers) (defScope s_movers) [] [] _ _ := ⟨⟨_, _, _, _, _, _, _, _, _, _, rfl, l_movers, c_movers, .inl ⟨rfl, rfl⟩, .inl rfl⟩, k_movers⟩
  have b_movers : Binds K _ ["placement", "staying"] [] := F_movers.bindsN fun _ _ _ _ _ _ us hl => match us, hl with | [_, _], _ => rfl
  have F_place_in_list : FunD K "place_in_list" "place_in_list" (defArgs s_place_in_list) (defBody s_place_in_list) (defScope s_place_in_list) [] [] _ _ := ⟨⟨_, _, _, _, _, _, _, _, _, _, rfl, l_place_in_list, c_place_in_list, .inl ⟨rfl, rfl⟩, .inl rfl⟩, k_place_in_list⟩
  have b_place_in_list : Binds K _ ["farm", "placement", "session"] [] := F_place_in_list.bindsN fun _ _ _ _ _ _ us hl => match us, hl with | [_, _, _], _ => rfl
  have F_first_far : FunD K "first_far" "first_far" (defArgs s_first_far) (defBody s_first_far) (defScope s_first_far) [] [] _ _ := ⟨⟨_, _, _, _, _, _, _, _, _, _, rfl, l_first_far, c_first_far, .inl ⟨rfl, rfl⟩, .inl rfl⟩, k_first_far⟩
  have b_first_far : Binds K _ ["farm", "placement", "staying"] [] := F_first_far.bindsN fun _ _ _ _ _ _ us hl => match us, hl with | [_, _, _], _ => rfl
  have F_passed_over : FunD K "passed_over" "passed_over" (defArgs s_passed_over) (defBody s_passed_over) (defScope s_passed_over) [] [] _ _ := ⟨⟨_, _, _, _, _, _, _, _, _, _, rfl, l_passed_over, c_passed_over, .inl ⟨rfl, rfl⟩, .inl rfl⟩, k_passed_over⟩
  have b_passed_over : Binds K _ ["farm", "placement", "session"] [] := F_passed_over.bindsN fun _ _ _ _ _ _ us hl => match us, hl with | [_, _, _], _ => rfl
  have F_first_held : FunD K "first_held" "first_held" (defArgs s_first_held) (defBody s_first_held) (defScope s_first_held) [] [] _ _ := ⟨⟨_, _, _, _, _, _, _, _, _, _, rfl, l_first_held, c_first_held, .inl ⟨rfl, rfl⟩, .inl rfl⟩, k_first_held⟩
  have b_first_held : Binds K _ ["farm", "placement", "staying"] [] := F_first_held.bindsN fun _ _ _ _ _ _ us hl => match us, hl with | [_, _, _], _ => rfl
  have F_ring_among : FunD K "ring_among" "ring_among" (defArgs s_ring_among) (defBody s_ring_among) (defScope s_ring_among) [] [] _ _ := ⟨⟨_, _, _, _, _, _, _, _, _, _, rfl, l_ring_among, c_ring_among, .inl ⟨rfl, rfl⟩, .inl rfl⟩, k_ring_among⟩
  have b_ring_among : Binds K _ ["farm", "placement", "left"] [] := F_ring_among.bindsN fun _ _ _ _ _ _ us hl => match us, hl with | [_, _, _], _ => rfl
  have F_order_of : FunD K "order_of" "order_of" (defArgs s_order_of) (defBody s_order_of) (defScope s_order_of) [] [("staying", V.ref kT_order_of)] _ _ := ⟨⟨_, _, _, _, _, _, _, _, _, _, rfl, l_order_of, c_order_of, .inl ⟨rfl, rfl⟩, .inr ⟨kD_order_of, rfl, fun q hq => by simp at hq; subst hq; exact ⟨_, ks_order_of, rfl⟩⟩⟩, k_order_of⟩
  obtain ⟨vd_order_of, v_order_of, b_order_of⟩ := F_order_of.binds0 (ps := ["farm", "placement", "staying"]) 2 (by simp) rfl fun D _ _ _ _ _ us ks h1 h2 => match us, ks, h1, h2 with | [_, _], [_], _, _ => ⟨_, _, _, _, _, _, rfl, rfl, rfl⟩
  have r_order_of : ∀ G, RepL (cfK K C0 ([X0, 0, X2, X3].getD · 0)) G [V.ref kT_order_of] [.tup []] := fun G => .one (.tup (.inr ⟨_, _, _, kt_order_of, rfl, rfl, rfl, by simp, .nil⟩) .nil)
  have q_order_of : KBn K (PySem.W.fnOf "order_of" "order_of" (defArgs s_order_of) (defBody s_order_of) (defScope s_order_of) .none (.ref kD_order_of) dc_order_of pm_order_of an_order_of cd_order_of ct_order_of) ["farm", "placement", "staying"] 2 ["staying"] (fun us ws => us ++ ws) (fun vs zs => vs ++ zs) := ⟨fun s us ws _ h1 h2 => match us, ws, h1, h2 with | [_, _], [_], _, _ => .of_eq rfl, fun r1 r2 => r1.append r2⟩
  have F_law_passed : FunD K "_law_passed" "_law_passed" (defArgs s_law_passed) (defBody s_law_passed) (defScope s_law_passed) [] [] _ _ := ⟨⟨_, _, _, _, _, _, _, _, _, _, rfl, l_law_passed, c_law_passed, .inl ⟨rfl, rfl⟩, .inl rfl⟩, k_law_passed⟩
  have b_law_passed : Binds K _ ["_law_rows", "_law_spots_here", "_law_one"] [] := F_law_passed.bindsN fun _ _ _ _ _ _ us hl => match us, hl with | [_, _, _], _ => rfl
  have F_law_first : FunD K "_law_first" "_law_first" (defArgs s_law_first) (defBody s_law_first) (defScope s_law_first) [] [] _ _ := ⟨⟨_, _, _, _, _, _, _, _, _, _, rfl, l_law_first, c_law_first, .inl ⟨rfl, rfl⟩, .inl rfl⟩, k_law_first⟩
  have b_law_first : Binds K _ ["_law_parts", "_law_spots_here", "_law_stays", "_law_others"] [] := F_law_first.bindsN fun _ _ _ _ _ _ us hl => match us, hl with | [_, _, _, _], _ => rfl
  have F_law_left : FunD K "_law_left" "_law_left" (defArgs s_law_left) (defBody s_law_left) (defScope s_law_left) [] [] _ _ := ⟨⟨_, _, _, _, _, _, _, _, _, _, rfl, l_law_left, c_law_left, .inl ⟨rfl, rfl⟩, .inl rfl⟩, k_law_left⟩
  have b_law_left : Binds K _ ["_law_rows", "_law_spots_here", "_law_some"] [] := F_law_left.bindsN fun _ _ _ _ _ _ us hl => match us, hl with | [_, _, _], _ => rfl
  have F_law_told_right : FunD K "_law_told_right" "_law_told_right" (defArgs s_law_told_right) (defBody s_law_told_right) (defScope s_law_told_right) [] [] _ _ := ⟨⟨_, _, _, _, _, _, _, _, _, _, rfl, l_law_told_right, c_law_told_right, .inl ⟨rfl, rfl⟩, .inl rfl⟩, k_law_told_right⟩
  have b_law_told_right : Binds K _ ["_law_parts", "_law_spots_here", "_law_stays", "_law_told"] [] := F_law_told_right.bindsN fun _ _ _ _ _ _ us hl => match us, hl with | [_, _, _, _], _ => rfl
  have F_law_spots : FunD K "_law_spots" "_law_spots" (defArgs s_law_spots) (defBody s_law_spots) (defScope s_law_spots) [] [] _ _ := ⟨⟨_, _, _, _, _, _, _, _, _, _, rfl, l_law_spots, c_law_spots, .inl ⟨rfl, rfl⟩, .inl rfl⟩, k_law_spots⟩
  have b_law_spots : Binds K _ ["_law_well", "_law_rows"] [] := F_law_spots.bindsN fun _ _ _ _ _ _ us hl => match us, hl with | [_, _], _ => rfl
  have F_law_right : FunD K "_law_right" "_law_right" (defArgs s_law_right) (defBody s_law_right) (defScope s_law_right) [] [] _ _ := ⟨⟨_, _, _, _, _, _, _, _, _, _, rfl, l_law_right, c_law_right, .inl ⟨rfl, rfl⟩, .inl rfl⟩, k_law_right⟩
  have b_law_right : Binds K _ ["_law_well"] [] := F_law_right.bindsN fun _ _ _ _ _ _ us hl => match us, hl with | [_], _ => rfl
  have F_law : FunD K "law" "law" (defArgs s_law) (defBody s_law) (defScope s_law) [] [] _ _ := ⟨⟨_, _, _, _, _, _, _, _, _, _, rfl, l_law, c_law, .inl ⟨rfl, rfl⟩, .inl rfl⟩, k_law⟩
  have b_law : Binds K _ ["_law_script"] [] := F_law.bindsN fun _ _ _ _ _ _ us hl => match us, hl with | [_], _ => rfl
  refine ⟨_, fun s v => F_law.bindsA (ps := ["_law_script"]) (fun _ _ _ _ _ _ us hl => match us, hl with | [_], _ => rfl) s [v] rfl, fun base _ _ => ?_⟩
  have c_law_draw : Cal l.prog w K mg base (cfK K C0 ([X0, 0, X2, X3].getD · 0)) 1 "_law_draw" [0] 2 m_law_draw := ⟨_, _, _, ok_law_draw T  F_law_draw, PySem.W.mg_of X G a_law_draw, k_law_draw, b_law_draw⟩
  have c_law_farm : Cal l.prog w K mg base (cfK K C0 ([X0, 0, X2, X3].getD · 0)) 2 "_law_farm" [0] 3 m_law_farm := ⟨_, _, _, ok_law_farm T c_law_draw F_law_farm, PySem.W.mg_of X G a_law_farm, k_law_farm, b_law_farm⟩
  have c_is_int : Cal l.prog w K mg base (cfK K C0 ([X0, 0, X2, X3].getD · 0)) 1 "is_int" [] 1 m_is_int := ⟨_, _, _, ok_is_int T  F_is_int, PySem.W.mg_of X G a_is_int, k_is_int, b_is_int⟩
  have c_is_from : Cal l.prog w K mg base (cfK K C0 ([X0, 0, X2, X3].getD · 0)) 2 "is_from" [] 3 m_is_from := ⟨_, _, _, ok_is_from T c_is_int F_is_from, PySem.W.mg_of X G a_is_from, k_is_from, b_is_from⟩
  have c_NoFarm : CalX2 l.prog w K mg base (cfK K C0 ([X0, 0, X2, X3].getD · 0)) 1 0 "NoFarm" "part" "index" := ⟨⟨_, _, _, ⟨PySem.W.mg_of X G aX0, O0, a_NoFarmdd_initdd, i_NoFarmdd_initdd⟩, ok_x0 TB O0 xp0_part xp0_index F_NoFarmdd_initdd, b_NoFarmdd_initdd⟩, rfl⟩
  have c_is_row : Cal l.prog w K mg base (cfK K C0 ([X0, 0, X2, X3].getD · 0)) 3 "is_row" [] 2 m_is_row := ⟨_, _, _, ok_is_row T c_is_from F_is_row, PySem.W.mg_of X G a_is_row, k_is_row, b_is_row⟩
  have c_Farm : CalM l.prog w K mg base (cfK K C0 ([X0, 0, X2, X3].getD · 0)) 4 "Farm" 4 m_Farmdd_initdd := ⟨_, _, _, ⟨mk, a_Farmdd_initdd, i_Farmdd_initdd, kc⟩, ok_Farmdd_initdd T c_is_from c_NoFarm c_is_row F_Farmdd_initdd, PySem.W.mg_of X G aFarm, b_Farmdd_initdd⟩
  have c_law_events : Cal l.prog w K mg base (cfK K C0 ([X0, 0, X2, X3].getD · 0)) 1 "_law_events" [] 3 m_law_events := ⟨_, _, _, ok_law_events T  F_law_events, PySem.W.mg_of X G a_law_events, k_law_events, b_law_events⟩
  have c_law_after : Cal l.prog w K mg base (cfK K C0 ([X0, 0, X2, X3].getD · 0)) 1 "_law_after" [] 3 m_law_after := ⟨_, _, _, ok_law_after T  F_law_after, PySem.W.mg_of X G a_law_after, k_law_after, b_law_after⟩
  have c_law_run : Cal l.prog w K mg base (cfK K C0 ([X0, 0, X2, X3].getD · 0)) 2 "_law_run" [0] 4 m_law_run := ⟨_, _, _, ok_law_run T c_law_events c_law_after c_law_draw F_law_run, PySem.W.mg_of X G a_law_run, k_law_run, b_law_run⟩
  have c_len : CalL l.prog w K mg base (cfK K C0 ([X0, 0, X2, X3].getD · 0)) 1 m_Farmdd_lendd := ⟨_, _, _, a_Farmdd_lendd, i_Farmdd_lendd, ok_Farmdd_lendd T  F_Farmdd_lendd, b_Farmdd_lendd⟩
  have c_NoPlacement : CalX1 l.prog w K mg base (cfK K C0 ([X0, 0, X2, X3].getD · 0)) 1 2 "NoPlacement" "index" := ⟨⟨_, _, _, ⟨PySem.W.mg_of X G aX2, O2, a_NoPlacementdd_initdd, i_NoPlacementdd_initdd⟩, ok_x2 TB O2 xp2_index F_NoPlacementdd_initdd, b_NoPlacementdd_initdd⟩, rfl⟩
  have c_check_placement : Cal l.prog w K mg base (cfK K C0 ([X0, 0, X2, X3].getD · 0)) 3 "check_placement" [] 2 m_check_placement := ⟨_, _, _, ok_check_placement T c_len c_NoPlacement c_is_from F_check_placement, PySem.W.mg_of X G a_check_placement, k_check_placement, b_check_placement⟩
  have c_NoSessions : CalX1 l.prog w K mg base (cfK K C0 ([X0, 0, X2, X3].getD · 0)) 1 3 "NoSessions" "index" := ⟨⟨_, _, _, ⟨PySem.W.mg_of X G aX3, O3, a_NoSessionsdd_initdd, i_NoSessionsdd_initdd⟩, ok_x3 TB O3 xp3_index F_NoSessionsdd_initdd, b_NoSessionsdd_initdd⟩, rfl⟩
  have c_check_staying : Cal l.prog w K mg base (cfK K C0 ([X0, 0, X2, X3].getD · 0)) 3 "check_staying" [] 3 m_check_staying := ⟨_, _, _, ok_check_staying T c_NoSessions c_is_from c_len F_check_staying, PySem.W.mg_of X G a_check_staying, k_check_staying, b_check_staying⟩
  have c_movers : Cal l.prog w K mg base (cfK K C0 ([X0, 0, X2, X3].getD · 0)) 1 "movers" [] 2 m_movers := ⟨_, _, _, ok_movers T  F_movers, PySem.W.mg_of X G a_movers, k_movers, b_movers⟩
  have c_place_in_list : Cal l.prog w K mg base (cfK K C0 ([X0, 0, X2, X3].getD · 0)) 1 "place_in_list" [] 3 m_place_in_list := ⟨_, _, _, ok_place_in_list T  F_place_in_list, PySem.W.mg_of X G a_place_in_list, k_place_in_list, b_place_in_list⟩
  have c_first_far : Cal l.prog w K mg base (cfK K C0 ([X0, 0, X2, X3].getD · 0)) 2 "first_far" [] 3 m_first_far := ⟨_, _, _, ok_first_far T c_movers c_place_in_list F_first_far, PySem.W.mg_of X G a_first_far, k_first_far, b_first_far⟩
  have c_passed_over : Cal l.prog w K mg base (cfK K C0 ([X0, 0, X2, X3].getD · 0)) 2 "passed_over" [] 3 m_passed_over := ⟨_, _, _, ok_passed_over T c_place_in_list F_passed_over, PySem.W.mg_of X G a_passed_over, k_passed_over, b_passed_over⟩
  have c_first_held : Cal l.prog w K mg base (cfK K C0 ([X0, 0, X2, X3].getD · 0)) 3 "first_held" [] 3 m_first_held := ⟨_, _, _, ok_first_held T c_movers c_passed_over F_first_held, PySem.W.mg_of X G a_first_held, k_first_held, b_first_held⟩
  have c_ring_among : Cal l.prog w K mg base (cfK K C0 ([X0, 0, X2, X3].getD · 0)) 3 "ring_among" [] 3 m_ring_among := ⟨_, _, _, ok_ring_among T c_passed_over F_ring_among, PySem.W.mg_of X G a_ring_among, k_ring_among, b_ring_among⟩
  have c_order_of : CalK l.prog w K mg base (cfK K C0 ([X0, 0, X2, X3].getD · 0)) 4 "order_of" 2 "staying" m_order_of := ⟨_, _, _, _, _, ok_order_of T c_check_placement c_check_staying c_first_far c_first_held c_movers c_passed_over c_ring_among F_order_of, PySem.W.mg_of X G a_order_of, k_order_of, b_order_of, v_order_of, r_order_of, q_order_of⟩
  have c_law_passed : Cal l.prog w K mg base (cfK K C0 ([X0, 0, X2, X3].getD · 0)) 1 "_law_passed" [] 3 m_law_passed := ⟨_, _, _, ok_law_passed T  F_law_passed, PySem.W.mg_of X G a_law_passed, k_law_passed, b_law_passed⟩
  have c_law_first : Cal l.prog w K mg base (cfK K C0 ([X0, 0, X2, X3].getD · 0)) 2 "_law_first" [] 4 m_law_first := ⟨_, _, _, ok_law_first T c_law_passed F_law_first, PySem.W.mg_of X G a_law_first, k_law_first, b_law_first⟩
  have c_law_left : Cal l.prog w K mg base (cfK K C0 ([X0, 0, X2, X3].getD · 0)) 2 "_law_left" [] 3 m_law_left := ⟨_, _, _, ok_law_left T c_law_passed F_law_left, PySem.W.mg_of X G a_law_left, k_law_left, b_law_left⟩
  have c_law_told_right : Cal l.prog w K mg base (cfK K C0 ([X0, 0, X2, X3].getD · 0)) 3 "_law_told_right" [] 4 m_law_told_right := ⟨_, _, _, ok_law_told_right T c_law_first c_law_left c_law_passed F_law_told_right, PySem.W.mg_of X G a_law_told_right, k_law_told_right, b_law_told_right⟩
  have c_law_spots : Cal l.prog w K mg base (cfK K C0 ([X0, 0, X2, X3].getD · 0)) 2 "_law_spots" [0] 2 m_law_spots := ⟨_, _, _, ok_law_spots T c_law_draw F_law_spots, PySem.W.mg_of X G a_law_spots, k_law_spots, b_law_spots⟩
  have c_law_right : Cal l.prog w K mg base (cfK K C0 ([X0, 0, X2, X3].getD · 0)) 6 "_law_right" [0] 1 m_law_right := ⟨_, _, _, ok_law_right T c_law_draw c_law_farm c_Farm c_law_run c_law_after c_order_of c_law_told_right c_law_spots F_law_right, PySem.W.mg_of X G a_law_right, k_law_right, b_law_right⟩
  exact (ok_law T c_law_right F_law : FnOk l.prog w K mg base (L2.CX l.prog w) 7 _ _ _ (spM (cfK K C0 ([X0, 0, X2, X3].getD · 0)) [] 1 m_law)).imp (law_imp (c := cfK K C0 ([X0, 0, X2, X3].getD · 0)) plain)
end Fx
open PySem PySem.W PyProof.Rows
set_option maxRecDepth 100000 in
set_option maxHeartbeats 0 in
theorem PySem.Challenge.cw_stickyservers_k11_whole_orders_and_rings_holds : PySem.Challenge.rw_stickyservers_k11_whole_orders_and_rings.Holds := by
  w_on; o_law; k_head; (case hw => w_witness2)
  k_fill
  refine Fx.walk_fx (l := PySem.Challenge.rw_stickyservers_k11_whole_orders_and_rings) (k := 7) (x := "_law_script") rfl rfl ⟨rfl, by decide, by decide⟩ (fun w h Y => PySem.W.kIn_of Y) ?F
  case F =>
    intro w mg fa h KX G hmg
    refine' Fx.wire Fx.plain_law KX G hmg ?aFarm ?aFE ?aX0 ?xL0 ?xsa0 ?xex0 ?xty0 ?xkp0 ?xp0_part ?xp0_index ?aX2 ?xL2 ?xsa2 ?xex2 ?xty2 ?xkp2 ?xp2_index ?aX3 ?xL3 ?xsa3 ?xex3 ?xty3 ?xkp3 ?xp3_index ?fB ?fR ?fV ?pg ?hd ?po ?sa ?mk ?kc ?n_many ?n_rows ?n_most ?zlen ?ztuple ?zlist ?zint ?zsum ?zall ?zmax ?zmin ?zsorted ?zisinstance ?zenumerate ?zrange ?zset ?zbool ?zstr ?g_MAX_SERVERS ?g_MAX_SESSIONS ?a_NoFarmdd_initdd ?l_NoFarmdd_initdd ?c_NoFarmdd_initdd ?k_NoFarmdd_initdd ?i_NoFarmdd_initdd ?a_NoPlacementdd_initdd ?l_NoPlacementdd_initdd ?c_NoPlacementdd_initdd ?k_NoPlacementdd_initdd ?i_NoPlacementdd_initdd ?a_NoSessionsdd_initdd ?l_NoSessionsdd_initdd ?c_NoSessionsdd_initdd ?k_NoSessionsdd_initdd ?i_NoSessionsdd_initdd ?a_Farmdd_initdd ?l_Farmdd_initdd ?c_Farmdd_initdd ?k_Farmdd_initdd ?i_Farmdd_initdd ?a_Farmdd_lendd ?l_Farmdd_lendd ?c_Farmdd_lendd ?k_Farmdd_lendd ?i_Farmdd_lendd ?a_law_draw ?l_law_draw ?c_law_draw ?k_law_draw ?a_law_farm ?l_law_farm ?c_law_farm ?k_law_farm ?a_is_int ?l_is_int ?c_is_int ?k_is_int ?a_is_from ?l_is_from ?c_is_from ?k_is_from ?a_is_row ?l_is_row ?c_is_row ?k_is_row ?a_law_events ?l_law_events ?c_law_events ?k_law_events ?a_law_after ?l_law_after ?c_law_after ?k_law_after ?a_law_run ?l_law_run ?c_law_run ?k_law_run ?a_check_placement ?l_check_placement ?c_check_placement ?k_check_placement ?a_check_staying ?l_check_staying ?c_check_staying ?k_check_staying ?a_movers ?l_movers ?c_movers ?k_movers ?a_place_in_list ?l_place_in_list ?c_place_in_list ?k_place_in_list ?a_first_far ?l_first_far ?c_first_far ?k_first_far ?a_passed_over ?l_passed_over ?c_passed_over ?k_passed_over ?a_first_held ?l_first_held ?c_first_held ?k_first_held ?a_ring_among ?l_ring_among ?c_ring_among ?k_ring_among ?a_order_of ?l_order_of ?c_order_of ?k_order_of ?ks_order_of ?kt_order_of ?a_law_passed ?l_law_passed ?c_law_passed ?k_law_passed ?a_law_first ?l_law_first ?c_law_first ?k_law_first ?a_law_left ?l_law_left ?c_law_left ?k_law_left ?a_law_told_right ?l_law_told_right ?c_law_told_right ?k_law_told_right ?a_law_spots ?l_law_spots ?c_law_spots ?k_law_spots ?a_law_right ?l_law_right ?c_law_right ?k_law_right ?a_law ?l_law ?c_law ?k_law
    (case aFarm => k_is); (case aFE => k_is); (case aX0 => k_is); (case xL0 => k_is); (case xsa0 => k_is); (case xex0 => k_is)
    (case xty0 => k_is); (case xkp0 => k_is); (case xp0_part => k_is); (case xp0_index => k_is); (case aX2 => k_is); (case xL2 => k_is)
    (case xsa2 => k_is); (case xex2 => k_is); (case xty2 => k_is); (case xkp2 => k_is); (case xp2_index => k_is); (case aX3 => k_is)
    (case xL3 => k_is); (case xsa3 => k_is); (case xex3 => k_is); (case xty3 => k_is); (case xkp3 => k_is); (case xp3_index => k_is)
    (case fB => k_is); (case fR => k_is); (case fV => k_is); (case pg => k_is); (case hd => k_is); (case po => k_is)
    (case sa => k_is); (case mk => k_is); (case kc => k_is); (case n_many => k_is); (case n_rows => k_is); (case n_most => k_is)
    (case zlen => k_is); (case ztuple => k_is); (case zlist => k_is); (case zint => k_is); (case zsum => k_is); (case zall => k_is)
    (case zmax => k_is); (case zmin => k_is); (case zsorted => k_is); (case zisinstance => k_is); (case zenumerate => k_is); (case zrange => k_is)
    (case zset => k_is); (case zbool => k_is); (case zstr => k_is); (case g_MAX_SERVERS => k_is); (case g_MAX_SESSIONS => k_is); (case a_NoFarmdd_initdd => k_is)
    (case l_NoFarmdd_initdd => k_is); (case c_NoFarmdd_initdd => k_is); (case k_NoFarmdd_initdd => k_is); (case i_NoFarmdd_initdd => k_is); (case a_NoPlacementdd_initdd => k_is); (case l_NoPlacementdd_initdd => k_is)
    (case c_NoPlacementdd_initdd => k_is); (case k_NoPlacementdd_initdd => k_is); (case i_NoPlacementdd_initdd => k_is); (case a_NoSessionsdd_initdd => k_is); (case l_NoSessionsdd_initdd => k_is); (case c_NoSessionsdd_initdd => k_is)
    (case k_NoSessionsdd_initdd => k_is); (case i_NoSessionsdd_initdd => k_is); (case a_Farmdd_initdd => k_is); (case l_Farmdd_initdd => k_is); (case c_Farmdd_initdd => k_is); (case k_Farmdd_initdd => k_is)
    (case i_Farmdd_initdd => k_is); (case a_Farmdd_lendd => k_is); (case l_Farmdd_lendd => k_is); (case c_Farmdd_lendd => k_is); (case k_Farmdd_lendd => k_is); (case i_Farmdd_lendd => k_is)
    (case a_law_draw => k_is); (case l_law_draw => k_is); (case c_law_draw => k_is); (case k_law_draw => k_is); (case a_law_farm => k_is); (case l_law_farm => k_is)
    (case c_law_farm => k_is); (case k_law_farm => k_is); (case a_is_int => k_is); (case l_is_int => k_is); (case c_is_int => k_is); (case k_is_int => k_is)
    (case a_is_from => k_is); (case l_is_from => k_is); (case c_is_from => k_is); (case k_is_from => k_is); (case a_is_row => k_is); (case l_is_row => k_is)
    (case c_is_row => k_is); (case k_is_row => k_is); (case a_law_events => k_is); (case l_law_events => k_is); (case c_law_events => k_is); (case k_law_events => k_is)
    (case a_law_after => k_is); (case l_law_after => k_is); (case c_law_after => k_is); (case k_law_after => k_is); (case a_law_run => k_is); (case l_law_run => k_is)
    (case c_law_run => k_is); (case k_law_run => k_is); (case a_check_placement => k_is); (case l_check_placement => k_is); (case c_check_placement => k_is); (case k_check_placement => k_is)
    (case a_check_staying => k_is); (case l_check_staying => k_is); (case c_check_staying => k_is); (case k_check_staying => k_is); (case a_movers => k_is); (case l_movers => k_is)
    (case c_movers => k_is); (case k_movers => k_is); (case a_place_in_list => k_is); (case l_place_in_list => k_is); (case c_place_in_list => k_is); (case k_place_in_list => k_is)
    (case a_first_far => k_is); (case l_first_far => k_is); (case c_first_far => k_is); (case k_first_far => k_is); (case a_passed_over => k_is); (case l_passed_over => k_is)
    (case c_passed_over => k_is); (case k_passed_over => k_is); (case a_first_held => k_is); (case l_first_held => k_is); (case c_first_held => k_is); (case k_first_held => k_is)
    (case a_ring_among => k_is); (case l_ring_among => k_is); (case c_ring_among => k_is); (case k_ring_among => k_is); (case a_order_of => k_is); (case l_order_of => k_is)
    (case c_order_of => k_is); (case k_order_of => k_is); (case ks_order_of => k_is); (case kt_order_of => k_is); (case a_law_passed => k_is); (case l_law_passed => k_is)
    (case c_law_passed => k_is); (case k_law_passed => k_is); (case a_law_first => k_is); (case l_law_first => k_is); (case c_law_first => k_is); (case k_law_first => k_is)
    (case a_law_left => k_is); (case l_law_left => k_is); (case c_law_left => k_is); (case k_law_left => k_is); (case a_law_told_right => k_is); (case l_law_told_right => k_is)
    (case c_law_told_right => k_is); (case k_law_told_right => k_is); (case a_law_spots => k_is); (case l_law_spots => k_is); (case c_law_spots => k_is); (case k_law_spots => k_is)
    (case a_law_right => k_is); (case l_law_right => k_is); (case c_law_right => k_is); (case k_law_right => k_is); (case a_law => k_is); (case l_law => k_is)
    (case c_law => k_is); (case k_law => k_is)
