import PyProof.Rows.All
import Wide.All
import OpenK.AllK
import Wide.FinOn
import PySem.Challenge.RW_stickyservers_k20_greatest_loads
import HandS.ForMost
import HandS.ForExc
import HandS.ExcInit
import HandS.ExcField
import HandS.CallSlots
import HandS.IsInst
import HandS.Deep
import HandS.TupAny
import HandS.TupMul
import HandS.SortInts
import HandS.SetFor
import HandS.Strs
import KE.KDictDisplayH
import KE.GoesEnum
import KE.GoesMore
import HandS.Defaults
import HandS.DictComp
import HandS.Conv
import HandS.Words
import HandS.Ends
import HandS.Style
import HandS.ExcIs
import HandS.Zip
import HandS.OwnEq
import HandS.More
import HandS.Lambda
import HandS.EndTab
import KE.KFmtOwn
import HandS.MakeKwOnly
import HandS.Dict
import PyProof.ReprRoads
import PyProof.ReprLen
import HandS.RaiseMore
set_option Elab.async false
set_option linter.all false
set_option maxRecDepth 100000
set_option maxHeartbeats 4000000
namespace Fx
open PySem L2

inductive D where
  | non | bl (b : Bool) | int (i : Int) | str (x : Str)
  | tup (ds : List D) | lst (ds : List D) | dic (ks : List Key) (ds : List D)
  | rcd (ns : List Str) (ds : List D) | exc (c : Nat) (fs : List D) | raw (v : V)

/-- what the laws' programs have beside the module's own text: the class of farms, the classes of errors with their fields (last stored first) -/
structure Cf where
  K : PySem.W.Frag
  farm : Addr
  exc : Nat → Addr
  flds : Nat → List Str
  P : Program
  w : World


mutual
def nk : D → Option NestedKey
  | .non => some .none
  | .bl b => some (.num (if b = true then 1 else 0))
  | .int i => some (.num i)
  | .str x => some (.text x)
  | .tup ds => match nkL ds with
    | some ks => some (.tup ks)
    | none => none
  | .lst _ => none
  | .dic _ _ => none
  | .rcd _ _ => none
  | .exc _ _ => none
  | .raw _ => none
def nkL : List D → Option (List NestedKey)
  | [] => some []
  | d :: ds => match nk d, nkL ds with
    | some k, some ks => some (k :: ks)
    | _, _ => none
end
/-- such a dict: its object -/
def KdO (P : Program) (w : World) (a : Addr) (xs : List (NestedKey × Addr)) : HO := .ext fun h => (a == sysModules) = false ∧ ∃ (o : Obj) (es : Array DictEntry) (ep : Nat), h.get? a = some o ∧ o.ExactDict ∧ o.data = .dict es ep ∧ es.toList = xs.map fun x => entryOfKey (nestedKind P w) (x.1, x.2, .bool true)
/-- how one is told: its keys -/
def KdAt (c : Cf) (o : Option HO) (xs : List V) (ks : List NestedKey) : Prop := ∃ (a : Addr) (ps : List Addr), o = some (KdO c.P c.w a (ks.zip ps)) ∧ ks.length = ps.length ∧ xs = ps.map V.ref ∧ ks.Nodup ∧ ks.length ≤ 16777216 ∧ ∀ k ∈ ks, k.depth ≤ 8

/-- a list of the written part, its object known -/
def KL (K : PySem.W.Frag) (a : Addr) (xs : List V) : Prop := ∃ (its : List Value) (n : Nat), K.lookup a = some { cls := .type "list", data := .seq its.toArray n } ∧ its.length ≤ sizeLine ∧ Vals xs its
/-- a list that may be read -/
def LsG (K : PySem.W.Frag) (G : Hp) (a : Addr) (xs : List V) : Prop := Rd G a (.lst xs) ∨ KL K a xs
theorem LsG.sq {K : PySem.W.Frag} {G : Hp} {a : Addr} {xs : List V} (h : LsG K G a xs) : SqL K G a xs := by
  rcases h with h | ⟨its, n, h1, h2, h3⟩
  · exact .inl h
  · exact .inr ⟨_, its.toArray, n, h1, rfl, rfl, rfl, by rw [List.size_toArray]; exact h2, by simpa using h3⟩
theorem LsG.mono {K : PySem.W.Frag} {G G' : Hp} {a : Addr} {xs : List V} (e : Same G G') (h : LsG K G a xs) : LsG K G' a xs := by
  rcases h with (h | ⟨o, h⟩) | h
  · exact .inl (.inl (e _ _ h))
  · exact .inl (.inr ⟨o, e _ _ h⟩)
  · exact .inr h
/-- a tuple that may be read and whose methods may be called: its object is known to have no dict -/
def TupAt (K : PySem.W.Frag) (G : Hp) (a : Addr) (xs : List V) : Prop :=
  (∃ o, G a = some (.frz o (.tup xs)) ∧ o.dict = none) ∨
    ∃ (o : Obj) (its : Array Value) (n : Nat), K.lookup a = some o ∧ o.cls = .type "tuple" ∧ o.dict = none ∧ o.data = .seq its n ∧ its.size ≤ sizeLine ∧ Vals xs its.toList
theorem TupAt.sq {K : PySem.W.Frag} {G : Hp} {a : Addr} {xs : List V} (h : TupAt K G a xs) : SqT K G a xs := by
  rcases h with ⟨o, h, _⟩ | ⟨o, its, n, h1, h2, h3, h4, h5, h6⟩
  · exact .inl (.inr ⟨o, h⟩)
  · exact .inr ⟨o, its, n, h1, h2, h4, h5, h6⟩
theorem TupAt.mono {K : PySem.W.Frag} {G G' : Hp} {a : Addr} {xs : List V} (e : Same G G') (h : TupAt K G a xs) : TupAt K G' a xs := by
  rcases h with ⟨o, h, d⟩ | h
  · exact .inl ⟨o, e _ _ h, d⟩
  · exact .inr h
section
variable (c : Cf) (G : Hp)
mutual
inductive Rep : V → D → Prop
  | non : Rep .non .non
  | bl (b : Bool) : Rep (.bl b) (.bl b)
  | int (i : Int) : Rep (.int i) (.int i)
  | str (x : Str) : Rep (.str x) (.str x)
  | tup {a : Addr} {xs : List V} {ds : List D} : TupAt c.K G a xs → RepL xs ds → Rep (.ref a) (.tup ds)
  | lst {a : Addr} {xs : List V} {ds : List D} : LsG c.K G a xs → RepL xs ds → Rep (.ref a) (.lst ds)
  | dic {a : Addr} {ks : List Key} {xs : List V} {ds : List D} : Rd G a (.dK (ks.zip xs)) → ks.length = xs.length → RepL xs ds → Rep (.ref a) (.dic ks ds)
  | rcd {a dx : Addr} {ns : List Str} {xs : List V} {ds : List D} : G a = some (.ins c.farm dx (ns.zip xs)) → ns.length = xs.length → RepL xs ds → Rep (.ref a) (.rcd ns ds)
  | raw (v : V) : Rep v (.raw v)
  | std {a : Addr} {xs : List V} {ds : List D} {ks : List NestedKey} : KdAt c (G a) xs ks → RepL xs ds → nkL ds = some ks → Rep (.ref a) (.exc 0 ds)
inductive RepL : List V → List D → Prop
  | nil : RepL [] []
  | cons {v : V} {vs : List V} {d : D} {ds : List D} : Rep v d → RepL vs ds → RepL (v :: vs) (d :: ds)
end
end
section
variable {c : Cf} {G G' H : Hp}
theorem KdAt.mono {a : Addr} {xs : List V} {ks : List NestedKey} (e : Same G G') (h : KdAt c (G a) xs ks) : KdAt c (G' a) xs ks := by
  obtain ⟨b, ps, h1, h2⟩ := h
  exact ⟨b, ps, e _ _ h1, h2⟩
theorem same_rd {a : Addr} {u : HO} (e : Same G G') (h : Rd G a u) : Rd G' a u := by
  rcases h with h | ⟨o, h⟩
  · exact .inl (e _ _ h)
  · exact .inr ⟨o, e _ _ h⟩
mutual
theorem Rep.mono (e : Same G G') : ∀ {v : V} {d : D}, Rep c G v d → Rep c G' v d
  | _, _, .non => .non
  | _, _, .bl b => .bl b
  | _, _, .int i => .int i
  | _, _, .str x => .str x
  | _, _, .tup s r => .tup (s.mono e) (RepL.mono e r)
  | _, _, .lst s r => .lst (s.mono e) (RepL.mono e r)
  | _, _, .dic s l r => .dic (same_rd e s) l (RepL.mono e r)
  | _, _, .rcd s l r => .rcd (e _ _ s) l (RepL.mono e r)
  | _, _, .raw v => .raw v
  | _, _, .std h r k => .std (KdAt.mono e h) (RepL.mono e r) k
theorem RepL.mono (e : Same G G') : ∀ {vs : List V} {ds : List D}, RepL c G vs ds → RepL c G' vs ds
  | _, _, .nil => .nil
  | _, _, .cons h t => .cons (Rep.mono e h) (RepL.mono e t)
end
theorem RepL.length : ∀ {vs : List V} {ds : List D}, RepL c G vs ds → vs.length = ds.length
  | _, _, .nil => rfl
  | _, _, .cons _ t => by rw [List.length_cons, List.length_cons, RepL.length t]
theorem RepL.get : ∀ {vs : List V} {ds : List D} {i : Nat} {d : D}, RepL c G vs ds → ds[i]? = some d → ∃ v, vs[i]? = some v ∧ Rep c G v d
  | _, _, _, _, .nil, e => by simp at e
  | _, _, 0, _, .cons r _, e => by simp at e; subst e; exact ⟨_, rfl, r⟩
  | _, _, i + 1, d, .cons _ t, e => by
    obtain ⟨u, h1, h2⟩ := RepL.get (i := i) (d := d) t (by simpa using e)
    exact ⟨u, by simpa using h1, h2⟩
theorem RepL.getV : ∀ {vs : List V} {ds : List D} {i : Nat} {v : V}, RepL c G vs ds → vs[i]? = some v → ∃ d, ds[i]? = some d ∧ Rep c G v d
  | _, _, _, _, .nil, e => by simp at e
  | _, _, 0, _, .cons r _, e => by simp at e; subst e; exact ⟨_, rfl, r⟩
  | _, _, i + 1, d, .cons _ t, e => by
    obtain ⟨u, h1, h2⟩ := RepL.getV (i := i) (v := d) t (by simpa using e)
    exact ⟨u, by simpa using h1, h2⟩
theorem RepL.append : ∀ {vs ws : List V} {ds es : List D}, RepL c G vs ds → RepL c G ws es → RepL c G (vs ++ ws) (ds ++ es)
  | _, _, _, _, .nil, s => s
  | _, _, _, _, .cons r t, s => .cons r (RepL.append t s)
theorem RepL.take : ∀ {vs : List V} {ds : List D} (n : Nat), RepL c G vs ds → RepL c G (vs.take n) (ds.take n)
  | _, _, 0, _ => .nil
  | _, _, _ + 1, .nil => .nil
  | _, _, n + 1, .cons r t => .cons r (RepL.take n t)
theorem RepL.drop : ∀ {vs : List V} {ds : List D} (n : Nat), RepL c G vs ds → RepL c G (vs.drop n) (ds.drop n)
  | _, _, 0, r => r
  | _, _, _ + 1, .nil => .nil
  | _, _, n + 1, .cons _ t => RepL.drop n t
theorem RepL.set {x : V} {d : D} (r : Rep c G x d) : ∀ {vs : List V} {ds : List D} (i : Nat), RepL c G vs ds → RepL c G (vs.set i x) (ds.set i d)
  | _, _, _, .nil => .nil
  | _, _, 0, .cons _ t => .cons r t
  | _, _, i + 1, .cons q t => .cons q (RepL.set r i t)
theorem RepL.eraseIdx : ∀ {vs : List V} {ds : List D} (i : Nat), RepL c G vs ds → RepL c G (vs.eraseIdx i) (ds.eraseIdx i)
  | _, _, _, .nil => .nil
  | _, _, 0, .cons _ t => t
  | _, _, i + 1, .cons q t => .cons q (RepL.eraseIdx i t)
theorem RepL.one {v : V} {d : D} (r : Rep c G v d) : RepL c G [v] [d] := .cons r .nil

/-- a list (or dict) that the def may change: its content -/
def Own (c : Cf) (G : Hp) (o : Option HO) : D → Prop
  | .lst ds => ∃ xs, o = some (.lst xs) ∧ RepL c G xs ds
  | .dic ks ds => ∃ xs, o = some (.dK (ks.zip xs)) ∧ ks.length = xs.length ∧ RepL c G xs ds
  | .rcd ns ds => ∃ dx xs, o = some (.ins c.farm dx (ns.zip xs)) ∧ ns.length = xs.length ∧ RepL c G xs ds
  | .exc k ds => k = 0 ∧ ∃ xs ks, KdAt c o xs ks ∧ RepL c G xs ds ∧ nkL ds = some ks
  | _ => False
theorem Own.mono {o : Option HO} {d : D} (e : Same G G') (h : Own c G o d) : Own c G' o d := by
  cases d <;> first | exact h.elim | skip
  · obtain ⟨xs, h1, h2⟩ := h; exact ⟨xs, h1, h2.mono e⟩
  · obtain ⟨xs, h1, h3, h2⟩ := h; exact ⟨xs, h1, h3, h2.mono e⟩
  · obtain ⟨dx, xs, h1, h3, h2⟩ := h; exact ⟨dx, xs, h1, h3, h2.mono e⟩
  · obtain ⟨h0, xs, ks, h1, h2, h3⟩ := h; exact ⟨h0, xs, ks, h1, h2.mono e, h3⟩
theorem Own.some {o : Option HO} {d : D} (h : Own c G o d) : ∃ u, o = some u := by
  cases d <;> first | exact h.elim | skip
  · obtain ⟨xs, h1, _⟩ := h; exact ⟨_, h1⟩
  · obtain ⟨xs, h1, _⟩ := h; exact ⟨_, h1⟩
  · obtain ⟨dx, xs, h1, _⟩ := h; exact ⟨_, h1⟩
  · obtain ⟨_, _, _, ⟨_, _, h1, _⟩, _⟩ := h; exact ⟨_, h1⟩
/-- frozen, what was owned is data -/
theorem Own.rep {a : Addr} {d : D} (h : Own c G (G' a) d) (e : Same G G') : Rep c G' (.ref a) d := by
  cases d <;> first | exact h.elim | skip
  · obtain ⟨xs, h1, h2⟩ := h; exact .lst (.inl (.inl h1)) (h2.mono e)
  · obtain ⟨xs, h1, h3, h2⟩ := h; exact .dic (.inl h1) h3 (h2.mono e)
  · obtain ⟨dx, xs, h1, h3, h2⟩ := h; exact .rcd h1 h3 (h2.mono e)
  · obtain ⟨rfl, xs, ks, h1, h2, h3⟩ := h; exact .std h1 (h2.mono e) h3

inductive Cell where
  | no | dat (d : D) | own (d : D)
abbrev Cells := List Cell
/-- an error: its class, its fields -/
structure Exc where
  c : Nat
  fs : List D
inductive Out (α : Type) where
  | stuck | ok (a : α) (ρ : Cells) | exc (x : Exc) (ρ : Cells)
abbrev M (α : Type) := Cells → Out α
def Out.andThen {α β : Type} (o : Out α) (k : α → M β) : Out β := match o with
  | .stuck => .stuck
  | .ok a ρ => k a ρ
  | .exc x ρ => .exc x ρ
def M.bind {α β : Type} (f : M α) (k : α → M β) : M β := fun ρ => (f ρ).andThen k
def M.pure {α : Type} (a : α) : M α := fun ρ => .ok a ρ
def M.stuck {α : Type} : M α := fun _ => .stuck
def M.lift {α : Type} (o : Option α) : M α := fun ρ => match o with
  | some a => .ok a ρ
  | none => .stuck
inductive OutS where
  | stuck | next (ρ : Cells) | ret (d : D) (ρ : Cells) | brk (ρ : Cells) | cont (ρ : Cells) | exc (x : Exc) (ρ : Cells)
abbrev MS := Cells → OutS

structure Rel (c : Cf) (B : List (Nat × Addr)) (G : Hp) (A : Addr → Prop) (H : Hp) (σ : L2.St) (ρ : Cells) : Prop where
  same : Same G H
  len : σ.length = ρ.length
  ownA : ∀ b, A b → G b = none ∧ ∃ o, H b = some o
  dat : ∀ (i : Nat) (d : D), ρ[i]? = some (.dat d) → ∃ v, σ[i]? = some (some v) ∧ Rep c G v d
  own : ∀ (i : Nat) (d : D), ρ[i]? = some (.own d) → ∃ p, σ[i]? = some (some (.ref p)) ∧ A p ∧ Own c G (H p) d
  dis : ∀ (i j : Nat) (d e : D) (p : Addr), i ≠ j → ρ[i]? = some (.own d) → ρ[j]? = some (.own e) → σ[i]? = some (some (.ref p)) → σ[j]? = some (some (.ref p)) → False
  byr : ∀ q ∈ B, σ[q.1]? = some (some (.ref q.2)) ∧ A q.2 ∧ ∃ d, ρ[q.1]? = some (.own d)
/-- the heap has grown by what is new -/
structure Ext (G H G' H' : Hp) : Prop where
  gg : Same G G'
  hh : Same H H'
  gh : Same G' H'
  new : ∀ b o, H b = some o → G' b = G b
theorem Ext.refl (h : Same G H) : Ext G H G H := ⟨Same.refl _, Same.refl _, h, fun _ _ _ => rfl⟩
theorem Ext.trans {G1 G2 H1 H2 : Hp} (a : Ext G H G1 H1) (b : Ext G1 H1 G2 H2) : Ext G H G2 H2 :=
  ⟨a.gg.trans b.gg, a.hh.trans b.hh, b.gh, fun x o h => (b.new x o (a.hh x o h)).trans (a.new x o h)⟩
theorem same_upd {p : Addr} {o : HO} (hp : H p = none) : Same H (upd H p o) := fun b u e => by
  rw [upd_ne (ne_of_none e hp)]; exact e
theorem Ext.upd {p : Addr} {o : HO} (h : Same G H) (hp : H p = none) : Ext G H (upd G p o) (upd H p o) :=
  ⟨same_upd (h.free hp), same_upd hp, fun b u e => by
    by_cases z : b = p
    · subst z; rw [upd_same] at e ⊢; exact e
    · rw [upd_ne z] at e ⊢; exact h b u e, fun b u e => upd_ne (ne_of_none e hp)⟩
theorem Ext.updH {p : Addr} {o : HO} (h : Same G H) (hp : H p = none) : Ext G H G (L2.upd H p o) :=
  ⟨Same.refl _, same_upd hp, h.trans (same_upd hp), fun b u e => rfl⟩
/-- what is not owned stands -/
def Keep (A : Addr → Prop) (G H G' H' : Hp) : Prop := ∀ b o, H b = some o → ¬ A b → H' b = some o ∧ G' b = G b
theorem Keep.refl {A : Addr → Prop} (G H : Hp) : Keep A G H G H := fun _ _ h _ => ⟨h, rfl⟩
theorem Keep.trans {A : Addr → Prop} {G1 G2 H1 H2 : Hp} (a : Keep A G H G1 H1) (b : Keep A G1 H1 G2 H2) : Keep A G H G2 H2 := fun x o h n => ⟨(b x o (a x o h n).1 n).1, (b x o (a x o h n).1 n).2.trans (a x o h n).2⟩
theorem Ext.keep {A : Addr → Prop} {H' : Hp} (e : Ext G H G' H') : Keep A G H G' H' := fun b o h _ => ⟨e.hh b o h, e.new b o h⟩
theorem Rel.ext {B : List (Nat × Addr)} {A : Addr → Prop} {H' : Hp} {σ : L2.St} {ρ : Cells} (R : Rel c B G A H σ ρ) (e : Ext G H G' H') : Rel c B G' A H' σ ρ where
  same := e.gh
  len := R.len
  ownA := fun b hb => by
    obtain ⟨h1, o, h2⟩ := R.ownA b hb
    exact ⟨(e.new b o h2).trans h1, o, e.hh b o h2⟩
  dat := fun i d h => by
    obtain ⟨v, h1, h2⟩ := R.dat i d h
    exact ⟨v, h1, h2.mono e.gg⟩
  own := fun i d h => by
    obtain ⟨p, h1, h2, h3⟩ := R.own i d h
    obtain ⟨u, hu⟩ := h3.some
    refine ⟨p, h1, h2, ?_⟩
    rw [e.hh p u hu, ← hu]
    exact h3.mono e.gg
  dis := R.dis
  byr := R.byr

/-- how an error lies: its own dict at dd -/
def ExcAt (c : Cf) (G : Hp) (x : Exc) (dd : Addr) : Prop := ∃ vs, G dd = some (.xd ((c.flds x.c).zip vs)) ∧ RepL c G vs x.fs
theorem ExcAt.mono {x : Exc} {dd : Addr} (e : Same G G') (h : ExcAt c G x dd) : ExcAt c G' x dd := by
  obtain ⟨vs, h1, h2⟩ := h
  exact ⟨vs, e _ _ h1, h2.mono e⟩

def After {α : Type} (c : Cf) (B : List (Nat × Addr)) (W : WX) (G : Hp) (A : Addr → Prop) (H : Hp) (σ : L2.St) (o : Out α) (Q : α → Cells → Hp → Hp → Prop) : Prop := match o with
  | .stuck => False
  | .ok a ρ' => ∀ G' H', Same G G' → Keep A G H G' H' → Rel c B G' A H' σ ρ' → Q a ρ' G' H'
  | .exc x ρ' => ∀ G' H' dd, Same G G' → Keep A G H G' H' → Rel c B G' A H' σ ρ' → ExcAt c G' x dd → W (.ref (c.exc x.c)) (some dd) σ H'
variable {B : List (Nat × Addr)} {W : WX} {A : Addr → Prop} {σ : L2.St} {ρ : Cells}
theorem After.imp {α : Type} {o : Out α} {Q Q' : α → Cells → Hp → Hp → Prop} (h : After c B W G A H σ o Q) (k : ∀ a ρ' G' H', Same G G' → Keep A G H G' H' → Rel c B G' A H' σ ρ' → Q a ρ' G' H' → Q' a ρ' G' H') : After c B W G A H σ o Q' := by
  cases o with
  | stuck => exact h
  | ok a ρ' => exact fun G' H' s kk R => k a ρ' G' H' s kk R (h G' H' s kk R)
  | exc x ρ' => exact h
theorem After.of {α : Type} {o : Out α} {Q : α → Cells → Hp → Hp → Prop} {G' H' : Hp} (s : Same G G') (k : Keep A G H G' H') (h : After c B W G A H σ o Q) : After c B W G' A H' σ o Q := by
  cases o with
  | stuck => exact h
  | ok a ρ' => exact fun G2 H2 s2 k2 R => h G2 H2 (s.trans s2) (k.trans k2) R
  | exc x ρ' => exact fun G2 H2 dd s2 k2 R => h G2 H2 dd (s.trans s2) (k.trans k2) R
theorem After.split {α β : Type} {f : M α} {k : α → M β} {Q : β → Cells → Hp → Hp → Prop} (h : After c B W G A H σ ((f.bind k) ρ) Q) :
    After c B W G A H σ (f ρ) fun a ρ' G' H' => After c B W G' A H' σ (k a ρ') Q := by
  unfold M.bind at h
  cases e : f ρ with
  | stuck => rw [e] at h; exact h
  | ok a ρ' =>
    rw [e] at h
    exact fun G' H' s kk R => After.of s kk h
  | exc x ρ' => rw [e] at h; exact h
theorem After.ok {α : Type} {a : α} {Q : α → Cells → Hp → Hp → Prop} (h : After c B W G A H σ (.ok a ρ) Q) (R : Rel c B G A H σ ρ) : Q a ρ G H := h G H (Same.refl _) (Keep.refl _ _) R
end

/-- an operand: evaluated to data, or a slot that owns its content (read when the operation is done) -/
inductive Opn where
  | dat (f : M D) | own (i : Nat)
def cellD : Option Cell → Option D
  | some (.dat d) => some d
  | some (.own d) => some d
  | _ => none
def Opn.pre : Opn → M D
  | .dat f => f
  | .own i => fun ρ => match cellD ρ[i]? with
    | some _ => .ok .non ρ
    | none => .stuck
def Opn.rd : Opn → D → Cells → Option D
  | .dat _, d, _ => some d
  | .own i, _, ρ => cellD ρ[i]?
def rdM (o : Opn) (d : D) : M D := fun ρ => match o.rd d ρ with
  | some e => .ok e ρ
  | none => .stuck
/-- a value that stands for d, frozen or owned -/
def Opr (c : Cf) (G H : Hp) (v : V) (d : D) : Prop := Rep c G v d ∨ ∃ p, v = .ref p ∧ Own c G (H p) d

def tM (c : Cf) (B : List (Nat × Addr)) (W : WX) (f : M D) : TE := fun σ H Q => ∃ G A ρ, Rel c B G A H σ ρ ∧ After c B W G A H σ (f ρ) fun d _ G' H' => ∀ v, Rep c G' v d → Q v H'
def tO (c : Cf) (B : List (Nat × Addr)) (W : WX) (o : Opn) : TE := fun σ H Q => ∃ G A ρ, Rel c B G A H σ ρ ∧ After c B W G A H σ (o.pre ρ) fun d _ G' H' => ∀ v,
  (∀ G2 H2 ρ2 d2, Same G' G2 → Rel c B G2 A H2 σ ρ2 → o.rd d ρ2 = some d2 → Opr c G2 H2 v d2) → Q v H'
/-- a new list or dict, not yet frozen -/
def tF (c : Cf) (B : List (Nat × Addr)) (W : WX) (f : M D) : TE := fun σ H Q => ∃ G A ρ, Rel c B G A H σ ρ ∧ After c B W G A H σ (f ρ) fun d _ G' H' => ∀ p H2, H' p = none → Same H' H2 → Own c G' (H2 p) d → Q (.ref p) H2
def tT (c : Cf) (B : List (Nat × Addr)) (W : WX) (f : M Bool) : TT := fun σ H Q => ∃ G A ρ, Rel c B G A H σ ρ ∧ After c B W G A H σ (f ρ) fun b _ _ H' => Q b H'

theorem pe_imp {X : Cx} {e : Expr} {t t' : TE} (h : PE X e t) (k : ∀ σ H Q, t' σ H Q → t σ H Q) : PE X e t' := ⟨fun pins s σ H Q I q => h.run pins s σ H Q I (k σ H Q q)⟩
theorem pt_imp {X : Cx} {e : Expr} {t t' : TT} (h : PT X e t) (k : ∀ σ H Q, t' σ H Q → t σ H Q) : PT X e t' := ⟨fun pins s σ H Q I q => h.run pins s σ H Q I (k σ H Q q)⟩
theorem pa_imp {X : Cx} {e : List Expr} {t t' : TA} (h : PA X e t) (k : ∀ σ H Q, t' σ H Q → t σ H Q) : PA X e t' := ⟨fun pos pins s σ H Q I q => h.run pos pins s σ H Q I (k σ H Q q)⟩
theorem ps_imp {X : Cx} {e : Stmt} {t t' : TS} (h : PS X e t) (k : ∀ D σ H, t' D σ H → t D σ H) : PS X e t' := ⟨fun pins s σ H D I q => h.run pins s σ H D I (k D σ H q)⟩
theorem pss_imp {X : Cx} {e : List Stmt} {t t' : TS} (h : PSs X e t) (k : ∀ D σ H, t' D σ H → t D σ H) : PSs X e t' := ⟨fun pins s σ H D I q => h.run pins s σ H D I (k D σ H q)⟩
theorem pg_imp {X : Cx} {e : Expr} {t t' : TG} (h : PG X e t) (k : ∀ v σ H Q, t' v σ H Q → t v σ H Q) : PG X e t' := ⟨fun pins s σ H v u Q I r q => h.run pins s σ H v u Q I r (k v σ H Q q)⟩
theorem pi_imp {X : Cx} {tg e : Expr} {t t' : TI} (h : PI X tg e t) (k : ∀ σ H Q, t' σ H Q → t σ H Q) : PI X tg e t' := ⟨fun pins s σ H Q I q => h.run pins s σ H Q I (k σ H Q q)⟩

section
variable {c : Cf} {B : List (Nat × Addr)} {W : WX} {X : Cx}
theorem Opr.mono {G G' H : Hp} {v : V} {d : D} (e : Same G G') (h : Opr c G H v d) : Opr c G' H v d := by
  rcases h with h | ⟨p, h1, h2⟩
  · exact .inl (h.mono e)
  · exact .inr ⟨p, h1, h2.mono e⟩
/-- data as an operand -/
theorem po_dat {e : Expr} {f : M D} (h : PE X e (tM c B W f)) : PE X e (tO c B W (.dat f)) := pe_imp h fun σ H Q ⟨G, A, ρ, R, a⟩ =>
  ⟨G, A, ρ, R, a.imp fun d ρ' G' H' _ _ _ q v r => q v fun G2 H2 ρ2 d2 s2 _ e2 => by cases e2; exact .inl (r.mono s2)⟩
theorem Rel.cell {G H : Hp} {A : Addr → Prop} {σ : L2.St} {ρ : Cells} {i : Nat} {d : D} (R : Rel c B G A H σ ρ) (e : cellD ρ[i]? = some d) : ∃ v, σ[i]? = some (some v) ∧ Opr c G H v d := by
  cases q : ρ[i]? with
  | none => rw [q] at e; cases e
  | some cl =>
    rw [q] at e
    cases cl with
    | no => cases e
    | dat d' =>
      cases e
      obtain ⟨w, h1, h2⟩ := R.dat i _ q
      exact ⟨w, h1, .inl h2⟩
    | own d' =>
      cases e
      obtain ⟨p, h1, _, h3⟩ := R.own i _ q
      exact ⟨_, h1, .inr ⟨p, rfl, h3⟩⟩
/-- a slot that owns, as an operand -/
theorem po_own (i : Nat) {x : Str} {pos : Pos} (hN : X.N[i]? = some x := by rfl) (hv : Vis X.env.scope x := by first | exact Or.inl rfl | exact Or.inr (Or.inl rfl) | exact Or.inr (Or.inr rfl)) (hd : (x == ("__debug__" : Str)) = false := by decide)
    (hcd : (x == ("__classdict__" : Str)) = false := by decide) : PE X (.Name x pos) (tO c B W (.own i)) := pe_imp (pe_var hN hv hd hcd) fun σ H Q ⟨G, A, ρ, R, a⟩ => by
  have a' : After c B W G A H σ (match cellD ρ[i]? with | some _ => Out.ok D.non ρ | none => Out.stuck) _ := a
  cases e : cellD ρ[i]? with
  | none => rw [e] at a'; exact a'.elim
  | some d =>
    rw [e] at a'
    obtain ⟨v, hv, _⟩ := R.cell e
    refine ⟨v, hv, After.ok a' R v fun G2 H2 ρ2 d2 _ R2 e2 => ?_⟩
    obtain ⟨w, h1, h2⟩ := R2.cell (i := i) (d := d2) e2
    rw [hv] at h1; cases h1
    exact h2
end
end Fx
set_option Elab.async false
set_option linter.all false
set_option maxRecDepth 100000
set_option maxHeartbeats 4000000
namespace Fx
open PySem PySem.Spec PyProof.Rows L2
def tob (its : List Value) : Obj := { cls := .type "tuple", data := .seq its.toArray }
section
variable {X : Cx} {pins : List (Addr × Obj)} {σ : L2.St} {H : Hp} {s : Shared}
theorem tnew {ys : List V} {its : List Value} {t' : Nat} (I : Inv X pins σ H s) (hv : Vals ys its) (hz : ys.length ≤ sizeLine) :
    Inv X pins σ (upd H s.heap.objs.size (.frz (tob its) (.tup ys))) { s with heap := s.heap.push (tob its), toks := t' } :=
  I.laid (fun _ _ q => Heap.get?_push_of_some _ q) (Nat.le_refl _) ⟨Heap.get?_push_size _ rfl, hz, its, hv, IsTup.new _ _⟩
theorem fresh (I : Inv X pins σ H s) : H s.heap.objs.size = none := I.hok.fresh (Nat.le_refl _)
end
/-- a new tuple of xs -/
def TN (H : Hp) (xs : List V) (Q : VK) : Prop := ∀ p its, H p = none → Q (.ref p) (upd H p (.frz (tob its) (.tup xs)))
section
variable {X : Cx} {e : Expr} {es : List Expr} {te : TE} {t : TA} {pos : Pos}
def tTupN (t : TA) : TE := fun σ H Q => t σ H fun xs H1 => xs.length ≤ sizeLine ∧ TN H1 xs Q
theorem pe_tupN {x1} (h : PA X es t) : PE X (.Tuple es x1 pos) (tTupN t) := by
  refine ⟨fun pins s σ H Q I hq => ?_⟩
  refine wpAny_Tuple_spliced (thn (h.run pos pins s σ H _ I hq) fun us s1 ⟨xs, H1, I1, r, z, q⟩ => ⟨by rw [← r.length]; exact z, ?_⟩)
  exact ⟨.ref s1.heap.objs.size, _, tnew (t' := s1.toks) I1 r z, rfl, q _ us (fresh I1)⟩
def rTupleOf (K : PySem.W.Frag) : List V → Hp → VK → Prop := fun xs H Q => ∃ p ys, xs = [.ref p] ∧ ((SqL K H p ys ∧ TN H ys Q) ∨ (SqT K H p ys ∧ Q (.ref p) H))
theorem call_tupleN : CallR X (.type "tuple") (rTupleOf X.K) := by
  intro pins s σ H xs us Q I r h
  obtain ⟨p, ys, rfl, h⟩ := h
  obtain ⟨u, rfl, rx⟩ := vals1 r
  cases rx
  rcases h with ⟨hq, q⟩ | ⟨hq, q⟩
  · obtain ⟨its, r', pl, hz⟩ := I.list hq
    have hlen := r'.length
    refine call_tuple_list pl.isList (fun h' kp => ?_) (by simp only [List.size_toArray] <;> omega)
    have I1 : Inv X pins σ H { s with heap := h' } := I.kept (t' := s.toks) kp
    exact ⟨.ref h'.objs.size, _, tnew (t' := s.toks) I1 r' hz, rfl, q _ its (fresh I1)⟩
  · obtain ⟨its, r', pl, hz⟩ := I.tuple hq
    exact call_tuple_same pl ⟨.ref p, H, I, rfl, q⟩
def rCatN (K : PySem.W.Frag) : R2 := fun x y H Q => ∃ a b xs ys, x = .ref a ∧ y = .ref b ∧ SqT K H a xs ∧ SqT K H b ys ∧ xs.length + ys.length ≤ sizeLine ∧
  (xs = [] → Q (.ref b) H) ∧ (xs ≠ [] → ys = [] → Q (.ref a) H) ∧ (xs ≠ [] → ys ≠ [] → TN H (xs ++ ys) Q)
theorem op_catN : OpR X (binaryOp .Add) (rCatN X.K) := by
  intro pins s σ H x y v u Q I rx ry h
  obtain ⟨a, b, xs, ys, rfl, rfl, ha, hb, hz, q0, q1, q2⟩ := h
  cases rx
  cases ry
  obtain ⟨its, r1, p1, _⟩ := I.tuple ha
  obtain ⟨its2, r2, p2, _⟩ := I.tuple hb
  by_cases hx : xs = []
  · subst hx
    cases r1
    exact cat_tup0 p1 p2 ⟨.ref b, H, I, rfl, q0 rfl⟩
  · refine HT.cat_tup p1 p2 (fun z => hx (r1.nil_iff.mp z)) (fun z => ⟨.ref a, H, I, rfl, q1 hx (r2.nil_iff.mp z)⟩) (fun z => ?_) (by rw [← r1.length, ← r2.length]; exact hz)
    have I2 := tnew (t' := s.toks) I (r1.append r2) (by rw [List.length_append]; exact hz)
    exact ⟨.ref s.heap.objs.size, _, I2, rfl, q2 hx (fun w => z (r2.nil_iff.mpr w)) _ _ (fresh I)⟩
def rSlN (K : PySem.W.Frag) : V → Option Int → Option Int → Hp → VK → Prop := fun x lo hi H Q => ∃ a xs, x = .ref a ∧ SqT K H a xs ∧
  (HT.sIx xs.length 0 lo = 0 ∧ HT.sIx xs.length xs.length hi = xs.length → Q (.ref a) H) ∧ (¬ (HT.sIx xs.length 0 lo = 0 ∧ HT.sIx xs.length xs.length hi = xs.length) → TN H (cutV xs lo hi) Q)
theorem sl_tupN : SlR X (rSlN X.K) := by
  intro pins s σ H x v vl vu lo hi sl Q I rx hs pl pu h
  obtain ⟨a, xs, rfl, hx, q1, q2⟩ := h
  cases rx
  obtain ⟨its, r, ht, hz⟩ := I.tuple hx
  have hlen : its.toArray.size = xs.length := by rw [List.size_toArray]; exact r.length.symm
  refine ⟨"tuple", _, PyProof.Rows.slot_tuple_getitem.lookup, ht.typeIs, ?_⟩
  by_cases hw : HT.sIx xs.length 0 lo = 0 ∧ HT.sIx xs.length xs.length hi = xs.length
  · exact getItem_tuple_whole ht hs pl pu (by rw [hlen]; exact hw) ⟨.ref a, H, I, rfl, q1 hw⟩
  · refine HT.getItem_tuple_cut ht hs pl pu (by rw [hlen]; exact hw) ?_ (by rw [hlen]; exact hz)
    rw [hlen]
    have I2 := tnew (t' := s.toks) I ((r.drop (HT.sIx xs.length 0 lo)).take (HT.sIx xs.length xs.length hi - HT.sIx xs.length 0 lo)) (Nat.le_trans (cutV_length xs lo hi) hz)
    exact ⟨.ref s.heap.objs.size, _, I2, rfl, q2 hw _ _ (fresh I)⟩
theorem LsG.ok {pins : List (Addr × Obj)} {σ : L2.St} {H : Hp} {s : Shared} {a : Addr} {xs : List V} (I : Inv X pins σ H s) (h : Fx.LsG X.K H a xs) : xs.length ≤ sizeLine ∧ ∃ (its : List Value) (n : Nat), Vals xs its ∧ s.heap.get? a = some { cls := .type "list", data := .seq its.toArray n } := by
  rcases h with h | ⟨its, n, h1, h2, h3⟩
  · obtain ⟨z, its, n, r, e⟩ := h.ok I.hok
    exact ⟨z, its, n, r, e⟩
  · exact ⟨by rw [h3.length]; exact h2, its, n, h3, I.kIn _ _ h1⟩
/-- list + list, each tracked or frozen -/
def rCatR (K : PySem.W.Frag) : R2 := fun x y H Q => ∃ l b xs zs, x = .ref l ∧ y = .ref b ∧ LsG K H l xs ∧ LsG K H b zs ∧ xs.length + zs.length ≤ sizeLine ∧ ∀ p, H p = none → Q (.ref p) (upd H p (.lst (xs ++ zs)))
theorem op_catR : OpR X (binaryOp .Add) (rCatR X.K) := by
  intro pins s σ H x y v u Q I rx ry h
  obtain ⟨l, b, xs, zs, rfl, rfl, hH, hB, hz, q⟩ := h
  cases rx
  cases ry
  obtain ⟨z, its, n, r, e⟩ := LsG.ok I hH
  obtain ⟨z2, its2, n2, r2, e2⟩ := LsG.ok I hB
  have hl := r.length
  have hl2 := r2.length
  refine PySem.P.add_list e e2 ?_ (by rw [List.size_toArray, List.size_toArray]; omega)
  have ea : its.toArray ++ its2.toArray = (its ++ its2).toArray := by simp
  rw [ea]
  exact ⟨.ref _, _, I.lnew (t' := s.toks) (r.append r2) (by rw [List.length_append]; omega), rfl, q _ I.fresh⟩
/-- list * int, tracked or frozen -/
def rRepR (K : PySem.W.Frag) : R2 := fun x y H Q => ∃ l k xs, x = .ref l ∧ y = .int k ∧ LsG K H l xs ∧ -(2 ^ 63) ≤ k ∧ k < 2 ^ 63 ∧ xs.length * k.toNat ≤ sizeLine ∧
  ∀ p, H p = none → Q (.ref p) (upd H p (.lst (List.replicate k.toNat xs).flatten))
theorem op_repR : OpR X (binaryOp .Mult) (rRepR X.K) := by
  intro pins s σ H x y v u Q I rx ry h
  obtain ⟨l, k, xs, rfl, rfl, hH, h1, h2, hz, q⟩ := h
  cases rx
  obtain ⟨t, rfl⟩ := ry
  obtain ⟨z, its, n, r, e⟩ := LsG.ok I hH
  have hl := r.length
  have hlen : its.toArray.size * k.toNat ≤ sizeLine := by rw [List.size_toArray, ← hl]; exact hz
  have hcap : ¬ its.toArray.size * k.toNat > (2 ^ 63 - 1) / 8 := by
    have : (sizeLine : Nat) ≤ (2 ^ 63 - 1) / 8 := by decide
    omega
  have hfit : ¬ (!Builtin.List.listFitsIndex k) = true := by
    rw [fitsIndex_both h1 h2]
    exact Bool.false_ne_true
  have hlong : ¬ Builtin.List.listTooLong (its.toArray.size * k.toNat) = true := by
    rw [notLongL hlen]
    exact Bool.false_ne_true
  have hnew : List.foldl (fun x1 x2 => x1 ++ x2) #[] (List.replicate (if its.toArray.isEmpty = true then 0 else k.toNat) its.toArray) = (List.replicate k.toNat its).flatten.toArray := by
    have f0 : ∀ m : Nat, List.foldl (fun x1 x2 => x1 ++ x2) #[] (List.replicate m its.toArray) = (List.replicate m its).flatten.toArray := fun m => by
      have := foldl_rep its m []
      rw [List.nil_append] at this
      exact this
    rw [f0]
    cases its with
    | nil => simp
    | cons a r' => rw [if_neg (by simp)]
  refine wpAny_binaryOp_repeat_ref (T := "list") (U := "int") (by decide) ⟨_, e, rfl⟩ (fun s' => typeIs_int s' k t) noFill_list_mul PySem.F.fills_int_mul PySem.F.slot_int_rmul repeat_list PySem.F.slot_int_index.lookup
    (call_meets PySem.F.slot_int_rmul (typeIs_int s k t) PySem.F.entry_int_rmul (PySem.F.args_int_rmul_2 _ _) (int___rmul___int_list k t l its.toArray n)
      ⟨e, rfl, ⟨_, e, rfl⟩, call_meets PySem.F.slot_list_mul ⟨_, e, rfl⟩ PySem.F.entry_list_mul (PySem.F.args_list_mul_2 _ _) (AutoListH.list___mul___list_int_3 l its.toArray n k t hfit hcap hlong) ⟨e, ?_⟩⟩)
  rw [hnew]
  exact ⟨.ref _, _, I.lnew (t' := s.toks) (r.rep k.toNat) (by rw [PyProof.Rows.lm_len_rep_flat, Nat.mul_comm]; exact hz), rfl, q _ I.fresh⟩
/-- the method of a tuple whose object is known -/
def tyT (K : PySem.W.Frag) (x : V) (H : Hp) : Prop := ∃ p xs, x = .ref p ∧ TupAt K H p xs
def tBMT (K : PySem.W.Frag) (r : V → List V → Hp → VK → Prop) (to : TE) (t : TA) : TE := fun σ H Q => to σ H fun x H1 => tyT K x H1 ∧ t σ H1 fun xs H2 => r x xs H2 Q
theorem pe_bmT {o e : Expr} {to : TE} {name : Str} {apos cpos : Pos} {id : String} {r : V → List V → Hp → VK → Prop} (slot : Slot "tuple" name id) (hty : typeOf (.builtin id) = pure (.type "method_descriptor")) (hm : MtR X id r) (ho : PE X o to) (ha : PA X (e :: es) t)
    (hbase : attributeBase o name X.env (eval o X.env) = eval o X.env := by rfl)
    (hfew : ((backTo cpos (starEach (e :: es) X.env)).all (fun x => !x.1) && (backToKw cpos (keywordEach [] X.env)).all (fun x => x.1.isSome)
      && decide ((e :: es).length + ([] : List Keyword).length + (if ([] : List Keyword).isEmpty then 0 else 1) < 30)) = true := by rfl)
    (hline : (apos.endLine == cpos.line) = true := by rfl) (hs : starEach (e :: es) X.env = (false, eval e X.env) :: starEach es X.env := by rfl) (hplain : (backTo cpos (starEach es X.env)).any (·.1) = false := by rfl) :
    PE X (.Call (.Attribute o name apos) (e :: es) [] cpos) (tBMT X.K r to t) := by
  refine ⟨fun pins s σ H Q I h => ?_⟩
  refine wpAny_Call_method_late hbase hfew hline rfl (thn (ho.run pins s σ H _ I h) fun v s1 ⟨x, H1, I1, r1, ty, q1⟩ => ?_)
  obtain ⟨p, xs, rfl, hp⟩ := ty
  cases r1
  obtain ⟨ot, hot, hc, hd⟩ : ∃ o, s1.heap.get? p = some o ∧ o.cls = .type "tuple" ∧ o.dict = none := by
    rcases hp with ⟨ob, hp, hd⟩ | ⟨o, its, n, h1, h2, h3, _⟩
    · obtain ⟨hg, _, its, _, ot, hot, hc, _⟩ := I1.hok p _ hp
      have hoo : ot = ob := Option.some.inj (hot.symm.trans hg)
      subst hoo
      exact ⟨ot, hot, hc, hd⟩
    · exact ⟨o, I1.kIn p o h1, h2, h3⟩
  refine ⟨"tuple", id, PySem.F.plainAttrs_tuple, slot, hty, ⟨ot, hot, hc⟩, fun a e => by cases e; exact ⟨ot, hot, hd⟩, ?_⟩
  have hA := ha.run cpos pins s1 σ H1 _ I1 q1
  rw [hs] at hA ⊢
  refine Calls.callWith_builtin (by show (false || (backTo cpos (starEach es X.env)).any (·.1)) = false; rw [hplain] <;> rfl) (Calls.evalArgs_plain ?_)
  exact thn hA fun us s2 ⟨vs, H2, I2, r2, q2⟩ => hm pins s2 σ H2 (.ref p) vs (.ref p) us Q I2 rfl r2 q2
/-- t.index(x), t of flat things -/
def rTix (K : PySem.W.Frag) : V → List V → Hp → VK → Prop := fun x xs H Q => ∃ (a : Addr) (ys : List V) (y : V) (j : Nat) (z : V), x = V.ref a ∧ xs = [y] ∧ SqT K H a ys ∧ flatV y = true ∧ ys.all flatV = true ∧ ys[j]? = some z ∧ eqV z y = true ∧
  (∀ (m : Nat) (z' : V), m < j → ys[m]? = some z' → eqV z' y = false) ∧ Q (.int (j : Nat)) H
def rTcount (K : PySem.W.Frag) : V → List V → Hp → VK → Prop := fun x xs H Q => ∃ (a : Addr) (ys : List V) (y : V), x = V.ref a ∧ xs = [y] ∧ SqT K H a ys ∧ flatV y = true ∧ ys.all flatV = true ∧ Q (.int (ys.countP fun z => eqV z y : Nat)) H
theorem mt_tix : MtR X "tuple.index" (rTix X.K) := by
  intro pins s σ H x xs v us Q I rx rxs h
  obtain ⟨a, ys, y, j, z, rfl, rfl, hs, fy, fys, hz, hzj, hno, q⟩ := h
  cases rx
  cases rxs with
  | cons ry rt =>
    rename_i uy ut
    cases rt
    obtain ⟨its, rv, ⟨⟨cls, dd, data, sl⟩, ho, hc, n, hd⟩, hlen⟩ := I.tuple hs
    simp only at hc hd
    subst hc hd
    obtain ⟨u, hu, ru⟩ := rv.get hz
    obtain ⟨hjl, hje⟩ := List.getElem?_eq_some_iff.mp hu
    have hvl := rv.length
    have hj : j < its.toArray.size := by simpa using hjl
    refine call_meets PySem.F.slot_tuple_index ⟨_, ho, rfl⟩ PySem.F.entry_tuple_index (PySem.F.args_tuple_index_2 _ _)
      (TI.tuple_indexAt a its.toArray n dd sl uy (eqU y) j hj ?_ ?_) ⟨ho, fun u' hu' => mem_eqAt ry fy rv fys u' (by simpa using hu'), ?_⟩
    · have e1 : its.toArray[j] = u := by simpa using hje
      rw [e1, eqU_of ru (flat_at fys hz)]
      exact hzj
    · intro m hm hmj
      have hml : m < its.length := by simpa using hm
      have hmy : m < ys.length := by omega
      have hy' : ys[m]? = some ys[m] := List.getElem?_eq_getElem hmy
      obtain ⟨u2, hu2, ru2⟩ := rv.get hy'
      obtain ⟨_, hme⟩ := List.getElem?_eq_some_iff.mp hu2
      have e1 : its.toArray[m] = u2 := by simpa using hme
      rw [e1, eqU_of ru2 (flat_at fys hy')]
      exact hno m _ hmj hy'
    · exact ⟨.int (j : Nat), H, I.tok _, ⟨_, rfl⟩, q⟩
theorem countU {y : V} : ∀ {ys : List V} {its : List Value}, Vals ys its → ys.all flatV = true → its.countP (eqU y) = ys.countP fun z => eqV z y
  | _, _, .nil, _ => rfl
  | x :: xs, u :: us, .cons r t, h => by
    rw [List.all_cons, Bool.and_eq_true] at h
    rw [List.countP_cons, List.countP_cons, countU t h.2, eqU_of r h.1]
theorem mt_tcount : MtR X "tuple.count" (rTcount X.K) := by
  intro pins s σ H x xs v us Q I rx rxs h
  obtain ⟨a, ys, y, rfl, rfl, hs, fy, fys, q⟩ := h
  cases rx
  cases rxs with
  | cons ry rt =>
    rename_i uy ut
    cases rt
    obtain ⟨its, rv, ⟨⟨cls, dd, data, sl⟩, ho, hc, n, hd⟩, hlen⟩ := I.tuple hs
    simp only at hc hd
    subst hc hd
    refine call_meets PySem.F.slot_tuple_count ⟨_, ho, rfl⟩ PySem.F.entry_tuple_count (PySem.F.args_tuple_count_2 _ _)
      (SeqAt.tuple_countAt a its.toArray n dd sl uy (eqU y)) ⟨ho, fun u' hu' => mem_eqAt ry fy rv fys u' (by simpa using hu'), ?_⟩
    refine ⟨.int (ys.countP fun z => eqV z y : Nat), H, I.tok _, ⟨s.toks, ?_⟩, q⟩
    show Value.int ((its.toArray.toList.countP (eqU y) : Nat) : Int) s.toks = Value.int ((ys.countP fun z => eqV z y : Nat) : Int) s.toks
    rw [show its.toArray.toList = its from rfl, countU rv fys]
end
end Fx
set_option Elab.async false
set_option linter.all false
set_option maxRecDepth 100000
set_option maxHeartbeats 4000000
namespace Fx
open PySem L2
section
variable {c : Cf} {B : List (Nat × Addr)} {W : WX} {X : Cx}

def K1 (c : Cf) (G H : Hp) (d : D) (Q : VK) : Prop := ∀ G' H' v, Ext G H G' H' → Rep c G' v d → Q v H'
def K2 (c : Cf) (G H : Hp) (d : D) (Q : VK) : Prop := ∀ p H', H p = none → Same H H' → Own c G (H' p) d → Q (.ref p) H'
theorem ext_own {G H H' : Hp} {p : Addr} {d : D} (s : Same G H) (hp : H p = none) (hh : Same H H') (o : Own c G (H' p) d) : ∃ G', Ext G H G' H' ∧ Rep c G' (.ref p) d := by
  obtain ⟨u, hu⟩ := o.some
  have gp : G p = none := s.free hp
  have e : Ext G H (upd G p u) H' := ⟨same_upd gp, hh, fun b w q => by
    by_cases z : b = p
    · subst z; rw [upd_same] at q; rw [hu]; exact q
    · rw [upd_ne z] at q; exact hh b w (s b w q), fun b w q => upd_ne (ne_of_none q hp)⟩
  refine ⟨_, e, ?_⟩
  have o' : Own c G ((upd G p u) p) d := by rw [upd_same, ← hu]; exact o
  exact o'.rep e.gg
theorem K1.to2 {G H : Hp} {d : D} {Q : VK} (s : Same G H) (k : K1 c G H d Q) : K2 c G H d Q := fun p H' hp hh o => by
  obtain ⟨G', e, r⟩ := ext_own s hp hh o
  exact k G' H' _ e r
theorem K1.flat {G H : Hp} {d : D} {Q : VK} (s : Same G H) (k : K1 c G H d Q) {v : V} (r : Rep c G v d) : Q v H := k G H v (Ext.refl s) r
theorem K1.new {G H : Hp} {d : D} {Q : VK} (s : Same G H) (k : K1 c G H d Q) {p : Addr} {o : HO} (hp : H p = none) (r : Rep c (upd G p o) (.ref p) d) : Q (.ref p) (upd H p o) := k _ _ _ (Ext.upd s hp) r
theorem K1.tup {G H : Hp} {ds : List D} {Q : VK} (s : Same G H) (k : K1 c G H (.tup ds) Q) {p : Addr} {its : List Value} {xs : List V} (hp : H p = none) (r : RepL c G xs ds) : Q (.ref p) (upd H p (.frz (tob its) (.tup xs))) :=
  k.new s hp (.tup (.inl ⟨_, upd_same, rfl⟩) (r.mono (same_upd (s.free hp))))
theorem K2.lst {G H : Hp} {ds : List D} {Q : VK} (k : K2 c G H (.lst ds) Q) {p : Addr} {xs : List V} (hp : H p = none) (r : RepL c G xs ds) : Q (.ref p) (upd H p (.lst xs)) :=
  k p _ hp (same_upd hp) ⟨xs, upd_same, r⟩

/-- what r asks follows from the operation's function on data -/
def Sem2 (c : Cf) (r : R2) (sem : D → D → Option D) : Prop := ∀ (G H : Hp) (x y : V) (d1 d2 d : D) (Q : VK), Same G H → Opr c G H x d1 → Opr c G H y d2 → sem d1 d2 = some d → K1 c G H d Q → r x y H Q
def Sem2F (c : Cf) (r : R2) (sem : D → D → Option D) : Prop := ∀ (G H : Hp) (x y : V) (d1 d2 d : D) (Q : VK), Same G H → Opr c G H x d1 → Opr c G H y d2 → sem d1 d2 = some d → K2 c G H d Q → r x y H Q
theorem Sem2F.plain {r : R2} {sem : D → D → Option D} (h : Sem2F c r sem) : Sem2 c r sem := fun G H x y d1 d2 d Q s a b e k => h G H x y d1 d2 d Q s a b e (k.to2 s)
/-- the meaning of an operation with two operands -/
def mOp2 (sem : D → D → Option D) (oa ob : Opn) : M D := oa.pre.bind fun a => ob.pre.bind fun b => (rdM oa a).bind fun d1 => (rdM ob b).bind fun d2 => M.lift (sem d1 d2)

theorem After.lift {α : Type} {G H : Hp} {A : Addr → Prop} {σ : L2.St} {ρ : Cells} {o : Option α} {Q : α → Cells → Hp → Hp → Prop} (h : After c B W G A H σ (M.lift o ρ) Q) (R : Rel c B G A H σ ρ) : ∃ d, o = some d ∧ Q d ρ G H := by
  cases o with
  | none => exact h.elim
  | some d => exact ⟨d, rfl, After.ok h R⟩
theorem After.rd {α : Type} {G H : Hp} {A : Addr → Prop} {σ : L2.St} {ρ : Cells} {o : Opn} {a : D} {k : D → M α} {Q : α → Cells → Hp → Hp → Prop} (h : After c B W G A H σ (((rdM o a).bind k) ρ) Q) : ∃ d, o.rd a ρ = some d ∧ After c B W G A H σ (k d ρ) Q := by
  unfold M.bind rdM at h
  cases e : o.rd a ρ with
  | none => rw [e] at h; exact h.elim
  | some d => rw [e] at h; exact ⟨d, rfl, h⟩
/-- the heart of a two-operand rule -/
theorem op2_core {r : R2} {sem : D → D → Option D} {oa ob : Opn} {σ : L2.St} {H : Hp} {Q : VK} {Qd : D → Hp → Hp → Prop} {A : Addr → Prop} {G : Hp} {ρ : Cells} (R : Rel c B G A H σ ρ) (a : After c B W G A H σ (mOp2 sem oa ob ρ) fun d _ G' H' => Qd d G' H')
    (k : ∀ G' H' x y d1 d2 d, Same G' H' → Opr c G' H' x d1 → Opr c G' H' y d2 → sem d1 d2 = some d → Qd d G' H' → r x y H' Q) : tOp r (tO c B W oa) (tO c B W ob) σ H Q := by
  refine ⟨G, A, ρ, R, a.split.imp fun da ρ1 G1 H1 _ _ R1 a1 x fx => ?_⟩
  refine ⟨G1, A, ρ1, R1, a1.split.imp fun db ρ2 G2 H2 s2 _ R2 a2 y fy => ?_⟩
  obtain ⟨d1, e1, a2⟩ := a2.rd
  obtain ⟨d2, e2, a2⟩ := a2.rd
  obtain ⟨d, e, q⟩ := a2.lift R2
  exact k G2 H2 x y d1 d2 d R2.same (fx G2 H2 ρ2 d1 s2 R2 e1) (fy G2 H2 ρ2 d2 (Same.refl _) R2 e2) e q
theorem After.k1 {G H : Hp} {A : Addr → Prop} {σ : L2.St} {ρ : Cells} {f : M D} {Q : VK} (a : After c B W G A H σ (f ρ) fun d _ G' H' => ∀ v, Rep c G' v d → Q v H') : After c B W G A H σ (f ρ) fun d _ G' H' => K1 c G' H' d Q := by
  cases e : f ρ with
  | stuck => rw [e] at a; exact a
  | exc x ρ' => rw [e] at a; exact a
  | ok d ρ' =>
    rw [e] at a
    intro G' H' s k R G2 H2 v x r
    exact a G2 H2 (s.trans x.gg) (k.trans x.keep) (R.ext x) v r
theorem After.k2 {G H : Hp} {A : Addr → Prop} {σ : L2.St} {ρ : Cells} {f : M D} {Q : VK} (a : After c B W G A H σ (f ρ) fun d _ G' H' => ∀ p H2, H' p = none → Same H' H2 → Own c G' (H2 p) d → Q (.ref p) H2) : After c B W G A H σ (f ρ) fun d _ G' H' => K2 c G' H' d Q := a
theorem pm_op {e : Expr} {r : R2} {sem : D → D → Option D} {oa ob : Opn} (hs : Sem2 c r sem) (h : PE X e (tOp r (tO c B W oa) (tO c B W ob))) : PE X e (tM c B W (mOp2 sem oa ob)) :=
  pe_imp h fun σ H Q ⟨G, A, ρ, R, a⟩ => op2_core R a.k1 fun G' H' x y d1 d2 d s o1 o2 e q => hs G' H' x y d1 d2 d Q s o1 o2 e q
theorem pf_op {e : Expr} {r : R2} {sem : D → D → Option D} {oa ob : Opn} (hs : Sem2F c r sem) (h : PE X e (tOp r (tO c B W oa) (tO c B W ob))) : PE X e (tF c B W (mOp2 sem oa ob)) :=
  pe_imp h fun σ H Q ⟨G, A, ρ, R, a⟩ => op2_core R a.k2 fun G' H' x y d1 d2 d s o1 o2 e q => hs G' H' x y d1 d2 d Q s o1 o2 e q
/-- what is new may be frozen -/
theorem pm_of_pf {e : Expr} {f : M D} (h : PE X e (tF c B W f)) : PE X e (tM c B W f) := pe_imp h fun σ H Q ⟨G, A, ρ, R, a⟩ => ⟨G, A, ρ, R, a.k1.imp fun d ρ' G' H' _ _ R' k => k.to2 R'.same⟩

def mVar (i : Nat) : M D := fun ρ => match ρ[i]? with
  | some (.dat d) => .ok d ρ
  | _ => .stuck
theorem pm_var (i : Nat) {x : Str} {pos : Pos} (hN : X.N[i]? = some x := by rfl) (hv : Vis X.env.scope x := by first | exact Or.inl rfl | exact Or.inr (Or.inl rfl) | exact Or.inr (Or.inr rfl)) (hd : (x == ("__debug__" : Str)) = false := by decide)
    (hcd : (x == ("__classdict__" : Str)) = false := by decide) : PE X (.Name x pos) (tM c B W (mVar i)) := pe_imp (pe_var hN hv hd hcd) fun σ H Q ⟨G, A, ρ, R, a⟩ => by
  unfold mVar at a
  cases q : ρ[i]? with
  | none => rw [q] at a; exact a.elim
  | some cl =>
    rw [q] at a
    cases cl with
    | no => exact a.elim
    | own d => exact a.elim
    | dat d =>
      obtain ⟨v, h1, h2⟩ := R.dat i d q
      exact ⟨v, h1, After.ok a R v h2⟩
theorem pm_c {e : Expr} {v : V} {d : D} (h : PE X e (tC v)) (r : ∀ G, Rep c G v d) : PE X e (tM c B W (M.pure d)) := pe_imp h fun σ H Q ⟨G, A, ρ, R, a⟩ => After.ok a R v (r G)
theorem pm_int {i j pos} : PE X (.Constant (.int i) j pos) (tM c B W (M.pure (.int i))) := pm_c pe_int fun _ => .int i
theorem pm_bl {i j pos} : PE X (.Constant (.bool i) j pos) (tM c B W (M.pure (.bl i))) := pm_c pe_bl fun _ => .bl i
theorem pm_non {j pos} : PE X (.Constant .none j pos) (tM c B W (M.pure .non)) := pm_c pe_non fun _ => .non
theorem pm_str {x j pos} : PE X (.Constant (.str x) j pos) (tM c B W (M.pure (.str x))) := pm_c pe_str fun _ => .str x
/-- a module's int -/
theorem pm_globI {x : Str} {i : Int} {t : Tok} {pos : Pos} (hm : X.mg x = some (.int i t)) (hg : Gl X x := by rfl) (hd : (x == ("__debug__" : Str)) = false := by decide) : PE X (.Name x pos) (tM c B W (M.pure (.int i))) := pm_c (v := .int i) (pe_glob hg hm ⟨t, rfl⟩ hd) fun _ => .int i

def mB (f : M D) : M Bool := f.bind fun d => match d with
  | .bl b => M.pure b
  | _ => M.stuck
theorem mB_core {G H : Hp} {A : Addr → Prop} {σ : L2.St} {ρ : Cells} {f : M D} {Q : Bool → Cells → Hp → Hp → Prop} (R : Rel c B G A H σ ρ) (a : After c B W G A H σ (mB f ρ) Q) : After c B W G A H σ (f ρ) fun d ρ' G' H' => ∃ b, d = .bl b ∧ Q b ρ' G' H' :=
  a.split.imp fun d ρ' G' H' _ _ R' q => by
    cases d <;> first | exact q.elim | skip
    exact ⟨_, rfl, After.ok q R'⟩
theorem rep_bl {G : Hp} {v : V} {b : Bool} (r : Rep c G v (.bl b)) : v = .bl b := by cases r; rfl
theorem rep_int {G : Hp} {v : V} {b : Int} (r : Rep c G v (.int b)) : v = .int b := by cases r; rfl
theorem tB_core {σ : L2.St} {H : Hp} {f : M D} {Q : Bool → Hp → Prop} (h : tT c B W (mB f) σ H Q) : tM c B W f σ H fun x H1 => ∃ b, x = .bl b ∧ Q b H1 := by
  obtain ⟨G, A, ρ, R, a⟩ := h
  refine ⟨G, A, ρ, R, (mB_core R a).imp fun d ρ' G' H' _ _ _ ⟨b, e, q⟩ v r => ?_⟩
  subst e
  exact ⟨b, rep_bl r, q⟩
/-- a value as a test -/
theorem pt_v {e : Expr} {f : M D} (h : PE X e (tM c B W f)) (he : ∀ whole, isTrue e X.env whole = (do let v ← whole; standAt e.pos; holding [v] (truthy v)) := by intro _; rfl) : PT X e (tT c B W (mB f)) :=
  pt_imp (pt_val h he) fun σ H Q h => tB_core h
/-- a comparison as a test -/
theorem pt_op {e : Expr} {r : R2} {sem : D → D → Option D} {oa ob : Opn} (hs : Sem2 c r sem) (h : PT X e (tTest (tOp r (tO c B W oa) (tO c B W ob)))) : PT X e (tT c B W (mB (mOp2 sem oa ob))) :=
  pt_imp h fun σ H Q h => by
    obtain ⟨G, A, ρ, R, a⟩ := tB_core h
    exact op2_core R a.k1 fun G' H' x y d1 d2 d s o1 o2 e q => hs G' H' x y d1 d2 d _ s o1 o2 e q
def mAnd (f g : M Bool) : M Bool := f.bind fun b => if b = true then g else M.pure false
def mOr (f g : M Bool) : M Bool := f.bind fun b => if b = true then M.pure true else g
def mNot (f : M Bool) : M Bool := f.bind fun b => M.pure (!b)
def mIf {α : Type} (b : M Bool) (f g : M α) : M α := b.bind fun b => if b = true then f else g
theorem ite_prop {b : Bool} {P Q : Prop} (h1 : b = true → P) (h2 : b = false → Q) : if b = true then P else Q := by
  cases b with
  | true => rw [if_pos rfl]; exact h1 rfl
  | false => rw [if_neg Bool.false_ne_true]; exact h2 rfl
theorem pw_and1' {op} {a : Expr} {f : M Bool} (h : PT X a (tT c B W f)) : PW X (.BoolOp op [a] pos) (tT c B W f) := by
  first
    | exact pw_and1 h
    | exact pw_or1 h
    | (cases op <;> first | exact pw_and1 h | exact pw_or1 h)
theorem pw_andM {a b : Expr} {rest : List Expr} {pos : Pos} {f g : M Bool} (ha : PT X a (tT c B W f)) (hb : PW X (.BoolOp .And (b :: rest) pos) (tT c B W g)) : PW X (.BoolOp .And (a :: b :: rest) pos) (tT c B W (mAnd f g)) := by
  refine ⟨fun whole pins s σ H Q I h => (pw_and ha hb).run whole pins s σ H Q I ?_⟩
  obtain ⟨G, A, ρ, R, a⟩ := h
  refine ⟨G, A, ρ, R, a.split.imp fun x ρ' G' H' _ _ R' q => ite_prop (fun e => ?_) (fun e => ?_)⟩
  · rw [if_pos e] at q; exact ⟨G', A, ρ', R', q⟩
  · rw [if_neg (by rw [e]; exact Bool.false_ne_true)] at q; exact After.ok q R'
theorem pw_orM {a b : Expr} {rest : List Expr} {pos : Pos} {f g : M Bool} (ha : PT X a (tT c B W f)) (hb : PW X (.BoolOp .Or (b :: rest) pos) (tT c B W g)) : PW X (.BoolOp .Or (a :: b :: rest) pos) (tT c B W (mOr f g)) := by
  refine ⟨fun whole pins s σ H Q I h => (pw_or ha hb).run whole pins s σ H Q I ?_⟩
  obtain ⟨G, A, ρ, R, a⟩ := h
  refine ⟨G, A, ρ, R, a.split.imp fun x ρ' G' H' _ _ R' q => ite_prop (fun e => ?_) (fun e => ?_)⟩
  · rw [if_pos e] at q; exact After.ok q R'
  · rw [if_neg (by rw [e]; exact Bool.false_ne_true)] at q; exact ⟨G', A, ρ', R', q⟩
theorem pt_notM {a : Expr} {pos : Pos} {f : M Bool} (ha : PT X a (tT c B W f)) : PT X (.UnaryOp .Not a pos) (tT c B W (mNot f)) :=
  pt_imp (pt_not ha) fun σ H Q ⟨G, A, ρ, R, a⟩ => ⟨G, A, ρ, R, a.split.imp fun x ρ' G' H' _ _ R' q => After.ok q R'⟩
/-- as values -/
def mV (f : M Bool) : M D := f.bind fun b => M.pure (.bl b)
def mAndV (f g : M D) : M D := (mB f).bind fun b => if b = true then g else M.pure (.bl false)
def mOrV (f g : M D) : M D := (mB f).bind fun b => if b = true then M.pure (.bl true) else g
def mNotV (f : M D) : M D := (mB f).bind fun b => M.pure (.bl (!b))
theorem pm_oneV {op} {a : Expr} {pos : Pos} {f : M D} (h : PE X a (tM c B W f)) : PE X (.BoolOp op [a] pos) (tM c B W f) := pe_one h
theorem pm_andV {a b : Expr} {rest : List Expr} {pos : Pos} {f g : M D} (ha : PE X a (tM c B W f)) (hb : PE X (.BoolOp .And (b :: rest) pos) (tM c B W g)) : PE X (.BoolOp .And (a :: b :: rest) pos) (tM c B W (mAndV f g)) :=
  pe_imp (pe_and ha hb) fun σ H Q ⟨G, A, ρ, R, a⟩ => by
    refine ⟨G, A, ρ, R, (mB_core R a.split).imp fun d ρ' G' H' _ _ R' ⟨b, e, q⟩ v r => ?_⟩
    subst e
    refine ⟨b, rep_bl r, ite_prop (fun e => ?_) (fun e => ?_)⟩
    · rw [if_pos e] at q; exact ⟨G', A, ρ', R', q⟩
    · rw [if_neg (by rw [e]; exact Bool.false_ne_true)] at q; exact After.ok q R' _ (.bl false)
theorem pm_notV {a : Expr} {pos : Pos} {f : M D} (ha : PE X a (tM c B W f)) : PE X (.UnaryOp .Not a pos) (tM c B W (mNotV f)) :=
  pe_imp (pe_not ha) fun σ H Q ⟨G, A, ρ, R, a⟩ => by
    refine ⟨G, A, ρ, R, (mB_core R a.split).imp fun d ρ' G' H' _ _ R' ⟨b, e, q⟩ v r => ?_⟩
    subst e
    exact ⟨b, rep_bl r, After.ok q R' _ (.bl _)⟩
theorem pm_if {t a b : Expr} {pos : Pos} {h : M Bool} {f g : M D} (ht : PT X t (tT c B W h)) (ha : PE X a (tM c B W f)) (hb : PE X b (tM c B W g)) : PE X (.IfExp t a b pos) (tM c B W (mIf h f g)) :=
  pe_imp (pe_ifExp ht ha hb) fun σ H Q ⟨G, A, ρ, R, a⟩ => by
    refine ⟨G, A, ρ, R, a.split.imp fun b ρ' G' H' _ _ R' q => ite_prop (fun e => ?_) (fun e => ?_)⟩
    · rw [if_pos e] at q; exact ⟨G', A, ρ', R', q⟩
    · rw [if_neg (by rw [e]; exact Bool.false_ne_true)] at q; exact ⟨G', A, ρ', R', q⟩

def mChain (s1 s2 : D → D → Option D) (oa ob oc : Opn) : M D := oa.pre.bind fun a => ob.pre.bind fun b => (rdM oa a).bind fun d1 => (rdM ob b).bind fun d2 => (M.lift (s1 d1 d2)).bind fun z => match z with
  | .bl true => oc.pre.bind fun e => (rdM ob b).bind fun d2 => (rdM oc e).bind fun d3 => M.lift (s2 d2 d3)
  | .bl false => M.pure (.bl false)
  | _ => M.stuck
theorem After.liftB {α β : Type} {G H : Hp} {A : Addr → Prop} {σ : L2.St} {ρ : Cells} {o : Option α} {k : α → M β} {Q : β → Cells → Hp → Hp → Prop} (h : After c B W G A H σ (((M.lift o).bind k) ρ) Q) : ∃ d, o = some d ∧ After c B W G A H σ (k d ρ) Q := by
  cases o with
  | none => exact h.elim
  | some d => exact ⟨d, rfl, h⟩
theorem chain_core {r r' : R2} {s1 s2 : D → D → Option D} {oa ob oc : Opn} {σ : L2.St} {H : Hp} {Q : VK} (h1 : Sem2 c r s1) (h2 : Sem2 c r' s2) (h : tM c B W (mChain s1 s2 oa ob oc) σ H Q) : tChain r r' (tO c B W oa) (tO c B W ob) (tO c B W oc) σ H Q := by
    obtain ⟨G, A, ρ, R, a⟩ := h
    refine ⟨G, A, ρ, R, a.split.imp fun da ρ1 G1 H1 _ _ R1 a1 x fx => ?_⟩
    refine ⟨G1, A, ρ1, R1, a1.split.imp fun db ρ2 G2 H2 s2' _ R2 a2 y fy => ?_⟩
    obtain ⟨d1, e1, a2⟩ := a2.rd
    obtain ⟨d2, e2, a2⟩ := a2.rd
    obtain ⟨d, e, q⟩ := a2.liftB
    refine h1 G2 H2 x y d1 d2 d _ R2.same (fx G2 H2 ρ2 d1 s2' R2 e1) (fy G2 H2 ρ2 d2 (Same.refl _) R2 e2) e fun G3 H3 z x3 rz => ?_
    have R3 := R2.ext x3
    cases d <;> first | exact q.elim | skip
    rename_i k
    refine ⟨k, rep_bl rz, ite_prop (fun ek => ?_) (fun ek => ?_)⟩
    · subst ek
      have q' := After.of x3.gg x3.keep q
      refine ⟨G3, A, ρ2, R3, q'.split.imp fun de ρ4 G4 H4 s4 _ R4 a4 w fw => ?_⟩
      obtain ⟨d2', e2', a4⟩ := a4.rd
      obtain ⟨d3, e3, a4⟩ := a4.rd
      obtain ⟨dr, er, a4⟩ := a4.k1.lift R4
      exact h2 G4 H4 y w d2' d3 dr _ R4.same (fy G4 H4 ρ4 d2' (x3.gg.trans s4) R4 e2') (fw G4 H4 ρ4 d3 (Same.refl _) R4 e3) er a4
    · subst ek
      exact After.ok (After.of x3.gg x3.keep q) R3 _ (.bl false)
theorem pm_chain {e : Expr} {r r' : R2} {s1 s2 : D → D → Option D} {oa ob oc : Opn} (h1 : Sem2 c r s1) (h2 : Sem2 c r' s2) (h : PE X e (tChain r r' (tO c B W oa) (tO c B W ob) (tO c B W oc))) : PE X e (tM c B W (mChain s1 s2 oa ob oc)) :=
  pe_imp h fun σ H Q q => chain_core h1 h2 q
end
end Fx
set_option Elab.async false
set_option linter.all false
set_option maxRecDepth 100000
set_option maxHeartbeats 4000000
namespace Fx
open PySem L2

mutual
def toPy : D → PyData
  | .non => .none
  | .bl b => .bool b
  | .int i => .int i
  | .str x => .str x
  | .tup ds => .tuple (toPys ds)
  | .lst ds => .list (toPys ds)
  | .dic _ _ => .dict []
  | .rcd _ _ => .dict []
  | .exc _ _ => .dict []
  | .raw _ => .dict []
def toPys : List D → List PyData
  | [] => []
  | d :: ds => toPy d :: toPys ds
end
/-- what == and in may look at -/
def plain (d : D) : Bool := (toPy d).canLay0
section
variable {c : Cf} {G H : Hp}
mutual
theorem Rep.dp (s : Same G H) : ∀ {v : V} {d : D}, Rep c G v d → plain d = true → Dp c.K H v (toPy d)
  | _, _, .non, _ => by unfold toPy; exact .non
  | _, _, .bl b, _ => by unfold toPy; exact .bl b
  | _, _, .int i, _ => by unfold toPy; exact .int i
  | _, _, .str x, _ => by unfold toPy; exact .str x
  | _, _, .tup e r, h => by
    unfold plain at h
    rw [toPy] at h ⊢
    unfold PyData.canLay0 at h
    exact .tup (e.mono s).sq (RepL.dp s r h)
  | _, _, .lst e r, h => by
    unfold plain at h
    rw [toPy] at h ⊢
    unfold PyData.canLay0 at h
    exact .lst (e.mono s).sq (RepL.dp s r h)
  | _, _, .dic .., h => by unfold plain toPy PyData.canLay0 at h; cases h
  | _, _, .rcd .., h => by unfold plain toPy PyData.canLay0 at h; cases h
  | _, _, .raw _, h => by unfold plain toPy PyData.canLay0 at h; cases h
theorem RepL.dp (s : Same G H) : ∀ {vs : List V} {ds : List D}, RepL c G vs ds → PyData.canLayAll0 (toPys ds) = true → DpAll c.K H vs (toPys ds)
  | _, _, .nil, _ => by unfold toPys; exact .nil
  | _, _, .cons r t, h => by
    unfold toPys at h ⊢
    unfold PyData.canLayAll0 at h
    rw [Bool.and_eq_true] at h
    exact .cons (Rep.dp s r h.1) (RepL.dp s t h.2)
end
theorem Opr.dp (s : Same G H) {v : V} {d : D} (h : Opr c G H v d) (p : plain d = true) : Dp c.K H v (toPy d) := by
  rcases h with h | ⟨q, rfl, h⟩
  · exact h.dp s p
  · cases d <;> first | exact h.elim | skip
    · obtain ⟨xs, h1, h2⟩ := h
      unfold plain at p
      rw [toPy] at p ⊢
      unfold PyData.canLay0 at p
      exact .lst (SqL.of h1) (h2.dp s p)
    · unfold plain toPy PyData.canLay0 at p; cases p
    · unfold plain toPy PyData.canLay0 at p; cases p
    · unfold plain toPy PyData.canLay0 at p; cases p
/-- a list, owned or frozen -/
theorem Opr.lst (s : Same G H) {v : V} {ds : List D} (h : Opr c G H v (.lst ds)) : ∃ p xs, v = .ref p ∧ LsG c.K H p xs ∧ RepL c G xs ds := by
  rcases h with h | ⟨q, rfl, h⟩
  · cases h with
    | lst e r => exact ⟨_, _, rfl, e.mono s, r⟩
  · obtain ⟨xs, h1, h2⟩ := h
    exact ⟨_, _, rfl, .inl (.inl h1), h2⟩
theorem Opr.tup (s : Same G H) {v : V} {ds : List D} (h : Opr c G H v (.tup ds)) : ∃ p xs, v = .ref p ∧ TupAt c.K H p xs ∧ RepL c G xs ds ∧ Rep c G v (.tup ds) := by
  rcases h with h | ⟨q, rfl, h⟩
  · cases h with
    | tup e r => exact ⟨_, _, rfl, e.mono s, r, .tup e r⟩
  · exact h.elim
theorem Opr.rep {v : V} {d : D} (h : Opr c G H v d) (k : ∀ o, ¬ Own c G o d) : Rep c G v d := by
  rcases h with h | ⟨q, rfl, h⟩
  · exact h
  · exact absurd h (k _)
theorem Opr.int {v : V} {i : Int} (h : Opr c G H v (.int i)) : v = .int i := rep_int (h.rep fun o z => z)
theorem Opr.bl {v : V} {i : Bool} (h : Opr c G H v (.bl i)) : v = .bl i := rep_bl (h.rep fun o z => z)
end

def seqM : List (M D) → M (List D)
  | [] => M.pure []
  | f :: fs => f.bind fun a => (seqM fs).bind fun as => M.pure (a :: as)
def preL : List Opn → M (List D)
  | [] => M.pure []
  | o :: os => o.pre.bind fun a => (preL os).bind fun as => M.pure (a :: as)
def rdL : List Opn → List D → Cells → Option (List D)
  | [], [], _ => some []
  | o :: os, a :: as, ρ => match o.rd a ρ, rdL os as ρ with
    | some d, some ds => some (d :: ds)
    | _, _ => none
  | _, _, _ => none
def rdLM (os : List Opn) (as : List D) : M (List D) := fun ρ => match rdL os as ρ with
  | some ds => .ok ds ρ
  | none => .stuck
abbrev OprL (c : Cf) (G H : Hp) : List V → List D → Prop := Paired (Opr c G H)
def tD (c : Cf) (B : List (Nat × Addr)) (W : WX) (fs : List (M D)) : TA := fun σ H Q => ∃ G A ρ, Rel c B G A H σ ρ ∧ After c B W G A H σ (seqM fs ρ) fun ds _ G' H' => ∀ vs, RepL c G' vs ds → Q vs H'
def tA (c : Cf) (B : List (Nat × Addr)) (W : WX) (os : List Opn) : TA := fun σ H Q => ∃ G A ρ, Rel c B G A H σ ρ ∧ After c B W G A H σ (preL os ρ) fun as _ G' H' => ∀ vs,
  (∀ G2 H2 ρ2 es, Same G' G2 → Rel c B G2 A H2 σ ρ2 → rdL os as ρ2 = some es → OprL c G2 H2 vs es) → Q vs H'
section
variable {c : Cf} {B : List (Nat × Addr)} {W : WX} {X : Cx}
theorem pd_nil : PA X [] (tD c B W []) := pa_imp pa_nil fun σ H Q ⟨G, A, ρ, R, a⟩ => After.ok a R [] .nil
theorem pd_cons {e : Expr} {es : List Expr} {f : M D} {fs : List (M D)} (ha : PE X e (tM c B W f)) (hr : PA X es (tD c B W fs)) (hs : starEach (e :: es) X.env = (false, eval e X.env) :: starEach es X.env := by rfl) : PA X (e :: es) (tD c B W (f :: fs)) :=
  pa_imp (pa_cons ha hr hs) fun σ H Q ⟨G, A, ρ, R, a⟩ => by
    refine ⟨G, A, ρ, R, a.split.imp fun d ρ1 G1 H1 _ _ R1 a1 v r => ?_⟩
    refine ⟨G1, A, ρ1, R1, a1.split.imp fun ds ρ2 G2 H2 s2 _ R2 a2 vs rs => ?_⟩
    exact After.ok a2 R2 (v :: vs) (.cons (r.mono s2) rs)
theorem pa_nilO : PA X [] (tA c B W []) := pa_imp pa_nil fun σ H Q ⟨G, A, ρ, R, a⟩ => After.ok a R [] fun _ _ _ es _ _ e => by cases e; exact .nil
theorem pa_consO {e : Expr} {es : List Expr} {o : Opn} {os : List Opn} (ha : PE X e (tO c B W o)) (hr : PA X es (tA c B W os)) (hs : starEach (e :: es) X.env = (false, eval e X.env) :: starEach es X.env := by rfl) : PA X (e :: es) (tA c B W (o :: os)) :=
  pa_imp (pa_cons ha hr hs) fun σ H Q ⟨G, A, ρ, R, a⟩ => by
    refine ⟨G, A, ρ, R, a.split.imp fun d ρ1 G1 H1 _ _ R1 a1 v fv => ?_⟩
    refine ⟨G1, A, ρ1, R1, a1.split.imp fun ds ρ2 G2 H2 s2 _ R2 a2 vs fvs => ?_⟩
    refine After.ok a2 R2 (v :: vs) fun G3 H3 ρ3 es s3 R3 e3 => ?_
    unfold rdL at e3
    cases e4 : o.rd d ρ3 with
    | none => rw [e4] at e3; cases e3
    | some d' =>
      cases e5 : rdL os ds ρ3 with
      | none => rw [e4, e5] at e3; cases e3
      | some ds' =>
        rw [e4, e5] at e3
        cases e3
        exact .cons (fv G3 H3 ρ3 d' (s2.trans s3) R3 e4) (fvs G3 H3 ρ3 ds' s3 R3 e5)

def SemC (c : Cf) (r : List V → Hp → VK → Prop) (sem : List D → Option D) : Prop := ∀ (G H : Hp) (vs : List V) (ds : List D) (d : D) (Q : VK), Same G H → OprL c G H vs ds → sem ds = some d → K1 c G H d Q → r vs H Q
def SemCF (c : Cf) (r : List V → Hp → VK → Prop) (sem : List D → Option D) : Prop := ∀ (G H : Hp) (vs : List V) (ds : List D) (d : D) (Q : VK), Same G H → OprL c G H vs ds → sem ds = some d → K2 c G H d Q → r vs H Q
def mCall (sem : List D → Option D) (os : List Opn) : M D := (preL os).bind fun as => (rdLM os as).bind fun ds => M.lift (sem ds)
theorem After.rdL {α : Type} {G H : Hp} {A : Addr → Prop} {σ : L2.St} {ρ : Cells} {os : List Opn} {as : List D} {k : List D → M α} {Q : α → Cells → Hp → Hp → Prop} (h : After c B W G A H σ (((rdLM os as).bind k) ρ) Q) : ∃ ds, Fx.rdL os as ρ = some ds ∧ After c B W G A H σ (k ds ρ) Q := by
  unfold M.bind rdLM at h
  cases e : Fx.rdL os as ρ with
  | none => rw [e] at h; exact h.elim
  | some d => rw [e] at h; exact ⟨d, rfl, h⟩
theorem call_core {r : List V → Hp → VK → Prop} {sem : List D → Option D} {os : List Opn} {σ : L2.St} {H : Hp} {Q : VK} {Qd : D → Hp → Hp → Prop} {A : Addr → Prop} {G : Hp} {ρ : Cells} (R : Rel c B G A H σ ρ) (a : After c B W G A H σ (mCall sem os ρ) fun d _ G' H' => Qd d G' H')
    (k : ∀ G' H' vs ds d, Same G' H' → OprL c G' H' vs ds → sem ds = some d → Qd d G' H' → r vs H' Q) : tCB r (tA c B W os) σ H Q := by
  refine ⟨G, A, ρ, R, a.split.imp fun as ρ1 G1 H1 _ _ R1 a1 vs fv => ?_⟩
  obtain ⟨ds, e1, a1⟩ := a1.rdL
  obtain ⟨d, e, q⟩ := a1.lift R1
  exact k G1 H1 vs ds d R1.same (fv G1 H1 ρ1 ds (Same.refl _) R1 e1) e q
theorem pm_call {e : Expr} {r : List V → Hp → VK → Prop} {sem : List D → Option D} {os : List Opn} (hs : SemC c r sem) (h : PE X e (tCB r (tA c B W os))) : PE X e (tM c B W (mCall sem os)) :=
  pe_imp h fun σ H Q ⟨G, A, ρ, R, a⟩ => call_core R a.k1 fun G' H' vs ds d s o e q => hs G' H' vs ds d Q s o e q
theorem pf_call {e : Expr} {r : List V → Hp → VK → Prop} {sem : List D → Option D} {os : List Opn} (hs : SemCF c r sem) (h : PE X e (tCB r (tA c B W os))) : PE X e (tF c B W (mCall sem os)) :=
  pe_imp h fun σ H Q ⟨G, A, ρ, R, a⟩ => call_core R a.k2 fun G' H' vs ds d s o e q => hs G' H' vs ds d Q s o e q

def SemM (c : Cf) (r : V → List V → Hp → VK → Prop) (sem : D → List D → Option D) : Prop := ∀ (G H : Hp) (x : V) (vs : List V) (d : D) (ds : List D) (e : D) (Q : VK), Same G H → Opr c G H x d → OprL c G H vs ds → sem d ds = some e → K1 c G H e Q → r x vs H Q
def isLst : D → Bool
  | .lst _ => true
  | _ => false
def isTup : D → Bool
  | .tup _ => true
  | _ => false
/-- the receiver is looked at twice: its class ahead of the arguments, its content behind them -/
def mMeth (is : D → Bool) (sem : D → List D → Option D) (o : Opn) (os : List Opn) : M D := o.pre.bind fun a => (rdM o a).bind fun d0 => if is d0 = true then (preL os).bind fun as => (rdM o a).bind fun d => (rdLM os as).bind fun ds => M.lift (sem d ds) else M.stuck
theorem pm_methT (hK : c.K = X.K) {e : Expr} {r : V → List V → Hp → VK → Prop} {sem : D → List D → Option D} {o : Opn} {os : List Opn} (hs : SemM c r sem) (h : PE X e (tBMT X.K r (tO c B W o) (tA c B W os))) : PE X e (tM c B W (mMeth isTup sem o os)) :=
  pe_imp h fun σ H Q ⟨G, A, ρ, R, a⟩ => by
    refine ⟨G, A, ρ, R, a.split.imp fun a0 ρ1 G1 H1 _ _ R1 a1 x fx => ?_⟩
    obtain ⟨d0, e0, a1⟩ := a1.rd
    cases d0 <;> first | exact a1.elim | skip
    rename_i ds0
    obtain ⟨p, xs, rfl, hp, _⟩ := (fx G1 H1 ρ1 _ (Same.refl _) R1 e0).tup R1.same
    refine ⟨⟨p, xs, rfl, by rw [← hK]; exact hp⟩, G1, A, ρ1, R1, (show After c B W G1 A H1 σ (((preL os).bind _) ρ1) _ from a1).split.imp fun as ρ2 G2 H2 s2 _ R2 a2 vs fv => ?_⟩
    obtain ⟨d, e1, a2⟩ := a2.rd
    obtain ⟨ds, e2, a2⟩ := a2.rdL
    obtain ⟨er, e3, q⟩ := a2.k1.lift R2
    exact hs G2 H2 _ vs d ds er Q R2.same (fx G2 H2 ρ2 d s2 R2 e1) (fv G2 H2 ρ2 ds (Same.refl _) R2 e2) e3 q

def ownAt (i : Nat) : M D := fun ρ => match ρ[i]? with
  | some (.own d) => .ok d ρ
  | _ => .stuck
def setOwn (i : Nat) (d : D) : M Unit := fun ρ => .ok () (ρ.set i (.own d))
def mMethW (sem : D → List D → Option (D × D)) (i : Nat) (os : List Opn) : M D := (ownAt i).bind fun d0 => if isLst d0 = true then (preL os).bind fun as => (rdLM os as).bind fun ds => (ownAt i).bind fun d => (M.lift (sem d ds)).bind fun r => (setOwn i r.2).bind fun _ => M.pure r.1 else M.stuck
theorem After.ownAt {α : Type} {G H : Hp} {A : Addr → Prop} {σ : L2.St} {ρ : Cells} {i : Nat} {k : D → M α} {Q : α → Cells → Hp → Hp → Prop} (h : After c B W G A H σ (((ownAt i).bind k) ρ) Q) : ∃ d, ρ[i]? = some (.own d) ∧ After c B W G A H σ (k d ρ) Q := by
  unfold M.bind Fx.ownAt at h
  cases e : ρ[i]? with
  | none => rw [e] at h; exact h.elim
  | some cl =>
    rw [e] at h
    cases cl with
    | no => exact h.elim
    | dat d => exact h.elim
    | own d => exact ⟨d, rfl, h⟩
/-- an owned content is changed -/
theorem Rel.setOwn {G H : Hp} {A : Addr → Prop} {σ : L2.St} {ρ : Cells} (R : Rel c B G A H σ ρ) {i : Nat} {d d' : D} {p : Addr} {o : HO} (e : ρ[i]? = some (.own d)) (es : σ[i]? = some (some (.ref p))) (ho : Own c G (some o) d') : Rel c B G A (upd H p o) σ (ρ.set i (.own d')) ∧ Keep A G H G (upd H p o) ∧ Same G (upd H p o) := by
  obtain ⟨p', es', hA, hO⟩ := R.own i d e
  rw [es] at es'; cases es'
  obtain ⟨gp, u, hu⟩ := R.ownA p hA
  have hs : Same G (upd H p o) := fun b w q => by rw [upd_ne (ne_of_none q gp)]; exact R.same b w q
  have hi : i < ρ.length := (List.getElem?_eq_some_iff.mp e).1
  refine ⟨⟨hs, by rw [R.len, List.length_set], fun b hb => ?_, fun j x h => ?_, fun j x h => ?_, fun j k x y q hjk h1 h2 h3 h4 => ?_, fun q hq => ?_⟩, fun b w q hn => ?_, hs⟩
  · obtain ⟨h1, w, h2⟩ := R.ownA b hb
    refine ⟨h1, ?_⟩
    by_cases z : b = p
    · subst z; exact ⟨o, upd_same⟩
    · exact ⟨w, by rw [upd_ne z]; exact h2⟩
  · by_cases z : j = i
    · subst z; rw [List.getElem?_set_self hi] at h; cases h
    · rw [List.getElem?_set_ne (Ne.symm z)] at h; exact R.dat j x h
  · by_cases z : j = i
    · subst z
      rw [List.getElem?_set_self hi] at h; cases h
      exact ⟨p, es, hA, by rw [upd_same]; exact ho⟩
    · rw [List.getElem?_set_ne (Ne.symm z)] at h
      obtain ⟨q, h1, h2, h3⟩ := R.own j x h
      have ne : q ≠ p := fun w => R.dis j i x d p z h e (by rw [← w]; exact h1) es
      exact ⟨q, h1, h2, by rw [upd_ne ne]; exact h3⟩
  · have g : ∀ (j : Nat) (x : D), (ρ.set i (.own d'))[j]? = some (.own x) → ∃ y, ρ[j]? = some (.own y) := fun j x h => by
      by_cases z : j = i
      · subst z; exact ⟨d, e⟩
      · rw [List.getElem?_set_ne (Ne.symm z)] at h; exact ⟨x, h⟩
    obtain ⟨x', h1'⟩ := g j x h1
    obtain ⟨y', h2'⟩ := g k y h2
    exact R.dis j k x' y' q hjk h1' h2' h3 h4
  · obtain ⟨h1, h2, x, h3⟩ := R.byr q hq
    refine ⟨h1, h2, ?_⟩
    by_cases z : q.1 = i
    · exact ⟨d', by rw [z, List.getElem?_set_self hi]⟩
    · exact ⟨x, by rw [List.getElem?_set_ne (Ne.symm z)]; exact h3⟩
  · exact ⟨by rw [upd_ne (fun z => hn (by rw [z]; exact hA))]; exact q, rfl⟩
theorem pe_slot (i : Nat) {x : Str} {pos : Pos} (hN : X.N[i]? = some x := by rfl) (hv : Vis X.env.scope x := by first | exact Or.inl rfl | exact Or.inr (Or.inl rfl) | exact Or.inr (Or.inr rfl)) (hd : (x == ("__debug__" : Str)) = false := by decide)
    (hcd : (x == ("__classdict__" : Str)) = false := by decide) : PE X (.Name x pos) (tVar i) := pe_var hN hv hd hcd

theorem seqM_length : ∀ {fs : List (M D)} {ρ ρ' : Cells} {ds : List D}, seqM fs ρ = .ok ds ρ' → ds.length = fs.length
  | [], ρ, ρ', ds, h => by cases h; rfl
  | f :: fs, ρ, ρ', ds, h => by
    unfold seqM M.bind at h
    cases e : f ρ with
    | stuck => rw [e] at h; cases h
    | exc x r => rw [e] at h; cases h
    | ok a ρ1 =>
      rw [e] at h
      have h' : ((seqM fs ρ1).andThen fun as => M.pure (a :: as)) = .ok ds ρ' := h
      cases e2 : seqM fs ρ1 with
      | stuck => rw [e2] at h'; cases h'
      | exc x r => rw [e2] at h'; cases h'
      | ok as ρ2 =>
        rw [e2] at h'
        cases h'
        rw [List.length_cons, List.length_cons, seqM_length e2]
def mTup (fs : List (M D)) : M D := (seqM fs).bind fun ds => M.pure (.tup ds)
def mLst (fs : List (M D)) : M D := (seqM fs).bind fun ds => M.pure (.lst ds)
theorem After.len {fs : List (M D)} {G H : Hp} {A : Addr → Prop} {σ : L2.St} {ρ : Cells} {Q : List D → Cells → Hp → Hp → Prop} (h : After c B W G A H σ (seqM fs ρ) Q) : After c B W G A H σ (seqM fs ρ) fun ds ρ' G' H' => ds.length = fs.length ∧ Q ds ρ' G' H' := by
  cases e : seqM fs ρ with
  | stuck => rw [e] at h; exact h
  | exc x r => rw [e] at h; exact h
  | ok a ρ1 => rw [e] at h; exact fun G' H' s k R => ⟨seqM_length e, h G' H' s k R⟩
theorem pm_tup {es : List Expr} {fs : List (M D)} {pos : Pos} {x1} (h : PA X es (tD c B W fs)) (hl : fs.length ≤ 1000 := by decide) : PE X (.Tuple es x1 pos) (tM c B W (mTup fs)) :=
  pe_imp (pe_tupN h) fun σ H Q ⟨G, A, ρ, R, a⟩ => by
    refine ⟨G, A, ρ, R, a.split.len.imp fun ds ρ1 G1 H1 _ _ R1 ⟨hz, a1⟩ vs r => ⟨?_, fun p its hp => ?_⟩⟩
    · rw [r.length, hz]; exact Nat.le_of_lt (small1000 hl)
    · exact K1.tup R1.same (After.k1 (f := M.pure (D.tup ds)) a1 |>.ok R1) hp r
theorem pf_lst {es : List Expr} {fs : List (M D)} {pos : Pos} (h : PA X es (tD c B W fs)) (hl : fs.length ≤ 1000 := by decide) : PE X (.List es pos) (tF c B W (mLst fs)) :=
  pe_imp (pe_lst h) fun σ H Q ⟨G, A, ρ, R, a⟩ => by
    refine ⟨G, A, ρ, R, a.split.len.imp fun ds ρ1 G1 H1 _ _ R1 ⟨hz, a1⟩ vs r => ⟨?_, fun p hp => ?_⟩⟩
    · rw [r.length, hz]; exact Nat.le_of_lt (small1000 hl)
    · exact K2.lst (After.ok a1 R1) hp r

def mPart : Option (M D) → M (Option Int)
  | none => M.pure none
  | some f => f.bind fun d => match d with
    | .int i => M.pure (some i)
    | _ => M.stuck
def tPt (c : Cf) (B : List (Nat × Addr)) (W : WX) (f : Option (M D)) : TO := fun σ H Q => ∃ G A ρ, Rel c B G A H σ ρ ∧ After c B W G A H σ (mPart f ρ) fun i _ _ H' => Q i H'
theorem pp_none : L2.PO X none (tPt c B W none) := ⟨fun pins s σ H Q I ⟨G, A, ρ, R, a⟩ => po_none.run pins s σ H Q I (After.ok a R)⟩
theorem pp_some {e : Expr} {f : M D} (h : PE X e (tM c B W f)) : L2.PO X (some e) (tPt c B W (some f)) := ⟨fun pins s σ H Q I ⟨G, A, ρ, R, a⟩ => (po_some h).run pins s σ H Q I (by
  refine ⟨G, A, ρ, R, (show After c B W G A H σ ((f.bind _) ρ) _ from a).split.imp fun d ρ1 G1 H1 _ _ R1 a1 v r => ?_⟩
  cases d <;> first | exact a1.elim | skip
  exact ⟨_, rep_int r, After.ok a1 R1⟩)⟩
def cutD (xs : List D) (lo hi : Option Int) : List D := (xs.drop (HT.sIx xs.length 0 lo)).take (HT.sIx xs.length xs.length hi - HT.sIx xs.length 0 lo)
def mSl (sem : D → Option Int → Option Int → Option D) (o : Opn) (lo hi : Option (M D)) : M D := o.pre.bind fun a => (mPart lo).bind fun l => (mPart hi).bind fun u => (rdM o a).bind fun d => M.lift (sem d l u)
def SemS (c : Cf) (r : V → Option Int → Option Int → Hp → VK → Prop) (sem : D → Option Int → Option Int → Option D) : Prop := ∀ (G H : Hp) (x : V) (d e : D) (l u : Option Int) (Q : VK), Same G H → Opr c G H x d → sem d l u = some e → K1 c G H e Q → r x l u H Q
def SemSF (c : Cf) (r : V → Option Int → Option Int → Hp → VK → Prop) (sem : D → Option Int → Option Int → Option D) : Prop := ∀ (G H : Hp) (x : V) (d e : D) (l u : Option Int) (Q : VK), Same G H → Opr c G H x d → sem d l u = some e → K2 c G H e Q → r x l u H Q
theorem sl_core {r : V → Option Int → Option Int → Hp → VK → Prop} {sem : D → Option Int → Option Int → Option D} {o : Opn} {lo hi : Option (M D)} {σ : L2.St} {H : Hp} {Q : VK} {Qd : D → Hp → Hp → Prop} {A : Addr → Prop} {G : Hp} {ρ : Cells} (R : Rel c B G A H σ ρ) (a : After c B W G A H σ (mSl sem o lo hi ρ) fun d _ G' H' => Qd d G' H')
    (k : ∀ G' H' x d e l u, Same G' H' → Opr c G' H' x d → sem d l u = some e → Qd e G' H' → r x l u H' Q) : tSl r (tO c B W o) (tPt c B W lo) (tPt c B W hi) σ H Q := by
  refine ⟨G, A, ρ, R, a.split.imp fun a0 ρ1 G1 H1 _ _ R1 a1 x fx => ?_⟩
  refine ⟨G1, A, ρ1, R1, a1.split.imp fun l ρ2 G2 H2 s2 _ R2 a2 => ?_⟩
  refine ⟨G2, A, ρ2, R2, a2.split.imp fun u ρ3 G3 H3 s3 _ R3 a3 => ?_⟩
  obtain ⟨d, e1, a3⟩ := a3.rd
  obtain ⟨e, e2, q⟩ := a3.lift R3
  exact k G3 H3 x d e l u R3.same (fx G3 H3 ρ3 d (s2.trans s3) R3 e1) e2 q
theorem pm_sl {e : Expr} {r : V → Option Int → Option Int → Hp → VK → Prop} {sem : D → Option Int → Option Int → Option D} {o : Opn} {lo hi : Option (M D)} (hs : SemS c r sem) (h : PE X e (tSl r (tO c B W o) (tPt c B W lo) (tPt c B W hi))) : PE X e (tM c B W (mSl sem o lo hi)) :=
  pe_imp h fun σ H Q ⟨G, A, ρ, R, a⟩ => sl_core R a.k1 fun G' H' x d e l u s o1 e1 q => hs G' H' x d e l u Q s o1 e1 q
end
end Fx
set_option Elab.async false
set_option linter.all false
set_option maxRecDepth 100000
set_option maxHeartbeats 4000000
namespace Fx
open PySem L2
def inR (i : Int) : Bool := decide (-(2 ^ 64) < i) && decide (i < 2 ^ 64)
def sAdd : D → D → Option D
  | .int a, .int b => some (.int (a + b))
  | .tup a, .tup b => if a.length + b.length ≤ 16777216 then some (.tup (a ++ b)) else none
  | .lst a, .lst b => if a.length + b.length ≤ 16777216 then some (.lst (a ++ b)) else none
  | _, _ => none
def sAddL : D → D → Option D
  | .lst a, .lst b => if a.length + b.length ≤ 16777216 then some (.lst (a ++ b)) else none
  | _, _ => none
def sSub : D → D → Option D
  | .int a, .int b => some (.int (a - b))
  | _, _ => none
def sMul : D → D → Option D
  | .int a, .int b => if (inR a || inR b) = true then some (.int (a * b)) else none
  | _, _ => none
def sMulL : D → D → Option D
  | .lst a, .int k => if k < 2 ^ 62 ∧ -(2 ^ 62) ≤ k ∧ a.length * k.toNat ≤ 16777216 then some (.lst (List.replicate k.toNat a).flatten) else none
  | _, _ => none
def sFdiv : D → D → Option D
  | .int a, .int b => if b ≠ 0 ∧ b.natAbs < 1073741824 then some (.int (a.fdiv b)) else none
  | _, _ => none
def sMod : D → D → Option D
  | .int a, .int b => if b ≠ 0 then some (.int (a.fmod b)) else none
  | _, _ => none
def sPow : D → D → Option D
  | .int a, .int b => if 0 ≤ b ∧ b ≤ 1000000 ∧ a.natAbs < 2 ^ 64 then some (.int (a ^ b.toNat)) else none
  | _, _ => none
def sLt : D → D → Option D
  | .int a, .int b => some (.bl (decide (a < b)))
  | _, _ => none
def sLe : D → D → Option D
  | .int a, .int b => some (.bl (decide (a ≤ b)))
  | _, _ => none
def sGt : D → D → Option D
  | .int a, .int b => some (.bl (decide (b < a)))
  | _, _ => none
def sGe : D → D → Option D
  | .int a, .int b => some (.bl (decide (b ≤ a)))
  | _, _ => none
def isNon : D → Bool
  | .non => true
  | _ => false
def sIsN : D → D → Option D
  | .raw _, _ => none
  | d, .non => some (.bl (isNon d))
  | _, _ => none
def sNotN : D → D → Option D
  | .raw _, _ => none
  | d, .non => some (.bl (!isNon d))
  | _, _ => none
def eqD (d e : D) : Bool := PyData.eqv (toPy d) (toPy e)
def sEq (d e : D) : Option D := if (plain d && plain e && decide (min (toPy d).depth (toPy e).depth ≤ 63)) = true then some (.bl (eqD d e)) else none
def sNe (d e : D) : Option D := if (plain d && plain e && decide (min (toPy d).depth (toPy e).depth ≤ 63)) = true then some (.bl (!eqD d e)) else none
def itemsOf : D → Option (List D)
  | .lst ds => some ds
  | .tup ds => some ds
  | _ => none
def inD (d : D) (ds : List D) : Bool := ds.any fun y => eqD y d
def sIn (d e : D) : Option D := (itemsOf e).bind fun ds => if (plain d && PyData.canLayAll0 (toPys ds) && decide (min (PyData.depthAll (toPys ds)) (toPy d).depth ≤ 63)) = true then some (.bl (inD d ds)) else none
def sNin (d e : D) : Option D := (itemsOf e).bind fun ds => if (plain d && PyData.canLayAll0 (toPys ds) && decide (min (PyData.depthAll (toPys ds)) (toPy d).depth ≤ 63)) = true then some (.bl (!inD d ds)) else none
def sIx : D → D → Option D
  | .lst ds, .int i => atI ds i
  | .tup ds, .int i => atI ds i
  | _, _ => none
def sCut : D → Option Int → Option Int → Option D
  | .lst ds, l, u => some (.lst (cutD ds l u))
  | .tup ds, l, u => some (.tup (cutD ds l u))
  | _, _, _ => none
def sCutL : D → Option Int → Option Int → Option D
  | .lst ds, l, u => some (.lst (cutD ds l u))
  | _, _, _ => none
def sLen : List D → Option D
  | [.lst ds] => some (.int ds.length)
  | [.tup ds] => some (.int ds.length)
  | _ => none
def sTuple : List D → Option D
  | [.lst ds] => some (.tup ds)
  | [.tup ds] => some (.tup ds)
  | _ => none
def sList : List D → Option D
  | [.lst ds] => some (.lst ds)
  | [.tup ds] => some (.lst ds)
  | _ => none
def sInt : List D → Option D
  | [.int i] => some (.int i)
  | [.bl b] => some (.int (if b then 1 else 0))
  | _ => none
def intsOf : List D → Option (List Int)
  | [] => some []
  | .int i :: ds => (intsOf ds).map fun is => i :: is
  | _ => none
def blsOf : List D → Option (List Bool)
  | [] => some []
  | .bl i :: ds => (blsOf ds).map fun is => i :: is
  | _ => none
def sAll : List D → Option D
  | [.lst ds] => (blsOf ds).map fun is => .bl (is.all id)
  | _ => none
def maxI : List Int → Option Int
  | [] => none
  | a :: as => some (as.foldl (fun m x => if m < x then x else m) a)
def minI : List Int → Option Int
  | [] => none
  | a :: as => some (as.foldl (fun m x => if x < m then x else m) a)
def sMax : List D → Option D
  | [.lst ds] => (intsOf ds).bind fun is => (maxI is).map .int
  | [.int i, .int j] => some (.int (if j > i then j else i))
  | _ => none
def sMin : List D → Option D
  | [.lst ds] => (intsOf ds).bind fun is => (minI is).map .int
  | [.int i, .int j] => some (.int (if j < i then j else i))
  | _ => none
def insI (a : Int) : List Int → List Int
  | [] => [a]
  | b :: bs => if a ≤ b then a :: b :: bs else b :: insI a bs
def sortI : List Int → List Int
  | [] => []
  | a :: as => insI a (sortI as)
def sSorted : List D → Option D
  | [d] => (itemsOf d).bind fun ds => (intsOf ds).map fun is => .lst ((sortI is).map .int)
  | _ => none
/-- the built-in classes that isinstance is asked about -/
def tyName : D → Option String
  | .non => some "NoneType"
  | .bl _ => some "bool"
  | .int _ => some "int"
  | .str _ => some "str"
  | .tup _ => some "tuple"
  | .lst _ => some "list"
  | .dic _ _ => some "dict"
  | _ => none
def sIsi : List D → Option D
  | [d, .raw (.ty n)] => (tyName d).bind fun t => (kitB t n).map .bl
  | _ => none
def flatD : D → Bool
  | .non => true
  | .bl _ => true
  | .int _ => true
  | .str _ => true
  | _ => false
def eqF : D → D → Bool
  | .non, .non => true
  | .bl a, .bl b => a == b
  | .bl a, .int b => (if a then 1 else 0) == b
  | .int a, .bl b => a == (if b then 1 else 0)
  | .int a, .int b => a == b
  | .str a, .str b => a == b
  | _, _ => false
def idxF (d : D) : List D → Option Nat
  | [] => none
  | e :: es => if eqF e d = true then some 0 else (idxF d es).map (· + 1)
def sIndex (d : D) (ds : List D) : Option D := match ds with
  | [e] => (itemsOf d).bind fun xs => if (flatD e && xs.all flatD) = true then (idxF e xs).map fun j => .int (j : Nat) else none
  | _ => none
def sCount (d : D) (ds : List D) : Option D := match ds with
  | [e] => (itemsOf d).bind fun xs => if (flatD e && xs.all flatD) = true then some (.int (xs.countP fun z => eqF z e : Nat)) else none
  | _ => none
def wAppend : D → List D → Option (D × D)
  | .lst xs, [e] => if xs.length < 16777216 then some (.non, .lst (xs ++ [e])) else none
  | _, _ => none
def wPopAt : D → List D → Option (D × D)
  | .lst xs, [.int i] => if -(2 ^ 62) ≤ i ∧ i < 2 ^ 62 then (seqIndex? i xs.length).bind fun k => (xs[k]?).map fun y => (y, .lst (xs.eraseIdx k)) else none
  | _, _ => none
def wPop : D → List D → Option (D × D)
  | .lst xs, [] => (xs[xs.length - 1]?).map fun y => (y, .lst xs.dropLast)
  | _, _ => none
section
variable {c : Cf} {G H : Hp}
theorem sl : sizeLine = 16777216 := sizeLine_eq
theorem repI : ∀ {vs : List V} {ds : List D} {is : List Int}, RepL c G vs ds → intsOf ds = some is → vs = is.map V.int
  | _, _, _, .nil, h => by cases h; rfl
  | _, d :: ds, is, .cons r t, h => by
    cases d <;> first | (cases h; done) | skip
    unfold intsOf at h
    cases e : intsOf ds with
    | none => rw [e] at h; cases h
    | some js =>
      rw [e] at h
      cases h
      rw [rep_int r, repI t e]
      rfl
theorem repB : ∀ {vs : List V} {ds : List D} {is : List Bool}, RepL c G vs ds → blsOf ds = some is → vs = is.map V.bl
  | _, _, _, .nil, h => by cases h; rfl
  | _, d :: ds, is, .cons r t, h => by
    cases d <;> first | (cases h; done) | skip
    unfold blsOf at h
    cases e : blsOf ds with
    | none => rw [e] at h; cases h
    | some js =>
      rw [e] at h
      cases h
      rw [rep_bl r, repB t e]
      rfl
theorem repInts : ∀ is : List Int, RepL c G (is.map V.int) (is.map D.int)
  | [] => .nil
  | i :: is => .cons (.int i) (repInts is)
theorem rep_flat {v : V} {d : D} (r : Rep c G v d) (h : flatD d = true) : flatV v = true := by cases r <;> first | rfl | cases h
theorem rep_eqF {v w : V} {d e : D} (r : Rep c G v d) (q : Rep c G w e) (h : flatD d = true) (k : flatD e = true) : eqV v w = eqF d e := by
  cases r <;> first | (cases h; done) | (cases q <;> first | (cases k; done) | rfl)
theorem repL_flat : ∀ {vs : List V} {ds : List D}, RepL c G vs ds → ds.all flatD = true → vs.all flatV = true
  | _, _, .nil, _ => rfl
  | _, _, .cons r t, h => by
    rw [List.all_cons, Bool.and_eq_true] at h
    rw [List.all_cons, rep_flat r h.1, repL_flat t h.2]
    rfl
theorem rep_inj : ∀ {vs : List V} {ds : List D}, RepL c G vs ds → (vs = [] ↔ ds = [])
  | _, _, .nil => by simp
  | _, _, .cons _ _ => by simp
theorem or2 {X : Cx} {f : Value → Value → Sem Value} {r r' : R2} (h : OpR X f r) (h' : OpR X f r') : OpR X f (fun x y H Q => r x y H Q ∨ r' x y H Q) := fun pins s σ H x y v u Q I rx ry q => q.elim (h pins s σ H x y v u Q I rx ry) (h' pins s σ H x y v u Q I rx ry)
def rAdd (K : PySem.W.Frag) : R2 := fun x y H Q => (rI0 (fun i j => V.int (i + j)) x y H Q ∨ rCatN K x y H Q) ∨ rCatR K x y H Q
theorem op_addA {X : Cx} : OpR X (binaryOp .Add) (rAdd X.K) := or2 (or2 op_add op_catN) op_catR
theorem semAddL : Sem2F c (rCatR c.K) sAddL := fun G H x y d1 d2 d Q s a b e k => by
  cases d1 <;> cases d2 <;> first | (cases e; done) | skip
  rename_i xs ys
  simp only [sAddL] at e
  split at e
  · rename_i hz
    cases e
    obtain ⟨p, us, rfl, hp, r1⟩ := a.lst s
    obtain ⟨q, ws, rfl, hq, r2⟩ := b.lst s
    exact ⟨p, q, us, ws, rfl, rfl, hp, hq, by rw [r1.length, r2.length, sl]; exact hz, fun z hz => k.lst hz (r1.append r2)⟩
  · cases e
theorem semAdd : Sem2 c (rAdd c.K) sAdd := fun G H x y d1 d2 d Q s a b e k => by
  cases d1 <;> cases d2 <;> first | (cases e; done) | skip
  · cases e
    exact .inl (.inl ⟨_, _, a.int, b.int, k.flat s (.int _)⟩)
  · rename_i xs ys
    simp only [sAdd] at e
    split at e
    · rename_i hz
      cases e
      obtain ⟨p, us, rfl, hp, r1, R1⟩ := a.tup s
      obtain ⟨q, ws, rfl, hq, r2, R2⟩ := b.tup s
      refine .inl (.inr ⟨p, q, us, ws, rfl, rfl, hp.sq, hq.sq, by rw [r1.length, r2.length, sl]; exact hz, fun z => ?_, fun _ z => ?_, fun _ _ z its hz => ?_⟩)
      · have z' := (rep_inj r1).mp z
        subst z'
        exact k.flat s R2
      · have z' := (rep_inj r2).mp z
        subst z'
        exact k.flat s (by rw [List.append_nil]; exact R1)
      · exact k.tup s hz (r1.append r2)
    · cases e
  · exact .inr (semAddL G H x y _ _ d Q s a b e (k.to2 s))
theorem semSub : Sem2 c (rI0 fun i j => .int (i - j)) sSub := fun G H x y d1 d2 d Q s a b e k => by
  cases d1 <;> cases d2 <;> first | (cases e; done) | skip
  cases e
  exact ⟨_, _, a.int, b.int, k.flat s (.int _)⟩
theorem semMul : Sem2 c (rI CMul fun i j => .int (i * j)) sMul := fun G H x y d1 d2 d Q s a b e k => by
  cases d1 <;> cases d2 <;> first | (cases e; done) | skip
  simp only [sMul] at e
  split at e
  · rename_i h
    cases e
    unfold inR at h
    simp only [Bool.or_eq_true, Bool.and_eq_true, decide_eq_true_eq] at h
    exact ⟨_, _, a.int, b.int, h, k.flat s (.int _)⟩
  · cases e
theorem rep_flatten {vs : List V} {ds : List D} (r : RepL c G vs ds) : ∀ n : Nat, RepL c G (List.replicate n vs).flatten (List.replicate n ds).flatten
  | 0 => .nil
  | n + 1 => by rw [List.replicate_succ, List.replicate_succ, List.flatten_cons, List.flatten_cons]; exact r.append (rep_flatten r n)
theorem semMulL : Sem2F c (rRepR c.K) sMulL := fun G H x y d1 d2 d Q s a b e k => by
  cases d1 <;> cases d2 <;> first | (cases e; done) | skip
  simp only [sMulL] at e
  split at e
  · rename_i h
    cases e
    obtain ⟨p, us, rfl, hp, r1⟩ := a.lst s
    exact ⟨p, _, us, rfl, b.int, hp, by omega, by omega, by rw [r1.length, sl]; exact h.2.2, fun z hz => k.lst hz (rep_flatten r1 _)⟩
  · cases e
theorem semFdiv : Sem2 c (rI CDivN fun i j => .int (i.fdiv j)) sFdiv := fun G H x y d1 d2 d Q s a b e k => by
  cases d1 <;> cases d2 <;> first | (cases e; done) | skip
  simp only [sFdiv] at e
  split at e
  · rename_i h
    cases e
    exact ⟨_, _, a.int, b.int, h, k.flat s (.int _)⟩
  · cases e
theorem semMod : Sem2 c (rI (fun _ j => j ≠ 0) fun i j => .int (i.fmod j)) sMod := fun G H x y d1 d2 d Q s a b e k => by
  cases d1 <;> cases d2 <;> first | (cases e; done) | skip
  simp only [sMod] at e
  split at e
  · rename_i h
    cases e
    exact ⟨_, _, a.int, b.int, h, k.flat s (.int _)⟩
  · cases e
theorem semPow : Sem2 c (rI CPow fun i j => .int (i ^ j.toNat)) sPow := fun G H x y d1 d2 d Q s a b e k => by
  cases d1 <;> cases d2 <;> first | (cases e; done) | skip
  simp only [sPow] at e
  split at e
  · rename_i h
    cases e
    exact ⟨_, _, a.int, b.int, h, k.flat s (.int _)⟩
  · cases e
theorem semLt : Sem2 c (rI0 fun i j => .bl (decide (i < j))) sLt := fun G H x y d1 d2 d Q s a b e k => by
  cases d1 <;> cases d2 <;> first | (cases e; done) | skip
  cases e
  exact ⟨_, _, a.int, b.int, k.flat s (.bl _)⟩
theorem semLe : Sem2 c (rI0 fun i j => .bl (decide (i ≤ j))) sLe := fun G H x y d1 d2 d Q s a b e k => by
  cases d1 <;> cases d2 <;> first | (cases e; done) | skip
  cases e
  exact ⟨_, _, a.int, b.int, k.flat s (.bl _)⟩
theorem semGt : Sem2 c (rI0 fun i j => .bl (decide (j < i))) sGt := fun G H x y d1 d2 d Q s a b e k => by
  cases d1 <;> cases d2 <;> first | (cases e; done) | skip
  cases e
  exact ⟨_, _, a.int, b.int, k.flat s (.bl _)⟩
theorem semGe : Sem2 c (rI0 fun i j => .bl (decide (j ≤ i))) sGe := fun G H x y d1 d2 d Q s a b e k => by
  cases d1 <;> cases d2 <;> first | (cases e; done) | skip
  cases e
  exact ⟨_, _, a.int, b.int, k.flat s (.bl _)⟩
theorem opr_non {x : V} {d : D} (a : Opr c G H x d) (h : ∀ v, d ≠ .raw v) : decide (x = .non) = isNon d := by
  rcases a with a | ⟨p, rfl, a⟩
  · cases a <;> first | rfl | exact absurd rfl (h _)
  · cases d <;> first | exact a.elim | rfl
theorem opr_is_non {x : V} (a : Opr c G H x .non) : x = .non := by
  have r := a.rep fun o z => z
  cases r; rfl
theorem semNotN : Sem2 c (fun x y H Q => y = .non ∧ Q (.bl (!decide (x = .non))) H) sNotN := fun G H x y d1 d2 d Q s a b e k => by
  cases d2 <;> cases d1 <;> first | (cases e; done) | skip
  all_goals
    cases e
    refine ⟨opr_is_non b, ?_⟩
    rw [opr_non a (fun v z => by cases z)]
    exact k.flat s (.bl _)
def rEqN (K : PySem.W.Frag) (n : Bool) : R2 := fun x y H Q => ∃ d e, Dp K H x d ∧ Dp K H y e ∧ d.canLay0 = true ∧ e.canLay0 = true ∧ min d.depth e.depth ≤ 63 ∧ Q (.bl (n ^^ PyData.eqv d e)) H
theorem op_eqN {X : Cx} (hu : X.A.units + 64 < cLine) : OpR X (compareOp .Eq) (rEqN X.K false) := by
  intro pins s σ H x y v u Q I rx ry h
  obtain ⟨d, e, hd, he, sd, se, hz, q⟩ := h
  obtain ⟨as, r1⟩ := Dp.reads I d x v hd rx
  obtain ⟨bs, r2⟩ := Dp.reads I e y u he ry
  rw [Bool.false_xor] at q
  exact SeqAt.compareEq_reads r1 r2 sd se (by omega) ⟨.bl _, H, I, rfl, q⟩
theorem op_neN {X : Cx} (hu : X.A.units + 64 < cLine) : OpR X (compareOp .NotEq) (rEqN X.K true) := by
  intro pins s σ H x y v u Q I rx ry h
  obtain ⟨d, e, hd, he, sd, se, hz, q⟩ := h
  obtain ⟨as, r1⟩ := Dp.reads I d x v hd rx
  obtain ⟨bs, r2⟩ := Dp.reads I e y u he ry
  rw [Bool.true_xor] at q
  exact SeqAt.compareNe_reads r1 r2 sd se (by omega) ⟨.bl _, H, I, rfl, q⟩
theorem semEq : Sem2 c (rEqN c.K false) sEq := fun G H x y d1 d2 d Q s a b e k => by
  unfold sEq at e
  split at e
  · rename_i h
    cases e
    simp only [Bool.and_eq_true, decide_eq_true_eq] at h
    exact ⟨_, _, a.dp s h.1.1, b.dp s h.1.2, h.1.1, h.1.2, h.2, k.flat s (by rw [Bool.false_xor]; exact .bl _)⟩
  · cases e
theorem semNe : Sem2 c (rEqN c.K true) sNe := fun G H x y d1 d2 d Q s a b e k => by
  unfold sNe at e
  split at e
  · rename_i h
    cases e
    simp only [Bool.and_eq_true, decide_eq_true_eq] at h
    exact ⟨_, _, a.dp s h.1.1, b.dp s h.1.2, h.1.1, h.1.2, h.2, k.flat s (by rw [Bool.true_xor]; exact .bl _)⟩
  · cases e
def rInN (K : PySem.W.Frag) (n : Bool) : R2 := fun x y H Q => ∃ d e ds, Dp K H x d ∧ Dp K H y e ∧ (e = .list ds ∨ e = .tuple ds) ∧ d.canLay0 = true ∧ PyData.canLayAll0 ds = true ∧ min (PyData.depthAll ds) d.depth ≤ 63 ∧ Q (.bl (n ^^ ds.any fun z => PyData.eqv z d)) H
theorem op_inN {X : Cx} (hu : X.A.units + 64 < cLine) : OpR X (compareOp .In) (rInN X.K false) := by
  intro pins s σ H x y v u Q I rx ry h
  obtain ⟨d, e, ds, hd, he, hds, sd, se, hz, q⟩ := h
  obtain ⟨as, r1⟩ := Dp.reads I d x v hd rx
  rw [Bool.false_xor] at q
  rcases hds with rfl | rfl
  · obtain ⟨bs, r2⟩ := Dp.reads I _ y u he ry
    exact SeqAt.in_list_reads r2 r1 se sd (by omega) ⟨.bl _, H, I, rfl, q⟩
  · obtain ⟨bs, r2⟩ := Dp.reads I _ y u he ry
    exact SeqAt.in_tuple_reads r2 r1 se sd (by omega) ⟨.bl _, H, I, rfl, q⟩
theorem op_ninN {X : Cx} (hu : X.A.units + 64 < cLine) : OpR X (compareOp .NotIn) (rInN X.K true) := by
  intro pins s σ H x y v u Q I rx ry h
  obtain ⟨d, e, ds, hd, he, hds, sd, se, hz, q⟩ := h
  obtain ⟨as, r1⟩ := Dp.reads I d x v hd rx
  rw [Bool.true_xor] at q
  rcases hds with rfl | rfl
  · obtain ⟨bs, r2⟩ := Dp.reads I _ y u he ry
    exact SeqAt.notIn_list_reads r2 r1 se sd (by omega) ⟨.bl _, H, I, rfl, q⟩
  · obtain ⟨bs, r2⟩ := Dp.reads I _ y u he ry
    exact SeqAt.notIn_tuple_reads r2 r1 se sd (by omega) ⟨.bl _, H, I, rfl, q⟩
theorem any_toPys (d : PyData) : ∀ ds : List D, (toPys ds).any (fun z => PyData.eqv z d) = ds.any fun y => PyData.eqv (toPy y) d
  | [] => rfl
  | e :: es => by rw [toPys, List.any_cons, List.any_cons, any_toPys d es]
theorem items_dp {y : V} {e : D} {ds : List D} (s : Same G H) (b : Opr c G H y e) (h : itemsOf e = some ds) (p : PyData.canLayAll0 (toPys ds) = true) : ∃ f, Dp c.K H y f ∧ (f = .list (toPys ds) ∨ f = .tuple (toPys ds)) := by
  cases e <;> first | (cases h; done) | skip
  · cases h
    have q := b.dp s (by unfold plain; rw [toPy]; unfold PyData.canLay0; exact p)
    rw [toPy] at q
    exact ⟨_, q, .inr rfl⟩
  · cases h
    have q := b.dp s (by unfold plain; rw [toPy]; unfold PyData.canLay0; exact p)
    rw [toPy] at q
    exact ⟨_, q, .inl rfl⟩
theorem semIn : Sem2 c (rInN c.K false) sIn := fun G H x y d1 d2 d Q s a b e k => by
  unfold sIn at e
  cases hi : itemsOf d2 with
  | none => rw [hi] at e; cases e
  | some ds =>
    rw [hi, Option.bind_some] at e
    split at e
    · rename_i h
      cases e
      simp only [Bool.and_eq_true, decide_eq_true_eq] at h
      obtain ⟨f, q1, q2⟩ := items_dp s b hi h.1.2
      refine ⟨_, f, _, a.dp s h.1.1, q1, q2, h.1.1, h.1.2, h.2, ?_⟩
      rw [Bool.false_xor, any_toPys]
      exact k.flat s (.bl _)
    · cases e
theorem semNin : Sem2 c (rInN c.K true) sNin := fun G H x y d1 d2 d Q s a b e k => by
  unfold sNin at e
  cases hi : itemsOf d2 with
  | none => rw [hi] at e; cases e
  | some ds =>
    rw [hi, Option.bind_some] at e
    split at e
    · rename_i h
      cases e
      simp only [Bool.and_eq_true, decide_eq_true_eq] at h
      obtain ⟨f, q1, q2⟩ := items_dp s b hi h.1.2
      refine ⟨_, f, _, a.dp s h.1.1, q1, q2, h.1.1, h.1.2, h.2, ?_⟩
      rw [Bool.true_xor, any_toPys]
      exact k.flat s (.bl _)
    · cases e
theorem rep_atI {vs : List V} {ds : List D} {i : Int} {d : D} (r : RepL c G vs ds) (h : atI ds i = some d) : ∃ v, atI vs i = some v ∧ Rep c G v d := by
  unfold atI at h ⊢
  rw [r.length]
  cases e : ixN ds.length i with
  | none => rw [e] at h; cases h
  | some j =>
    rw [e, Option.bind_some] at h
    obtain ⟨v, h1, h2⟩ := r.get h
    exact ⟨v, by rw [Option.bind_some]; exact h1, h2⟩
def rIxN (K : PySem.W.Frag) : R2 := fun x y H Q => rIxL K x y H Q ∨ rIxT K x y H Q
theorem ix_N {X : Cx} : IxR X (rIxN X.K) := fun value slice pins s σ H x y v u Q I rx ry q hs => q.elim (fun q => ix_list value slice pins s σ H x y v u Q I rx ry q hs) (fun q => ix_tup value slice pins s σ H x y v u Q I rx ry q hs)
theorem semIx : Sem2 c (rIxN c.K) sIx := fun G H x y d1 d2 d Q s a b e k => by
  cases d1 <;> cases d2 <;> first | (cases e; done) | skip
  · obtain ⟨p, us, rfl, hp, r1, _⟩ := a.tup s
    obtain ⟨v, h1, h2⟩ := rep_atI r1 (show atI _ _ = some d from e)
    exact .inr ⟨p, us, _, v, rfl, b.int, hp.sq, h1, k.flat s h2⟩
  · obtain ⟨p, us, rfl, hp, r1⟩ := a.lst s
    obtain ⟨v, h1, h2⟩ := rep_atI r1 (show atI _ _ = some d from e)
    exact .inl ⟨p, us, _, v, rfl, b.int, hp.sq, h1, k.flat s h2⟩
theorem rep_cut {vs : List V} {ds : List D} (r : RepL c G vs ds) (l u : Option Int) : RepL c G (cutV vs l u) (cutD ds l u) := by
  unfold cutV cutD
  rw [r.length]
  exact (r.drop _).take _
theorem cut_whole {ds : List D} {l u : Option Int} (h : HT.sIx ds.length 0 l = 0 ∧ HT.sIx ds.length ds.length u = ds.length) : cutD ds l u = ds := by
  unfold cutD
  rw [h.1, h.2]
  simp
theorem semCutL : SemSF c (rSlL c.K) sCutL := fun G H x d e l u Q s a h k => by
  cases d <;> first | (cases h; done) | skip
  cases h
  obtain ⟨p, us, rfl, hp, r1⟩ := a.lst s
  exact ⟨p, us, rfl, hp.sq, fun q hq => k.lst hq (rep_cut r1 l u)⟩
theorem semCut : SemS c (fun x lo hi H Q => rSlL c.K x lo hi H Q ∨ rSlN c.K x lo hi H Q) sCut := fun G H x d e l u Q s a h k => by
  cases d <;> first | (cases h; done) | skip
  · cases h
    obtain ⟨p, us, rfl, hp, r1, R1⟩ := a.tup s
    refine .inr ⟨p, us, rfl, hp.sq, fun w => ?_, fun _ q its hq => k.tup s hq (rep_cut r1 l u)⟩
    rw [r1.length] at w
    rw [cut_whole w] at k
    exact k.flat s R1
  · exact .inl (semCutL G H x _ e l u Q s a h (k.to2 s))
theorem sl_N {X : Cx} : SlR X (fun x lo hi H Q => rSlL X.K x lo hi H Q ∨ rSlN X.K x lo hi H Q) := SlR.or sl_list sl_tupN
end
end Fx
set_option Elab.async false
set_option linter.all false
set_option maxRecDepth 100000
set_option maxHeartbeats 4000000
namespace Fx
open PySem PyProof.Rows Srt
section
variable {prog : Program} {w : World} {A : Around} {E : Value → Shared → Prop} {s : Shared}
theorem collect_tup {l : Addr} {vs : List Value} {Q : List Value → Shared → Prop} (hl : s.heap.IsTuple l vs.toArray)
    (h : Q vs { s with heap := (s.heap.push (seqObj "list" #[] 0)).update s.heap.objs.size (Obj.mapSeq (· ++ vs.toArray)) }) (hsz : vs.length ≤ sizeLine := by size_fits) :
    wpAny (model prog w) A (collect (.ref l)) Q E s := by
  obtain ⟨o, ho, hc, n, hd⟩ := id hl
  unfold collect
  refine wpAny_bind (wpAny_runValue (codeAny_builtin entry_proto_collect' ?_))
  show wpAny _ _ (do again (.builtin "list.__iadd__" ⟨[← newList [], .ref l], []⟩)) _ _ s
  refine wpAny_bind (wpAny_newList (wpAny_pure ⟨Code.quiet_builtin _ (by decide +kernel), codeAny_builtin entry_list_iadd' ?_⟩))
  show wpAny _ _ (Builtin.List.listExtendWith (.ref s.heap.objs.size) (.ref l) (.ref s.heap.objs.size)) _ _ { s with heap := s.heap.push (seqObj "list" #[] 0) }
  unfold Builtin.List.listExtendWith
  have ho' : (s.heap.push (seqObj "list" #[] 0)).get? l = some o := Heap.get?_push_of_some _ ho
  refine wpAny_bind (wpAny_typeOf (T := "tuple") ⟨o, ho', hc⟩ ?_)
  have ht : (Value.type "tuple" == Value.type "tuple") = true := by rfl
  rw [if_pos (by rw [ht]; simp)]
  refine wpAny_bind (listItems_at ho' hd ?_)
  refine wpAny_bind (listItems_at (xs := #[]) (n := 0) (Heap.get?_push_size _ rfl) rfl ?_)
  rw [if_neg (by simp)]
  refine wpAny_bind (listUpdate_at (xs := #[]) (n := 0) (Heap.get?_push_size _ rfl) rfl ?_ (Nat.zero_le _) (by show (#[] ++ vs.toArray).size ≤ sizeLine + 1; simp only [Array.size_append, List.size_toArray, List.length_nil]; omega))
  refine wpAny_pure ?_
  show wpAny (model prog w) A (do
      let o ← load s.heap.objs.size
      match o.data with
      | .seq xs _ => pure xs.toList
      | _ => unsupported "internal:collect") Q E { s with heap := (s.heap.push (seqObj "list" #[] 0)).update s.heap.objs.size (Obj.mapSeq (· ++ vs.toArray)) }
  refine wpAny_bind (wpAny_load (get?_update_seq (Heap.get?_push_size _ rfl) _) ?_)
  show wpAny _ _ (pure ((#[] : Array Value) ++ vs.toArray).toList) Q E _
  rw [show ((#[] : Array Value) ++ vs.toArray).toList = vs by simp]
  exact wpAny_pure h
end
end Fx
namespace SrtO
open PySem PyProof.Rows Srt
section
variable {prog : Program} {w : World} {A : Around} {E : Value → Shared → Prop} {s : Shared}
theorem fx_sorted_tup {l : Addr} {vs : List Value} {ltv : Value → Value → Bool} {Q : Value → Shared → Prop} (O : Swo ltv) (hl : s.heap.IsTuple l vs.toArray) (hz : vs.length ≤ sizeLine)
    (hS : 2 ≤ vs.length → ∀ (h₁ : Heap) (a : Addr), h₁.get? a = some (seqObj "list" vs.toArray 0) → (∀ b o, s.heap.get? b = some o → b ≠ a ∧ h₁.get? b = some o) → SortableO prog w A.in1.in1 { s with heap := h₁ } a vs ltv)
    (h : ∀ out : List Value, Srtd ltv out → Stb ltv out vs → Q (.ref (s.heap.objs.size + 1)) { s with heap := sortedAll s.heap vs out.toArray }) :
    wpAny (model prog w) A (call (.builtin "sorted") [.ref l]) Q E s := by
  refine Calls.call_function_entry kind_sorted plain_sorted entry_sorted (args_sorted1 _) ?_
  unfold Builtin.«sorted»
  refine wpAny_bind (m := checkCount "sorted" 1 1 _) (wpAny_pure ?_)
  refine wpAny_bind (Fx.collect_tup hl ?_ hz)
  refine wpAny_bind (wpAny_newList ?_ hz)
  have hsz : ((s.heap.push (seqObj "list" #[] 0)).update s.heap.objs.size (Obj.mapSeq (· ++ vs.toArray))).objs.size = s.heap.objs.size + 1 := by
    rw [Heap.size_update, size_push']
  have hoL : (((s.heap.push (seqObj "list" #[] 0)).update s.heap.objs.size (Obj.mapSeq (· ++ vs.toArray))).push (seqObj "list" vs.toArray 0)).get? (s.heap.objs.size + 1) = some (seqObj "list" vs.toArray 0) := by
    rw [← hsz]; exact Heap.get?_push_size _ rfl
  have keep : ∀ b o, s.heap.get? b = some o → b ≠ s.heap.objs.size + 1 ∧ (((s.heap.push (seqObj "list" #[] 0)).update s.heap.objs.size (Obj.mapSeq (· ++ vs.toArray))).push (seqObj "list" vs.toArray 0)).get? b = some o := fun b o q => by
    have hlt : b < s.heap.objs.size := Heap.lt_size q
    refine ⟨Nat.ne_of_lt (Nat.lt_succ_of_lt hlt), Heap.get?_push_of_some _ ?_⟩
    rw [Heap.get?_update_ne _ _ _ _ (Nat.ne_of_lt hlt)]
    exact Heap.get?_push_of_some _ q
  show wpAny _ _ _ _ _ { s with heap := ((s.heap.push (seqObj "list" #[] 0)).update s.heap.objs.size (Obj.mapSeq (· ++ vs.toArray))).push (seqObj "list" vs.toArray 0) }
  rw [hsz]
  refine wpAny_bind (wpAny_holding (wpAny_call_entry slot_list_sort ⟨_, hoL, rfl⟩ entry_list_sort (list_sort_ord O hoL hz (fun h2 => hS h2 _ _ hoL keep) fun out hs hb => ⟨_, rfl, ?_⟩) (args_list_sort _)))
  exact wpAny_pure ⟨_, rfl, h out hs hb⟩
end
end SrtO
namespace L2
open PySem PySem.Spec PyProof.Rows
/-- sorted(x), a list or a tuple of ints -/
def fx_rSorted (K : PySem.W.Frag) : List V → Hp → VK → Prop := fun vs H Q => ∃ (a : Addr) (ns : List Int), vs = [V.ref a] ∧ (SqL K H a (ns.map V.int) ∨ SqT K H a (ns.map V.int)) ∧
  ∀ (ns' : List Int) (p : Addr), ns'.Perm ns → ns'.Pairwise (· ≤ ·) → H p = none → Q (.ref p) (upd H p (.lst (ns'.map V.int)))
theorem fx_cr_sorted {X : Cx} : CallR X (.builtin "sorted") (fx_rSorted X.K) := by
  intro pins s σ H vs us Q I r h
  obtain ⟨a, ns, rfl, hs | hs, q⟩ := h
  · exact cr_sortedI pins s σ H _ us Q I r ⟨a, ns, rfl, hs, q⟩
  · obtain ⟨its, rv, hl, hz⟩ := I.tuple hs
    rw [Vals.ref1 r]
    have hi := rv.ints
    refine SrtO.fx_sorted_tup SrtO.swo_int (show s.heap.IsTuple a its.toArray from hl) (by rw [← rv.length]; exact hz) (fun h2 h₁ a' _ _ => SrtO.ints_sortable hi h2) fun out h1 h2 => ?_
    obtain ⟨k1, k2, k3⟩ := SrtO.ints_out hi h1 h2
    obtain ⟨ep, he'⟩ := PyProof.Rows.sortedAll_at s.heap its out.toArray
    have hlen : ((out.map SrtO.iv).map V.int).length ≤ sizeLine := by
      rw [List.length_map, k2.length_eq]
      rw [List.length_map] at hz
      exact hz
    exact ⟨.ref _, upd H (s.heap.objs.size + 1) (.lst ((out.map SrtO.iv).map V.int)), I.laid (t' := s.toks) (fun _ _ => PyProof.Rows.sortedAll_old) (Nat.le_succ _) ⟨hlen, out, ep, vals_of_ints k1, he'⟩, rfl, q _ _ k2 k3 (I.hok.fresh (Nat.le_succ _))⟩
end L2
set_option Elab.async false
set_option linter.all false
set_option maxRecDepth 100000
set_option maxHeartbeats 4000000
namespace Fx
open PySem L2
section
variable {c : Cf} {G H : Hp}
theorem oprL1 {vs : List V} {d : D} (h : OprL c G H vs [d]) : ∃ v, vs = [v] ∧ Opr c G H v d := by
  cases h with
  | cons a t => cases t; exact ⟨_, rfl, a⟩
theorem oprL2 {vs : List V} {d e : D} (h : OprL c G H vs [d, e]) : ∃ v w, vs = [v, w] ∧ Opr c G H v d ∧ Opr c G H w e := by
  cases h with
  | cons a t =>
    cases t with
    | cons b u => cases u; exact ⟨_, _, rfl, a, b⟩
theorem orC {X : Cx} {f : Value} {r r' : List V → Hp → VK → Prop} (h : CallR X f r) (h' : CallR X f r') : CallR X f (fun xs H Q => r xs H Q ∨ r' xs H Q) := fun pins s σ H xs us Q I rx q => q.elim (h pins s σ H xs us Q I rx) (h' pins s σ H xs us Q I rx)
/-- the items of a list or tuple that is read -/
theorem opr_items {x : V} {d : D} {ds : List D} (s : Same G H) (a : Opr c G H x d) (h : itemsOf d = some ds) : ∃ p us, x = .ref p ∧ (SqL c.K H p us ∨ SqT c.K H p us) ∧ RepL c G us ds := by
  cases d <;> first | (cases h; done) | skip
  · cases h
    obtain ⟨p, us, rfl, hp, r1, _⟩ := a.tup s
    exact ⟨p, us, rfl, .inr hp.sq, r1⟩
  · cases h
    obtain ⟨p, us, rfl, hp, r1⟩ := a.lst s
    exact ⟨p, us, rfl, .inl hp.sq, r1⟩
theorem semLen : SemC c (fun xs H Q => ∃ p ys, xs = [.ref p] ∧ (SqL c.K H p ys ∨ SqT c.K H p ys) ∧ Q (.int ys.length) H) sLen := fun G H vs ds d Q s a e k => by
  match ds, e with
  | [.lst xs], e =>
    cases e
    obtain ⟨v, rfl, o⟩ := oprL1 a
    obtain ⟨p, us, rfl, hp, r⟩ := opr_items s o rfl
    exact ⟨p, us, rfl, hp, by rw [r.length]; exact k.flat s (.int _)⟩
  | [.tup xs], e =>
    cases e
    obtain ⟨v, rfl, o⟩ := oprL1 a
    obtain ⟨p, us, rfl, hp, r⟩ := opr_items s o rfl
    exact ⟨p, us, rfl, hp, by rw [r.length]; exact k.flat s (.int _)⟩
theorem semTuple : SemC c (rTupleOf c.K) sTuple := fun G H vs ds d Q s a e k => by
  match ds, e with
  | [.lst xs], e =>
    cases e
    obtain ⟨v, rfl, o⟩ := oprL1 a
    obtain ⟨p, us, rfl, hp, r⟩ := o.lst s
    exact ⟨p, us, rfl, .inl ⟨hp.sq, fun q its hq => k.tup s hq r⟩⟩
  | [.tup xs], e =>
    cases e
    obtain ⟨v, rfl, o⟩ := oprL1 a
    obtain ⟨p, us, rfl, hp, r, R⟩ := o.tup s
    exact ⟨p, us, rfl, .inr ⟨hp.sq, k.flat s R⟩⟩
theorem semList : SemCF c (fun xs H Q => ∃ p ys, xs = [.ref p] ∧ (SqL c.K H p ys ∨ SqT c.K H p ys) ∧ ∀ l, H l = none → Q (.ref l) (upd H l (.lst ys))) sList := fun G H vs ds d Q s a e k => by
  match ds, e with
  | [.lst xs], e =>
    cases e
    obtain ⟨v, rfl, o⟩ := oprL1 a
    obtain ⟨p, us, rfl, hp, r⟩ := opr_items s o rfl
    exact ⟨p, us, rfl, hp, fun q hq => k.lst hq r⟩
  | [.tup xs], e =>
    cases e
    obtain ⟨v, rfl, o⟩ := oprL1 a
    obtain ⟨p, us, rfl, hp, r⟩ := opr_items s o rfl
    exact ⟨p, us, rfl, hp, fun q hq => k.lst hq r⟩
theorem semInt : SemC c (fun xs H Q => (∃ i, xs = [.int i] ∧ Q (.int i) H) ∨ ∃ k, xs = [.bl k] ∧ Q (.int (if k then 1 else 0)) H) sInt := fun G H vs ds d Q s a e k => by
  match ds, e with
  | [.int i], e =>
    cases e
    obtain ⟨v, rfl, o⟩ := oprL1 a
    exact .inl ⟨i, by rw [o.int], k.flat s (.int _)⟩
  | [.bl i], e =>
    cases e
    obtain ⟨v, rfl, o⟩ := oprL1 a
    exact .inr ⟨i, by rw [o.bl], k.flat s (.int _)⟩
theorem semAll : SemC c (rAll c.K) sAll := fun G H vs ds d Q s a e k => by
  match ds, e with
  | [.lst xs], e =>
    simp only [sAll] at e
    cases hi : blsOf xs with
    | none => rw [hi] at e; cases e
    | some is =>
      rw [hi] at e
      cases e
      obtain ⟨v, rfl, o⟩ := oprL1 a
      obtain ⟨p, us, rfl, hp, r⟩ := o.lst s
      cases repB r hi
      exact ⟨p, is, rfl, hp.sq, k.flat s (.bl _)⟩
theorem foldMax : ∀ (as : List Int) (a : Int), as.foldl (fun m x => if m < x then x else m) a ∈ a :: as ∧ ∀ y ∈ a :: as, y ≤ as.foldl (fun m x => if m < x then x else m) a
  | [], a => ⟨by simp, fun y hy => by simp at hy; subst hy; exact Int.le_refl _⟩
  | b :: bs, a => by
    rw [List.foldl_cons]
    obtain ⟨h1, h2⟩ := foldMax bs (if a < b then b else a)
    refine ⟨?_, fun y hy => ?_⟩
    · rcases List.mem_cons.mp h1 with h | h
      · rw [h]; split <;> simp
      · simp [h]
    · have h3 := h2 _ List.mem_cons_self
      rcases List.mem_cons.mp hy with h | h
      · subst h
        refine Int.le_trans ?_ h3
        split <;> omega
      · rcases List.mem_cons.mp h with h | h
        · subst h
          refine Int.le_trans ?_ h3
          split <;> omega
        · exact h2 y (List.mem_cons_of_mem _ h)
theorem foldMin : ∀ (as : List Int) (a : Int), as.foldl (fun m x => if x < m then x else m) a ∈ a :: as ∧ ∀ y ∈ a :: as, as.foldl (fun m x => if x < m then x else m) a ≤ y
  | [], a => ⟨by simp, fun y hy => by simp at hy; subst hy; exact Int.le_refl _⟩
  | b :: bs, a => by
    rw [List.foldl_cons]
    obtain ⟨h1, h2⟩ := foldMin bs (if b < a then b else a)
    refine ⟨?_, fun y hy => ?_⟩
    · rcases List.mem_cons.mp h1 with h | h
      · rw [h]; split <;> simp
      · simp [h]
    · have h3 := h2 _ List.mem_cons_self
      rcases List.mem_cons.mp hy with h | h
      · subst h
        refine Int.le_trans h3 ?_
        split <;> omega
      · rcases List.mem_cons.mp h with h | h
        · subst h
          refine Int.le_trans h3 ?_
          split <;> omega
        · exact h2 y (List.mem_cons_of_mem _ h)
theorem maxI_spec {is : List Int} {m : Int} (h : maxI is = some m) : m ∈ is ∧ ∀ y ∈ is, y ≤ m := by
  cases is with
  | nil => cases h
  | cons a as => cases h; exact foldMax as a
theorem minI_spec {is : List Int} {m : Int} (h : minI is = some m) : m ∈ is ∧ ∀ y ∈ is, m ≤ y := by
  cases is with
  | nil => cases h
  | cons a as => cases h; exact foldMin as a
def rMx (K : PySem.W.Frag) : List V → Hp → VK → Prop := fun xs H Q => rMax K xs H Q ∨ ∃ i j, xs = [.int i, .int j] ∧ Q (.int (if j > i then j else i)) H
def rMn (K : PySem.W.Frag) : List V → Hp → VK → Prop := fun xs H Q => rMin K xs H Q ∨ ∃ i j, xs = [.int i, .int j] ∧ Q (.int (if j < i then j else i)) H
theorem call_mx {X : Cx} (hc : X.calm = true) : CallR X (.builtin "max") (rMx X.K) := orC (cr_max hc) (call_max2 hc)
theorem call_mn {X : Cx} (hc : X.calm = true) : CallR X (.builtin "min") (rMn X.K) := orC (cr_min hc) (call_min2 hc)
theorem semMax : SemC c (rMx c.K) sMax := fun G H vs ds d Q s a e k => by
  match ds, e with
  | [.lst xs], e =>
    simp only [sMax] at e
    cases hi : intsOf xs with
    | none => rw [hi] at e; cases e
    | some is =>
      rw [hi, Option.bind_some] at e
      cases hm : maxI is with
      | none => rw [hm] at e; cases e
      | some m =>
        rw [hm] at e
        cases e
        obtain ⟨v, rfl, o⟩ := oprL1 a
        obtain ⟨p, us, rfl, hp, r⟩ := o.lst s
        cases repI r hi
        obtain ⟨h1, h2⟩ := maxI_spec hm
        refine .inl ⟨p, is, rfl, hp.sq, List.length_pos_of_mem h1, fun m' h3 h4 => ?_⟩
        have : m' = m := by have := h2 m' h3; have := h4 m h1; omega
        rw [this]
        exact k.flat s (.int _)
  | [.int i, .int j], e =>
    cases e
    obtain ⟨v, w, rfl, o, o'⟩ := oprL2 a
    exact .inr ⟨i, j, by rw [o.int, o'.int], k.flat s (.int _)⟩
theorem semMin : SemC c (rMn c.K) sMin := fun G H vs ds d Q s a e k => by
  match ds, e with
  | [.lst xs], e =>
    simp only [sMin] at e
    cases hi : intsOf xs with
    | none => rw [hi] at e; cases e
    | some is =>
      rw [hi, Option.bind_some] at e
      cases hm : minI is with
      | none => rw [hm] at e; cases e
      | some m =>
        rw [hm] at e
        cases e
        obtain ⟨v, rfl, o⟩ := oprL1 a
        obtain ⟨p, us, rfl, hp, r⟩ := o.lst s
        cases repI r hi
        obtain ⟨h1, h2⟩ := minI_spec hm
        refine .inl ⟨p, is, rfl, hp.sq, List.length_pos_of_mem h1, fun m' h3 h4 => ?_⟩
        have : m' = m := by have := h2 m' h3; have := h4 m h1; omega
        rw [this]
        exact k.flat s (.int _)
  | [.int i, .int j], e =>
    cases e
    obtain ⟨v, w, rfl, o, o'⟩ := oprL2 a
    exact .inr ⟨i, j, by rw [o.int, o'.int], k.flat s (.int _)⟩
theorem insI_perm (a : Int) : ∀ l, (insI a l).Perm (a :: l)
  | [] => .refl _
  | b :: bs => by
    unfold insI
    split
    · exact .refl _
    · exact ((insI_perm a bs).cons b).trans (.swap a b bs)
theorem sortI_perm : ∀ l, (sortI l).Perm l
  | [] => .refl _
  | a :: as => by unfold sortI; exact (insI_perm a _).trans ((sortI_perm as).cons a)
theorem insI_sorted (a : Int) : ∀ l : List Int, l.Pairwise (· ≤ ·) → (insI a l).Pairwise (· ≤ ·)
  | [], _ => by unfold insI; exact List.pairwise_singleton _ _
  | b :: bs, h => by
    obtain ⟨h1, h2⟩ := List.pairwise_cons.mp h
    unfold insI
    split
    · rename_i hab
      refine List.pairwise_cons.mpr ⟨fun y hy => ?_, h⟩
      rcases List.mem_cons.mp hy with e | e
      · subst e; exact hab
      · exact Int.le_trans hab (h1 y e)
    · rename_i hab
      refine List.pairwise_cons.mpr ⟨fun y hy => ?_, insI_sorted a bs h2⟩
      rcases List.mem_cons.mp ((insI_perm a bs).mem_iff.mp hy) with e | e
      · subst e; omega
      · exact h1 y e
theorem sortI_sorted : ∀ l : List Int, (sortI l).Pairwise (· ≤ ·)
  | [] => .nil
  | a :: as => by unfold sortI; exact insI_sorted a _ (sortI_sorted as)
theorem sorted_unique : ∀ {l m : List Int}, l.Perm m → l.Pairwise (· ≤ ·) → m.Pairwise (· ≤ ·) → l = m
  | [], m, p, _, _ => by rw [List.nil_perm.mp p]
  | a :: as, [], p, _, _ => by have := p.length_eq; simp at this
  | a :: as, b :: bs, p, h1, h2 => by
    obtain ⟨k1, k2⟩ := List.pairwise_cons.mp h1
    obtain ⟨k3, k4⟩ := List.pairwise_cons.mp h2
    have e : a = b := by
      have m1 : b ∈ a :: as := p.mem_iff.mpr List.mem_cons_self
      have m2 : a ∈ b :: bs := p.mem_iff.mp List.mem_cons_self
      rcases List.mem_cons.mp m1 with e | e
      · exact e.symm
      · rcases List.mem_cons.mp m2 with e' | e'
        · exact e'
        · have := k1 b e; have := k3 a e'; omega
    subst e
    rw [sorted_unique (List.Perm.cons_inv p) k2 k4]
theorem semSorted : SemCF c (fx_rSorted c.K) sSorted := fun G H vs ds d Q s a e k => by
  match ds, e with
  | [dd], e =>
    simp only [sSorted] at e
    cases hx : itemsOf dd with
    | none => rw [hx] at e; cases e
    | some xs =>
      rw [hx] at e
      have e : ((intsOf xs).map fun is => D.lst ((sortI is).map .int)) = some d := e
      cases hi : intsOf xs with
      | none => rw [hi] at e; cases e
      | some is =>
        rw [hi] at e
        cases e
        obtain ⟨v, rfl, o⟩ := oprL1 a
        obtain ⟨p, us, rfl, hp, r⟩ := opr_items s o hx
        cases repI r hi
        refine ⟨p, is, rfl, hp, fun ns' q pm so hq => ?_⟩
        rw [sorted_unique (pm.trans (sortI_perm is).symm) so (sortI_sorted is)]
        exact k.lst hq (repInts _)
theorem opr_ty {x : V} {d : D} {t : String} (s : Same G H) (a : Opr c G H x d) (h : tyName d = some t) : TyX c.K H x (.type t) := by
  rcases a with a | ⟨p, rfl, a⟩
  · cases a <;> first | (cases h; done) | skip
    · cases h; exact .base .non
    · cases h; exact .base (.bl _)
    · cases h; exact .base (.int _)
    · cases h; exact .base (.str _)
    · rename_i q r
      cases h
      rcases q.mono s with ⟨o, q, _⟩ | ⟨o, its, n, h1, h2, _⟩
      · exact .fTuple q
      · exact .kTuple h1 h2
    · rename_i q r
      cases h
      rcases q.mono s with (q | ⟨o, q⟩) | ⟨its, n, q, _⟩
      · exact .base (.lst q)
      · exact .base (.frz q)
      · exact .kList q rfl
    · rename_i q l r
      cases h
      rcases same_rd s q with q | ⟨o, q⟩
      · exact .base (.dK q)
      · exact .fDict q
  · cases d <;> first | exact a.elim | (cases h; done) | skip
    · cases h
      obtain ⟨xs, e, _⟩ := a
      exact .base (.lst e)
    · cases h
      obtain ⟨xs, e, _⟩ := a
      exact .base (.dK e)
theorem semIsi : SemC c (rIsi c.K) sIsi := fun G H vs ds d Q s a e k => by
  match ds, e with
  | [x, .raw (.ty n)], e =>
    simp only [sIsi] at e
    cases ht : tyName x with
    | none => rw [ht] at e; cases e
    | some t =>
      rw [ht, Option.bind_some] at e
      cases hk : kitB t n with
      | none => rw [hk] at e; cases e
      | some b =>
        rw [hk] at e
        cases e
        obtain ⟨v, w, rfl, o, o'⟩ := oprL2 a
        have ew : w = .ty n := by
          have r := o'.rep fun o z => z
          cases r; rfl
        exact ⟨v, w, _, _, b, rfl, by rw [ew]; exact .ty n, opr_ty s o ht, kit_ty hk, k.flat s (.bl _)⟩
theorem idxF_spec {e : D} : ∀ {xs : List D} {j : Nat}, idxF e xs = some j → ∃ z, xs[j]? = some z ∧ eqF z e = true ∧ ∀ m z', m < j → xs[m]? = some z' → eqF z' e = false
  | x :: xs, j, h => by
    unfold idxF at h
    split at h
    · rename_i hx
      cases h
      exact ⟨x, rfl, hx, fun m z' hm => absurd hm (Nat.not_lt_zero _)⟩
    · rename_i hx
      cases hj : idxF e xs with
      | none => rw [hj] at h; cases h
      | some i =>
        rw [hj] at h
        cases h
        obtain ⟨z, h1, h2, h3⟩ := idxF_spec hj
        refine ⟨z, h1, h2, fun m z' hm hz => ?_⟩
        cases m with
        | zero =>
          cases hz
          exact Bool.eq_false_iff.mpr hx
        | succ m => exact h3 m z' (Nat.lt_of_succ_lt_succ hm) hz
theorem idx_core {us : List V} {xs : List D} {w : V} {e : D} {j : Nat} (r : RepL c G us xs) (rw' : Rep c G w e) (fe : flatD e = true) (fx : xs.all flatD = true) (h : idxF e xs = some j) :
    ∃ z, us[j]? = some z ∧ eqV z w = true ∧ ∀ (m : Nat) (z' : V), m < j → us[m]? = some z' → eqV z' w = false := by
  obtain ⟨z, h1, h2, h3⟩ := idxF_spec h
  obtain ⟨v, e1, r1⟩ := r.get h1
  refine ⟨v, e1, ?_, fun m z' hm hz => ?_⟩
  · rw [rep_eqF r1 rw' (List.all_eq_true.mp fx z (List.mem_of_getElem? h1)) fe]; exact h2
  · obtain ⟨d, e2, r2⟩ := r.getV hz
    rw [rep_eqF r2 rw' (List.all_eq_true.mp fx d (List.mem_of_getElem? e2)) fe]
    exact h3 m d hm e2
theorem opr_flat {v : V} {e : D} (o : Opr c G H v e) (f : flatD e = true) : Rep c G v e := o.rep fun u z => by cases e <;> first | exact z.elim | cases f
def sTix : D → List D → Option D
  | .tup xs, ds => sIndex (.tup xs) ds
  | _, _ => none
def sTcount : D → List D → Option D
  | .tup xs, ds => sCount (.tup xs) ds
  | _, _ => none
theorem semTix : SemM c (rTix c.K) sTix := fun G H x vs d ds e Q s a b h k => by
  cases d <;> first | (cases h; done) | skip
  rename_i xs
  replace h : sIndex (.tup xs) ds = some e := h
  match ds, h with
  | [y], h =>
    simp only [sIndex, itemsOf, Option.bind_some] at h
    split at h
    · rename_i hf
      rw [Bool.and_eq_true] at hf
      cases hj : idxF y xs with
      | none => rw [hj] at h; cases h
      | some j =>
        rw [hj] at h
        cases h
        obtain ⟨p, us, rfl, hp, r, _⟩ := a.tup s
        obtain ⟨w, rfl, ow⟩ := oprL1 b
        have rw' := opr_flat ow hf.1
        obtain ⟨z, h1, h2, h3⟩ := idx_core r rw' hf.1 hf.2 hj
        exact ⟨p, us, w, j, z, rfl, rfl, hp.sq, rep_flat rw' hf.1, repL_flat r hf.2, h1, h2, h3, k.flat s (.int _)⟩
    · cases h
theorem count_core {us : List V} {xs : List D} {w : V} {e : D} (r : RepL c G us xs) (rw' : Rep c G w e) (fe : flatD e = true) (fx : xs.all flatD = true) : us.countP (fun z => eqV z w) = xs.countP fun z => eqF z e := by
  induction us generalizing xs with
  | nil => cases r; rfl
  | cons u us ih =>
    cases r with
    | cons h t =>
      rw [List.all_cons, Bool.and_eq_true] at fx
      rw [List.countP_cons, List.countP_cons, ih t fx.2, rep_eqF h rw' fx.1 fe]
theorem semTcount : SemM c (rTcount c.K) sTcount := fun G H x vs d ds e Q s a b h k => by
  cases d <;> first | (cases h; done) | skip
  rename_i xs
  replace h : sCount (.tup xs) ds = some e := h
  match ds, h with
  | [y], h =>
    simp only [sCount, itemsOf, Option.bind_some] at h
    split at h
    · rename_i hf
      rw [Bool.and_eq_true] at hf
      cases h
      obtain ⟨p, us, rfl, hp, r, _⟩ := a.tup s
      obtain ⟨w, rfl, ow⟩ := oprL1 b
      have rw' := opr_flat ow hf.1
      exact ⟨p, us, w, rfl, rfl, hp.sq, rep_flat rw' hf.1, repL_flat r hf.2, by rw [count_core r rw' hf.1 hf.2]; exact k.flat s (.int _)⟩
    · cases h
def SemWR (c : Cf) (r : V → List V → Hp → VK → Prop) (sem : D → List D → Option (D × D)) : Prop := ∀ (G H : Hp) (p : Addr) (vs : List V) (d : D) (ds : List D) (e d' : D) (Q : VK), Same G H → Own c G (H p) d → RepL c G vs ds → sem d ds = some (e, d') →
  (∀ o v, Own c G (some o) d' → Rep c G v e → Q v (upd H p o)) → r (.ref p) vs H Q
theorem repL1 {vs : List V} {d : D} (h : RepL c G vs [d]) : ∃ v, vs = [v] ∧ Rep c G v d := by
  cases h with
  | cons a t => cases t; exact ⟨_, rfl, a⟩
theorem repL0 {vs : List V} (h : RepL c G vs []) : vs = [] := by cases h; rfl
theorem semAppend : SemWR c rAppend wAppend := fun G H p vs d ds e d' Q s a b h k => by
  match d, ds, h with
  | .lst xs, [y], h =>
    simp only [wAppend] at h
    split at h
    · rename_i hz
      cases h
      obtain ⟨us, hu, r⟩ := a
      obtain ⟨w, rfl, ow⟩ := repL1 b
      exact ⟨p, us, w, rfl, rfl, hu, by rw [r.length, sl]; exact hz, k _ _ ⟨_, rfl, r.append (.one ow)⟩ .non⟩
    · cases h
theorem semPopAt : SemWR c rPopAt wPopAt := fun G H p vs d ds e d' Q s a b h k => by
  match d, ds, h with
  | .lst xs, [.int i], h =>
    simp only [wPopAt] at h
    split at h
    · rename_i hz
      cases hk : seqIndex? i xs.length with
      | none => rw [hk] at h; cases h
      | some j =>
        rw [hk, Option.bind_some] at h
        cases hy : xs[j]? with
        | none => rw [hy] at h; cases h
        | some y =>
          rw [hy] at h
          cases h
          obtain ⟨us, hu, r⟩ := a
          obtain ⟨w, rfl, ow⟩ := repL1 b
          obtain ⟨v, h1, h2⟩ := r.get hy
          exact ⟨p, us, i, j, v, rfl, by rw [rep_int ow], hu, by omega, by omega, by rw [r.length]; exact hk, h1, k _ _ ⟨_, rfl, r.eraseIdx j⟩ h2⟩
    · cases h
theorem repL_dropLast {us : List V} {xs : List D} (r : RepL c G us xs) : RepL c G us.dropLast xs.dropLast := by
  rw [List.dropLast_eq_take, List.dropLast_eq_take, r.length]
  exact r.take _
theorem semPop : SemWR c rPop wPop := fun G H p vs d ds e d' Q s a b h k => by
  match d, ds, h with
  | .lst xs, [], h =>
    simp only [wPop] at h
    cases hy : xs[xs.length - 1]? with
    | none => rw [hy] at h; cases h
    | some y =>
      rw [hy] at h
      cases h
      obtain ⟨us, hu, r⟩ := a
      cases repL0 b
      obtain ⟨v, h1, h2⟩ := r.get hy
      exact ⟨p, us, v, rfl, rfl, hu, by rw [r.length]; exact h1, k _ _ ⟨_, rfl, repL_dropLast r⟩ h2⟩
theorem intsOf_map : ∀ is : List Int, intsOf (is.map D.int) = some is
  | [] => rfl
  | i :: is => by
    show (intsOf (is.map D.int)).map _ = _
    rw [intsOf_map is]
    rfl
theorem erase_mapD : ∀ (l : List Int) (j : Nat), (l.map D.int).eraseIdx j = (l.eraseIdx j).map D.int
  | [], _ => rfl
  | _ :: _, 0 => rfl
  | a :: as, j + 1 => by
    show D.int a :: (as.map D.int).eraseIdx j = D.int a :: (as.eraseIdx j).map D.int
    rw [erase_mapD as j]
end
section
variable {c : Cf} {B : List (Nat × Addr)} {W : WX} {X : Cx}
def mMethWR (sem : D → List D → Option (D × D)) (i : Nat) (fs : List (M D)) : M D := (ownAt i).bind fun d0 => if isLst d0 = true then (seqM fs).bind fun ds => (ownAt i).bind fun d => (M.lift (sem d ds)).bind fun r => (setOwn i r.2).bind fun _ => M.pure r.1 else M.stuck
theorem pm_methWR (i : Nat) {e : Expr} {r : V → List V → Hp → VK → Prop} {sem : D → List D → Option (D × D)} {fs : List (M D)} (hs : SemWR c r sem) (h : PE X e (tBM X.K "list" r (tVar i) (tD c B W fs))) : PE X e (tM c B W (mMethWR sem i fs)) :=
  pe_imp h fun σ H Q ⟨G, A, ρ, R, a⟩ => by
    obtain ⟨d0, e0, a1⟩ := After.ownAt a
    obtain ⟨p, es, hA, hO⟩ := R.own i d0 e0
    cases d0 <;> first | exact a1.elim | skip
    rename_i ds0
    obtain ⟨xs, hp, _⟩ := hO
    refine ⟨_, es, .inl ⟨rfl, xs, SqL.of hp⟩, G, A, ρ, R, (show After c B W G A H σ (((seqM fs).bind _) ρ) _ from a1).split.imp fun ds ρ2 G2 H2 s2 _ R2 a2 vs rv => ?_⟩
    obtain ⟨d, e3, a2⟩ := a2.ownAt
    obtain ⟨⟨r1, d'⟩, e4, a2⟩ := a2.liftB
    obtain ⟨p', es', hA', hO'⟩ := R2.own i d e3
    rw [es] at es'; cases es'
    refine hs G2 H2 p vs d ds r1 d' Q R2.same hO' rv e4 fun o v ho hr => ?_
    obtain ⟨R3, k3, s3⟩ := R2.setOwn e3 es ho
    exact After.ok (After.of (Same.refl _) k3 a2) R3 v hr
theorem pm_methWR0 (i : Nat) {e : Expr} {r : V → List V → Hp → VK → Prop} {sem : D → List D → Option (D × D)} (hs : SemWR c r sem) (h : PE X e (tBM0 X.K "list" r (tVar i))) : PE X e (tM c B W (mMethWR sem i [])) :=
  pe_imp h fun σ H Q ⟨G, A, ρ, R, a⟩ => by
    obtain ⟨d0, e0, a1⟩ := After.ownAt a
    obtain ⟨p, es, hA, hO⟩ := R.own i d0 e0
    cases d0 <;> first | exact a1.elim | skip
    rename_i ds0
    obtain ⟨xs, hp, _⟩ := id hO
    have a2 := After.ok (show After c B W G A H σ (((seqM []).bind _) ρ) _ from a1).split R
    obtain ⟨d, e3, a2⟩ := a2.ownAt
    obtain ⟨⟨r1, d'⟩, e4, a2⟩ := a2.liftB
    obtain ⟨p', es', hA', hO'⟩ := R.own i d e3
    rw [es] at es'; cases es'
    refine ⟨_, es, .inl ⟨rfl, xs, SqL.of hp⟩, hs G H p [] d [] r1 d' Q R.same hO' .nil e4 fun o v ho hr => ?_⟩
    obtain ⟨R3, k3, s3⟩ := R.setOwn e3 es ho
    exact After.ok (After.of (Same.refl _) k3 a2) R3 v hr
end
end Fx
set_option Elab.async false
set_option linter.all false
set_option maxRecDepth 100000
set_option maxHeartbeats 4000000
namespace PySem
open Sem (wp)
open AutoSeq1 (wpAny_loadPart')
theorem fx_enum_new {v : Value} {o : Obj} {H : Heap → Prop} (B : Begins v o H) :
    Meets (Builtin.«enumerate.__new__» ⟨[.type "enumerate", v], []⟩) (fun _ R s => H s.heap ∧
      R (.ok (.ret (.ref (s.heap.push o).objs.size))) { s with heap := (s.heap.push o).push { cls := .type "enumerate", data := .fields #[.none, .bool false, .ref s.heap.objs.size, rawInt 0, .none, .none] } }) :=
  .of_wp fun prog w A R s h => by
    obtain ⟨hp, g, d, tk, os⟩ := s; obtain ⟨h1, h⟩ := h
    have hsub := sub_enumerate
    have q1 : ∀ {A' : Around} {E : Value → Shared → Prop} {Q : Value → Shared → Prop}, Q (.ref hp.objs.size) ⟨hp.push o, g, d, tk, os⟩ → wpAny (model prog w) A' (pyIter v) Q E ⟨hp, g, d, tk, os⟩ :=
      fun q => B.iter prog w _ _ ⟨hp, g, d, tk, os⟩ _ h1 q
    wp_walk using q1
    refine wpAny_stack_any fun st => wpAny_pure ?_
    split
    · rename_i c _ _ _ _ _
      cases (c == Value.type "enumerate")
      · wp_walk using q1
        exact ⟨_, rfl, h⟩
      · wp_walk using q1
        exact ⟨_, rfl, h⟩
    · wp_walk using q1
      exact ⟨_, rfl, h⟩
section
variable {prog : Program} {w : World} {A : Around} {E : Value → Shared → Prop} {s : Shared}
theorem fx_enum_begins {v : Value} {o : Obj} {H : Heap → Prop} {Q : Value → Shared → Prop} (B : Begins v o H) (h1 : H s.heap)
    (h : ∀ h', IsEnum h' (s.heap.objs.size + 1) s.heap.objs.size 0 .none → h'.get? s.heap.objs.size = some o → h'.objs.size = s.heap.objs.size + 2 →
      (∀ b o, s.heap.get? b = some o → h'.get? b = some o) → Q (.ref (s.heap.objs.size + 1)) { s with heap := h' }) :
    wpAny (model prog w) A (call (.type "enumerate") [v]) Q E s := by
  refine callType_new F.called_enumerate (by decide) (F.typeCall_enumerate_1 _) (F.newCall_enumerate_1 _) (fun obj => F.args_object_init_2 obj _) F.entry_enumerate_new
    (fx_enum_new B) ⟨h1, ?_⟩
  have hz : (s.heap.push o).objs.size = s.heap.objs.size + 1 := Heap.size_push ..
  show _ ∧ _
  rw [hz]
  have he : IsEnum ((s.heap.push o).push { cls := .type "enumerate", data := .fields #[.none, .bool false, .ref s.heap.objs.size, rawInt 0, .none, .none] }) (s.heap.objs.size + 1) s.heap.objs.size 0 .none := by
    have := Heap.get?_push_size (s.heap.push o) (o := { cls := .type "enumerate", data := .fields #[.none, .bool false, .ref s.heap.objs.size, rawInt 0, .none, .none] }) rfl
    rw [hz] at this; exact this
  refine ⟨⟨_, he, rfl⟩, h _ he (Heap.get?_push_of_some _ (Heap.get?_push_size _ B.free)) (by rw [Heap.size_push, hz]) fun b o x => Heap.get?_push_of_some _ (Heap.get?_push_of_some _ x)⟩
theorem fx_enum_end {e it l : Addr} {i : Nat} {items : Array Value} {old : Value} {Q : Option Value → Shared → Prop} (hh : A.in1.handled = none)
    (he : IsEnum s.heap e it i old) (hit : s.heap.IsTupleIter it l i) (hl : s.heap.IsTuple l items) (hx : items[i]? = none)
    (hQ : ∀ h', Heap.ExtBut it s.heap h' → Q none { s with heap := h' }) : wpAny (model prog w) A (pyNext (.ref e)) Q E s := by
  have hT : s.TypeIs (.ref e) "enumerate" := ⟨_, he, rfl⟩
  unfold pyNext
  refine wpAny_bind (wpAny_attempt (wpAny_callSpecial?_slot (name := Str.ofString "__next__") hT F.slot_enumerate_next
    (wpAny_call_entry F.slot_enumerate_next hT F.entry_enumerate_next ?_ (F.args_enumerate_next_1 _))))
  show wpAny _ _ (field (.ref e) 2 >>= _) _ _ _
  refine wpAny_bind (wpAny_field he rfl (x := .ref it) rfl ?_)
  refine wpAny_bind (wpAny_nextOf_tuple_end hh hit hl hx fun h' x he' hx' => ?_)
  obtain ⟨o, ho, hc⟩ := hx'
  refine wpAny_bind (wpAny_isInstance (T := "StopIteration") (b := true) ⟨o, ho, hc⟩ isSubtype_stop ?_)
  exact wpAny_pure (hQ _ he')
end
end PySem
namespace Fx
open PySem PySem.Spec PyProof.Rows L2
def Iet (K : PySem.W.Frag) (a : Addr) : It :=
  ⟨fun i H => ∃ (xs : List V) (x : V), SqT K H a xs ∧ xs[i]? = some x, fun i H v H' => ∃ T x, v = .ref T ∧ H T = none ∧ H' = upd H T (.tup [.int (i : Nat), x]) ∧ ∀ xs, SqT K H a xs → xs[i]? = some x, fun i H => ∃ xs : List V, SqT K H a xs ∧ xs.length ≤ i⟩
theorem turn_enumT {P : Program} {w : World} {K : PySem.W.Frag} {elts : List Expr} {kk : Nat} {tpos : Pos} (a e it : Addr) :
    Turn P w K (.Tuple elts kk tpos) (Iet K a) [e, it] e (fun i h => (∃ old, IsEnum h e it ((i : Nat) : Int) old) ∧ h.IsTupleIter it a i ∧ e ≠ it ∧ a ≠ it ∧ e ≠ a) where
  mem := by simp
  obj := fun i h st b hb => by
    obtain ⟨⟨old, he⟩, ⟨o, ho, hc, hd⟩, _⟩ := st
    have e' : b = e ∨ b = it := by simpa using hb
    rcases e' with z | z
    · rw [z]; exact ⟨_, he, fun v q => nomatch q⟩
    · rw [z]; exact ⟨o, ho, fun v q => by rw [hd] at q; cases q⟩
  keep := fun i h h' st k => let ⟨⟨old, he⟩, hi, hne⟩ := st; ⟨⟨old, k e (by simp) _ he⟩, hi.at fun o q => k it (by simp) o q, hne⟩
  item := by
    intro X hP hw hK hc i pins s σ H E I hf st hg
    subst hP hw hK
    obtain ⟨⟨old, he⟩, hit, hne, hai, hea⟩ := st
    obtain ⟨xs, x, hq, hx⟩ := hg
    obtain ⟨its, rv, p, hz⟩ := I.tuple hq
    obtain ⟨u, hu, ru⟩ := rv.get hx
    have hel : e < s.heap.objs.size := Heap.lt_size he
    have hil : it < s.heap.objs.size := by obtain ⟨_, q, _⟩ := hit; exact Heap.lt_size q
    have hlen : i < its.toArray.size := by
      have := (List.getElem?_eq_some_iff.mp hu).1
      rw [List.size_toArray]; exact this
    have hh : X.A.in1.handled = none := I.ok.hd hc
    refine wpAny_pyNext_enum_itemD (Draws.tuple hh it a hai its.toArray) he ⟨hit, p⟩ hlen hne (by simp [hne, hea]) fun y h' tk hy ho st' hT hsz hk => ?_
    have ey : y = u := by
      have : its.toArray[i]? = some y := hy
      have h2 : its[i]? = some y := by simpa using this
      rw [hu] at h2; exact (Option.some.inj h2).symm
    subst ey
    refine ⟨_, rfl, wpAny_letOwnedTupleGo_enum (s := { s with heap := h', toks := tk + 1 }) ho fun h'' he' sb => ?_⟩
    have hT2 : h''.get? s.heap.objs.size = some { cls := .type "tuple", data := .seq #[.int i tk, y] } := (sb.2 _ (Nat.ne_of_gt hel)).trans hT
    have new : ObjOk X.prog X.w (upd H s.heap.objs.size (.tup [.int (i : Nat), x])) h'' s.heap.objs.size (.tup [.int (i : Nat), x]) :=
      ⟨by show 2 ≤ sizeLine; decide, [.int i tk, y], .cons ⟨_, rfl⟩ (.cons ru .nil), ⟨_, hT2, rfl, _, rfl⟩⟩
    have I1 : Inv X pins σ (upd H s.heap.objs.size (.tup [.int (i : Nat), x])) { s with heap := h'', toks := tk + 1 } :=
      I.turnedNew (ch := [e, it]) (fun b ob hb q => (sb.2 b (fun z => hb (by simp [z]))).trans (hk b ob (fun z => hb (by simp [z])) (fun z => hb (by simp [z])) q)) hf (Nat.le_refl _) new
    refine ⟨.ref s.heap.objs.size, _, I1, rfl, ⟨_, x, rfl, I.hok.fresh (Nat.le_refl _), rfl, fun ys hy => by rw [I.tuple_inj hy hq]; exact hx⟩, ⟨⟨y, ?_⟩, st'.1.at fun o q => (sb.2 it (Ne.symm hne)).trans q, hne, hai, hea⟩, fun b hb => ?_⟩
    · have e1 : ((i + 1 : Nat) : Int) = (i : Int) + 1 := by omega
      rw [e1]; exact he'
    · have hb' : b < s.heap.objs.size := by
        have e' : b = e ∨ b = it := by simpa using hb
        rcases e' with z | z
        · rw [z]; exact hel
        · rw [z]; exact hil
      rw [upd_ne (Nat.ne_of_lt hb')]
      exact (hf b hb).1
  done := by
    intro X hP hw hK hc i pins s σ H E I hf st hg
    subst hP hw hK
    obtain ⟨⟨old, he⟩, hit, hne, hai, hea⟩ := st
    obtain ⟨xs, hq, hx⟩ := hg
    obtain ⟨its, rv, p, hz⟩ := I.tuple hq
    obtain ⟨f0, f1, f2, f3, f4, f5⟩ := hf it (by simp)
    have hl := rv.length
    have hh : X.A.in1.handled = none := I.ok.hd hc
    exact fx_enum_end hh he hit p (by simp; omega) fun h' eb => ⟨rfl, I.turned (t' := s.toks) (fun b o hb q => eb b o hb q) f0 f1 f3 f4 f5⟩
  self := fun A i s Q E st h => let ⟨⟨_, he⟩, _⟩ := st; wpAny_pyIter_enum he h
section
variable {X : Cx} {tg : Expr}
/-- enumerate of a list or of a tuple -/
def iEnumS (K : PySem.W.Frag) (ta : TA) : TI := fun σ H R => ta σ H fun vs H1 => ∃ a xs, vs = [.ref a] ∧ ((SqL K H1 a xs ∧ R (Ite K a) H1) ∨ (SqT K H1 a xs ∧ R (Iet K a) H1))
theorem pi_enumS {e : Expr} {ta : TA} {p pos tpos : Pos} {elts : List Expr} {kk : Nat} (hg : Gl X "enumerate") (hm : X.mg "enumerate" = none) (ha : PA X [e] ta) (hs : starEach [e] X.env = [(false, eval e X.env)] := by rfl) :
    PI X (.Tuple elts kk tpos) (.Call (.Name "enumerate" p) [e] [] pos) (iEnumS X.K ta) := by
  refine ⟨fun pins s σ H R I h => ?_⟩
  refine Call_ (ld_blt I hg hm boot_enumerate (PyProof.Rows.callWith_type1 (thn (ha.run pos pins s σ H _ I h) fun us s1 ⟨vs, H1, I1, r1, q1⟩ => ?_) hs rfl))
  obtain ⟨a, xs, ex, q⟩ := q1
  subst ex
  cases r1 with
  | cons r rr =>
    cases rr
    cases r
    rcases q with ⟨hq, q⟩ | ⟨hq, q⟩
    · obtain ⟨its, rv, p', hz⟩ := I1.list hq
      refine call_enumerate_list p'.isList fun h' he hit hsz hk => wpAny_pyIter_enum he ?_
      have I2 : Inv X pins σ H1 { s1 with heap := h' } := I1.kept (t' := s1.toks) hk
      refine ⟨s1.heap.objs.size + 1, [s1.heap.objs.size + 1, s1.heap.objs.size], _, _, H1, rfl, I2, turn_enum a (s1.heap.objs.size + 1) s1.heap.objs.size, ⟨⟨.none, he⟩, hit, Nat.succ_ne_self _⟩, fun b hb => ?_, q⟩
      have e' : b = s1.heap.objs.size + 1 ∨ b = s1.heap.objs.size := by simpa using hb
      have hle : s1.heap.objs.size ≤ b := by
        rcases e' with z | z
        · rw [z]; exact Nat.le_add_right _ _
        · rw [z]; exact Nat.le_refl _
      exact I1.fpOk hle (I1.hok.fresh hle)
    · obtain ⟨its, rv, p', hz⟩ := I1.tuple hq
      refine fx_enum_begins (begins_tuple a its.toArray) p' fun h' he hit hsz hk => wpAny_pyIter_enum he ?_
      have I2 : Inv X pins σ H1 { s1 with heap := h' } := I1.kept (t' := s1.toks) hk
      have hal : a < s1.heap.objs.size := p'.lt
      refine ⟨s1.heap.objs.size + 1, [s1.heap.objs.size + 1, s1.heap.objs.size], _, _, H1, rfl, I2, turn_enumT a (s1.heap.objs.size + 1) s1.heap.objs.size, ⟨⟨.none, he⟩, ⟨_, hit, rfl, rfl⟩, Nat.succ_ne_self _, Nat.ne_of_lt hal, Ne.symm (Nat.ne_of_lt (Nat.lt_succ_of_lt hal))⟩, fun b hb => ?_, q⟩
      have e' : b = s1.heap.objs.size + 1 ∨ b = s1.heap.objs.size := by simpa using hb
      have hle : s1.heap.objs.size ≤ b := by
        rcases e' with z | z
        · rw [z]; exact Nat.le_add_right _ _
        · rw [z]; exact Nat.le_refl _
      exact I1.fpOk hle (I1.hok.fresh hle)
/-- a list or a tuple, walked -/
def iSeq (K : PySem.W.Frag) (tl : TE) : TI := fun σ H R => tl σ H fun x H1 => ∃ a xs, x = .ref a ∧ ((SqL K H1 a xs ∧ R (Itl K a) H1) ∨ (SqT K H1 a xs ∧ R (Itt K a) H1))
theorem pi_seq {l : Expr} {tl : TE} (hl : PE X l tl) : PI X tg l (iSeq X.K tl) := by
  refine ⟨fun pins s σ H R I h => ?_⟩
  refine thn (hl.run pins s σ H _ I h) fun v s1 ⟨x, H1, I1, r1, q1⟩ => ?_
  obtain ⟨a, xs, e, q⟩ := q1
  subst e
  cases r1
  rcases q with ⟨hq, q⟩ | ⟨hq, q⟩
  · obtain ⟨its, rv, p, hz⟩ := I1.list hq
    refine wpAny_pyIter_list p.isList ?_
    refine ⟨s1.heap.objs.size, [s1.heap.objs.size], _, _, H1, rfl, I1.kept (t' := s1.toks) fun b o e => Heap.get?_push_of_some _ e, turn_list a _, ⟨_, Heap.get?_push_size _ rfl, rfl, rfl⟩, fun b hb => ?_, q⟩
    have e : b = s1.heap.objs.size := by simpa using hb
    subst e
    exact I1.fpOk (Nat.le_refl _) (I1.hok.fresh (Nat.le_refl _))
  · obtain ⟨its, rv, p, hz⟩ := I1.tuple hq
    refine wpAny_pyIter_tuple (show s1.heap.IsTuple a its.toArray from p) ?_
    refine ⟨s1.heap.objs.size, [s1.heap.objs.size], _, _, H1, rfl, I1.kept (t' := s1.toks) fun b o e => Heap.get?_push_of_some _ e, turn_tuple a _, ⟨_, Heap.get?_push_size _ rfl, rfl, rfl⟩, fun b hb => ?_, q⟩
    have e : b = s1.heap.objs.size := by simpa using hb
    subst e
    exact I1.fpOk (Nat.le_refl _) (I1.hok.fresh (Nat.le_refl _))
end
end Fx
set_option Elab.async false
set_option linter.all false
set_option maxRecDepth 100000
set_option maxHeartbeats 4000000
namespace Fx
open PySem L2
/-- a step of statements: A what is owned ahead, A' behind -/
structure Stp (G : Hp) (A : Addr → Prop) (H G' : Hp) (A' : Addr → Prop) (H' : Hp) : Prop where
  gg : Same G G'
  kp : Keep A G H G' H'
  aa : ∀ b, A' b → A b ∨ H b = none
section
variable {G G1 G2 H H1 H2 : Hp} {A A1 A2 : Addr → Prop}
theorem Stp.refl : Stp G A H G A H := ⟨Same.refl _, Keep.refl _ _, fun _ h => .inl h⟩
theorem Stp.trans (a : Stp G A H G1 A1 H1) (b : Stp G1 A1 H1 G2 A2 H2) (hA : ∀ b, A b → ∃ o, H b = some o) : Stp G A H G2 A2 H2 where
  gg := a.gg.trans b.gg
  kp := fun x o h n => by
    have h1 := a.kp x o h n
    have h2 := b.kp x o h1.1 fun z => (a.aa x z).elim n fun w => by rw [w] at h; cases h
    exact ⟨h2.1, h2.2.trans h1.2⟩
  aa := fun x h => (b.aa x h).elim (a.aa x) fun w => by
    by_cases n : A x
    · exact .inl n
    · refine .inr ?_
      cases q : H x with
      | none => rfl
      | some o => have := (a.kp x o q n).1; rw [w] at this; cases this
theorem Stp.same (s : Same G G1) (k : Keep A G H G1 H1) : Stp G A H G1 A H1 := ⟨s, k, fun _ h => .inl h⟩
end
def AfterS (c : Cf) (B : List (Nat × Addr)) (W : WX) (G : Hp) (A : Addr → Prop) (H : Hp) (o : OutS) (D : Ends) : Prop := match o with
  | .stuck => False
  | .next ρ' => ∀ G' A' H' σ', Stp G A H G' A' H' → Rel c B G' A' H' σ' ρ' → D.nx σ' H'
  | .ret d ρ' => ∀ G' A' H' σ' v, Stp G A H G' A' H' → Rel c B G' A' H' σ' ρ' → Rep c G' v d → D.rt v H'
  | .brk ρ' => ∀ G' A' H' σ', Stp G A H G' A' H' → Rel c B G' A' H' σ' ρ' → D.bk σ' H'
  | .cont ρ' => ∀ G' A' H' σ', Stp G A H G' A' H' → Rel c B G' A' H' σ' ρ' → D.ct σ' H'
  | .exc x ρ' => ∀ G' A' H' σ' dd, Stp G A H G' A' H' → Rel c B G' A' H' σ' ρ' → ExcAt c G' x dd → W (.ref (c.exc x.c)) (some dd) σ' H'
def tS (c : Cf) (B : List (Nat × Addr)) (W : WX) (m : MS) : TS := fun D σ H => ∃ G A ρ, Rel c B G A H σ ρ ∧ AfterS c B W G A H (m ρ) D
section
variable {c : Cf} {B : List (Nat × Addr)} {W : WX} {X : Cx} {G H : Hp} {A : Addr → Prop} {σ : L2.St} {ρ : Cells} {Z : Ends}
theorem Rel.own_there (R : Rel c B G A H σ ρ) : ∀ b, A b → ∃ o, H b = some o := fun b h => (R.ownA b h).2
theorem AfterS.of {o : OutS} {G' H' : Hp} {A' : Addr → Prop} (hA : ∀ b, A b → ∃ o, H b = some o) (s : Stp G A H G' A' H') (h : AfterS c B W G A H o Z) : AfterS c B W G' A' H' o Z := by
  cases o with
  | stuck => exact h
  | next ρ' => exact fun G2 A2 H2 σ2 s2 R => h G2 A2 H2 σ2 (s.trans s2 hA) R
  | ret d ρ' => exact fun G2 A2 H2 σ2 v s2 R r => h G2 A2 H2 σ2 v (s.trans s2 hA) R r
  | brk ρ' => exact fun G2 A2 H2 σ2 s2 R => h G2 A2 H2 σ2 (s.trans s2 hA) R
  | cont ρ' => exact fun G2 A2 H2 σ2 s2 R => h G2 A2 H2 σ2 (s.trans s2 hA) R
  | exc x ρ' => exact fun G2 A2 H2 σ2 dd s2 R r => h G2 A2 H2 σ2 dd (s.trans s2 hA) R r
theorem AfterS.nx (h : AfterS c B W G A H (.next ρ) Z) (R : Rel c B G A H σ ρ) : Z.nx σ H := h G A H σ Stp.refl R
/-- an expression's outcome inside a statement -/
def mDo {α : Type} (f : M α) (k : α → MS) : MS := fun ρ => match f ρ with
  | .stuck => .stuck
  | .ok a ρ' => k a ρ'
  | .exc x ρ' => .exc x ρ'
theorem AfterS.split {α : Type} {f : M α} {k : α → MS} (h : AfterS c B W G A H (mDo f k ρ) Z) (R : Rel c B G A H σ ρ) : After c B W G A H σ (f ρ) fun a ρ' G' H' => AfterS c B W G' A H' (k a ρ') Z := by
  unfold mDo at h
  cases e : f ρ with
  | stuck => rw [e] at h; exact h
  | ok a ρ' =>
    rw [e] at h
    exact fun G' H' s kk R' => AfterS.of R.own_there (Stp.same s kk) h
  | exc x ρ' =>
    rw [e] at h
    exact fun G' H' dd s kk R' r => h G' A H' σ dd (Stp.same s kk) R' r

def mSkip : MS := fun ρ => .next ρ
def mSeq (m n : MS) : MS := fun ρ => match m ρ with
  | .next ρ' => n ρ'
  | o => o
theorem pss_nilM : PSs X [] (tS c B W mSkip) := pss_imp pss_nil fun D σ H ⟨G, A, ρ, R, a⟩ => a.nx R
theorem AfterS.seq {m n : MS} (h : AfterS c B W G A H (mSeq m n ρ) Z) (R : Rel c B G A H σ ρ) : AfterS c B W G A H (m ρ) { Z with nx := tS c B W n Z } := by
  unfold mSeq at h
  cases e : m ρ with
  | next ρ' =>
    rw [e] at h
    exact fun G' A' H' σ' s R' => ⟨G', A', ρ', R', AfterS.of R.own_there s h⟩
  | stuck => rw [e] at h; exact h
  | ret d ρ' => rw [e] at h; exact h
  | brk ρ' => rw [e] at h; exact h
  | cont ρ' => rw [e] at h; exact h
  | exc x ρ' => rw [e] at h; exact h
theorem pss_consM {st : Stmt} {rest : List Stmt} {m n : MS} (h1 : PS X st (tS c B W m)) (h2 : PSs X rest (tS c B W n)) : PSs X (st :: rest) (tS c B W (mSeq m n)) :=
  pss_imp (pss_cons h1 h2) fun D σ H ⟨G, A, ρ, R, a⟩ => ⟨G, A, ρ, R, a.seq R⟩
theorem pss_oneM {st : Stmt} {m : MS} (h1 : PS X st (tS c B W m)) : PSs X [st] (tS c B W m) := pss_one h1

def mRet (f : M D) : MS := mDo f fun d ρ => .ret d ρ
theorem ps_retM {e : Expr} {f : M D} {pos : Pos} (he : PE X e (tM c B W f)) : PS X (.Return (some e) pos) (tS c B W (mRet f)) :=
  ps_imp (ps_ret he) fun D σ H ⟨G, A, ρ, R, a⟩ => ⟨G, A, ρ, R, (a.split R).imp fun d ρ' G' H' _ _ R' q v r => q G' A H' σ v Stp.refl R' r⟩
def mRetN : MS := fun ρ => .ret .non ρ
def mExpr (f : M D) : MS := mDo f fun _ ρ => .next ρ
theorem ps_exprM {e : Expr} {f : M D} {pos : Pos} (he : PE X e (tM c B W f)) (hs : swapsWith e none pos.line X.env = pure false := by rfl) : PS X (.Expr e pos) (tS c B W (mExpr f)) :=
  ps_imp (ps_expr he hs) fun D σ H ⟨G, A, ρ, R, a⟩ => ⟨G, A, ρ, R, (a.split R).imp fun d ρ' G' H' _ _ R' q v r => q.nx R'⟩
def mIfS (b : M Bool) (m n : MS) : MS := mDo b fun b ρ => if b = true then m ρ else n ρ
theorem ps_ifM {t : Expr} {a b : List Stmt} {pos : Pos} {f : M Bool} {m n : MS} (ht : PT X t (tT c B W f)) (ha : PSs X a (tS c B W m)) (hb : PSs X b (tS c B W n)) : PS X (.If t a b pos) (tS c B W (mIfS f m n)) :=
  ps_imp (ps_if ht ha hb) fun D σ H ⟨G, A, ρ, R, a⟩ => by
    refine ⟨G, A, ρ, R, (a.split R).imp fun x ρ' G' H' _ _ R' q => ite_prop (fun e => ?_) (fun e => ?_)⟩
    · rw [if_pos e] at q; exact ⟨G', A, ρ', R', q⟩
    · rw [if_neg (by rw [e]; exact Bool.false_ne_true)] at q; exact ⟨G', A, ρ', R', q⟩

/-- a slot is filled with data -/
theorem Rel.setDat (R : Rel c B G A H σ ρ) {i : Nat} {d : D} {v : V} (r : Rep c G v d) (hb : B.all (fun q => q.1 != i) = true) : Rel c B G A H (σ.set i (some v)) (ρ.set i (.dat d)) := by
  refine ⟨R.same, by rw [List.length_set, List.length_set]; exact R.len, R.ownA, fun j x h => ?_, fun j x h => ?_, fun j k x y q hjk h1 h2 h3 h4 => ?_, fun q hq => ?_⟩
  · by_cases z : j = i
    · subst z
      have hi : j < ρ.length := by
        have := (List.getElem?_eq_some_iff.mp h).1
        rwa [List.length_set] at this
      rw [List.getElem?_set_self hi] at h; cases h
      exact ⟨v, by rw [List.getElem?_set_self (by rw [R.len]; exact hi)], r⟩
    · rw [List.getElem?_set_ne (Ne.symm z)] at h
      obtain ⟨w, h1, h2⟩ := R.dat j x h
      exact ⟨w, by rw [List.getElem?_set_ne (Ne.symm z)]; exact h1, h2⟩
  · by_cases z : j = i
    · subst z
      have hi : j < ρ.length := by
        have := (List.getElem?_eq_some_iff.mp h).1
        rwa [List.length_set] at this
      rw [List.getElem?_set_self hi] at h; cases h
    · rw [List.getElem?_set_ne (Ne.symm z)] at h
      obtain ⟨p, h1, h2, h3⟩ := R.own j x h
      exact ⟨p, by rw [List.getElem?_set_ne (Ne.symm z)]; exact h1, h2, h3⟩
  · have g : ∀ (j : Nat) (x : D), (ρ.set i (.dat d))[j]? = some (.own x) → j ≠ i ∧ ρ[j]? = some (.own x) := fun j x h => by
      by_cases z : j = i
      · subst z
        have hi : j < ρ.length := by
          have := (List.getElem?_eq_some_iff.mp h).1
          rwa [List.length_set] at this
        rw [List.getElem?_set_self hi] at h; cases h
      · rw [List.getElem?_set_ne (Ne.symm z)] at h; exact ⟨z, h⟩
    obtain ⟨n1, h1'⟩ := g j x h1
    obtain ⟨n2, h2'⟩ := g k y h2
    rw [List.getElem?_set_ne (Ne.symm n1)] at h3
    rw [List.getElem?_set_ne (Ne.symm n2)] at h4
    exact R.dis j k x y q hjk h1' h2' h3 h4
  · obtain ⟨h1, h2, x, h3⟩ := R.byr q hq
    have z : q.1 ≠ i := by
      have := List.all_eq_true.mp hb q hq
      simpa using this
    exact ⟨by rw [List.getElem?_set_ne (Ne.symm z)]; exact h1, h2, x, by rw [List.getElem?_set_ne (Ne.symm z)]; exact h3⟩
/-- what a target does with data -/
abbrev TgM := D → Cells → Option Cells
/-- only the slots ts have changed -/
def Only (ts : List Nat) (σ σ' : L2.St) : Prop := σ'.length = σ.length ∧ ∀ j, j ∉ ts → σ'[j]? = σ[j]?
/-- what stands for an item: data, or a pair that is about to be unpacked -/
abbrev VP := Cf → Hp → Hp → V → D → Prop
def vRep : VP := fun c G _ v d => Rep c G v d
def vAny : VP := fun c G H v d => Rep c G v d ∨ ∃ a xs es, v = .ref a ∧ SqT c.K H a xs ∧ d = .tup es ∧ RepL c G xs es
def tG (c : Cf) (B : List (Nat × Addr)) (P : VP) (ts : List Nat) (g : TgM) : TG := fun v σ H Q => ∃ G A ρ d ρ', Rel c B G A H σ ρ ∧ P c G H v d ∧ g d ρ = some ρ' ∧ ∀ σ', Rel c B G A H σ' ρ' → Only ts σ σ' → Q σ' H
def gNm (i : Nat) : TgM := fun d ρ => some (ρ.set i (.dat d))
theorem pg_nm (i : Nat) {x : Str} {pos : Pos} (hN : X.N.Nodup) (hb : B.all (fun q => q.1 != i) = true) (hi : X.N[i]? = some x := by rfl) (hx : Loc X.env.scope x := by first | exact Or.inl rfl | exact Or.inr rfl) (hf : X.fn x = true ∨ X.env.scope.names.lookup x = some .local := by first | exact .inl rfl | exact .inr rfl) : PG X (.Name x pos) (tG c B vRep [i] (gNm i)) :=
  pg_imp (pg_name hN hi hx hf) fun v σ H Q ⟨G, A, ρ, d, ρ', R, r, e, q⟩ => by
    cases e
    exact q _ (R.setDat r hb) ⟨List.length_set, fun j hj => List.getElem?_set_ne (fun z => hj (by simp [z]))⟩
/-- two or more names -/
def gNms : List Nat → List D → Cells → Option Cells
  | [], [], ρ => some ρ
  | i :: is, d :: ds, ρ => gNms is ds (ρ.set i (.dat d))
  | _, _, _ => none
def gTp (is : List Nat) : TgM := fun d ρ => match d with
  | .tup ds => gNms is ds ρ
  | _ => none
def tGs (c : Cf) (B : List (Nat × Addr)) (is : List Nat) : TGs := fun vs σ H Q => ∃ G A ρ ds ρ', Rel c B G A H σ ρ ∧ RepL c G vs ds ∧ gNms is ds ρ = some ρ' ∧ ∀ σ', Rel c B G A H σ' ρ' → Only is σ σ' → Q σ' H
theorem pgs_imp {es : List Expr} {t t' : TGs} (h : PGs X es t) (k : ∀ v σ H Q, t' v σ H Q → t v σ H Q) : PGs X es t' := ⟨fun pins s σ H v u Q I r q => h.run pins s σ H v u Q I r (k v σ H Q q)⟩
theorem pgs_nilM : PGs X [] (tGs c B []) := pgs_imp pgs_nil fun vs σ H Q ⟨G, A, ρ, ds, ρ', R, r, e, q⟩ => by
  cases r with
  | nil => cases e; exact ⟨rfl, q σ R ⟨rfl, fun _ _ => rfl⟩⟩
  | cons _ _ => cases e
theorem pgs_consM {e : Expr} {es : List Expr} {i : Nat} {is : List Nat} (h1 : PG X e (tG c B vRep [i] (gNm i))) (h2 : PGs X es (tGs c B is)) (hs : (assignEach (e :: es) X.env).map (·.2) = assign e X.env :: (assignEach es X.env).map (·.2) := by rfl) : PGs X (e :: es) (tGs c B (i :: is)) :=
  pgs_imp (pgs_cons h1 h2 hs) fun vs σ H Q ⟨G, A, ρ, ds, ρ', R, r, e, q⟩ => by
    cases r with
    | nil => cases e
    | cons h t => exact ⟨_, _, rfl, G, A, ρ, _, _, R, h, rfl, fun σ' R' o' => ⟨G, A, _, _, ρ', R', t, e, fun σ2 R2 o2 => q σ2 R2 ⟨o2.1.trans o'.1, fun j hj => (o2.2 j fun z => hj (List.mem_cons_of_mem _ z)).trans (o'.2 j fun z => hj (by simp at z; simp [z]))⟩⟩⟩
theorem gNms_len : ∀ {is : List Nat} {ds : List D} {ρ ρ' : Cells}, gNms is ds ρ = some ρ' → ds.length = is.length
  | [], [], _, _, _ => rfl
  | [], _ :: _, _, _, h => by cases h
  | _ :: _, [], _, _, h => by cases h
  | _ :: is, _ :: ds, _, _, h => by rw [List.length_cons, List.length_cons, gNms_len (is := is) (ds := ds) h]
theorem vAny.tup {G H : Hp} {v : V} {ds : List D} (s : Same G H) (h : vAny c G H v (.tup ds)) : ∃ a xs, v = .ref a ∧ SqT c.K H a xs ∧ RepL c G xs ds := by
  rcases h with h | ⟨a, xs, es, rfl, h1, h2, h3⟩
  · cases h with
    | tup e r => exact ⟨_, _, rfl, (e.mono s).sq, r⟩
  · cases h2; exact ⟨a, xs, rfl, h1, h3⟩
theorem pg_tpM {es : List Expr} {k : Nat} {pos : Pos} {is : List Nat} (hK : c.K = X.K) (hc : X.calm = true) (h : PGs X es (tGs c B is)) (hn : (assignEach es X.env).length = is.length := by rfl) (hst : (assignEach es X.env).findIdx? (·.1) = none := by rfl) : PG X (.Tuple es k pos) (tG c B vAny is (gTp is)) :=
  pg_imp (pg_tup hc h hn hst) fun v σ H Q ⟨G, A, ρ, d, ρ', R, r, e, q⟩ => by
    cases d <;> first | (cases e; done) | skip
    rename_i ds
    have e' : gNms is ds ρ = some ρ' := e
    obtain ⟨a, xs, rfl, h1, h2⟩ := vAny.tup R.same r
    exact ⟨a, xs, rfl, by rw [← hK]; exact h1, by rw [h2.length, gNms_len e'], G, A, ρ, ds, ρ', R, h2, e', q⟩
theorem pg_any {e : Expr} {ts : List Nat} {g : TgM} (h : PG X e (tG c B vAny ts g)) : PG X e (tG c B vRep ts g) :=
  pg_imp h fun v σ H Q ⟨G, A, ρ, d, ρ', R, r, q⟩ => ⟨G, A, ρ, d, ρ', R, .inl r, q⟩

def mAsg (f : M D) (g : TgM) : MS := mDo f fun d ρ => match g d ρ with
  | some ρ' => .next ρ'
  | none => .stuck
theorem ps_asgM {tg e : Expr} {f : M D} {ts : List Nat} {g : TgM} {pos : Pos} (he : PE X e (tM c B W f)) (hg : PG X tg (tG c B vRep ts g)) (hs : swapsWithSole [tg] e pos.line X.env = pure false := by rfl) (hw : swappedStores [tg] e X.env = pure none := by rfl) (h1 : (assignEach [tg] X.env).map (·.2) = [assign tg X.env] := by rfl) :
    PS X (.Assign [tg] e pos) (tS c B W (mAsg f g)) :=
  ps_imp (ps_asg he hg hs hw h1) fun Z σ H ⟨G, A, ρ, R, a⟩ => by
    refine ⟨G, A, ρ, R, (a.split R).imp fun d ρ' G' H' _ _ R' q v r => ?_⟩
    cases e : g d ρ' with
    | none => rw [e] at q; exact q.elim
    | some ρ2 =>
      rw [e] at q
      exact ⟨G', A, ρ', d, ρ2, R', r, e, fun σ' R2 _ => q.nx R2⟩
/-- a new list or dict at a slot, owned -/
theorem Rel.newOwn (R : Rel c B G A H σ ρ) {i : Nat} {d : D} {p : Addr} {H2 : Hp} (hp : H p = none) (hh : Same H H2) (ho : Own c G (H2 p) d) (hb : B.all (fun q => q.1 != i) = true) :
    Rel c B G (fun b => A b ∨ b = p) H2 (σ.set i (some (.ref p))) (ρ.set i (.own d)) := by
  have gp : G p = none := R.same.free hp
  have na : ∀ b, A b → b ≠ p := fun b h z => by obtain ⟨_, o, q⟩ := R.ownA b h; rw [z, hp] at q; cases q
  refine ⟨R.same.trans hh, by rw [List.length_set, List.length_set]; exact R.len, fun b hb' => ?_, fun j x h => ?_, fun j x h => ?_, fun j k x y q hjk h1 h2 h3 h4 => ?_, fun q hq => ?_⟩
  · rcases hb' with h | h
    · obtain ⟨h1, o, h2⟩ := R.ownA b h
      exact ⟨h1, o, hh b o h2⟩
    · rw [h]; exact ⟨gp, ho.some⟩
  · by_cases z : j = i
    · subst z
      have hi : j < ρ.length := by
        have := (List.getElem?_eq_some_iff.mp h).1
        rwa [List.length_set] at this
      rw [List.getElem?_set_self hi] at h; cases h
    · rw [List.getElem?_set_ne (Ne.symm z)] at h
      obtain ⟨w, h1, h2⟩ := R.dat j x h
      exact ⟨w, by rw [List.getElem?_set_ne (Ne.symm z)]; exact h1, h2⟩
  · by_cases z : j = i
    · subst z
      have hi : j < ρ.length := by
        have := (List.getElem?_eq_some_iff.mp h).1
        rwa [List.length_set] at this
      rw [List.getElem?_set_self hi] at h; cases h
      exact ⟨p, by rw [List.getElem?_set_self (by rw [R.len]; exact hi)], .inr rfl, ho⟩
    · rw [List.getElem?_set_ne (Ne.symm z)] at h
      obtain ⟨q, h1, h2, h3⟩ := R.own j x h
      obtain ⟨u, hu⟩ := h3.some
      exact ⟨q, by rw [List.getElem?_set_ne (Ne.symm z)]; exact h1, .inl h2, by rw [hh q u hu, ← hu]; exact h3⟩
  · have g : ∀ (j : Nat) (x : D) (q : Addr), (ρ.set i (.own d))[j]? = some (.own x) → (σ.set i (some (.ref p)))[j]? = some (some (.ref q)) → (j = i ∧ q = p) ∨ (j ≠ i ∧ q ≠ p ∧ ρ[j]? = some (.own x) ∧ σ[j]? = some (some (.ref q))) := fun j x q h h' => by
      by_cases z : j = i
      · subst z
        have hi : j < σ.length := by
          have := (List.getElem?_eq_some_iff.mp h').1
          rwa [List.length_set] at this
        rw [List.getElem?_set_self hi] at h'; cases h'
        exact .inl ⟨rfl, rfl⟩
      · rw [List.getElem?_set_ne (Ne.symm z)] at h h'
        obtain ⟨r, h1, h2, _⟩ := R.own j x h
        rw [h'] at h1; cases h1
        exact .inr ⟨z, na q h2, h, h'⟩
    rcases g j x q h1 h3 with ⟨e1, e2⟩ | ⟨e1, e2, e3, e4⟩
    · rcases g k y q h2 h4 with ⟨f1, f2⟩ | ⟨f1, f2, f3, f4⟩
      · exact hjk (e1.trans f1.symm)
      · exact f2 e2
    · rcases g k y q h2 h4 with ⟨f1, f2⟩ | ⟨f1, f2, f3, f4⟩
      · exact e2 f2
      · exact R.dis j k x y q hjk e3 f3 e4 f4
  · obtain ⟨h1, h2, x, h3⟩ := R.byr q hq
    have z : q.1 ≠ i := by
      have := List.all_eq_true.mp hb q hq
      simpa using this
    exact ⟨by rw [List.getElem?_set_ne (Ne.symm z)]; exact h1, .inl h2, x, by rw [List.getElem?_set_ne (Ne.symm z)]; exact h3⟩
def mNew (f : M D) (i : Nat) : MS := mDo f fun d ρ => .next (ρ.set i (.own d))
theorem ps_newM (i : Nat) {x : Str} {e : Expr} {f : M D} {np pos : Pos} (hN : X.N.Nodup) (he : PE X e (tF c B W f)) (hb : B.all (fun q => q.1 != i) = true) (hi : X.N[i]? = some x := by rfl) (hx : Loc X.env.scope x := by first | exact Or.inl rfl | exact Or.inr rfl) (hf : X.fn x = true ∨ X.env.scope.names.lookup x = some .local := by first | exact .inl rfl | exact .inr rfl) (hs : swapsWithSole [.Name x np] e pos.line X.env = pure false := by rfl) (hw : swappedStores [.Name x np] e X.env = pure none := by rfl) :
    PS X (.Assign [.Name x np] e pos) (tS c B W (mNew f i)) :=
  ps_imp (ps_asg he (pg_name hN hi hx hf) hs hw) fun Z σ H ⟨G, A, ρ, R, a⟩ => by
    refine ⟨G, A, ρ, R, (a.split R).imp fun d ρ' G' H' _ _ R' q p H2 hp hh ho => ?_⟩
    have R2 := R'.newOwn hp hh ho hb
    exact q G' _ H2 _ ⟨Same.refl _, fun b o h _ => ⟨hh b o h, rfl⟩, fun b h => h.elim .inl fun z => .inr (by rw [z]; exact hp)⟩ R2
/-- what a slot owns is frozen -/
theorem Rel.freeze (R : Rel c B G A H σ ρ) {i : Nat} {d : D} {p : Addr} {u : HO} (e : ρ[i]? = some (.own d)) (es : σ[i]? = some (some (.ref p))) (hu : H p = some u) (hb : B.all (fun q => q.1 != i) = true) :
    Rel c B (upd G p u) (fun b => A b ∧ b ≠ p) H σ (ρ.set i (.dat d)) := by
  obtain ⟨p', es', hA, hO⟩ := R.own i d e
  rw [es] at es'; cases es'
  obtain ⟨gp, _⟩ := R.ownA p hA
  have gg : Same G (upd G p u) := same_upd gp
  have hi : i < ρ.length := (List.getElem?_eq_some_iff.mp e).1
  refine ⟨fun b w q => ?_, by rw [List.length_set]; exact R.len, fun b ⟨h1, h2⟩ => ?_, fun j x h => ?_, fun j x h => ?_, fun j k x y q hjk h1 h2 h3 h4 => ?_, fun q hq => ?_⟩
  · by_cases z : b = p
    · subst z; rw [upd_same] at q; cases q; exact hu
    · rw [upd_ne z] at q; exact R.same b w q
  · obtain ⟨h3, h4⟩ := R.ownA b h1
    exact ⟨by rw [upd_ne h2]; exact h3, h4⟩
  · by_cases z : j = i
    · subst z
      rw [List.getElem?_set_self hi] at h; cases h
      refine ⟨.ref p, es, ?_⟩
      have o' : Own c G ((upd G p u) p) d := by rw [upd_same, ← hu]; exact hO
      exact o'.rep gg
    · rw [List.getElem?_set_ne (Ne.symm z)] at h
      obtain ⟨w, h1, h2⟩ := R.dat j x h
      exact ⟨w, h1, h2.mono gg⟩
  · by_cases z : j = i
    · subst z; rw [List.getElem?_set_self hi] at h; cases h
    · rw [List.getElem?_set_ne (Ne.symm z)] at h
      obtain ⟨q, h1, h2, h3⟩ := R.own j x h
      exact ⟨q, h1, ⟨h2, fun w => R.dis j i x d p z h e (by rw [← w]; exact h1) es⟩, h3.mono gg⟩
  · have g : ∀ (j : Nat) (x : D), (ρ.set i (.dat d))[j]? = some (.own x) → ρ[j]? = some (.own x) := fun j x h => by
      by_cases z : j = i
      · subst z; rw [List.getElem?_set_self hi] at h; cases h
      · rw [List.getElem?_set_ne (Ne.symm z)] at h; exact h
    exact R.dis j k x y q hjk (g j x h1) (g k y h2) h3 h4
  · obtain ⟨h1, h2, x, h3⟩ := R.byr q hq
    have z : q.1 ≠ i := by
      have := List.all_eq_true.mp hb q hq
      simpa using this
    refine ⟨h1, ⟨h2, fun w => ?_⟩, x, by rw [List.getElem?_set_ne (Ne.symm z)]; exact h3⟩
    exact R.dis q.1 i x d p z h3 e (by rw [← w]; exact h1) es
def mFrz (i : Nat) (m : MS) : MS := fun ρ => match ρ[i]? with
  | some (.own d) => m (ρ.set i (.dat d))
  | _ => m ρ
theorem AfterS.frz {i : Nat} {m : MS} (R : Rel c B G A H σ ρ) (hb : B.all (fun q => q.1 != i) = true) (a : AfterS c B W G A H (mFrz i m ρ) Z) : ∃ G' A' ρ', Rel c B G' A' H σ ρ' ∧ AfterS c B W G' A' H (m ρ') Z := by
  unfold mFrz at a
  cases e : ρ[i]? with
  | none => rw [e] at a; exact ⟨G, A, ρ, R, a⟩
  | some cl =>
    rw [e] at a
    cases cl with
    | no => exact ⟨G, A, ρ, R, a⟩
    | dat d => exact ⟨G, A, ρ, R, a⟩
    | own d =>
      obtain ⟨p, es, hA, hO⟩ := R.own i d e
      obtain ⟨u, hu⟩ := hO.some
      have gp := (R.ownA p hA).1
      refine ⟨_, _, _, R.freeze e es hu hb, AfterS.of R.own_there ⟨same_upd gp, fun b o h n => ⟨h, upd_ne fun z => n (by rw [z]; exact hA)⟩, fun b h => .inl h.1⟩ a⟩
theorem ps_frz (i : Nat) {st : Stmt} {m : MS} (hb : B.all (fun q => q.1 != i) = true) (h : PS X st (tS c B W m)) : PS X st (tS c B W (mFrz i m)) := ps_imp h fun Z σ H ⟨G, A, ρ, R, a⟩ => a.frz R hb
end
end Fx
set_option Elab.async false
set_option linter.all false
set_option maxRecDepth 100000
set_option maxHeartbeats 4000000
namespace Fx
open PySem L2
structure ItOk (c : Cf) (P : VP) (J : It) (ds : List D) (G : Hp) : Prop where
  len : ds.length ≤ sizeLine
  go : ∀ i H', i < ds.length → Same G H' → J.go i H'
  yld : ∀ i G' H' x H'', i < ds.length → Same G G' → Same G' H' → J.yld i H' x H'' → ∃ G'' d, ds[i]? = some d ∧ Ext G' H' G'' H'' ∧ P c G'' H'' x d
  stop : ∀ H', Same G H' → J.stop ds.length H'
def tI (c : Cf) (B : List (Nat × Addr)) (W : WX) (P : VP) (f : M (List D)) : TI := fun σ H R => ∃ G A ρ, Rel c B G A H σ ρ ∧ After c B W G A H σ (f ρ) fun ds _ G' H' => ∀ J, ItOk c P J ds G' → R J H'
/-- a value's list or tuple is not longer than the line -/
def LenOk (v : V) (H : Hp) : Prop := ∀ a xs, v = .ref a → (Rd H a (.lst xs) ∨ Rd H a (.tup xs)) → xs.length ≤ sizeLine
section
variable {c : Cf} {B : List (Nat × Addr)} {W : WX} {X : Cx} {G H : Hp} {A : Addr → Prop} {σ : L2.St} {ρ : Cells} {Z : Ends}
theorem lenOk_of {pins : List (Addr × Obj)} {s : Shared} (I : Inv X pins σ H s) (v : V) : LenOk v H := fun a xs _ h => by
  rcases h with h | h
  · have q := h.ok I.hok; exact q.1
  · have q := h.ok I.hok; exact q.1
theorem pe_len {e : Expr} {t : TE} (h : PE X e t) : PE X e (fun σ H Q => t σ H fun v H' => LenOk v H' → Q v H') :=
  ⟨fun pins s σ H Q I q => thn (h.run pins s σ H _ I q) fun u s1 ⟨v, H1, I1, r, k⟩ => ⟨v, H1, I1, r, k (lenOk_of I1 v)⟩⟩
theorem pa_len {es : List Expr} {t : TA} (h : PA X es t) : PA X es (fun σ H Q => t σ H fun vs H' => (∀ v ∈ vs, LenOk v H') → Q vs H') :=
  ⟨fun pos pins s σ H Q I q => thn (h.run pos pins s σ H _ I q) fun u s1 ⟨v, H1, I1, r, k⟩ => ⟨v, H1, I1, r, k fun w _ => lenOk_of I1 w⟩⟩

def mSeqI (f : M D) : M (List D) := f.bind fun d => M.lift (itemsOf d)
theorem rep_seq {v : V} {d : D} {ds : List D} (s : Same G H) (r : Rep c G v d) (h : itemsOf d = some ds) (lo : LenOk v H) :
    ∃ a us, v = .ref a ∧ RepL c G us ds ∧ us.length ≤ sizeLine ∧ (LsG c.K G a us ∨ TupAt c.K G a us) := by
  cases r <;> first | (cases h; done) | skip
  · rename_i a xs es e rl
    cases h
    refine ⟨a, xs, rfl, rl, ?_, .inr e⟩
    rcases e with ⟨o, e, _⟩ | ⟨o, its, n, h1, h2, h3, h4, h5, h6⟩
    · exact lo a xs rfl (.inr (.inr ⟨o, s _ _ e⟩))
    · have e6 : xs.length = its.size := by rw [h6.length]; exact Array.length_toList
      rw [e6]
      exact h5
  · rename_i a xs es e rl
    cases h
    refine ⟨a, xs, rfl, rl, ?_, .inl e⟩
    rcases e with e | ⟨its, n, h1, h2, h3⟩
    · exact lo a xs rfl (.inl (same_rd s e))
    · rw [h3.length]; exact h2
theorem itl_ok {K : PySem.W.Frag} {a : Addr} {us : List V} {ds : List D} (r : RepL c G us ds) (hl : us.length ≤ sizeLine) (hr : LsG K G a us) : ItOk c vRep (Itl K a) ds G where
  len := by rw [← r.length]; exact hl
  go := fun i H' hi s => by
    obtain ⟨v, h1, _⟩ := r.get (List.getElem?_eq_getElem hi)
    exact ⟨us, v, (hr.mono s).sq, h1⟩
  yld := fun i G' H' x H'' hi s1 s2 ⟨e, h⟩ => by
    have hx := h us (hr.mono (s1.trans s2)).sq
    obtain ⟨d, h1, h2⟩ := r.getV hx
    subst e
    exact ⟨G', d, h1, Ext.refl s2, h2.mono s1⟩
  stop := fun H' s => ⟨us, (hr.mono s).sq, by rw [r.length]; exact Nat.le_refl _⟩
theorem itt_ok {K : PySem.W.Frag} (hK : c.K = K) {a : Addr} {us : List V} {ds : List D} (r : RepL c G us ds) (hl : us.length ≤ sizeLine) (hr : TupAt K G a us) : ItOk c vRep (Itt K a) ds G where
  len := by rw [← r.length]; exact hl
  go := fun i H' hi s => by
    obtain ⟨v, h1, _⟩ := r.get (List.getElem?_eq_getElem hi)
    exact ⟨us, v, (hr.mono s).sq, h1⟩
  yld := fun i G' H' x H'' hi s1 s2 ⟨e, h⟩ => by
    have hx := h us ((hr.mono (s1.trans s2)).sq)
    obtain ⟨d, h1, h2⟩ := r.getV hx
    subst e
    exact ⟨G', d, h1, Ext.refl s2, h2.mono s1⟩
  stop := fun H' s => ⟨us, (hr.mono s).sq, by rw [r.length]; exact Nat.le_refl _⟩
theorem pi_seqM (hK : c.K = X.K) {tg l : Expr} {f : M D} (h : PE X l (tM c B W f)) : PI X tg l (tI c B W vRep (mSeqI f)) :=
  pi_imp (pi_seq (pe_len h)) fun σ H R ⟨G, A, ρ, Rl, a⟩ => by
    refine ⟨G, A, ρ, Rl, a.split.imp fun d ρ' G' H' _ _ R' q v r lo => ?_⟩
    obtain ⟨ds, e, k⟩ := q.lift R'
    obtain ⟨p, us, rfl, rl, hl, hr | hr⟩ := rep_seq R'.same r e lo
    · exact ⟨p, us, rfl, .inl ⟨by rw [← hK]; exact (hr.mono R'.same).sq, k _ (itl_ok rl hl (by rw [← hK]; exact hr))⟩⟩
    · exact ⟨p, us, rfl, .inr ⟨by rw [← hK]; exact (hr.mono R'.same).sq, k _ (itt_ok hK rl hl (by rw [← hK]; exact hr))⟩⟩
def enumD : Nat → List D → List D
  | _, [] => []
  | n, d :: ds => .tup [.int (n : Int), d] :: enumD (n + 1) ds
theorem enumD_len : ∀ (n : Nat) (ds : List D), (enumD n ds).length = ds.length
  | _, [] => rfl
  | n, d :: ds => by rw [enumD, List.length_cons, List.length_cons, enumD_len]
theorem enumD_get : ∀ (n i : Nat) (ds : List D) (d : D), ds[i]? = some d → (enumD n ds)[i]? = some (.tup [.int ((n + i : Nat) : Int), d])
  | n, 0, e :: ds, d, h => by simp at h; subst h; rfl
  | n, i + 1, e :: ds, d, h => by
    have := enumD_get (n + 1) i ds d (by simpa using h)
    rw [enumD, List.getElem?_cons_succ, this]
    congr 4
    omega
def mEnum (f : M D) : M (List D) := f.bind fun d => (M.lift (itemsOf d)).bind fun ds => M.pure (enumD 0 ds)
theorem enum_yld {G' H' H'' : Hp} {x y : V} {d : D} {i : Nat} {T : Addr} (s2 : Same G' H') (hT : H' T = none) (e : H'' = upd H' T (.tup [.int (i : Nat), y])) (ex : x = .ref T) (r : Rep c G' y d) :
    ∃ G'', Ext G' H' G'' H'' ∧ vAny c G'' H'' x (.tup [.int (i : Nat), d]) := by
  subst e ex
  refine ⟨G', Ext.updH s2 hT, .inr ⟨T, _, _, rfl, SqT.of upd_same, rfl, .cons (.int _) (.one r)⟩⟩
theorem ite_ok {K : PySem.W.Frag} (hK : c.K = K) {a : Addr} {us : List V} {ds : List D} (r : RepL c G us ds) (hl : us.length ≤ sizeLine) (hr : LsG K G a us) : ItOk c vAny (Ite K a) (enumD 0 ds) G where
  len := by rw [enumD_len, ← r.length]; exact hl
  go := fun i H' hi s => by
    rw [enumD_len] at hi
    obtain ⟨v, h1, _⟩ := r.get (List.getElem?_eq_getElem hi)
    exact ⟨us, v, (hr.mono s).sq, h1⟩
  yld := fun i G' H' x H'' hi s1 s2 ⟨T, y, ex, hT, e, h⟩ => by
    have hx := h us (hr.mono (s1.trans s2)).sq
    obtain ⟨d, h1, h2⟩ := r.getV hx
    obtain ⟨G'', q1, q2⟩ := enum_yld s2 hT e ex (h2.mono s1)
    exact ⟨G'', _, by rw [enumD_get 0 i ds d h1, Nat.zero_add], q1, q2⟩
  stop := fun H' s => ⟨us, (hr.mono s).sq, by rw [enumD_len, r.length]; exact Nat.le_refl _⟩
theorem iet_ok {K : PySem.W.Frag} (hK : c.K = K) {a : Addr} {us : List V} {ds : List D} (r : RepL c G us ds) (hl : us.length ≤ sizeLine) (hr : TupAt K G a us) : ItOk c vAny (Iet K a) (enumD 0 ds) G where
  len := by rw [enumD_len, ← r.length]; exact hl
  go := fun i H' hi s => by
    rw [enumD_len] at hi
    obtain ⟨v, h1, _⟩ := r.get (List.getElem?_eq_getElem hi)
    exact ⟨us, v, (hr.mono s).sq, h1⟩
  yld := fun i G' H' x H'' hi s1 s2 ⟨T, y, ex, hT, e, h⟩ => by
    have hx := h us ((hr.mono (s1.trans s2)).sq)
    obtain ⟨d, h1, h2⟩ := r.getV hx
    obtain ⟨G'', q1, q2⟩ := enum_yld s2 hT e ex (h2.mono s1)
    exact ⟨G'', _, by rw [enumD_get 0 i ds d h1, Nat.zero_add], q1, q2⟩
  stop := fun H' s => ⟨us, (hr.mono s).sq, by rw [enumD_len, r.length]; exact Nat.le_refl _⟩
theorem pi_enumM {e : Expr} {f : M D} {p pos tpos : Pos} {elts : List Expr} {kk : Nat} (hK : c.K = X.K) (hm : X.mg "enumerate" = none) (h : PE X e (tM c B W f)) (hg : Gl X "enumerate" := by rfl) (hs : starEach [e] X.env = [(false, eval e X.env)] := by rfl) :
    PI X (.Tuple elts kk tpos) (.Call (.Name "enumerate" p) [e] [] pos) (tI c B W vAny (mEnum f)) :=
  pi_imp (pi_enumS hg hm (pa_len (pd_cons h pd_nil (by rw [hs]; rfl))) hs) fun σ H R ⟨G, A, ρ, Rl, a⟩ => by
    refine ⟨G, A, ρ, Rl, ?_⟩
    have a' : After c B W G A H σ ((seqM [f]) ρ) fun ds _ G' H' => ∀ vs, RepL c G' vs ds → (∀ v ∈ vs, LenOk v H') → ∃ a xs, vs = [V.ref a] ∧ ((SqL X.K H' a xs ∧ R (Ite X.K a) H') ∨ (SqT X.K H' a xs ∧ R (Iet X.K a) H')) := by
      have b := (show After c B W G A H σ ((f.bind _) ρ) _ from a).split
      show After c B W G A H σ ((f.bind fun d => M.pure [d]) ρ) _
      unfold M.bind
      cases hf : f ρ with
      | stuck => rw [hf] at b; exact b
      | exc x r => rw [hf] at b; exact b
      | ok d ρ1 =>
        rw [hf] at b
        intro G' H' s k R1 vs rs lo
        have q := b G' H' s k R1
        have q2 := q.split
        obtain ⟨ds, ed, q3⟩ := q.liftB
        have q4 := After.ok q3 R1
        obtain ⟨v, rfl, r⟩ := repL1 rs
        obtain ⟨p, us, rfl, rl, hl, hr | hr⟩ := rep_seq R1.same r ed (lo v (by simp))
        · exact ⟨p, us, rfl, .inl ⟨by rw [← hK]; exact (hr.mono R1.same).sq, q4 _ (ite_ok hK rl hl (by rw [← hK]; exact hr))⟩⟩
        · exact ⟨p, us, rfl, .inr ⟨by rw [← hK]; exact (hr.mono R1.same).sq, q4 _ (iet_ok hK rl hl (by rw [← hK]; exact hr))⟩⟩
    exact a'
def rangeD (lo : Int) (n : Nat) : List D := (List.range n).map fun (k : Nat) => D.int (lo + (k : Int))
theorem rangeD_len (lo : Int) (n : Nat) : (rangeD lo n).length = n := by unfold rangeD; rw [List.length_map, List.length_range]
def mRange1 (f : M D) : M (List D) := f.bind fun d => match d with
  | .int j => if j ≤ 16777216 ∧ -16777216 ≤ j then M.pure (rangeD 0 j.toNat) else M.stuck
  | _ => M.stuck
theorem itr_ok {lo : Int} {n : Nat} (hn : n ≤ 16777216) : ItOk c vRep (Itr lo n) (rangeD lo n) G where
  len := by rw [rangeD_len, sl]; exact hn
  go := fun i H' hi s => by rw [rangeD_len] at hi; exact hi
  yld := fun i G' H' x H'' hi s1 s2 ⟨e, h⟩ => by
    rw [rangeD_len] at hi
    subst e h
    refine ⟨G', .int (lo + (i : Int)), ?_, Ext.refl s2, .int _⟩
    unfold rangeD
    rw [List.getElem?_map, List.getElem?_range hi]
    rfl
  stop := fun H' s => by show n ≤ (rangeD lo n).length; rw [rangeD_len]; exact Nat.le_refl _
theorem pi_range1M {tg e : Expr} {f : M D} {p pos : Pos} (hm : X.mg "range" = none) (h : PE X e (tM c B W f)) (hg : Gl X "range" := by rfl) (hs : starEach [e] X.env = [(false, eval e X.env)] := by rfl) :
    PI X tg (.Call (.Name "range" p) [e] [] pos) (tI c B W vRep (mRange1 f)) :=
  pi_imp (pi_range1 hg hm (pd_cons h pd_nil (by rw [hs]; rfl)) hs) fun σ H R ⟨G, A, ρ, Rl, a⟩ => by
    refine ⟨G, A, ρ, Rl, ?_⟩
    have b := (show After c B W G A H σ ((f.bind _) ρ) _ from a).split
    show After c B W G A H σ ((f.bind fun d => M.pure [d]) ρ) _
    unfold M.bind
    cases hf : f ρ with
    | stuck => rw [hf] at b; exact b
    | exc x r => rw [hf] at b; exact b
    | ok d ρ1 =>
      rw [hf] at b
      intro G' H' s k R1 vs rs
      have q := b G' H' s k R1
      cases d <;> first | exact q.elim | skip
      rename_i j
      obtain ⟨v, rfl, r⟩ := repL1 rs
      have q : After c B W G' A H' σ ((if j ≤ 16777216 ∧ -16777216 ≤ j then M.pure (rangeD 0 j.toNat) else M.stuck) ρ1) _ := q
      split at q
      · rename_i hj
        exact ⟨j, by rw [rep_int r], by omega, by omega, After.ok q R1 _ (itr_ok (by omega))⟩
      · exact q.elim

def loopM (g : TgM) (body : MS) : List D → MS
  | [], ρ => .next ρ
  | d :: ds, ρ => match g d ρ with
    | none => .stuck
    | some ρ1 => match body ρ1 with
      | .next ρ2 => loopM g body ds ρ2
      | .cont ρ2 => loopM g body ds ρ2
      | .brk ρ2 => .next ρ2
      | .stuck => .stuck
      | .ret d ρ2 => .ret d ρ2
      | .exc x ρ2 => .exc x ρ2
def mFor (fi : M (List D)) (g : TgM) (body : MS) : MS := mDo fi fun ds => loopM g body ds
theorem ps_forM {tg iter : Expr} {body : List Stmt} {fi : M (List D)} {P : VP} {ts : List Nat} {g : TgM} {m : MS} {pos : Pos} (hp : PassesOwn (model X.prog X.w) X.A X.env X.xe) (hc : X.calm = true) (hi : PI X tg iter (tI c B W P fi)) (hg : PG X tg (tG c B P ts g)) (hb : PSs X body (tS c B W m))
    (hs : ∀ x, foldedSetIterable iter X.env x = pure x := by intro _; rfl) : PS X (.For tg iter body [] pos) (tS c B W (mFor fi g m)) :=
  ps_imp (ps_for hp hc hi hg hb hs) fun Z σ H ⟨G, A, ρ, R, a⟩ => by
    refine ⟨G, A, ρ, R, (a.split R).imp fun ds ρ1 G1 H1 _ _ R1 a1 J ok => ?_⟩
    refine ⟨fun i n σ2 H2 => n = ds.length - i ∧ i ≤ ds.length ∧ ∃ G2 A2 ρ2, Same G1 G2 ∧ Rel c B G2 A2 H2 σ2 ρ2 ∧ AfterS c B W G2 A2 H2 (loopM g m (ds.drop i) ρ2) Z, ⟨_, rfl, Nat.zero_le _, G1, A, ρ1, Same.refl _, R1, a1⟩, ?_⟩
    rintro i n σ2 H2 ⟨rfl, hi, G2, A2, ρ2, s2, R2, a2⟩
    by_cases hlt : i < ds.length
    · refine .inr ⟨ok.go i H2 hlt (s2.trans R2.same), fun σ3 H3 => ∃ G3 A3 ρ3, Same G1 G3 ∧ Rel c B G3 A3 H3 σ3 ρ3 ∧ AfterS c B W G3 A3 H3 (loopM g m (ds.drop (i + 1)) ρ3) Z, fun σ3 H3 q => ⟨_, by omega, rfl, hlt, q⟩, fun x H3 hy => ?_⟩
      obtain ⟨G3, d, e1, x3, pr⟩ := ok.yld i G2 H2 x H3 hlt s2 R2.same hy
      have R3 := R2.ext x3
      have a3 := AfterS.of R2.own_there (Stp.same x3.gg x3.keep) a2
      have ed : ds.drop i = d :: ds.drop (i + 1) := by
        rw [List.drop_eq_getElem_cons hlt]
        congr 1
        rw [List.getElem?_eq_getElem hlt] at e1
        exact Option.some.inj e1
      rw [ed] at a3
      unfold loopM at a3
      cases eg : g d ρ2 with
      | none => rw [eg] at a3; exact a3.elim
      | some ρ3 =>
        rw [eg] at a3
        have a3 : AfterS c B W G3 A2 H3 (match m ρ3 with
          | .next ρ2 => loopM g m (ds.drop (i + 1)) ρ2
          | .cont ρ2 => loopM g m (ds.drop (i + 1)) ρ2
          | .brk ρ2 => .next ρ2
          | .stuck => .stuck
          | .ret d ρ2 => .ret d ρ2
          | .exc x ρ2 => .exc x ρ2) Z := a3
        refine ⟨G3, A2, ρ2, d, ρ3, R3, pr, eg, fun σ3 R4 _ => ⟨G3, A2, ρ3, R4, ?_⟩⟩
        have sG : Same G1 G3 := s2.trans x3.gg
        cases em : m ρ3 with
        | stuck => rw [em] at a3; exact a3.elim
        | next ρ4 => rw [em] at a3; exact fun G5 A5 H5 σ5 s5 R5 => ⟨G5, A5, ρ4, sG.trans s5.gg, R5, AfterS.of R4.own_there s5 a3⟩
        | cont ρ4 => rw [em] at a3; exact fun G5 A5 H5 σ5 s5 R5 => ⟨G5, A5, ρ4, sG.trans s5.gg, R5, AfterS.of R4.own_there s5 a3⟩
        | brk ρ4 => rw [em] at a3; exact fun G5 A5 H5 σ5 s5 R5 => a3 G5 A5 H5 σ5 s5 R5
        | ret d' ρ4 => rw [em] at a3; exact a3
        | exc x ρ4 => rw [em] at a3; exact a3
    · have ei : i = ds.length := by omega
      subst ei
      rw [List.drop_length] at a2
      exact .inl ⟨ok.stop H2 (s2.trans R2.same), a2.nx R2⟩
def whileM (t : M Bool) (body : MS) : Nat → MS
  | 0, _ => .stuck
  | n + 1, ρ => match t ρ with
    | .stuck => .stuck
    | .exc x ρ1 => .exc x ρ1
    | .ok b ρ1 => if b = true then (match body ρ1 with
      | .next ρ2 => whileM t body n ρ2
      | .cont ρ2 => whileM t body n ρ2
      | .brk ρ2 => .next ρ2
      | .stuck => .stuck
      | .ret d ρ2 => .ret d ρ2
      | .exc x ρ2 => .exc x ρ2) else .next ρ1
theorem ps_whileM (n : Nat) {t : Expr} {body : List Stmt} {f : M Bool} {m : MS} {pos : Pos} (hp : PassesOwn (model X.prog X.w) X.A X.env X.xe) (ht : PT X t (tT c B W f)) (hb : PSs X body (tS c B W m)) : PS X (.While t body [] pos) (tS c B W (whileM f m n)) :=
  ps_imp (ps_while hp ht hb) fun Z σ H ⟨G, A, ρ, R, a⟩ => by
    refine ⟨fun n σ2 H2 => ∃ G2 A2 ρ2, Rel c B G2 A2 H2 σ2 ρ2 ∧ AfterS c B W G2 A2 H2 (whileM f m n ρ2) Z, ⟨n, G, A, ρ, R, a⟩, ?_⟩
    rintro n σ2 H2 ⟨G2, A2, ρ2, R2, a2⟩
    cases n with
    | zero => exact a2.elim
    | succ n =>
      unfold whileM at a2
      refine ⟨G2, A2, ρ2, R2, ?_⟩
      have a3 := (show AfterS c B W G2 A2 H2 (mDo f (fun b ρ1 => if b = true then (match m ρ1 with
        | .next ρ2 => whileM f m n ρ2
        | .cont ρ2 => whileM f m n ρ2
        | .brk ρ2 => .next ρ2
        | .stuck => .stuck
        | .ret d ρ2 => .ret d ρ2
        | .exc x ρ2 => .exc x ρ2) else .next ρ1) ρ2) Z from by
          unfold mDo
          cases e : f ρ2 <;> rw [e] at a2 <;> exact a2).split R2
      refine a3.imp fun b ρ3 G3 H3 _ _ R3 q => ite_prop (fun e => ?_) (fun e => ?_)
      · rw [if_pos e] at q
        refine ⟨fun σ4 H4 => ∃ G4 A4 ρ4, Rel c B G4 A4 H4 σ4 ρ4 ∧ AfterS c B W G4 A4 H4 (whileM f m n ρ4) Z, fun σ4 H4 q => ⟨n, Nat.lt_succ_self n, q⟩, G3, A2, ρ3, R3, ?_⟩
        cases em : m ρ3 with
        | stuck => rw [em] at q; exact q.elim
        | next ρ4 => rw [em] at q; exact fun G5 A5 H5 σ5 s5 R5 => ⟨G5, A5, ρ4, R5, AfterS.of R3.own_there s5 q⟩
        | cont ρ4 => rw [em] at q; exact fun G5 A5 H5 σ5 s5 R5 => ⟨G5, A5, ρ4, R5, AfterS.of R3.own_there s5 q⟩
        | brk ρ4 => rw [em] at q; exact fun G5 A5 H5 σ5 s5 R5 => q G5 A5 H5 σ5 s5 R5
        | ret d' ρ4 => rw [em] at q; exact q
        | exc x ρ4 => rw [em] at q; exact q
      · rw [if_neg (by rw [e]; exact Bool.false_ne_true)] at q
        exact q.nx R3
end
end Fx
set_option Elab.async false
set_option linter.all false
set_option maxRecDepth 100000
set_option maxHeartbeats 4000000
namespace Fx
open PySem L2
def wipeC (ρ : Cells) : List Nat → Cells
  | [] => ρ
  | v :: vs => (wipeC ρ vs).set v .no
def cellOr : Option Cell → Cell
  | some x => x
  | none => .no
def unwipe (ρ0 ρ : Cells) : List Nat → Cells
  | [] => ρ
  | v :: vs => (unwipe ρ0 ρ vs).set v (cellOr ρ0[v]?)
def isOwn : Option Cell → Bool
  | some (.own _) => true
  | _ => false
def lcM (g : TgM) (tt : M Bool) (fe : M D) (vs : List Nat) : List D → Cells → Option (List D × Cells)
  | [], ρ => some ([], ρ)
  | d :: ds, ρ => match g d (wipeC ρ vs) with
    | none => none
    | some ρ1 => match tt ρ1 with
      | .ok b ρ2 => if b = true then (match fe ρ2 with
        | .ok e ρ3 => (lcM g tt fe vs ds ρ3).map fun r => (e :: r.1, r.2)
        | _ => none) else lcM g tt fe vs ds ρ2
      | _ => none
def mLc (fi : M (List D)) (g : TgM) (tt : M Bool) (fe : M D) (vs : List Nat) : M D := fi.bind fun ds => fun ρ => if vs.all (fun v => !isOwn ρ[v]?) = true then (match lcM g tt fe vs ds ρ with
  | some (es, ρ') => .ok (.lst es) (unwipe ρ ρ' vs)
  | none => .stuck) else .stuck
theorem wipeC_len (ρ : Cells) : ∀ vs : List Nat, (wipeC ρ vs).length = ρ.length
  | [] => rfl
  | v :: vs => by unfold wipeC; rw [List.length_set, wipeC_len]
theorem unwipe_len (ρ0 ρ : Cells) : ∀ vs : List Nat, (unwipe ρ0 ρ vs).length = ρ.length
  | [] => rfl
  | v :: vs => by unfold unwipe; rw [List.length_set, unwipe_len]
theorem wipeC_out {ρ : Cells} {i : Nat} : ∀ {vs : List Nat}, i ∉ vs → (wipeC ρ vs)[i]? = ρ[i]?
  | [], _ => rfl
  | v :: vs, h => by
    simp only [List.mem_cons, not_or] at h
    unfold wipeC
    rw [List.getElem?_set_ne (Ne.symm h.1), wipeC_out h.2]
theorem wipeC_in {ρ : Cells} {i : Nat} : ∀ {vs : List Nat}, i ∈ vs → (wipeC ρ vs)[i]? = none ∨ (wipeC ρ vs)[i]? = some .no
  | v :: vs, h => by
    unfold wipeC
    by_cases z : v = i
    · subst z
      by_cases hl : v < (wipeC ρ vs).length
      · exact .inr (List.getElem?_set_self hl)
      · exact .inl (List.getElem?_eq_none (by rw [List.length_set]; omega))
    · rw [List.getElem?_set_ne z]
      rcases List.mem_cons.mp h with e | e
      · exact absurd e.symm z
      · exact wipeC_in e
theorem wipe_out {σ : L2.St} {i : Nat} : ∀ {vs : List Nat}, i ∉ vs → (wipe σ vs)[i]? = σ[i]?
  | [], _ => rfl
  | v :: vs, h => by
    simp only [List.mem_cons, not_or] at h
    unfold wipe
    rw [List.getElem?_set_ne (Ne.symm h.1), wipe_out h.2]
theorem wipe_in {σ : L2.St} {i : Nat} (hl : i < σ.length) : ∀ {vs : List Nat}, i ∈ vs → (wipe σ vs)[i]? = some none
  | v :: vs, h => by
    unfold wipe
    by_cases z : v = i
    · subst z; exact List.getElem?_set_self (by rw [wipe_length]; exact hl)
    · rw [List.getElem?_set_ne z]
      rcases List.mem_cons.mp h with e | e
      · exact absurd e.symm z
      · exact wipe_in hl e
theorem wipe_only {σ σ' : L2.St} {ts vs : List Nat} (h : Only ts (wipe σ vs) σ') (ht : ∀ t ∈ ts, t ∈ vs) : wipe σ' vs = wipe σ vs := by
  have hl : σ'.length = σ.length := h.1.trans (wipe_length σ vs)
  apply List.ext_getElem?
  intro i
  by_cases hi : i ∈ vs
  · by_cases hlt : i < σ.length
    · rw [wipe_in hlt hi, wipe_in (by rw [hl]; exact hlt) hi]
    · rw [List.getElem?_eq_none (by rw [wipe_length, hl]; omega), List.getElem?_eq_none (by rw [wipe_length]; omega)]
  · rw [wipe_out hi, h.2 i fun z => hi (ht i z)]
theorem unwipe_out {ρ0 ρ : Cells} {i : Nat} : ∀ {vs : List Nat}, i ∉ vs → (unwipe ρ0 ρ vs)[i]? = ρ[i]?
  | [], _ => rfl
  | v :: vs, h => by
    simp only [List.mem_cons, not_or] at h
    unfold unwipe
    rw [List.getElem?_set_ne (Ne.symm h.1), unwipe_out h.2]
theorem unwipe_in {ρ0 ρ : Cells} {i : Nat} (hl : i < ρ.length) : ∀ {vs : List Nat}, i ∈ vs → (unwipe ρ0 ρ vs)[i]? = some (cellOr ρ0[i]?)
  | v :: vs, h => by
    unfold unwipe
    by_cases z : v = i
    · subst z; exact List.getElem?_set_self (by rw [unwipe_len]; exact hl)
    · rw [List.getElem?_set_ne z]
      rcases List.mem_cons.mp h with e | e
      · exact absurd e.symm z
      · exact unwipe_in hl e
section
variable {c : Cf} {B : List (Nat × Addr)} {W : WX} {X : Cx} {G H : Hp} {A : Addr → Prop} {σ : L2.St} {ρ : Cells} {Z : Ends}
theorem Rel.wipe (R : Rel c B G A H σ ρ) {vs : List Nat} (hB : B.all (fun q => !vs.contains q.1) = true) : Rel c B G A H (wipe σ vs) (wipeC ρ vs) := by
  have nin : ∀ (i : Nat) (x : Cell), (wipeC ρ vs)[i]? = some x → x ≠ .no → i ∉ vs ∧ ρ[i]? = some x := fun i x h hx => by
    by_cases hi : i ∈ vs
    · rcases wipeC_in (ρ := ρ) hi with e | e
      · rw [e] at h; cases h
      · rw [e] at h; cases h; exact absurd rfl hx
    · exact ⟨hi, by rw [wipeC_out hi] at h; exact h⟩
  refine ⟨R.same, by rw [wipe_length, wipeC_len]; exact R.len, R.ownA, fun i d h => ?_, fun i d h => ?_, fun i j d e p hij h1 h2 h3 h4 => ?_, fun q hq => ?_⟩
  · obtain ⟨hi, h'⟩ := nin i _ h (fun z => by cases z)
    obtain ⟨v, h1, h2⟩ := R.dat i d h'
    exact ⟨v, by rw [wipe_out hi]; exact h1, h2⟩
  · obtain ⟨hi, h'⟩ := nin i _ h (fun z => by cases z)
    obtain ⟨v, h1, h2⟩ := R.own i d h'
    exact ⟨v, by rw [wipe_out hi]; exact h1, h2⟩
  · obtain ⟨hi, h1'⟩ := nin i _ h1 (fun z => by cases z)
    obtain ⟨hj, h2'⟩ := nin j _ h2 (fun z => by cases z)
    rw [wipe_out hi] at h3
    rw [wipe_out hj] at h4
    exact R.dis i j d e p hij h1' h2' h3 h4
  · obtain ⟨h1, h2, x, h3⟩ := R.byr q hq
    have hi : q.1 ∉ vs := by
      have := List.all_eq_true.mp hB q hq
      simpa using this
    exact ⟨by rw [wipe_out hi]; exact h1, h2, x, by rw [wipeC_out hi]; exact h3⟩
theorem Rel.unwipe (R : Rel c B G A H σ ρ) {G' H' : Hp} {ρ' : Cells} {vs : List Nat} (s : Same G G') (hv : vs.all (fun v => !isOwn ρ[v]?) = true) (hB : B.all (fun q => !vs.contains q.1) = true) (R' : Rel c B G' A H' (L2.wipe σ vs) (wipeC ρ' vs)) : Rel c B G' A H' σ (Fx.unwipe ρ ρ' vs) := by
  have hl : ρ'.length = σ.length := by
    have := R'.len
    rw [wipe_length, wipeC_len] at this
    exact this.symm
  have get : ∀ (i : Nat) (x : Cell), (Fx.unwipe ρ ρ' vs)[i]? = some x → x ≠ .no → (i ∈ vs ∧ ρ[i]? = some x ∧ ∀ d, x ≠ .own d) ∨ (i ∉ vs ∧ (wipeC ρ' vs)[i]? = some x) := fun i x h hx => by
    by_cases hi : i ∈ vs
    · have hlt : i < ρ'.length := by
        have := (List.getElem?_eq_some_iff.mp h).1
        rwa [unwipe_len] at this
      rw [unwipe_in hlt hi] at h
      refine .inl ⟨hi, ?_, fun d z => ?_⟩
      · cases e : ρ[i]? with
        | none => rw [e] at h; cases h; exact absurd rfl hx
        | some y => rw [e] at h; exact h
      · subst z
        have := List.all_eq_true.mp hv i hi
        cases e : ρ[i]? with
        | none => rw [e] at h; cases h
        | some y =>
          rw [e] at h this
          cases h
          cases this
    · exact .inr ⟨hi, by rw [wipeC_out hi]; rw [unwipe_out hi] at h; exact h⟩
  refine ⟨R'.same, by rw [unwipe_len, hl], R'.ownA, fun i d h => ?_, fun i d h => ?_, fun i j d e p hij h1 h2 h3 h4 => ?_, fun q hq => ?_⟩
  · rcases get i _ h (fun z => by cases z) with ⟨hi, h', _⟩ | ⟨hi, h'⟩
    · obtain ⟨v, h1, h2⟩ := R.dat i d h'
      exact ⟨v, h1, h2.mono s⟩
    · obtain ⟨v, h1, h2⟩ := R'.dat i d h'
      rw [wipe_out hi] at h1
      exact ⟨v, h1, h2⟩
  · rcases get i _ h (fun z => by cases z) with ⟨hi, h', n⟩ | ⟨hi, h'⟩
    · exact absurd rfl (n d)
    · obtain ⟨v, h1, h2⟩ := R'.own i d h'
      rw [wipe_out hi] at h1
      exact ⟨v, h1, h2⟩
  · rcases get i _ h1 (fun z => by cases z) with ⟨hi, h', n⟩ | ⟨hi, h1'⟩
    · exact absurd rfl (n d)
    · rcases get j _ h2 (fun z => by cases z) with ⟨hj, h', n⟩ | ⟨hj, h2'⟩
      · exact absurd rfl (n e)
      · exact R'.dis i j d e p hij h1' h2' (by rw [wipe_out hi]; exact h3) (by rw [wipe_out hj]; exact h4)
  · have hi : q.1 ∉ vs := by
      have := List.all_eq_true.mp hB q hq
      simpa using this
    obtain ⟨h1, h2, x, h3⟩ := R'.byr q hq
    rw [wipe_out hi] at h1
    rw [wipeC_out hi] at h3
    exact ⟨h1, h2, x, by rw [unwipe_out hi]; exact h3⟩
/-- a cell that nobody speaks of is changed, or forgotten -/
theorem Rel.other (R : Rel c B G A H σ ρ) {H' : Hp} {p : Addr} (gp : G p = none) (na : ¬ A p) (k : ∀ b, b ≠ p → H' b = H b) : Rel c B G A H' σ ρ := by
  refine ⟨fun b o e => ?_, R.len, fun b h => ?_, R.dat, fun i d h => ?_, R.dis, R.byr⟩
  · rw [k b (ne_of_none e gp)]; exact R.same b o e
  · obtain ⟨h1, o, h2⟩ := R.ownA b h
    exact ⟨h1, o, by rw [k b fun z => na (by rw [← z]; exact h)]; exact h2⟩
  · obtain ⟨q, h1, h2, h3⟩ := R.own i d h
    exact ⟨q, h1, h2, by rw [k q fun z => na (by rw [← z]; exact h2)]; exact h3⟩
abbrev W0 : WX := fun _ _ _ _ => False
/-- the heart of a comprehension -/
theorem lc_read {fi : M (List D)} {P : VP} {ts vs : List Nat} {g : TgM} {tt : M Bool} {fe : M D} {Q : VK} (ht : ts.all (fun t => vs.contains t) = true) (hB : B.all (fun q => !vs.contains q.1) = true) (h : tF c B W (mLc fi g tt fe vs) σ H Q) :
    tLc (tI c B W P fi) (tG c B P ts g) (tT c B W0 tt) (tM c B W0 fe) vs σ H Q := by
  have ht' : ∀ t ∈ ts, t ∈ vs := fun t h => by
    have := List.all_eq_true.mp ht t h
    simpa using this
  obtain ⟨G, A, ρ, R, a⟩ := h
  refine ⟨G, A, ρ, R, a.split.imp fun ds ρ1 G1 H1 _ _ R1 a1 J okJ D hD => ?_⟩
  cases hv : vs.all (fun v => !isOwn ρ1[v]?) with
  | false => 
    have a1 : After c B W G1 A H1 σ (if vs.all (fun v => !isOwn ρ1[v]?) = true then (match lcM g tt fe vs ds ρ1 with | some (es, ρ') => Out.ok (Fx.D.lst es) (Fx.unwipe ρ1 ρ' vs) | none => .stuck) else .stuck) _ := a1
    rw [if_neg (by rw [hv]; exact Bool.false_ne_true)] at a1
    exact a1.elim
  | true =>
    have a1 : After c B W G1 A H1 σ (if vs.all (fun v => !isOwn ρ1[v]?) = true then (match lcM g tt fe vs ds ρ1 with | some (es, ρ') => Out.ok (Fx.D.lst es) (Fx.unwipe ρ1 ρ' vs) | none => .stuck) else .stuck) _ := a1
    rw [if_pos hv] at a1
    cases hl : lcM g tt fe vs ds ρ1 with
    | none => rw [hl] at a1; exact a1.elim
    | some r =>
      obtain ⟨es, ρe⟩ := r
      rw [hl] at a1
      have gD : G1 D = none := R1.same.free hD
      have nD : ¬ A D := fun z => by obtain ⟨_, o, q⟩ := R1.ownA D z; rw [hD] at q; cases q
      refine ⟨fun i n H2 => n = ds.length - i ∧ i ≤ ds.length ∧ ∃ G2 ρ2 acc es1 es2, Same G1 G2 ∧ G2 D = none ∧ Keep A G1 H1 G2 H2 ∧ Rel c B G2 A H2 (L2.wipe σ vs) (wipeC ρ2 vs) ∧ H2 D = some (.lst acc) ∧ RepL c G2 acc es1 ∧ acc.length ≤ i ∧
        lcM g tt fe vs (ds.drop i) ρ2 = some (es2, ρe) ∧ es1 ++ es2 = es, ⟨_, rfl, Nat.zero_le _, G1, ρ1, [], [], es, Same.refl _, gD, fun b o e n => ⟨by rw [upd_ne (ne_of_none e hD)]; exact e, rfl⟩, (R1.other gD nD fun b hb => upd_ne hb).wipe hB, upd_same, .nil, Nat.le_refl _, hl, rfl⟩, ?_⟩
      rintro i n H2 ⟨rfl, hi, G2, ρ2, acc, es1, es2, s2, g2, k2, R2, hacc, racc, hlen, hlc, hes⟩
      by_cases hlt : i < ds.length
      · refine .inr ⟨okJ.go i H2 hlt (s2.trans R2.same), fun H' => ∃ G2 ρ2 acc es1 es2, Same G1 G2 ∧ G2 D = none ∧ Keep A G1 H1 G2 H' ∧ Rel c B G2 A H' (L2.wipe σ vs) (wipeC ρ2 vs) ∧ H' D = some (.lst acc) ∧ RepL c G2 acc es1 ∧ acc.length ≤ i + 1 ∧
          lcM g tt fe vs (ds.drop (i + 1)) ρ2 = some (es2, ρe) ∧ es1 ++ es2 = es, fun H' q => ⟨_, by omega, rfl, hlt, q⟩, fun x H3 hy => ?_⟩
        obtain ⟨G3, d, e1, x3, pr⟩ := okJ.yld i G2 H2 x H3 hlt s2 R2.same hy
        have R3 := R2.ext x3
        have hacc3 := x3.hh D _ hacc
        have g3 : G3 D = none := (x3.new D _ hacc).trans g2
        have k3 : Keep A G1 H1 G3 H3 := k2.trans x3.keep
        have ed : ds.drop i = d :: ds.drop (i + 1) := by
          rw [List.drop_eq_getElem_cons hlt]
          congr 1
          rw [List.getElem?_eq_getElem hlt] at e1
          exact Option.some.inj e1
        rw [ed] at hlc
        unfold lcM at hlc
        cases eg : g d (wipeC ρ2 vs) with
        | none => rw [eg] at hlc; cases hlc
        | some ρ3 =>
          rw [eg] at hlc
          refine ⟨G3, A, _, d, ρ3, R3, pr, eg, fun σ4 R4 o4 => ⟨wipe_only o4 ht', G3, A, ρ3, R4, ?_⟩⟩
          have ew := wipe_only o4 ht'
          cases et : tt ρ3 with
          | stuck => simp only [et] at hlc; cases hlc
          | exc x r => simp only [et] at hlc; cases hlc
          | ok b ρ4 =>
            simp only [et] at hlc
            intro G4 H4 s4 k4 R5
            have hacc4 := k4 D _ hacc3 nD
            refine ite_prop (fun eb => ?_) (fun eb => ?_)
            · rw [if_pos eb] at hlc
              refine ⟨G4, A, ρ4, R5, ?_⟩
              cases ef : fe ρ4 with
              | stuck => simp only [ef] at hlc; cases hlc
              | exc x r => simp only [ef] at hlc; cases hlc
              | ok e ρ5 =>
                simp only [ef] at hlc
                intro G5 H5 s5 k5 R6 v rv
                have hacc5 := k5 D _ hacc4.1 nD
                cases er : lcM g tt fe vs (ds.drop (i + 1)) ρ5 with
                | none => rw [er] at hlc; cases hlc
                | some r =>
                  obtain ⟨es3, ρe'⟩ := r
                  rw [er] at hlc
                  have hlc' : some (e :: es3, ρe') = some (es2, ρe) := hlc
                  cases hlc'
                  have g5 : G5 D = none := hacc5.2.trans (hacc4.2.trans g3)
                  have hsl := okJ.len
                  refine ⟨acc, hacc5.1, by omega, G5, ρ5, acc ++ [v], es1 ++ [e], es3, s2.trans (x3.gg.trans (s4.trans s5)), g5, ?_, ?_, upd_same, (racc.mono (x3.gg.trans (s4.trans s5))).append (.one rv), by rw [List.length_append]; simp; exact hlen, er, by rw [List.append_assoc]; exact hes⟩
                  · intro b o hb hn
                    have q := (k3.trans (k4.trans k5)) b o hb hn
                    exact ⟨by rw [upd_ne (ne_of_none hb hD)]; exact q.1, q.2⟩
                  · rw [← ew]
                    exact (R6.other g5 nD fun b hb => upd_ne hb).wipe hB
            · rw [if_neg (by rw [eb]; exact Bool.false_ne_true)] at hlc
              refine ⟨G4, ρ4, acc, es1, es2, s2.trans (x3.gg.trans s4), hacc4.2.trans g3, k3.trans k4, ?_, hacc4.1, racc.mono (x3.gg.trans s4), by omega, hlc, hes⟩
              rw [← ew]
              exact R5.wipe hB
      · have ei : i = ds.length := by omega
        subst ei
        rw [List.drop_length] at hlc
        cases hlc
        rw [List.append_nil] at hes
        subst hes
        have R3 : Rel c B G2 A (fun b => if b = D then none else H2 b) (L2.wipe σ vs) (wipeC ρe vs) := R2.other g2 nD fun b hb => if_neg hb
        have R4 := R1.unwipe s2 hv hB R3
        refine .inl ⟨okJ.stop H2 (s2.trans R2.same), a1 G2 _ s2 (fun b o hb hn => ?_) R4 D H2 (if_pos rfl) (fun b o hb => ?_) ⟨acc, hacc, racc⟩⟩
        · have q := k2 b o hb hn
          exact ⟨by show (if b = D then none else H2 b) = some o; rw [if_neg (ne_of_none hb hD)]; exact q.1, q.2⟩
        · have hb : (if b = D then none else H2 b) = some o := hb
          by_cases z : b = D
          · rw [if_pos z] at hb; cases hb
          · rw [if_neg z] at hb; exact hb
theorem pts_nilM : PTs X [] (tT c B W (M.pure true)) := ⟨fun pins s σ H Q I ⟨G, A, ρ, R, a⟩ => pts_nil.run pins s σ H Q I (After.ok a R)⟩
theorem pts_oneM {t : Expr} {f : M Bool} (h : PT X t (tT c B W f)) : PTs X [t] (tT c B W f) := pts_one h
theorem pf_lc {elt tg iter : Expr} {ifs : List Expr} {scope : Scope} (own : List (Str × Nat)) {pos : Pos} {fi : M (List D)} {P : VP} {ts : List Nat} {g : TgM} {tt : M Bool} {fe : M D} (hc : X.calm = true) (hN : X.N.Nodup) (hi : PI X tg iter (tI c B W P fi)) (ok : BlkOk X.N X.env.scope scope own)
    (ht : ts.all (fun t => (own.map (·.2)).contains t) = true) (hB : B.all (fun q => !(own.map (·.2)).contains q.1) = true)
    (hg : ∀ (s : Shared) (H : Hp) (C : Addr) (cl : List (Str × Addr)) (fp : List Addr), PG (X.blk s H scope (compEnvC scope cl C X.env) fp) tg (tG c B P ts g)) (htt : ∀ (s : Shared) (H : Hp) (C : Addr) (cl : List (Str × Addr)) (fp : List Addr), PTs (X.blk s H scope (compEnvC scope cl C X.env) fp) ifs (tT c B W0 tt))
    (he : ∀ (s : Shared) (H : Hp) (C : Addr) (cl : List (Str × Addr)) (fp : List Addr), PE (X.blk s H scope (compEnvC scope cl C X.env) fp) elt (tM c B W0 fe)) (hs : ∀ x, foldedSetIterable iter X.env x = pure x := by intro _; rfl) :
    PE X (.ListComp elt [⟨tg, iter, ifs, 0⟩] scope pos) (tF c B W (mLc fi g tt fe (own.map (·.2)))) :=
  pe_imp (pe_lc hc hN hi ok hg htt he hs) fun σ H Q h => lc_read ht hB h
/-- y = [..] on one line, y a local that no inner block reads -/
theorem ps_asgLc (i : Nat) {y : Str} {py : Pos} {elt tg iter : Expr} {ifs : List Expr} {scope : Scope} (own : List (Str × Nat)) {pos spos : Pos} {fi : M (List D)} {P : VP} {ts : List Nat} {g : TgM} {tt : M Bool} {fe : M D} (hc : X.calm = true) (hN : X.N.Nodup) (hy : X.N[i]? = some y) (hyl : X.env.scope.names.lookup y = some .local)
    (hsw : swapsWith (.ListComp elt [⟨tg, iter, ifs, 0⟩] scope pos) (some (.Name y py)) spos.line X.env = pure true) (hb : B.all (fun q => q.1 != i) = true) (hi : PI X tg iter (tI c B W P fi)) (ok : BlkOk X.N X.env.scope scope own)
    (ht : ts.all (fun t => (own.map (·.2)).contains t) = true) (hB : B.all (fun q => !(own.map (·.2)).contains q.1) = true)
    (hg : ∀ (s : Shared) (H : Hp) (C : Addr) (cl : List (Str × Addr)) (fp : List Addr), PG (X.blk s H scope (compEnvC scope cl C X.env) fp) tg (tG c B P ts g)) (htt : ∀ (s : Shared) (H : Hp) (C : Addr) (cl : List (Str × Addr)) (fp : List Addr), PTs (X.blk s H scope (compEnvC scope cl C X.env) fp) ifs (tT c B W0 tt))
    (he : ∀ (s : Shared) (H : Hp) (C : Addr) (cl : List (Str × Addr)) (fp : List Addr), PE (X.blk s H scope (compEnvC scope cl C X.env) fp) elt (tM c B W0 fe)) (hs : ∀ x, foldedSetIterable iter X.env x = pure x := by intro _; rfl) :
    PS X (.Assign [.Name y py] (.ListComp elt [⟨tg, iter, ifs, 0⟩] scope pos) spos) (tS c B W (mAsg (mLc fi g tt fe (own.map (·.2))) (gNm i))) :=
  ps_imp (ps_setLc hc hN hy hyl hsw hi ok hg htt he hs) fun Z σ H ⟨G, A, ρ, R, a⟩ => by
    refine lc_read (W := W) ht hB ⟨G, A, ρ, R, (a.split R).imp fun d ρ' G' H' _ _ R' q p H2 hp hh ho => ?_⟩
    obtain ⟨G2, x2, r2⟩ := ext_own R'.same hp hh ho
    exact AfterS.nx (AfterS.of R'.own_there (Stp.same x2.gg x2.keep) q) ((R'.ext x2).setDat r2 hb)
end
end Fx
set_option Elab.async false
set_option linter.all false
set_option maxRecDepth 100000
set_option maxHeartbeats 4000000
namespace Fx
open PySem L2
inductive FOut where
  | stuck | ret (d : D) (outs : List D) | exc (x : Exc) (outs : List D)
abbrev Fn := List D → FOut
/-- the arguments as they lie; bs: the places by reference -/
structure ArgsOk (c : Cf) (bs : List Nat) (G : Hp) (A : Addr → Prop) (H : Hp) (vs : List V) (ds : List D) : Prop where
  same : Same G H
  ownA : ∀ b, A b → G b = none ∧ ∃ o, H b = some o
  len : vs.length = ds.length
  dat : ∀ (i : Nat) (d : D), ds[i]? = some d → i ∉ bs → ∃ v, vs[i]? = some v ∧ Rep c G v d
  own : ∀ (i : Nat) (d : D), ds[i]? = some d → i ∈ bs → ∃ p, vs[i]? = some (.ref p) ∧ A p ∧ Own c G (H p) d
  dis : ∀ (i j : Nat) (p : Addr), i ≠ j → i ∈ bs → j ∈ bs → vs[i]? = some (.ref p) → vs[j]? = some (.ref p) → False
def Outs (c : Cf) (bs : List Nat) (G H : Hp) (vs : List V) (outs : List D) : Prop := outs.length = bs.length ∧ ∀ (k i : Nat) (d : D), bs[k]? = some i → outs[k]? = some d → ∃ p, vs[i]? = some (.ref p) ∧ Own c G (H p) d
/-- behind a call -/
structure Ret (c : Cf) (bs : List Nat) (G : Hp) (A : Addr → Prop) (H : Hp) (vs : List V) (outs : List D) (G' H' : Hp) : Prop where
  gg : Same G G'
  kp : Keep A G H G' H'
  gh : Same G' H'
  ownA : ∀ b, A b → G' b = none ∧ ∃ o, H' b = some o
  outs : Outs c bs G' H' vs outs
def AfterF (c : Cf) (bs : List Nat) (G : Hp) (A : Addr → Prop) (H : Hp) (vs : List V) (o : FOut) (Q : VK) (E : XK) : Prop := match o with
  | .stuck => False
  | .ret d outs => ∀ G' H' v, Ret c bs G A H vs outs G' H' → Rep c G' v d → Q v H'
  | .exc x outs => ∀ G' H' dd, Ret c bs G A H vs outs G' H' → ExcAt c G' x dd → E (.ref (c.exc x.c)) (some dd) H'
/-- a def keeps its meaning F -/
def spM (c : Cf) (bs : List Nat) (n : Nat) (F : Fn) : Sp := fun vs H Q E => ∃ G A ds, ds.length = n ∧ ArgsOk c bs G A H vs ds ∧ AfterF c bs G A H vs (F ds) Q E

def ownPos : Nat → List Opn → List Nat
  | _, [] => []
  | n, .dat _ :: os => ownPos (n + 1) os
  | n, .own _ :: os => n :: ownPos (n + 1) os
def ownSlots : List Opn → List Nat
  | [] => []
  | .dat _ :: os => ownSlots os
  | .own k :: os => k :: ownSlots os
def rdA : List Opn → List D → Cells → Option (List D)
  | [], [], _ => some []
  | .dat _ :: os, a :: as, ρ => (rdA os as ρ).map fun ds => a :: ds
  | .own k :: os, _ :: as, ρ => match ρ[k]? with
    | some (.own d) => (rdA os as ρ).map fun ds => d :: ds
    | _ => none
  | _, _, _ => none
def setOuts : List Nat → List D → Cells → Cells
  | k :: ks, o :: outs, ρ => setOuts ks outs (ρ.set k (.own o))
  | _, _, ρ => ρ
def mCallF (F : Fn) (os : List Opn) : M D := (preL os).bind fun as => fun ρ => match rdA os as ρ with
  | none => .stuck
  | some ds => match F ds with
    | .stuck => .stuck
    | .ret d outs => .ok d (setOuts (ownSlots os) outs ρ)
    | .exc x outs => .exc x (setOuts (ownSlots os) outs ρ)
inductive ArgV (c : Cf) (G : Hp) (σ : L2.St) : List Opn → List D → List V → Prop
  | nil : ArgV c G σ [] [] []
  | dat {f : M D} {os as vs a v} : Rep c G v a → ArgV c G σ os as vs → ArgV c G σ (.dat f :: os) (a :: as) (v :: vs)
  | own {k : Nat} {v : V} {os as vs a} : σ[k]? = some (some v) → ArgV c G σ os as vs → ArgV c G σ (.own k :: os) (a :: as) (v :: vs)
theorem ArgV.mono {c : Cf} {G G' : Hp} {σ : L2.St} (e : Same G G') : ∀ {os as vs}, ArgV c G σ os as vs → ArgV c G' σ os as vs
  | _, _, _, .nil => .nil
  | _, _, _, .dat r t => .dat (r.mono e) (t.mono e)
  | _, _, _, .own r t => .own r (t.mono e)
def tR (c : Cf) (B : List (Nat × Addr)) (W : WX) (os : List Opn) : TA := fun σ H Q => ∃ G A ρ, Rel c B G A H σ ρ ∧ After c B W G A H σ (preL os ρ) fun as _ G' H' => ∀ vs, ArgV c G' σ os as vs → Q vs H'
section
variable {c : Cf} {B : List (Nat × Addr)} {W : WX} {X : Cx} {G H : Hp} {A : Addr → Prop} {σ : L2.St} {ρ : Cells}
theorem pr_nil : PA X [] (tR c B W []) := pa_imp pa_nil fun σ H Q ⟨G, A, ρ, R, a⟩ => After.ok a R [] .nil
theorem pr_dat {e : Expr} {es : List Expr} {f : M D} {os : List Opn} (ha : PE X e (tM c B W f)) (hr : PA X es (tR c B W os)) (hs : starEach (e :: es) X.env = (false, eval e X.env) :: starEach es X.env := by rfl) : PA X (e :: es) (tR c B W (.dat f :: os)) :=
  pa_imp (pa_cons ha hr hs) fun σ H Q ⟨G, A, ρ, R, a⟩ => by
    refine ⟨G, A, ρ, R, (show After c B W G A H σ ((f.bind _) ρ) _ from a).split.imp fun d ρ1 G1 H1 _ _ R1 a1 v r => ?_⟩
    refine ⟨G1, A, ρ1, R1, a1.split.imp fun ds ρ2 G2 H2 s2 _ R2 a2 vs rs => ?_⟩
    exact After.ok a2 R2 (v :: vs) (.dat (r.mono s2) rs)
theorem pr_own (i : Nat) {x : Str} {pos : Pos} {es : List Expr} {os : List Opn} (hr : PA X es (tR c B W os)) (hN : X.N[i]? = some x := by rfl) (hv : Vis X.env.scope x := by first | exact Or.inl rfl | exact Or.inr (Or.inl rfl) | exact Or.inr (Or.inr rfl)) (hd : (x == ("__debug__" : Str)) = false := by decide)
    (hcd : (x == ("__classdict__" : Str)) = false := by decide) (hs : starEach (.Name x pos :: es) X.env = (false, eval (.Name x pos) X.env) :: starEach es X.env := by rfl) : PA X (.Name x pos :: es) (tR c B W (.own i :: os)) :=
  pa_imp (pa_cons (pe_var hN hv hd hcd) hr hs) fun σ H Q ⟨G, A, ρ, R, a⟩ => by
    have a' := (show After c B W G A H σ (((Opn.own i).pre.bind _) ρ) _ from a).split
    unfold Opn.pre at a'
    cases e : cellD ρ[i]? with
    | none => simp only [e] at a'; exact a'.elim
    | some d =>
      simp only [e] at a'
      obtain ⟨v, hv, o⟩ := R.cell e
      refine ⟨v, hv, G, A, ρ, R, (After.ok a' R).split.imp fun ds ρ2 G2 H2 s2 k2 R2 q vs rs => ?_⟩
      exact After.ok q R2 (v :: vs) (.own hv rs)
/-- the addresses that a call may change -/
def callA (σ : L2.St) (ks : List Nat) : Addr → Prop := fun b => ∃ k ∈ ks, σ[k]? = some (some (.ref b))
theorem mem_ownPos : ∀ {os : List Opn} {n i : Nat}, i ∈ ownPos n os → n ≤ i
  | .dat _ :: os, n, i, h => by have := mem_ownPos (os := os) (n := n + 1) h; omega
  | .own _ :: os, n, i, h => by
    rcases List.mem_cons.mp h with e | e
    · omega
    · have := mem_ownPos (os := os) (n := n + 1) e; omega
/-- the arguments as the callee finds them -/
theorem argV_at (R : Rel c B G A H σ ρ) : ∀ {os : List Opn} {as ds : List D} {vs : List V} (n : Nat), ArgV c G σ os as vs → rdA os as ρ = some ds →
    vs.length = ds.length ∧ vs.length = os.length ∧ (∀ (i : Nat) (d : D), ds[i]? = some d → n + i ∉ ownPos n os → ∃ v, vs[i]? = some v ∧ Rep c G v d) ∧
      (∀ (i : Nat) (d : D), ds[i]? = some d → n + i ∈ ownPos n os → ∃ k p, k ∈ ownSlots os ∧ σ[k]? = some (some (.ref p)) ∧ ρ[k]? = some (.own d) ∧ vs[i]? = some (.ref p) ∧ A p ∧ Own c G (H p) d)
  | _, _, _, _, n, .nil, h => by cases h; exact ⟨rfl, rfl, fun i d e => by simp at e, fun i d e => by simp at e⟩
  | _, _, ds, _, n, @ArgV.dat _ _ _ f os as vs a v r t, h => by
    unfold rdA at h
    cases e : rdA os as ρ with
    | none => rw [e] at h; cases h
    | some ds' =>
      rw [e] at h
      cases h
      obtain ⟨h1, h2, h3, h4⟩ := argV_at R (n + 1) t e
      refine ⟨by simp [h1], by simp [h2], fun i d hd hn => ?_, fun i d hd hn => ?_⟩
      · cases i with
        | zero => simp at hd; subst hd; exact ⟨v, rfl, r⟩
        | succ i =>
          obtain ⟨w, k1, k2⟩ := h3 i d (by simpa using hd) (fun z => hn (by show n + (i + 1) ∈ ownPos (n + 1) os; rw [show n + (i + 1) = n + 1 + i by omega]; exact z))
          exact ⟨w, by simpa using k1, k2⟩
      · cases i with
        | zero => have := mem_ownPos (os := os) (n := n + 1) (i := n + 0) hn; omega
        | succ i =>
          obtain ⟨k, p, q1, q2, q3, q4, q5⟩ := h4 i d (by simpa using hd) (by have hn' : n + (i + 1) ∈ ownPos (n + 1) os := hn; rw [show n + (i + 1) = n + 1 + i by omega] at hn'; exact hn')
          exact ⟨k, p, q1, q2, q3, by simpa using q4, q5⟩
  | _, _, ds, _, n, @ArgV.own _ _ _ k v os as vs a r t, h => by
    unfold rdA at h
    cases ek : ρ[k]? with
    | none => simp only [ek] at h; cases h
    | some cl =>
      simp only [ek] at h
      cases cl with
      | no => cases h
      | dat d => cases h
      | own d0 =>
        obtain ⟨p, es, hA, hO⟩ := R.own k d0 ek
        rw [r] at es; cases es
        cases e : rdA os as ρ with
        | none => simp only [e] at h; cases h
        | some ds' =>
          simp only [e] at h
          cases h
          obtain ⟨h1, h2, h3, h4⟩ := argV_at R (n + 1) t e
          refine ⟨by simp [h1], by simp [h2], fun i d hd hn => ?_, fun i d hd hn => ?_⟩
          · cases i with
            | zero => exact absurd (List.mem_cons_self : n ∈ n :: ownPos (n + 1) os) hn
            | succ i =>
              obtain ⟨w, k1, k2⟩ := h3 i d (by simpa using hd) (fun z => hn (List.mem_cons_of_mem _ (by rw [show n + (i + 1) = n + 1 + i by omega]; exact z)))
              exact ⟨w, by simpa using k1, k2⟩
          · cases i with
            | zero => simp at hd; subst hd; exact ⟨k, p, List.mem_cons_self, r, ek, rfl, hA, hO⟩
            | succ i =>
              have hn' : n + (i + 1) ∈ n :: ownPos (n + 1) os := hn
              rcases List.mem_cons.mp hn' with e | e
              · omega
              · rw [show n + (i + 1) = n + 1 + i by omega] at e
                obtain ⟨k, p, q1, q2, q3, q4, q5⟩ := h4 i d (by simpa using hd) e
                exact ⟨k, p, List.mem_cons_of_mem _ q1, q2, q3, by simpa using q4, q5⟩
/-- the outs go to the slots -/
theorem argV_slots : ∀ {os : List Opn} {as : List D} {vs : List V} (n : Nat), ArgV c G σ os as vs → ∀ (j i : Nat), (ownPos n os)[j]? = some i → ∃ k v, (ownSlots os)[j]? = some k ∧ n ≤ i ∧ vs[i - n]? = some v ∧ σ[k]? = some (some v)
  | _, _, _, n, .nil, j, i, h => by simp [ownPos] at h
  | _, _, _, n, @ArgV.dat _ _ _ f os as vs a v r t, j, i, h => by
    obtain ⟨k, w, h1, h2, h3, h4⟩ := argV_slots (n + 1) t j i h
    refine ⟨k, w, h1, by omega, ?_, h4⟩
    rw [show i - n = (i - (n + 1)) + 1 by omega]
    simpa using h3
  | _, _, _, n, @ArgV.own _ _ _ k v os as vs a r t, 0, i, h => by
    have h' : some n = some i := h
    cases h'
    exact ⟨k, v, rfl, Nat.le_refl _, by simp, r⟩
  | _, _, _, n, @ArgV.own _ _ _ k v os as vs a r t, j + 1, i, h => by
    obtain ⟨k', w, h1, h2, h3, h4⟩ := argV_slots (n + 1) t j i (by simpa [ownPos] using h)
    refine ⟨k', w, by simpa [ownSlots] using h1, by omega, ?_, h4⟩
    rw [show i - n = (i - (n + 1)) + 1 by omega]
    simpa using h3
theorem setOuts_len : ∀ (ks : List Nat) (outs : List D) (ρ : Cells), (setOuts ks outs ρ).length = ρ.length
  | [], _, _ => rfl
  | _ :: _, [], _ => rfl
  | k :: ks, o :: outs, ρ => by unfold setOuts; rw [setOuts_len, List.length_set]
theorem setOuts_out : ∀ {ks : List Nat} {outs : List D} {ρ : Cells} {i : Nat}, i ∉ ks → (setOuts ks outs ρ)[i]? = ρ[i]?
  | [], _, _, _, _ => rfl
  | _ :: _, [], _, _, _ => rfl
  | k :: ks, o :: outs, ρ, i, h => by
    simp only [List.mem_cons, not_or] at h
    unfold setOuts
    rw [setOuts_out h.2, List.getElem?_set_ne (Ne.symm h.1)]
theorem setOuts_in : ∀ {ks : List Nat} {outs : List D} {ρ : Cells} {i : Nat}, ks.Nodup → ks.length = outs.length → i ∈ ks → i < ρ.length → ∃ (j : Nat) (d : D), ks[j]? = some i ∧ outs[j]? = some d ∧ (setOuts ks outs ρ)[i]? = some (.own d)
  | k :: ks, o :: outs, ρ, i, nd, hl, h, hi => by
    obtain ⟨n1, n2⟩ := List.nodup_cons.mp nd
    unfold setOuts
    rcases List.mem_cons.mp h with e | e
    · subst e
      exact ⟨0, o, rfl, rfl, by rw [setOuts_out n1, List.getElem?_set_self hi]⟩
    · obtain ⟨j, d, h1, h2, h3⟩ := setOuts_in (ρ := ρ.set k (.own o)) n2 (by simpa using hl) e (by rw [List.length_set]; exact hi)
      exact ⟨j + 1, d, by simpa using h1, by simpa using h2, h3⟩
/-- behind a call the cells are as the outs say -/
theorem Rel.ret (R : Rel c B G A H σ ρ) {os : List Opn} {as : List D} {ds outs : List D} {vs : List V} {G' H' : Hp} (nd : (ownSlots os).Nodup) (hv : ArgV c G σ os as vs) (hd : rdA os as ρ = some ds) (hr : Ret c (ownPos 0 os) G (callA σ (ownSlots os)) H vs outs G' H') :
    Same G G' ∧ Keep A G H G' H' ∧ Rel c B G' A H' σ (setOuts (ownSlots os) outs ρ) := by
  have sub : ∀ b, callA σ (ownSlots os) b → ∃ k d, k ∈ ownSlots os ∧ σ[k]? = some (some (.ref b)) ∧ ρ[k]? = some (.own d) ∧ A b := by
    intro b ⟨k, hk, hs⟩
    have : ∀ {os : List Opn} {as : List D} {vs : List V} {ds : List D}, ArgV c G σ os as vs → rdA os as ρ = some ds → k ∈ ownSlots os → ∃ d, ρ[k]? = some (.own d) := by
      intro os as vs ds hv
      induction hv generalizing ds with
      | nil => intro _ h; cases h
      | @dat f os as vs a v r t ih =>
        intro h hk
        unfold rdA at h
        cases e : rdA os as ρ with
        | none => rw [e] at h; cases h
        | some ds' => exact ih e hk
      | @own k' v os as vs a r t ih =>
        intro h hk
        unfold rdA at h
        cases ek : ρ[k']? with
        | none => simp only [ek] at h; cases h
        | some cl =>
          simp only [ek] at h
          cases cl with
          | no => cases h
          | dat d => cases h
          | own d0 =>
            cases e : rdA os as ρ with
            | none => simp only [e] at h; cases h
            | some ds' =>
              rcases List.mem_cons.mp hk with z | z
              · subst z; exact ⟨d0, ek⟩
              · exact ih e z
    obtain ⟨d, e⟩ := this hv hd hk
    obtain ⟨p, es, hA, _⟩ := R.own k d e
    rw [hs] at es; cases es
    exact ⟨k, d, hk, hs, e, hA⟩
  have kp : Keep A G H G' H' := fun b o h n => hr.kp b o h fun z => by obtain ⟨_, _, _, _, _, q⟩ := sub b z; exact n q
  refine ⟨hr.gg, kp, hr.gh, by rw [setOuts_len]; exact R.len, fun b hb => ?_, fun i d h => ?_, fun i d h => ?_, fun i j d e p hij h1 h2 h3 h4 => ?_, fun q hq => ?_⟩
  · by_cases z : callA σ (ownSlots os) b
    · exact hr.ownA b z
    · obtain ⟨h1, o, h2⟩ := R.ownA b hb
      obtain ⟨k1, k2⟩ := hr.kp b o h2 z
      exact ⟨k2.trans h1, o, k1⟩
  · have ni : i ∉ ownSlots os := fun z => by
      have hl : (ownSlots os).length = outs.length := by
        have h1 := hr.outs.1
        have h2 : ∀ (n : Nat) (os : List Opn), (ownPos n os).length = (ownSlots os).length := by
          intro n os
          induction os generalizing n with
          | nil => rfl
          | cons o os ih => cases o with
            | dat f => exact ih (n + 1)
            | own k => show _ + 1 = _ + 1; rw [ih (n + 1)]
        rw [← h2 0 os, h1]
      have hi : i < ρ.length := by
        have := (List.getElem?_eq_some_iff.mp h).1
        rwa [setOuts_len] at this
      obtain ⟨j, d', _, _, h3⟩ := setOuts_in nd hl z hi
      rw [h3] at h; cases h
    rw [setOuts_out ni] at h
    obtain ⟨v, h1, h2⟩ := R.dat i d h
    exact ⟨v, h1, h2.mono hr.gg⟩
  · have hlen : ∀ (n : Nat) (os : List Opn), (ownPos n os).length = (ownSlots os).length := by
      intro n os
      induction os generalizing n with
      | nil => rfl
      | cons o os ih => cases o with
        | dat f => exact ih (n + 1)
        | own k => show _ + 1 = _ + 1; rw [ih (n + 1)]
    have hl : (ownSlots os).length = outs.length := by rw [← hlen 0 os, hr.outs.1]
    by_cases z : i ∈ ownSlots os
    · have hi : i < ρ.length := by
        have := (List.getElem?_eq_some_iff.mp h).1
        rwa [setOuts_len] at this
      obtain ⟨j, d', h1, h2, h3⟩ := setOuts_in nd hl z hi
      rw [h3] at h; cases h
      have hj : j < (ownPos 0 os).length := by rw [hlen]; exact (List.getElem?_eq_some_iff.mp h1).1
      obtain ⟨k, v, k1, k2, k3, k4⟩ := argV_slots 0 hv j _ (List.getElem?_eq_getElem hj)
      rw [h1] at k1; cases k1
      obtain ⟨p, p1, p2⟩ := hr.outs.2 j _ d (List.getElem?_eq_getElem hj) h2
      rw [Nat.sub_zero] at k3
      rw [p1] at k3; cases k3
      obtain ⟨_, _, _, _, _, hA⟩ := sub p ⟨i, z, k4⟩
      exact ⟨p, k4, hA, p2⟩
    · rw [setOuts_out z] at h
      obtain ⟨p, h1, h2, h3⟩ := R.own i d h
      have np : ¬ callA σ (ownSlots os) p := fun w => by
        obtain ⟨k, e, q1, q2, q3, _⟩ := sub p w
        exact R.dis i k d e p (fun y => z (by rw [y]; exact q1)) h q3 h1 q2
      obtain ⟨u, hu⟩ := h3.some
      obtain ⟨k1, k2⟩ := hr.kp p u hu np
      exact ⟨p, h1, h2, by rw [k1, ← hu]; exact h3.mono hr.gg⟩
  · have old : ∀ (i : Nat) (d : D), (setOuts (ownSlots os) outs ρ)[i]? = some (.own d) → ∃ d', ρ[i]? = some (.own d') := fun i d h => by
      by_cases z : i ∈ ownSlots os
      · have hi : i < ρ.length := by
          have := (List.getElem?_eq_some_iff.mp h).1
          rwa [setOuts_len] at this
        have : ∀ {os : List Opn} {as : List D} {vs : List V} {ds : List D}, ArgV c G σ os as vs → rdA os as ρ = some ds → i ∈ ownSlots os → ∃ d, ρ[i]? = some (.own d) := by
          intro os as vs ds hv
          induction hv generalizing ds with
          | nil => intro _ h; cases h
          | @dat f os as vs a v r t ih =>
            intro h hk
            unfold rdA at h
            cases e : rdA os as ρ with
            | none => rw [e] at h; cases h
            | some ds' => exact ih e hk
          | @own k' v os as vs a r t ih =>
            intro h hk
            unfold rdA at h
            cases ek : ρ[k']? with
            | none => simp only [ek] at h; cases h
            | some cl =>
              simp only [ek] at h
              cases cl with
              | no => cases h
              | dat d => cases h
              | own d0 =>
                cases e : rdA os as ρ with
                | none => simp only [e] at h; cases h
                | some ds' =>
                  rcases List.mem_cons.mp hk with z | z
                  · subst z; exact ⟨d0, ek⟩
                  · exact ih e z
        exact this hv hd z
      · rw [setOuts_out z] at h; exact ⟨d, h⟩
    obtain ⟨d', h1'⟩ := old i d h1
    obtain ⟨e', h2'⟩ := old j e h2
    exact R.dis i j d' e' p hij h1' h2' h3 h4
  · obtain ⟨h1, h2, x, h3⟩ := R.byr q hq
    refine ⟨h1, h2, ?_⟩
    by_cases z : q.1 ∈ ownSlots os
    · have hi : q.1 < ρ.length := (List.getElem?_eq_some_iff.mp h3).1
      have hlen : ∀ (n : Nat) (os : List Opn), (ownPos n os).length = (ownSlots os).length := by
        intro n os
        induction os generalizing n with
        | nil => rfl
        | cons o os ih => cases o with
          | dat f => exact ih (n + 1)
          | own k => show _ + 1 = _ + 1; rw [ih (n + 1)]
      obtain ⟨j, d', _, _, h5⟩ := setOuts_in (ρ := ρ) nd (by rw [← hlen 0 os, hr.outs.1]) z hi
      exact ⟨d', h5⟩
    · exact ⟨x, by rw [setOuts_out z]; exact h3⟩
/-- what a call asks -/
theorem args_ok (R : Rel c B G A H σ ρ) {os : List Opn} {as : List D} {ds : List D} {vs : List V} (nd : (ownSlots os).Nodup) (hv : ArgV c G σ os as vs) (hd : rdA os as ρ = some ds) : ArgsOk c (ownPos 0 os) G (callA σ (ownSlots os)) H vs ds := by
  obtain ⟨h1, h2, h3, h4⟩ := argV_at R 0 hv hd
  have aa : ∀ b, callA σ (ownSlots os) b → A b := by
    intro b ⟨k, hk, hs⟩
    have : ∀ {os : List Opn} {as : List D} {vs : List V} {ds : List D}, ArgV c G σ os as vs → rdA os as ρ = some ds → k ∈ ownSlots os → ∃ d, ρ[k]? = some (.own d) := by
      intro os as vs ds hv
      induction hv generalizing ds with
      | nil => intro _ h; cases h
      | @dat f os as vs a v r t ih =>
        intro h hk
        unfold rdA at h
        cases e : rdA os as ρ with
        | none => rw [e] at h; cases h
        | some ds' => exact ih e hk
      | @own k' v os as vs a r t ih =>
        intro h hk
        unfold rdA at h
        cases ek : ρ[k']? with
        | none => simp only [ek] at h; cases h
        | some cl =>
          simp only [ek] at h
          cases cl with
          | no => cases h
          | dat d => cases h
          | own d0 =>
            cases e : rdA os as ρ with
            | none => simp only [e] at h; cases h
            | some ds' =>
              rcases List.mem_cons.mp hk with z | z
              · subst z; exact ⟨d0, ek⟩
              · exact ih e z
    obtain ⟨d, e⟩ := this hv hd hk
    obtain ⟨p, es, hA, _⟩ := R.own k d e
    rw [hs] at es; cases es
    exact hA
  refine ⟨R.same, fun b hb => R.ownA b (aa b hb), h1, fun i d hi hn => h3 i d hi (by rw [Nat.zero_add]; exact hn), fun i d hi hn => ?_, fun i j p hij hi hj e1 e2 => ?_⟩
  · obtain ⟨k, p, q1, q2, q3, q4, q5, q6⟩ := h4 i d hi (by rw [Nat.zero_add]; exact hn)
    exact ⟨p, q4, ⟨k, q1, q2⟩, q6⟩
  · obtain ⟨a, ha⟩ := List.mem_iff_getElem?.mp hi
    obtain ⟨b, hb⟩ := List.mem_iff_getElem?.mp hj
    obtain ⟨k, v, k1, _, k3, k4⟩ := argV_slots 0 hv a i ha
    obtain ⟨l, w, l1, _, l3, l4⟩ := argV_slots 0 hv b j hb
    rw [Nat.sub_zero, e1] at k3; cases k3
    rw [Nat.sub_zero, e2] at l3; cases l3
    have li : i < ds.length := by rw [← h1]; exact (List.getElem?_eq_some_iff.mp e1).1
    have lj : j < ds.length := by rw [← h1]; exact (List.getElem?_eq_some_iff.mp e2).1
    obtain ⟨k', p', _, k6, k7, k8, _⟩ := h4 i _ (List.getElem?_eq_getElem li) (by rw [Nat.zero_add]; exact hi)
    obtain ⟨l', p'', _, l6, l7, l8, _⟩ := h4 j _ (List.getElem?_eq_getElem lj) (by rw [Nat.zero_add]; exact hj)
    rw [e1] at k8; cases k8
    rw [e2] at l8; cases l8
    have kl : k ≠ l := fun z => by
      subst z
      have := nd_ix nd k1 l1
      subst this
      rw [ha] at hb; cases hb; exact hij rfl
    -- both slots own the same address
    have own_at : ∀ (k : Nat), k ∈ ownSlots os → ∃ d, ρ[k]? = some (.own d) := by
      intro k hk
      have : ∀ {os : List Opn} {as : List D} {vs : List V} {ds : List D}, ArgV c G σ os as vs → rdA os as ρ = some ds → k ∈ ownSlots os → ∃ d, ρ[k]? = some (.own d) := by
        intro os as vs ds hv
        induction hv generalizing ds with
        | nil => intro _ h; cases h
        | @dat f os as vs a v r t ih =>
          intro h hk
          unfold rdA at h
          cases e : rdA os as ρ with
          | none => rw [e] at h; cases h
          | some ds' => exact ih e hk
        | @own k' v os as vs a r t ih =>
          intro h hk
          unfold rdA at h
          cases ek : ρ[k']? with
          | none => simp only [ek] at h; cases h
          | some cl =>
            simp only [ek] at h
            cases cl with
            | no => cases h
            | dat d => cases h
            | own d0 =>
              cases e : rdA os as ρ with
              | none => simp only [e] at h; cases h
              | some ds' =>
                rcases List.mem_cons.mp hk with z | z
                · subst z; exact ⟨d0, ek⟩
                · exact ih e z
      exact this hv hd hk
    obtain ⟨d1, f1⟩ := own_at k (List.mem_of_getElem? k1)
    obtain ⟨d2, f2⟩ := own_at l (List.mem_of_getElem? l1)
    exact R.dis k l d1 d2 p kl f1 f2 k4 l4
end
end Fx
set_option Elab.async false
set_option linter.all false
set_option maxRecDepth 100000
set_option maxHeartbeats 4000000
namespace Fx
open PySem L2
section
variable {c : Cf} {B : List (Nat × Addr)} {W : WX} {X : Cx} {G H : Hp} {A : Addr → Prop} {σ : L2.St} {ρ : Cells}
/-- further data behind the arguments -/
theorem ArgsOk.app {bs : List Nat} {vs ws : List V} {ds es : List D} (h : ArgsOk c bs G A H vs ds) (r : RepL c G ws es) (hb : ∀ i ∈ bs, i < ds.length) : ArgsOk c bs G A H (vs ++ ws) (ds ++ es) := by
  refine ⟨h.same, h.ownA, by rw [List.length_append, List.length_append, h.len, r.length], fun i d e n => ?_, fun i d e n => ?_, fun i j p hij hi hj e1 e2 => ?_⟩
  · by_cases hi : i < ds.length
    · rw [List.getElem?_append_left hi] at e
      obtain ⟨v, h1, h2⟩ := h.dat i d e n
      exact ⟨v, by rw [List.getElem?_append_left (by rw [h.len]; exact hi)]; exact h1, h2⟩
    · rw [List.getElem?_append_right (by omega)] at e
      obtain ⟨v, h1, h2⟩ := r.get e
      exact ⟨v, by rw [List.getElem?_append_right (by rw [h.len]; omega), h.len]; exact h1, h2⟩
  · have hi := hb i n
    rw [List.getElem?_append_left hi] at e
    obtain ⟨p, h1, h2⟩ := h.own i d e n
    exact ⟨p, by rw [List.getElem?_append_left (by rw [h.len]; exact hi)]; exact h1, h2⟩
  · rw [List.getElem?_append_left (by rw [h.len]; exact hb i hi)] at e1
    rw [List.getElem?_append_left (by rw [h.len]; exact hb j hj)] at e2
    exact h.dis i j p hij hi hj e1 e2
theorem Ret.app {bs : List Nat} {vs ws : List V} {outs : List D} {G' H' : Hp} (hb : ∀ i ∈ bs, i < vs.length) (h : Ret c bs G A H (vs ++ ws) outs G' H') : Ret c bs G A H vs outs G' H' :=
  ⟨h.gg, h.kp, h.gh, h.ownA, h.outs.1, fun k i d e1 e2 => by
    obtain ⟨p, h1, h2⟩ := h.outs.2 k i d e1 e2
    rw [List.getElem?_append_left (hb i (List.mem_of_getElem? e1))] at h1
    exact ⟨p, h1, h2⟩⟩
theorem ownPos_lt {os : List Opn} : ∀ {n i : Nat}, i ∈ ownPos n os → i < n + os.length := by
  induction os with
  | nil => intro n i h; cases h
  | cons o os ih =>
    intro n i h
    cases o with
    | dat f => have := ih (n := n + 1) h; rw [List.length_cons]; omega
    | own k =>
      rcases List.mem_cons.mp h with e | e
      · rw [List.length_cons]; omega
      · have := ih (n := n + 1) e; rw [List.length_cons]; omega
theorem rdA_len : ∀ {os : List Opn} {as ds : List D} {ρ : Cells}, rdA os as ρ = some ds → ds.length = os.length
  | [], [], _, _, h => by cases h; rfl
  | [], _ :: _, _, _, h => by cases h
  | .dat _ :: _, [], _, _, h => by cases h
  | .own _ :: _, [], _, _, h => by cases h
  | .dat _ :: os, a :: as, ds, ρ, h => by
    unfold rdA at h
    cases e : rdA os as ρ with
    | none => rw [e] at h; cases h
    | some ds' => rw [e] at h; cases h; rw [List.length_cons, List.length_cons, rdA_len e]
  | .own k :: os, _ :: as, ds, ρ, h => by
    unfold rdA at h
    cases ek : ρ[k]? with
    | none => simp only [ek] at h; cases h
    | some cl =>
      simp only [ek] at h
      cases cl with
      | no => cases h
      | dat d => cases h
      | own d0 =>
        cases e : rdA os as ρ with
        | none => simp only [e] at h; cases h
        | some ds' => simp only [e] at h; cases h; rw [List.length_cons, List.length_cons, rdA_len e]
/-- f(e, ..), the defaults behind -/
theorem pm_callF {F : Fn} {os : List Opn} {k n : Nat} {f : Addr} {fd : FuncData} {ps : List Str} {dvs : List V} {vds : List Value} {dds : List D} {x : Str} {p pos : Pos} {e : Expr} {es : List Expr}
    (Fo : FnOk X.prog X.w X.K X.mg X.base (L2.CX X.prog X.w) k f fd ps (spM c (ownPos 0 os) n F)) (hr : Room k X.A) (tk : Takes X W) (hm : X.mg x = some (.ref f)) (hk : PySem.W.keepIn X.K (.ref f) = true) (hb : Binds X.K fd ps vds) (hd : Vals dvs vds) (hdd : ∀ G, RepL c G dvs dds)
    (ha : PA X (e :: es) (tR c B W os)) (nd : (ownSlots os).Nodup := by decide) (hn : os.length + dds.length = n := by rfl) (hg : Gl X x := by rfl) (hdb : (x == ("__debug__" : Str)) = false := by decide)
    (he : starEach (e :: es) X.env = (false, eval e X.env) :: starEach es X.env := by rfl) (hpl : (backTo pos (starEach es X.env)).any (·.1) = false := by rfl) :
    PE X (.Call (.Name x p) (e :: es) [] pos) (tM c B W (mCallF (fun ds => F (ds ++ dds)) os)) :=
  pe_imp (pe_callSD Fo hr hg hm hk hb hd (fun σ => passAt tk σ) ha hdb he hpl) fun σ H Q ⟨G, A, ρ, R, a⟩ => by
    refine ⟨G, A, ρ, R, a.split.imp fun as ρ1 G1 H1 _ _ R1 q vs hv => ?_⟩
    have q : After c B W G1 A H1 σ (match rdA os as ρ1 with
      | none => .stuck
      | some ds => match F (ds ++ dds) with
        | .stuck => .stuck
        | .ret d outs => .ok d (setOuts (ownSlots os) outs ρ1)
        | .exc x outs => .exc x (setOuts (ownSlots os) outs ρ1)) (fun d x G' H' => ∀ v, Rep c G' v d → Q v H') := q
    cases ed : rdA os as ρ1 with
    | none => rw [ed] at q; exact q.elim
    | some ds =>
      rw [ed] at q
      have ok := args_ok R1 nd hv ed
      have hlen := rdA_len ed
      have hlt : ∀ i ∈ ownPos 0 os, i < ds.length := fun i hi => by have := ownPos_lt hi; rw [hlen]; omega
      have hlv : ∀ i ∈ ownPos 0 os, i < vs.length := fun i hi => by rw [ok.len]; exact hlt i hi
      refine ⟨G1, _, ds ++ dds, by rw [List.length_append, hlen]; exact hn, ok.app (hdd G1) hlt, ?_⟩
      cases ef : F (ds ++ dds) with
      | stuck => simp only [ef] at q; exact q.elim
      | ret d outs =>
        simp only [ef] at q
        intro G' H' v r rv
        obtain ⟨s1, k1, R2⟩ := R1.ret nd hv ed (r.app hlv)
        exact q G' H' s1 k1 R2 v rv
      | exc y outs =>
        simp only [ef] at q
        intro G' H' dd r rx
        obtain ⟨s1, k1, R2⟩ := R1.ret nd hv ed (r.app hlv)
        exact q G' H' dd s1 k1 R2 rx
def appF (F : Fn) (ds : List D) : M D := fun ρ => match F ds with
  | .stuck => .stuck
  | .ret d _ => .ok d ρ
  | .exc x _ => .exc x ρ
def mCallK (F : Fn) (g : List D → List D → List D) (fs ks : List (M D)) : M D := (seqM fs).bind fun ds => (seqM ks).bind fun es => appF F (g ds es)
theorem argsOk_rep (s : Same G H) {vs : List V} {ds : List D} (r : RepL c G vs ds) : ArgsOk c [] G (fun _ => False) H vs ds :=
  ⟨s, fun _ h => h.elim, r.length, fun i d e _ => r.get e, fun i d e n => by simp at n, fun i j p _ hi => by simp at hi⟩
theorem Ret.rel (R : Rel c B G A H σ ρ) {vs : List V} {outs : List D} {G' H' : Hp} (r : Ret c [] G (fun _ => False) H vs outs G' H') : Same G G' ∧ Keep A G H G' H' ∧ Rel c B G' A H' σ ρ := by
  have hh : ∀ b o, H b = some o → H' b = some o ∧ G' b = G b := fun b o e => r.kp b o e (fun z => z)
  exact ⟨r.gg, fun b o e _ => hh b o e, R.ext ⟨r.gg, fun b o e => (hh b o e).1, r.gh, fun b o e => (hh b o e).2⟩⟩
end

def initAt (bs : List Nat) : Nat → List D → Cells
  | _, [] => []
  | i, d :: ds => (if bs.contains i = true then Cell.own d else Cell.dat d) :: initAt bs (i + 1) ds
def initC (len : Nat) (bs : List Nat) (ds : List D) : Cells := initAt bs 0 ds ++ List.replicate (len - ds.length) .no
def outAt (ρ : Cells) (i : Nat) : D := match ρ[i]? with
  | some (Cell.own d) => d
  | _ => D.non
def outsOf (bs : List Nat) (ρ : Cells) : List D := bs.map (outAt ρ)
def mkFn (len : Nat) (bs : List Nat) (m : MS) : Fn := fun ds => match m (initC len bs ds) with
  | .next ρ => .ret .non (outsOf bs ρ)
  | .ret d ρ => .ret d (outsOf bs ρ)
  | .exc x ρ => .exc x (outsOf bs ρ)
  | _ => .stuck
theorem initAt_get (bs : List Nat) : ∀ (n i : Nat) (ds : List D) (x : Cell), (initAt bs n ds)[i]? = some x → ∃ d, ds[i]? = some d ∧ x = if bs.contains (n + i) = true then Cell.own d else Cell.dat d
  | n, i, [], x, h => by simp [initAt] at h
  | n, 0, d :: ds, x, h => by
    simp [initAt] at h
    exact ⟨d, rfl, by rw [Nat.add_zero]; simp [← h]⟩
  | n, i + 1, d :: ds, x, h => by
    obtain ⟨e, h1, h2⟩ := initAt_get bs (n + 1) i ds x (by simpa [initAt] using h)
    exact ⟨e, by simpa using h1, by rw [show n + (i + 1) = n + 1 + i by omega]; exact h2⟩
theorem initAt_put (bs : List Nat) : ∀ (n i : Nat) (ds : List D) (d : D), ds[i]? = some d → (initAt bs n ds)[i]? = some (if bs.contains (n + i) = true then Cell.own d else Cell.dat d)
  | n, i, [], d, h => by simp at h
  | n, 0, e :: ds, d, h => by simp at h; subst h; rfl
  | n, i + 1, e :: ds, d, h => by
    have := initAt_put bs (n + 1) i ds d (by simpa using h)
    rw [show n + (i + 1) = n + 1 + i by omega]
    simpa [initAt] using this
theorem initAt_len (bs : List Nat) : ∀ (n : Nat) (ds : List D), (initAt bs n ds).length = ds.length
  | _, [] => rfl
  | n, d :: ds => by unfold initAt; rw [List.length_cons, List.length_cons, initAt_len]
section
variable {c : Cf} {G H : Hp} {A : Addr → Prop}
theorem initC_get {len : Nat} {bs : List Nat} {ds : List D} {i : Nat} {x : Cell} (h : (initC len bs ds)[i]? = some x) (hx : x ≠ .no) : ∃ d, ds[i]? = some d ∧ i < ds.length ∧ x = if bs.contains i = true then Cell.own d else Cell.dat d := by
  unfold initC at h
  by_cases hi : i < ds.length
  · rw [List.getElem?_append_left (by rw [initAt_len]; exact hi)] at h
    obtain ⟨d, h1, h2⟩ := initAt_get bs 0 i ds x h
    exact ⟨d, h1, hi, by rw [Nat.zero_add] at h2; exact h2⟩
  · rw [List.getElem?_append_right (by rw [initAt_len]; omega)] at h
    have := List.mem_of_getElem? h
    exact absurd (List.eq_of_mem_replicate this) hx
/-- the cells at a def's start -/
theorem rel_start {N : List Str} {bs : List Nat} {vs : List V} {ds : List D} (h : ArgsOk c bs G A H vs ds) (hl : vs.length ≤ N.length) (B : List (Nat × Addr)) (hB : ∀ q ∈ B, q.1 ∈ bs ∧ vs[q.1]? = some (.ref q.2)) (hbs : ∀ i ∈ bs, i < ds.length) :
    Rel c B G (fun b => ∃ i ∈ bs, vs[i]? = some (.ref b)) H (L2.start N vs) (initC N.length bs ds) := by
  have st : ∀ (i : Nat) (v : V), vs[i]? = some v → (L2.start N vs)[i]? = some (some v) := fun i v e => by
    have hi := (List.getElem?_eq_some_iff.mp e).1
    unfold L2.start
    rw [List.getElem?_append_left (by rw [List.length_map]; exact hi), List.getElem?_map, e]
    rfl
  have aa : ∀ b, (∃ i ∈ bs, vs[i]? = some (V.ref b)) → A b := fun b ⟨i, hi, e⟩ => by
    have hlt := hbs i hi
    obtain ⟨p, h1, h2, _⟩ := h.own i _ (List.getElem?_eq_getElem hlt) hi
    rw [e] at h1; cases h1; exact h2
  refine ⟨h.same, ?_, fun b hb => h.ownA b (aa b hb), fun i d e => ?_, fun i d e => ?_, fun i j d e p hij h1 h2 h3 h4 => ?_, fun q hq => ?_⟩
  · unfold L2.start initC
    rw [List.length_append, List.length_append, List.length_map, List.length_replicate, List.length_replicate, initAt_len, h.len]
  · obtain ⟨d', h1, hi, h2⟩ := initC_get e (fun z => by cases z)
    by_cases hb : bs.contains i = true
    · rw [if_pos hb] at h2; cases h2
    · rw [if_neg hb] at h2; cases h2
      obtain ⟨v, k1, k2⟩ := h.dat i d h1 (fun z => hb (by simpa using z))
      exact ⟨v, st i v k1, k2⟩
  · obtain ⟨d', h1, hi, h2⟩ := initC_get e (fun z => by cases z)
    by_cases hb : bs.contains i = true
    · rw [if_pos hb] at h2; cases h2
      have hm : i ∈ bs := by simpa using hb
      obtain ⟨p, k1, k2, k3⟩ := h.own i d h1 hm
      exact ⟨p, st i _ k1, ⟨i, hm, k1⟩, k3⟩
    · rw [if_neg hb] at h2; cases h2
  · obtain ⟨d', e1, hi, f1⟩ := initC_get h1 (fun z => by cases z)
    obtain ⟨e', e2, hj, f2⟩ := initC_get h2 (fun z => by cases z)
    have hb1 : bs.contains i = true := by
      by_cases hb : bs.contains i = true
      · exact hb
      · rw [if_neg hb] at f1; cases f1
    have hb2 : bs.contains j = true := by
      by_cases hb : bs.contains j = true
      · exact hb
      · rw [if_neg hb] at f2; cases f2
    have hm1 : i ∈ bs := by simpa using hb1
    have hm2 : j ∈ bs := by simpa using hb2
    obtain ⟨p1, k1, _⟩ := h.own i d' e1 hm1
    obtain ⟨p2, k2, _⟩ := h.own j e' e2 hm2
    have q1 := st i _ k1
    have q2 := st j _ k2
    rw [h3] at q1; cases q1
    rw [h4] at q2; cases q2
    exact h.dis i j p hij hm1 hm2 k1 k2
  · obtain ⟨h1, h2⟩ := hB q hq
    have hlt := hbs q.1 h1
    refine ⟨st _ _ h2, ⟨q.1, h1, h2⟩, ds[q.1], ?_⟩
    · unfold initC
      rw [List.getElem?_append_left (by rw [initAt_len]; exact hlt), initAt_put bs 0 q.1 ds _ (List.getElem?_eq_getElem hlt), Nat.zero_add, if_pos (by simpa using h1)]
/-- behind a body -/
theorem ret_of {bs : List Nat} {vs : List V} {ds : List D} {B : List (Nat × Addr)} {G' H' : Hp} {A' : Addr → Prop} {σ' : L2.St} {ρ' : Cells} (h : ArgsOk c bs G A H vs ds) (hbs : ∀ i ∈ bs, i < ds.length) (hB : ∀ i ∈ bs, ∃ p, (i, p) ∈ B ∧ vs[i]? = some (.ref p))
    (s : Stp G (fun b => ∃ i ∈ bs, vs[i]? = some (.ref b)) H G' A' H') (R : Rel c B G' A' H' σ' ρ') : Ret c bs G A H vs (outsOf bs ρ') G' H' := by
  have aa : ∀ b, (∃ i ∈ bs, vs[i]? = some (V.ref b)) → A b := fun b ⟨i, hi, e⟩ => by
    have hlt := hbs i hi
    obtain ⟨p, h1, h2, _⟩ := h.own i _ (List.getElem?_eq_getElem hlt) hi
    rw [e] at h1; cases h1; exact h2
  refine ⟨s.gg, fun b o e n => s.kp b o e fun z => n (aa b z), R.same, fun b hb => ?_, by unfold outsOf; rw [List.length_map], fun k i d e1 e2 => ?_⟩
  · by_cases z : ∃ i ∈ bs, vs[i]? = some (V.ref b)
    · obtain ⟨i, hi, e⟩ := z
      obtain ⟨p, hp, e'⟩ := hB i hi
      rw [e] at e'; cases e'
      exact R.ownA b (R.byr _ hp).2.1
    · obtain ⟨h1, o, h2⟩ := h.ownA b hb
      obtain ⟨k1, k2⟩ := s.kp b o h2 z
      exact ⟨k2.trans h1, o, k1⟩
  · have hi : i ∈ bs := List.mem_of_getElem? e1
    obtain ⟨p, hp, e⟩ := hB i hi
    obtain ⟨q1, q2, x, q3⟩ := R.byr _ hp
    have ed : d = x := by
      unfold outsOf at e2
      rw [List.getElem?_map, e1] at e2
      have e2 : some (match ρ'[i]? with | some (Cell.own d) => d | _ => D.non) = some d := e2
      have q3 : ρ'[i]? = some (.own x) := q3
      rw [q3] at e2
      exact (Option.some.inj e2).symm
    subst ed
    obtain ⟨p', h1, h2, h3⟩ := R.own i d q3
    rw [show σ'[i]? = some (some (V.ref p)) from q1] at h1
    cases h1
    exact ⟨p, e, h3⟩
end
section
variable {P : Program} {w : World} {K : PySem.W.Frag} {mg : Str → Option Value} {base : Heap} {c : Cf}
theorem fn_core {qual : Str} {st : Stmt} {f : Addr} {N ps : List Str} {m : MS} (bs : List Nat) (hN : ps.length ≤ N.length) (hbs : ∀ i ∈ bs, i < ps.length) {cdv : Value} {A : Around} {outer : List Env} {s : Shared} {H : Hp} {vs : List V} {Q : VK} {E : XK}
    (body : ∀ (B : List (Nat × Addr)), B.map (·.1) = bs → PSs (cxOf (L2.CX P w) P w K mg base N qual (defScope st) f cdv A outer s H E) (defBody st) (tS c B (fun cls d _ H => E cls d H) m)) (h : spM c bs ps.length (mkFn N.length bs m) vs H Q E) :
    ∃ t, PSs (cxOf (L2.CX P w) P w K mg base N qual (defScope st) f cdv A outer s H E) (defBody st) t ∧ t { nx := fun _ H' => Q .non H', rt := Q } (start N vs) H := by
  obtain ⟨G, A0, ds, hn, ok, a⟩ := h
  have hl : vs.length = ps.length := by rw [ok.len, hn]
  have hlt : ∀ i ∈ bs, i < ds.length := fun i hi => by rw [hn]; exact hbs i hi
  -- the addresses of what is handed by reference
  have : ∃ B : List (Nat × Addr), B.map (·.1) = bs ∧ ∀ q ∈ B, vs[q.1]? = some (.ref q.2) := by
    have : ∀ l : List Nat, (∀ i ∈ l, i ∈ bs) → ∃ B : List (Nat × Addr), B.map (·.1) = l ∧ ∀ q ∈ B, vs[q.1]? = some (.ref q.2) := by
      intro l
      induction l with
      | nil => intro _; exact ⟨[], rfl, fun q h => by cases h⟩
      | cons i l ih =>
        intro hi
        obtain ⟨B, h1, h2⟩ := ih fun j hj => hi j (List.mem_cons_of_mem _ hj)
        have him := hi i List.mem_cons_self
        obtain ⟨p, e, _⟩ := ok.own i _ (List.getElem?_eq_getElem (hlt i him)) him
        refine ⟨(i, p) :: B, by rw [List.map_cons, h1], fun q hq => ?_⟩
        rcases List.mem_cons.mp hq with z | z
        · subst z; exact e
        · exact h2 q z
    exact this bs fun _ h => h
  obtain ⟨B, hB1, hB2⟩ := this
  have hBm : ∀ q ∈ B, q.1 ∈ bs ∧ vs[q.1]? = some (.ref q.2) := fun q hq => ⟨by rw [← hB1]; exact List.mem_map_of_mem hq, hB2 q hq⟩
  have hBi : ∀ i ∈ bs, ∃ p, (i, p) ∈ B ∧ vs[i]? = some (.ref p) := fun i hi => by
    rw [← hB1] at hi
    obtain ⟨q, hq, e⟩ := List.mem_map.mp hi
    subst e
    exact ⟨q.2, hq, hB2 q hq⟩
  refine ⟨_, body B hB1, G, _, _, rel_start ok (by rw [hl]; exact hN) B hBm hlt, ?_⟩
  have a : AfterF c bs G A0 H vs (match m (initC N.length bs ds) with
    | .next ρ => .ret .non (outsOf bs ρ)
    | .ret d ρ => .ret d (outsOf bs ρ)
    | .exc x ρ => .exc x (outsOf bs ρ)
    | _ => .stuck) Q E := a
  cases e : m (initC N.length bs ds) with
  | stuck => rw [e] at a; exact a.elim
  | brk ρ => rw [e] at a; exact a.elim
  | cont ρ => rw [e] at a; exact a.elim
  | next ρ => rw [e] at a; exact fun G' A' H' σ' s' R' => a G' H' .non (ret_of ok hlt hBi s' R') .non
  | ret d ρ => rw [e] at a; exact fun G' A' H' σ' v s' R' r => a G' H' v (ret_of ok hlt hBi s' R') r
  | exc x ρ => rw [e] at a; exact fun G' A' H' σ' dd s' R' r => a G' H' dd (ret_of ok hlt hBi s' R') r
/-- THE RULE for a def: its body's meaning is m -/
theorem fn_ok {x qual : Str} {st : Stmt} {f : Addr} {fd : FuncData} {N ps : List Str} {k : Nat} {dvs : List V} {kws : List (Str × V)} {m : MS} (bs : List Nat) (F : FunD K x qual (defArgs st) (defBody st) (defScope st) dvs kws f fd) (S : FnScope N ps (defScope st)) (hN : ps.length ≤ N.length) (hbs : ∀ i ∈ bs, i < ps.length)
    (body : ∀ (B : List (Nat × Addr)), B.map (·.1) = bs → ∀ (cdv : Value) (A : Around) (outer : List Env) (s : Shared) (H : Hp) (E : XK), Room k (A.deeper (PyProof.Rows.envOfC qual (defScope st) s.heap.objs.size f cdv)) →
      PSs (cxOf (L2.CX P w) P w K mg base N qual (defScope st) f cdv A outer s H E) (defBody st) (tS c B (fun cls d _ H => E cls d H) m)) :
    FnOk P w K mg base (L2.CX P w) (k + 1) f fd ps (spM c bs ps.length (mkFn N.length bs m)) :=
  F.ok S (fun vs H Q E h => by
    obtain ⟨G, A, ds, hn, ok, _⟩ := h
    rw [ok.len, hn]) fun cdv A outer s H vs Q E hr h => fn_core bs hN hbs (fun B hB => body B hB cdv A outer s H E hr) h
theorem fn_ok0 {x qual : Str} {st : Stmt} {f : Addr} {fd : FuncData} {N ps : List Str} {k : Nat} {dvs : List V} {kws : List (Str × V)} {m : MS} (F : FunD K x qual (defArgs st) (defBody st) (defScope st) dvs kws f fd) (S : FnScope N ps (defScope st)) (hN : ps.length ≤ N.length)
    (body : ∀ (cdv : Value) (A : Around) (outer : List Env) (s : Shared) (H : Hp) (E : XK), Room k (A.deeper (PyProof.Rows.envOfC qual (defScope st) s.heap.objs.size f cdv)) →
      PSs (cxOf (L2.CX P w) P w K mg base N qual (defScope st) f cdv A outer s H E) (defBody st) (tS c [] (fun cls d _ H => E cls d H) m)) :
    FnOk P w K mg base (L2.CX P w) (k + 1) f fd ps (spM c [] ps.length (mkFn N.length [] m)) :=
  fn_ok [] F S hN (fun i h => by simp at h) fun B hB => by
    have : B = [] := by simpa using hB
    subst this
    exact body
theorem fn_ok1 (i : Nat) {x qual : Str} {st : Stmt} {f : Addr} {fd : FuncData} {N ps : List Str} {k : Nat} {dvs : List V} {kws : List (Str × V)} {m : MS} (F : FunD K x qual (defArgs st) (defBody st) (defScope st) dvs kws f fd) (S : FnScope N ps (defScope st)) (hN : ps.length ≤ N.length) (hi : i < ps.length)
    (body : ∀ (a : Addr) (cdv : Value) (A : Around) (outer : List Env) (s : Shared) (H : Hp) (E : XK), Room k (A.deeper (PyProof.Rows.envOfC qual (defScope st) s.heap.objs.size f cdv)) →
      PSs (cxOf (L2.CX P w) P w K mg base N qual (defScope st) f cdv A outer s H E) (defBody st) (tS c [(i, a)] (fun cls d _ H => E cls d H) m)) :
    FnOk P w K mg base (L2.CX P w) (k + 1) f fd ps (spM c [i] ps.length (mkFn N.length [i] m)) :=
  fn_ok [i] F S hN (fun j h => by simp at h; subst h; exact hi) fun B hB => by
    match B, hB with
    | [(j, a)], hB =>
      have : j = i := by simpa using hB
      subst this
      exact body a
end
end Fx
set_option Elab.async false
set_option linter.all false
set_option maxRecDepth 100000
set_option maxHeartbeats 4000000
namespace Fx
open PySem L2
/-- what the written part says of FarmError -/
structure BaseX (K : PySem.W.Frag) (mg : Str → Option Value) (CB : Addr) : Prop where
  gB : mg "FarmError" = some (.ref CB)
  sB : PySem.W.specialIn K (.ref CB) "__getattribute__" = some (some (.builtin "type.__getattribute__"))
  rB : PySem.W.readsIn K CB (.type "type") = true
  vB : PySem.W.findCls K (.ref CB) (.type "type") "__init__" = some (.val (.builtin "ValueError.__init__"))
section
variable {X : Cx} {o e : Expr} {es : List Expr} {to te : TE} {ta : TA} {f : Str} {p p' p1 p2 pos : Pos}
theorem pe_feinit {CB : Addr} {pl : Sem Bool} (T : BaseX X.K X.mg CB) (ha : PA X (e :: es) ta) (hg : Gl X "FarmError" := by rfl)
    (hc : eval (.Call (.Attribute (.Name "FarmError" p1) "__init__" p2) (e :: es) [] pos) X.env = (do
      let ov ← eval (.Name "FarmError" p1) X.env
      standAt p2.atName
      let (f, first) ← holding [ov] (getMethod ov "__init__" pl)
      callWith pos f first (backTo pos (starEach (e :: es) X.env)) (backToKw pos (keywordEach [] X.env))) := by rfl)
    (he : starEach (e :: es) X.env = (false, eval e X.env) :: starEach es X.env := by rfl) (hpl : (backTo pos (starEach es X.env)).any (·.1) = false := by rfl) :
    PE X (.Call (.Attribute (.Name "FarmError" p1) "__init__" p2) (e :: es) [] pos) (tVeI X.K ta) := by
  refine ⟨fun pins s σ H Q I h => ?_⟩
  refine PySem.W.methodCall_KW (ld_glob I hg T.gB ?_ (by decide)) hc
  refine PySem.W.method_cls I.kIn T.sB (PySem.W.cls_value I.kIn T.rB T.vB (by decide +kernel) ?_)
  show wpAny _ _ (callWith pos (Value.builtin "ValueError.__init__") [] (backTo pos (starEach (e :: es) X.env)) []) _ _ _
  refine PyProof.Rows.callWith_method1 (thn (ha.run pos pins _ σ H _ (I.tok _) h) fun us s1 ⟨vs, H1, I1, r1, a, C, ws, ev, hl, T, ea, q⟩ => ?_) he hpl
  subst ev
  cases r1 with
  | @cons _ u0 _ ur ra rw' =>
    obtain rfl : u0 = Value.ref a := ra
    have hlen : ur.length ≤ sizeLine := by
      rw [← Paired.length rw', sizeLine_eq]
      omega
    exact oinit_ok T I1 ea hlen fun s' J => ⟨.non, H1, J, rfl, q⟩
end
/-- __init__ with one field, with two -/
def spI1 (C : Addr) (f : Str) : Sp := fun vs H Q _ => ∃ a y, vs = [.ref a, y] ∧ H a = some (exo a C none) ∧ ∀ dx, H dx = none → dx ≠ a → Q .non (upd (upd H dx (exd dx [(f, y)])) a (exo a C (some dx)))
def spI2 (C : Addr) (f g : Str) : Sp := fun vs H Q _ => ∃ a y z, vs = [.ref a, y, z] ∧ H a = some (exo a C none) ∧ ∀ dx, H dx = none → dx ≠ a → Q .non (upd (upd (upd H dx (exd dx [(f, y)])) a (exo a C (some dx))) dx (exd dx [(g, z), (f, y)]))
theorem read1 {K : PySem.W.Frag} {C : Addr} {f msg : Str} {N : List Str} (hN : N.length = 2) (T : OexC K C) (hf : PySem.W.findIn K (.ref C) f = some none) {vs : List V} {H : Hp} {Q : VK} {E : XK} (h : spI1 C f vs H Q E) :
    tSeq (tDrop (tVeI K (tCons (tVar 0) (tCons (tC (.str msg)) tNil)))) (tOst K f (tVar 0) (tVar 1)) { nx := fun _ H' => Q .non H', rt := Q } (L2.start N vs) H := by
  obtain ⟨a, y, rfl, ha, k⟩ := h
  have e0 : (L2.start N [V.ref a, y])[0]? = some (some (V.ref a)) := rfl
  have e1 : (L2.start N [V.ref a, y])[1]? = some (some y) := rfl
  exact ⟨_, e0, a, C, [.str msg], rfl, by simp, T, ha, _, e1, _, e0, a, C, rfl, T, hf, .inl ⟨ha, fun dx n ne => k dx n ne⟩⟩
theorem read2 {K : PySem.W.Frag} {C : Addr} {f g msg : Str} {N : List Str} (hN : N.length = 3) (T : OexC K C) (hf : PySem.W.findIn K (.ref C) f = some none) (hg : PySem.W.findIn K (.ref C) g = some none) {vs : List V} {H : Hp} {Q : VK} {E : XK} (h : spI2 C f g vs H Q E) :
    tSeq (tDrop (tVeI K (tCons (tVar 0) (tCons (tC (.str msg)) tNil)))) (tSeq (tOst K f (tVar 0) (tVar 1)) (tOst K g (tVar 0) (tVar 2))) { nx := fun _ H' => Q .non H', rt := Q } (L2.start N vs) H := by
  obtain ⟨a, y, z, rfl, ha, k⟩ := h
  have e0 : (L2.start N [V.ref a, y, z])[0]? = some (some (V.ref a)) := rfl
  have e1 : (L2.start N [V.ref a, y, z])[1]? = some (some y) := rfl
  have e2 : (L2.start N [V.ref a, y, z])[2]? = some (some z) := rfl
  refine ⟨_, e0, a, C, [.str msg], rfl, by simp, T, ha, _, e1, _, e0, a, C, rfl, T, hf, .inl ⟨ha, fun dx n ne => ?_⟩⟩
  exact ⟨_, e2, _, e0, a, C, rfl, T, hg, .inr ⟨dx, _, upd_same, by rw [upd_ne ne, upd_same], by simp, k dx n ne⟩⟩
section
variable {c : Cf} {B : List (Nat × Addr)} {W : WX} {X : Cx} {G H : Hp} {A : Addr → Prop} {σ : L2.St} {ρ : Cells} {Z : Ends}
/-- a class of errors as the written part has it: its code x -/
structure XcK (c : Cf) (K : PySem.W.Frag) (mg : Str → Option Value) (x : Nat) (nm : Str) (fI : Addr) : Prop where
  gC : mg nm = some (.ref (c.exc x))
  oex : OexC K (c.exc x)
  iC : PySem.W.findIn K (.ref (c.exc x)) "__init__" = some (some (.ref fI))
  tI : PySem.W.typeIn K (.ref fI) = some (.type "function")
def mRaise (x : Nat) (fs : List (M D)) : MS := mDo (seqM fs) fun ds ρ => .exc ⟨x, ds.reverse⟩ ρ
theorem raise_end (R : Rel c B G A H σ ρ) {x : Nat} {ds : List D} {d : Addr} {vs : List V} (hd : H d = none) (r : RepL c G vs ds.reverse) (a : AfterS c B W G A H (.exc ⟨x, ds.reverse⟩ ρ) Z) :
    W (.ref (c.exc x)) (some d) σ (upd H d (.xd ((c.flds x).zip vs))) := by
  have e := Ext.upd (o := .xd ((c.flds x).zip vs)) R.same hd
  exact a _ A _ σ d (Stp.same e.gg e.keep) (R.ext e) ⟨vs, upd_same, r.mono e.gg⟩
theorem ps_raise1 {x : Nat} {nm f : Str} {fI : Addr} {k : Nat} {fd : FuncData} {ps : List Str} {e : Expr} {fe : M D} {p pos pos2 : Pos} (hc : X.calm = true) (tk : Takes X W) (T : XcK c X.K X.mg x nm fI) (hf : c.flds x = [f])
    (F1 : FnOk X.prog X.w X.K X.mg X.base (L2.CX X.prog X.w) k fI fd ps (spI1 (c.exc x) f)) (hr : Room (k + 1) X.A) (hb : Binds X.K fd ps []) (ha : PE X e (tM c B W fe)) (hg : Gl X nm := by rfl)
    (hdb : (nm == ("__debug__" : Str)) = false := by decide) (he : starEach (e :: []) X.env = (false, eval e X.env) :: starEach [] X.env := by rfl) (hpl : (backTo pos (starEach [] X.env)).any (·.1) = false := by rfl) :
    PS X (.Raise (some (.Call (.Name nm p) [e] [] pos)) none pos2) (tS c B W (mRaise x [fe])) :=
  ps_imp (ps_raise hc tk (pmk_oex T.oex T.iC T.tI F1 hr hb .nil passL hg T.gC (pd_cons ha pd_nil he) hdb he hpl)) fun Z σ H ⟨G, A, ρ, R, a⟩ => by
    refine ⟨G, A, ρ, R, (a.split R).len.imp fun ds ρ' G' H' _ _ R' ⟨hl, q⟩ vs r => ?_⟩
    match ds, hl with
    | [d1], _ =>
      obtain ⟨v, rfl, rv⟩ := repL1 r
      refine ⟨by simp, fun a na => ⟨a, v, rfl, upd_same, fun dx n ne => ⟨rfl, dx, [(f, v)], upd_same, by rw [upd_ne ne, upd_same], ?_, ?_⟩⟩⟩
      · rw [upd_ne ne] at n; exact n
      · have n' : H' dx = none := by rw [upd_ne ne] at n; exact n
        have z := raise_end (vs := [v]) (ds := [d1]) R' n' (.one rv) q
        rw [hf] at z
        have ee : upd (del (upd (upd (upd H' a (exo a (c.exc x) none)) dx (exd dx [(f, v)])) a (exo a (c.exc x) (some dx))) a) dx (.xd [(f, v)]) = upd H' dx (.xd [(f, v)]) := by
          funext b
          by_cases hb : b = dx
          · subst hb; rw [upd_same, upd_same]
          · rw [upd_ne hb, upd_ne hb]
            by_cases hba : b = a
            · subst hba; rw [del_same, na]
            · rw [del_ne hba, upd_ne hba, upd_ne hb, upd_ne hba]
        rw [ee]
        exact z
theorem ps_raise2 {x : Nat} {nm f g : Str} {fI : Addr} {k : Nat} {fd : FuncData} {ps : List Str} {e e2 : Expr} {fe fe2 : M D} {p pos pos2 : Pos} (hc : X.calm = true) (tk : Takes X W) (T : XcK c X.K X.mg x nm fI) (hf : c.flds x = [g, f])
    (F1 : FnOk X.prog X.w X.K X.mg X.base (L2.CX X.prog X.w) k fI fd ps (spI2 (c.exc x) f g)) (hr : Room (k + 1) X.A) (hb : Binds X.K fd ps []) (ha : PE X e (tM c B W fe)) (ha2 : PE X e2 (tM c B W fe2)) (hg : Gl X nm := by rfl)
    (hdb : (nm == ("__debug__" : Str)) = false := by decide) (he : starEach (e :: [e2]) X.env = (false, eval e X.env) :: starEach [e2] X.env := by rfl) (he2 : starEach [e2] X.env = (false, eval e2 X.env) :: starEach [] X.env := by rfl) (hpl : (backTo pos (starEach [e2] X.env)).any (·.1) = false := by rfl) :
    PS X (.Raise (some (.Call (.Name nm p) [e, e2] [] pos)) none pos2) (tS c B W (mRaise x [fe, fe2])) :=
  ps_imp (ps_raise hc tk (pmk_oex T.oex T.iC T.tI F1 hr hb .nil passL hg T.gC (pd_cons ha (pd_cons ha2 pd_nil he2) he) hdb he hpl)) fun Z σ H ⟨G, A, ρ, R, a⟩ => by
    refine ⟨G, A, ρ, R, (a.split R).len.imp fun ds ρ' G' H' _ _ R' ⟨hl, q⟩ vs r => ?_⟩
    match ds, hl with
    | [d1, d2], _ =>
      cases r with
      | @cons v _ _ _ rv rt =>
        obtain ⟨w, rfl, rw'⟩ := repL1 rt
        refine ⟨by simp, fun a na => ⟨a, v, w, rfl, upd_same, fun dx n ne => ⟨rfl, dx, [(g, w), (f, v)], by rw [upd_ne (Ne.symm ne), upd_same], upd_same, ?_, ?_⟩⟩⟩
        · rw [upd_ne ne] at n; exact n
        · have n' : H' dx = none := by rw [upd_ne ne] at n; exact n
          have z := raise_end (vs := [w, v]) (ds := [d1, d2]) R' n' (.cons rw' (.one rv)) q
          rw [hf] at z
          have ee : upd (del (upd (upd (upd (upd H' a (exo a (c.exc x) none)) dx (exd dx [(f, v)])) a (exo a (c.exc x) (some dx))) dx (exd dx [(g, w), (f, v)])) a) dx (.xd [(g, w), (f, v)]) = upd H' dx (.xd [(g, w), (f, v)]) := by
            funext b
            by_cases hb : b = dx
            · subst hb; rw [upd_same, upd_same]
            · rw [upd_ne hb, upd_ne hb]
              by_cases hba : b = a
              · subst hba; rw [del_same, na]
              · rw [del_ne hba, upd_ne hb, upd_ne hba, upd_ne hb, upd_ne hba]
          rw [ee]
          exact z
end
end Fx
set_option Elab.async false
set_option linter.all false
set_option maxRecDepth 100000
set_option maxHeartbeats 4000000
namespace Fx
open PySem L2
section
variable {c : Cf} {B : List (Nat × Addr)} {W : WX} {X : Cx} {G H : Hp} {A : Addr → Prop} {σ : L2.St} {ρ : Cells} {Z : Ends}
theorem zip_lookup {f : Str} {d : D} : ∀ {ns : List Str} {vs : List V} {ds : List D}, RepL c G vs ds → ns.length = vs.length → (ns.zip ds).lookup f = some d → ∃ v, (ns.zip vs).lookup f = some v ∧ Rep c G v d
  | [], [], _, .nil, _, h => by cases h
  | n :: ns, v :: vs, e :: ds, .cons r t, hl, h => by
    rw [List.zip_cons_cons, List.lookup_cons] at h ⊢
    cases hq : f == n with
    | true => simp only [hq] at h ⊢; cases h; exact ⟨v, rfl, r⟩
    | false => simp only [hq] at h ⊢; exact zip_lookup t (by simpa using hl) h
  | n :: ns, [], _, .nil, hl, _ => by cases hl
def mFld (fe : M D) (f : Str) : M D := fe.bind fun d => match d with
  | .rcd ns ds => M.lift ((ns.zip ds).lookup f)
  | _ => M.stuck
theorem pm_fld {e : Expr} {f : Str} {fe : M D} {pos : Pos} (T : Cls X.K c.farm) (n : NoAttr X.K c.farm f) (he : PE X e (tM c B W fe)) (hb : attributeBase e f X.env (eval e X.env) = eval e X.env := by rfl) : PE X (.Attribute e f pos) (tM c B W (mFld fe f)) :=
  pe_imp (pe_fld he hb) fun σ H Q ⟨G, A, ρ, R, a⟩ => by
    refine ⟨G, A, ρ, R, a.split.imp fun d ρ1 G1 H1 _ _ R1 q v r => ?_⟩
    cases d <;> first | exact q.elim | skip
    obtain ⟨d, e1, q⟩ := q.lift R1
    cases r with
    | rcd h l rl =>
      obtain ⟨v, h1, h2⟩ := zip_lookup rl l e1
      exact ⟨_, _, _, _, v, rfl, R1.same _ _ h, T, n, h1, q v h2⟩
theorem putF_new {f : Str} {v : V} : ∀ {ns : List Str} {vs : List V}, ns.length = vs.length → ns.contains f = false → putF f v (ns.zip vs) = (ns ++ [f]).zip (vs ++ [v])
  | [], [], _, _ => rfl
  | n :: ns, w :: vs, hl, h => by
    have hn : ¬ n = f := fun z => by subst z; simp at h
    rw [List.zip_cons_cons, List.cons_append, List.cons_append, List.zip_cons_cons]
    show (if n = f then (n, v) :: ns.zip vs else (n, w) :: putF f v (ns.zip vs)) = _
    rw [if_neg hn, putF_new (by simpa using hl) (by simp at h ⊢; exact h.2)]
  | [], _ :: _, hl, _ => by cases hl
  | _ :: _, [], hl, _ => by cases hl
def mSetF (i : Nat) (f : Str) (fe : M D) : MS := mDo fe fun d => mDo (ownAt i) fun o ρ => match o with
  | .rcd ns ds => if ns.contains f = false ∧ ns.length < 100 then .next (ρ.set i (.own (.rcd (ns ++ [f]) (ds ++ [d])))) else .stuck
  | _ => .stuck
theorem ps_setF (i : Nat) {x f : Str} {e : Expr} {fe : M D} {np p pos : Pos} (T : Cls X.K c.farm) (n : NoAttr X.K c.farm f) (he : PE X e (tM c B W fe)) (hN : X.N[i]? = some x := by rfl) (hv : Vis X.env.scope x := by first | exact Or.inl rfl | exact Or.inr (Or.inl rfl) | exact Or.inr (Or.inr rfl)) (hd : (x == ("__debug__" : Str)) = false := by decide)
    (hcd : (x == ("__classdict__" : Str)) = false := by decide) (hs : swapsWith e (some (.Attribute (.Name x np) f p)) pos.line X.env = pure false := by rfl) : PS X (.Assign [.Attribute (.Name x np) f p] e pos) (tS c B W (mSetF i f fe)) :=
  ps_imp (ps_fld (pe_var hN hv hd hcd) he hs) fun Z σ H ⟨G, A, ρ, R, a⟩ => by
    refine ⟨G, A, ρ, R, (a.split R).imp fun d ρ1 G1 H1 _ _ R1 q v r => ?_⟩
    unfold mDo ownAt at q
    cases e1 : ρ1[i]? with
    | none => simp only [e1] at q; exact q.elim
    | some cl =>
      simp only [e1] at q
      cases cl with
      | no => exact q.elim
      | dat d => exact q.elim
      | own o =>
        simp only at q
        obtain ⟨p, es, hA, hO⟩ := R1.own i o e1
        cases o <;> first | exact q.elim | skip
        rename_i ns ds
        obtain ⟨dx, xs, h1, h2, h3⟩ := hO
        have q : AfterS c B W G1 A H1 (if ns.contains f = false ∧ ns.length < 100 then .next (ρ1.set i (.own (.rcd (ns ++ [f]) (ds ++ [d])))) else .stuck) Z := q
        split at q
        · rename_i hc
          refine ⟨_, es, p, _, dx, _, rfl, h1, T, n, by rw [List.length_zip]; omega, ?_⟩
          rw [putF_new h2 hc.1]
          obtain ⟨R2, k2, s2⟩ := R1.setOwn (d' := .rcd (ns ++ [f]) (ds ++ [d])) (o := .ins c.farm dx ((ns ++ [f]).zip (xs ++ [v]))) e1 es ⟨dx, _, rfl, by simp [h2], h3.append (.one r)⟩
          exact AfterS.nx (AfterS.of R1.own_there (Stp.same (Same.refl _) k2) q) R2
        · exact q.elim
def mMake (F : Fn) (fs : List (M D)) : M D := (seqM fs).bind fun ds ρ => match F (.rcd [] [] :: ds) with
  | .ret .non [.rcd ns es] => .ok (.rcd ns es) ρ
  | .exc x _ => .exc x ρ
  | _ => .stuck
theorem pm_make {F : Fn} {fs : List (M D)} {k n : Nat} {fI : Addr} {fd : FuncData} {ps : List Str} {E : XK} {x : Str} {p pos : Pos} {e : Expr} {es : List Expr} (Mk' : Mk X.K c.farm fI)
    (Fo : FnOk X.prog X.w X.K X.mg X.base (L2.CX X.prog X.w) k fI fd ps (spM c [0] n F)) (hr : Room (k + 1) X.A) (hx : Passes (L2.CX X.prog X.w) X E) (hm : X.mg x = some (.ref c.farm)) (hb : Binds X.K fd ps [])
    (ha : PA X (e :: es) (tD c B (fun cls d _ H => E cls d H) fs)) (hn : fs.length + 1 = n := by rfl) (hg : Gl X x := by rfl) (hdb : (x == ("__debug__" : Str)) = false := by decide)
    (he : starEach (e :: es) X.env = (false, eval e X.env) :: starEach es X.env := by rfl) (hpl : (backTo pos (starEach es X.env)).any (·.1) = false := by rfl) :
    PE X (.Call (.Name x p) (e :: es) [] pos) (tM c B (fun cls d _ H => E cls d H) (mMake F fs)) :=
  pe_imp (pe_make Mk' Fo hr hg hm hb .nil hx ha hdb he hpl) fun σ H Q ⟨G, A, ρ, R, a⟩ => by
    refine ⟨G, A, ρ, R, a.split.len.imp fun ds ρ1 G1 H1 _ _ R1 ⟨hl, q⟩ vs rv x dx hx hdx hne => ?_⟩
    have hsm : Same H1 (upd (upd H1 dx (.own x)) x (.ins c.farm dx [])) := fun b o e => by
      rw [upd_ne (ne_of_none e hx), upd_ne (ne_of_none e hdx)]; exact e
    have gx : G1 x = none := R1.same.free hx
    refine ⟨G1, fun b => b = x, .rcd [] [] :: ds, by rw [List.length_cons, hl]; exact hn, ⟨R1.same.trans hsm, fun b hb => by rw [hb]; exact ⟨gx, _, upd_same⟩, ?_, fun i d hd hi => ?_, fun i d hd hi => ?_, fun i j p hij hi hj => ?_⟩, ?_⟩
    · rw [List.append_nil, List.length_cons, List.length_cons, rv.length]
    · rw [List.append_nil]
      cases i with
      | zero => simp at hi
      | succ i =>
        obtain ⟨v, h1, h2⟩ := rv.get (i := i) (d := d) (by simpa using hd)
        exact ⟨v, by simpa using h1, h2⟩
    · have hi0 : i = 0 := by simpa using hi
      subst hi0
      have hd' : D.rcd [] [] = d := by simpa using hd
      subst hd'
      exact ⟨x, rfl, rfl, dx, [], upd_same, rfl, .nil⟩
    · have h1 : i = 0 := by simpa using hi
      have h2 : j = 0 := by simpa using hj
      exact absurd (h1.trans h2.symm) hij
    · have q : After c B (fun cls d _ H => E cls d H) G1 A H1 σ (match F (.rcd [] [] :: ds) with
        | .ret .non [.rcd ns es] => .ok (.rcd ns es) ρ1
        | .exc x _ => .exc x ρ1
        | _ => .stuck) (fun d _ G' H' => ∀ v, Rep c G' v d → Q v H') := q
      have ext : ∀ {outs : List D} {G' H' : Hp}, Ret c [0] G1 (fun b => b = x) (upd (upd H1 dx (.own x)) x (.ins c.farm dx [])) (V.ref x :: (vs ++ [])) outs G' H' → ∀ b o, H1 b = some o → H' b = some o ∧ G' b = G1 b := fun {outs G' H'} r b o e => r.kp b o (hsm b o e) (ne_of_none e hx)
      cases ef : F (.rcd [] [] :: ds) with
      | stuck => rw [ef] at q; exact q.elim
      | exc y outs =>
        rw [ef] at q
        intro G' H' dd r rx
        have ee : Ext G1 H1 G' H' := ⟨r.gg, fun b o e => (ext r b o e).1, r.gh, fun b o e => (ext r b o e).2⟩
        exact q G' H' dd r.gg ee.keep (R1.ext ee) rx
      | ret d0 outs =>
        rw [ef] at q
        cases d0 <;> first | exact q.elim | skip
        match outs, q with
        | [.rcd ns es], q =>
          intro G' H' v r rv0
          obtain rfl : v = .non := by cases rv0; rfl
          refine ⟨rfl, ?_⟩
          obtain ⟨p, hp, ho⟩ := r.outs.2 0 0 _ rfl rfl
          have hpx : p = x := by
            have : V.ref x = V.ref p := by simpa using hp
            cases this; rfl
          subst hpx
          obtain ⟨dx', xs, h1, h2, h3⟩ := ho
          have gn : G' p = none := (r.ownA p rfl).1
          have ee : Ext G1 H1 (upd G' p (.ins c.farm dx' (ns.zip xs))) H' := ⟨r.gg.trans (same_upd gn), fun b o e => (ext r b o e).1, fun b o e => by
            by_cases z : b = p
            · subst z; rw [upd_same] at e; cases e; exact h1
            · rw [upd_ne z] at e; exact r.gh b o e, fun b o e => by rw [upd_ne (ne_of_none e hx)]; exact (ext r b o e).2⟩
          exact q _ H' ee.gg ee.keep (R1.ext ee) _ (.rcd upd_same h2 (h3.mono (same_upd gn)))
def noName (m : Str) : D → Bool
  | .rcd ns _ => !ns.contains m
  | _ => false
def mMethF (F : Fn) (m : Str) (fo : M D) (fs : List (M D)) : M D := fo.bind fun d => if noName m d = true then (seqM fs).bind fun ds => appF F (d :: ds) else M.stuck
end
end Fx
set_option Elab.async false
set_option linter.all false
set_option maxRecDepth 100000
set_option maxHeartbeats 4000000
namespace Fx
open PySem L2
section
variable {c : Cf} {B : List (Nat × Addr)} {W : WX} {X : Cx} {G H : Hp} {A : Addr → Prop} {σ : L2.St} {ρ : Cells} {Z : Ends}
def mNeg (f : M D) : M D := f.bind fun d => match d with
  | .int i => M.pure (.int (-i))
  | _ => M.stuck
theorem pm_neg {a : Expr} {f : M D} {pos : Pos} (h : PE X a (tM c B W f)) : PE X (.UnaryOp .USub a pos) (tM c B W (mNeg f)) :=
  pe_imp (pe_un un_neg h) fun σ H Q ⟨G, A, ρ, R, a⟩ => by
    refine ⟨G, A, ρ, R, a.split.imp fun d ρ1 G1 H1 _ _ R1 q v r => ?_⟩
    cases d <;> first | exact q.elim | skip
    obtain rfl := rep_int r
    exact ⟨_, rfl, After.ok q R1 _ (.int _)⟩
def mPar (f g : M D) (i j : Nat) : MS := mDo f fun d => mDo g fun e ρ => .next ((ρ.set i (.dat d)).set j (.dat e))
def isRcd : D → Bool
  | .rcd _ _ => true
  | _ => false
def mLenF (F : Fn) (fe : M D) : M D := fe.bind fun d ρ => if isRcd d = true then (match F [d] with
  | .ret (.int n) _ => if 0 ≤ n ∧ n < 2 ^ 63 then .ok (.int n) ρ else .stuck
  | _ => .stuck) else .stuck
theorem pm_lenF {F : Fn} {fe : M D} {k : Nat} {f : Addr} {fd : FuncData} {ps : List Str} {E : XK} {e : Expr} {p pos : Pos} (hs : PySem.W.findIn X.K (.ref c.farm) "__len__" = some (some (.ref f))) (hf : PySem.W.isFn X.K (.ref f) = true)
    (Fo : FnOk X.prog X.w X.K X.mg X.base (L2.CX X.prog X.w) k f fd ps (spM c [] 1 F)) (hr : Room (k + 1) X.A) (tk : Takes X W) (hb : Binds X.K fd ps []) (hm : X.mg "len" = none)
    (he : PE X e (tM c B W fe)) (hg : Gl X "len" := by rfl)
    (hst : starEach [e] X.env = (false, eval e X.env) :: starEach [] X.env := by rfl) (hpl : (backTo pos (starEach [] X.env)).any (·.1) = false := by rfl) :
    PE X (.Call (.Name "len" p) [e] [] pos) (tM c B W (mLenF F fe)) := by
  refine ⟨fun pins s σ H Q I ⟨G, A, ρ, R, a⟩ => ?_⟩
  refine wpAny_Call_Name_kw (ld_blt I hg hm boot_len ?_)
  refine PyProof.Rows.callWith_builtin1 (thn ((pa_cons he pa_nil hst).run pos pins s σ H (fun vs H2 => ∃ v d G' ρ', vs = [v] ∧ Rel c B G' A H2 σ ρ' ∧ Rep c G' v d ∧ After c B W G' A H2 σ (if isRcd d = true then (match F [d] with
    | .ret (.int n) _ => if 0 ≤ n ∧ n < 2 ^ 63 then .ok (.int n) ρ' else .stuck
    | _ => .stuck) else .stuck) fun d _ G' H' => ∀ v, Rep c G' v d → Q v H') I ?_) fun us s1 ⟨vs, H1, I1, r1, q1⟩ => ?_) hst hpl
  · exact ⟨G, A, ρ, R, a.split.imp fun d ρ1 G1 H1 _ _ R1 q v r => ⟨v, d, G1, ρ1, rfl, R1, r, q⟩⟩
  · obtain ⟨v, d, G', ρ', rfl, R', r, q⟩ := q1
    cases d <;> first | exact q.elim | skip
    rename_i ns ds
    have r0 := r
    cases r with
    | rcd h l rl =>
      rename_i x dx xs
      rw [show isRcd (D.rcd ns ds) = true from rfl, if_pos rfl] at q
      cases ef : F [.rcd ns ds] with
      | stuck => rw [ef] at q; exact q.elim
      | exc y outs => rw [ef] at q; exact q.elim
      | ret d0 outs =>
        rw [ef] at q
        cases d0 <;> first | exact q.elim | skip
        rename_i n
        have q : After c B W G' A H1 σ (if 0 ≤ n ∧ n < 2 ^ 63 then .ok (.int n) ρ' else .stuck) fun d _ G' H' => ∀ v, Rep c G' v d → Q v H' := q
        split at q
        · rename_i hn
          cases r1 with
          | cons rv rn =>
            cases rn
            obtain rfl : _ = Value.ref x := rv
            obtain ⟨mA, O, _⟩ := ins_get I1.hok (R'.same _ _ h)
            obtain ⟨od, J, _⟩ := ObjM.look O
            refine Calls.call_function_entry kind_len plain_len entry_len (args_len1 _) ?_
            unfold Builtin.«len»
            refine wpAny_bind (m := oneArg "len" _) (wpAny_pure ?_)
            refine wpAny_bind (m := callSpecial? (.ref x) (Str.ofString "__len__")) (PySem.W.special_fn I1.kIn J hs (beq_iff_eq.mp hf) ?_)
            have hsp : spM c [] 1 F [V.ref x] H1 (fun v H' => v = .int n ∧ Q v H') (fun cls d H => W cls d σ H) := by
              refine ⟨G', _, [.rcd ns ds], rfl, argsOk_rep R'.same (.cons r0 .nil), ?_⟩
              rw [ef]
              intro G2 H2 v r rv
              obtain ⟨s1, k1, R3⟩ := r.rel R'
              obtain rfl := rep_int rv
              exact ⟨rfl, q G2 H2 s1 k1 R3 _ (.int _)⟩
            refine wpAny_call (codeAny_mono (Fo.run X.A.in1 X.stack s1 H1 ⟨[.ref x], []⟩ [.ref x] [.ref x] _ (fun cls d H => W cls d σ H) hr.in1 I1.env0.in1 (hb s1 [.ref x] I1.kIn (Fo.len _ _ _ _ hsp)) (.cons rfl .nil) hsp) fun r s' hq => ?_)
            cases r with
            | error e => exact passAt tk σ pins H1 s1 e s' I1 hq
            | ok fl =>
              cases fl with
              | ret u =>
                obtain ⟨v, H2, I2, ru, ev, qv⟩ := I1.after hq
                subst ev
                obtain ⟨tk2, rfl⟩ := ru
                refine wpAny_bind (wpAny_holding (wpAny_pure ?_))
                refine wpAny_bind (wpAny_letGo ?_)
                show wpAny _ _ (if n < 0 then _ else _) _ _ _
                rw [if_neg (by omega)]
                show wpAny _ _ (if n ≥ 2 ^ 63 then _ else _) _ _ _
                rw [if_neg (by omega)]
                exact wpAny_bind (wpAny_mkInt (wpAny_pure ⟨_, rfl, V.int n, H2, I2.tok _, ⟨_, rfl⟩, qv⟩))
              | next => exact False.elim hq
              | brk => exact False.elim hq
              | cont => exact False.elim hq
        · exact q.elim
end
end Fx
set_option Elab.async false
set_option linter.all false
set_option maxRecDepth 100000
set_option maxHeartbeats 4000000
namespace Fx
open PySem L2
section
variable {c : Cf} {B : List (Nat × Addr)} {W : WX} {X : Cx} {G H : Hp} {A : Addr → Prop} {σ : L2.St} {ρ : Cells} {Z : Ends}
def dedupI : List Int → List Int
  | [] => []
  | a :: l => if l.contains a = true then dedupI l else a :: dedupI l
theorem mem_dedupI {a : Int} : ∀ {l : List Int}, a ∈ dedupI l ↔ a ∈ l
  | [] => Iff.rfl
  | b :: l => by
    unfold dedupI
    split
    · rename_i h
      have h : b ∈ l := by simpa using h
      rw [mem_dedupI]
      constructor
      · exact List.mem_cons_of_mem _
      · intro z
        rcases List.mem_cons.mp z with e | e
        · subst e; exact h
        · exact e
    · rw [List.mem_cons, List.mem_cons, mem_dedupI]
theorem nodup_dedupI : ∀ l : List Int, (dedupI l).Nodup
  | [] => List.nodup_nil
  | b :: l => by
    unfold dedupI
    split
    · exact nodup_dedupI l
    · rename_i h
      exact List.nodup_cons.mpr ⟨fun z => h (by simpa using mem_dedupI.mp z), nodup_dedupI l⟩
theorem len_sub : ∀ {l m : List Int}, l.Nodup → (∀ x ∈ l, x ∈ m) → l.length ≤ m.length
  | [], _, _, _ => Nat.zero_le _
  | a :: l, m, nd, h => by
    obtain ⟨h1, h2⟩ := List.nodup_cons.mp nd
    have ha := h a List.mem_cons_self
    have q := len_sub (l := l) (m := m.erase a) h2 fun x hx => (List.mem_erase_of_ne (fun e => h1 (by rw [← e]; exact hx))).mpr (h x (List.mem_cons_of_mem _ hx))
    rw [List.length_erase_of_mem ha] at q
    have := List.length_pos_of_mem ha
    rw [List.length_cons]
    omega
def sLenSet : D → Option D
  | .tup ds => (intsOf ds).bind fun is => if is.length ≤ 4000 then some (.int (dedupI is).length) else none
  | _ => none
def mLenSet (fe : M D) : M D := fe.bind fun d => M.lift (sLenSet d)
theorem pm_lenSet {a : Expr} {f : M D} {p p2 q pos : Pos} (hc : X.calm = true) (hm : X.mg "len" = none) (hm2 : X.mg "set" = none) (ha : PE X a (tM c B W f)) (hK : c.K = X.K) (hg : Gl X "len" := by rfl) (hg2 : Gl X "set" := by rfl)
    (na : starEach [a] X.env = (false, eval a X.env) :: starEach [] X.env := by rfl) : PE X (.Call (.Name "len" p) [.Call (.Name "set" p2) [a] [] q] [] pos) (tM c B W (mLenSet f)) := by
  refine ⟨fun pins s σ H Q I ⟨G, A, ρ, R, h⟩ => ?_⟩
  refine PyProof.Rows.Call_ (ld_blt I hg hm boot_len ?_)
  refine PyProof.Rows.callWith_builtin1 (PyProof.Rows.args_cons ?_ rfl) rfl rfl
  refine PyProof.Rows.Call_ (ld_blt I hg2 hm2 PyProof.Rows.boot_set ?_)
  refine PyProof.Rows.callWith_type1 (PyProof.Rows.args_cons (thn (ha.run pins s σ H (fun x H2 => ∃ d G' ρ', Rel c B G' A H2 σ ρ' ∧ Rep c G' x d ∧ After c B W G' A H2 σ (M.lift (sLenSet d) ρ') fun d _ G' H' => ∀ v, Rep c G' v d → Q v H') I ?_) fun v s1 ⟨x, H1, I1, r1, q1⟩ => PyProof.Rows.args_nil ?_) na) na rfl
  · exact ⟨G, A, ρ, R, h.split.imp fun d ρ1 G1 H1 _ _ R1 q v r => ⟨d, G1, ρ1, R1, r, q⟩⟩
  · obtain ⟨d, G', ρ', R', r, q⟩ := q1
    obtain ⟨e, he, q⟩ := q.lift R'
    cases d <;> first | (cases he; done) | skip
    rename_i ds
    have he : ((intsOf ds).bind fun is => if is.length ≤ 4000 then some (D.int (dedupI is).length) else none) = some e := he
    cases hi : intsOf ds with
    | none => rw [hi] at he; cases he
    | some ns =>
      rw [hi] at he
      have he : (if ns.length ≤ 4000 then some (D.int (dedupI ns).length) else none) = some e := he
      split at he
      · rename_i hl4
        cases he
        cases r with
        | tup h1 rl =>
          rename_i l xs
          have ex := repI rl hi
          subst ex
          cases r1
          have hS : SqT X.K H1 l (ns.map V.int) := by rw [← hK]; exact (h1.mono R'.same).sq
          obtain ⟨its, rv, pl, hz⟩ := I1.tuple hS
          have hii : PyProof.Rows.IntsAre its.toArray.toList ns := ints_of_vals rv
          refine call_set_tupI ns (I1.ok.hd hc) (show s1.heap.IsTuple l its.toArray from pl) hii (by unfold scanBound; omega) fun h' tk c0 R1 hcn hk => ?_
          refine PyProof.Rows.args_nil ?_
          obtain ⟨o, es, ep, t, ho, hex, hd, g, nd, hm3, hb, hf, hn, _⟩ := R1
          have I2 : Inv X pins σ H1 { s1 with heap := h', toks := tk } := I1.kept fun b o e => hk b o e
          have el : es.size = (dedupI ns).length := by
            have e1 : es.size = (es.toList.map keyOf).length := by simp
            rw [e1]
            have m1 : ∀ k, k ∈ es.toList.map keyOf ↔ k ∈ dedupI ns := fun k => by rw [mem_dedupI, ← hm3 k, decide_eq_true_eq]
            exact Nat.le_antisymm (len_sub nd fun x hx => (m1 x).mp hx) (len_sub (nodup_dedupI ns) fun x hx => (m1 x).mpr hx)
          refine call_len_set ho hex hd hf (by rw [hn]; omega) ⟨.int es.size, H1, I2.tok _, ⟨_, rfl⟩, ?_⟩
          rw [el]
          exact q _ (.int _)
      · cases he
def keyD : D → Option Key
  | .int i => some (.inl i)
  | .str x => some (.inr x)
  | _ => none
theorem rep_key {v : V} {d : D} {k : Key} (r : Rep c G v d) (h : keyD d = some k) : v = kV k := by
  cases r <;> cases h <;> rfl
theorem Opr.dic {v : V} {ks : List Key} {ds : List D} (s : Same G H) (h : Opr c G H v (.dic ks ds)) : ∃ p xs, v = .ref p ∧ Rd H p (.dK (ks.zip xs)) ∧ ks.length = xs.length ∧ RepL c G xs ds := by
  rcases h with h | ⟨p, rfl, xs, h1, h2, h3⟩
  · cases h with
    | dic h1 h2 h3 => exact ⟨_, _, rfl, same_rd s h1, h2, h3⟩
  · exact ⟨p, xs, rfl, .inl h1, h2, h3⟩
theorem Opr.key {x : V} {d : D} {k : Key} (a : Opr c G H x d) (h : keyD d = some k) : x = kV k := by
  refine rep_key (a.rep fun o z => ?_) h
  cases d <;> first | exact z.elim | cases h
end
end Fx
set_option Elab.async false
set_option linter.all false
set_option maxRecDepth 100000
set_option maxHeartbeats 4000000
namespace Fx
open PySem L2
section
variable {c : Cf} {B : List (Nat × Addr)} {W : WX} {X : Cx} {G H : Hp} {A : Addr → Prop} {σ : L2.St} {ρ : Cells} {Z : Ends}
def mCallN (F : Fn) (f : M D) (fs : List (M D)) : M D := f.bind fun d => (seqM fs).bind fun ds ρ => match F (d :: ds) with
  | .stuck => .stuck
  | .ret e _ => .ok e ρ
  | .exc x _ => .exc x ρ
theorem callN_imp {F : Fn} {g : M D} {fs : List (M D)} {n : Nat} {ex : Expr} (hpe : PE X ex (tCallSD (spM c [0] n F) [] (WE W) (tCons (tF c B W g) (tD c B W fs)))) (hn : fs.length + 1 = n) : PE X ex (tM c B W (mCallN F g fs)) :=
  pe_imp hpe fun σ H Q ⟨G, A, ρ, R, a⟩ => by
    refine ⟨G, A, ρ, R, a.split.imp fun d ρ1 G1 H1 _ _ R1 a1 p0 H2 hp hh ho => ?_⟩
    have R2 : Rel c B G1 A H2 σ ρ1 := R1.ext ⟨Same.refl _, hh, R1.same.trans hh, fun _ _ _ => rfl⟩
    refine ⟨G1, A, ρ1, R2, ?_⟩
    have a2 := a1.split.len
    have np : ¬ A p0 := fun z => by obtain ⟨_, o, q⟩ := R1.ownA p0 z; rw [hp] at q; cases q
    have gp : G1 p0 = none := R1.same.free hp
    obtain ⟨o0, ho0⟩ := ho.some
    cases es' : seqM fs ρ1 with
    | stuck => rw [es'] at a2; exact a2.elim
    | exc y ρ3 =>
      rw [es'] at a2
      exact After.of (Same.refl _) (fun b o e _ => ⟨hh b o e, rfl⟩) (show After c B W G1 A H1 σ (.exc y ρ3) _ from a2)
    | ok ds ρ3 =>
      rw [es'] at a2
      intro G3 H3 s3 k3 R3 vs rv
      have hp3 := k3 p0 o0 ho0 np
      have g3 : G3 p0 = none := hp3.2.trans gp
      have R3' : Rel c B G3 A (fun b => if b = p0 then none else H3 b) σ ρ3 := R3.other g3 np fun b hb => if_neg hb
      obtain ⟨hl, q⟩ := a2 G3 _ s3 (fun b o hb hn => by
        have q := k3 b o (hh b o hb) hn
        exact ⟨by show (if b = p0 then none else H3 b) = some o; rw [if_neg (ne_of_none hb hp)]; exact q.1, q.2⟩) R3'
      simp only [List.append_nil]
      refine ⟨G3, fun b => b = p0, d :: ds, by rw [List.length_cons, hl]; exact hn, ⟨R3.same, fun b hb => by rw [hb]; exact ⟨g3, _, hp3.1⟩, by rw [List.length_cons, List.length_cons, rv.length], fun i d' hd hi => ?_, fun i d' hd hi => ?_, fun i j p hij hi hj => ?_⟩, ?_⟩
      · cases i with
        | zero => simp at hi
        | succ i =>
          obtain ⟨v, h1, h2⟩ := rv.get (i := i) (d := d') (by simpa using hd)
          exact ⟨v, by simpa using h1, h2⟩
      · have hi0 : i = 0 := by simpa using hi
        subst hi0
        have hd' : d = d' := by simpa using hd
        subst hd'
        refine ⟨p0, rfl, rfl, ?_⟩
        rw [hp3.1, ← ho0]
        exact ho.mono s3
      · have h1 : i = 0 := by simpa using hi
        have h2 : j = 0 := by simpa using hj
        exact absurd (h1.trans h2.symm) hij
      · have ext : ∀ {outs : List D} {G' H' : Hp}, Ret c [0] G3 (fun b => b = p0) H3 (V.ref p0 :: vs) outs G' H' → Ext G3 (fun b => if b = p0 then none else H3 b) G' H' := fun {outs G' H'} r =>
          ⟨r.gg, fun b o e => by
            by_cases z : b = p0
            · rw [if_pos z] at e; cases e
            · rw [if_neg z] at e; exact (r.kp b o e z).1, r.gh, fun b o e => by
            by_cases z : b = p0
            · rw [if_pos z] at e; cases e
            · rw [if_neg z] at e; exact (r.kp b o e z).2⟩
        have q : After c B W G3 A (fun b => if b = p0 then none else H3 b) σ (match F (d :: ds) with
          | .stuck => .stuck
          | .ret e _ => .ok e ρ3
          | .exc x _ => .exc x ρ3) (fun d _ G' H' => ∀ v, Rep c G' v d → Q v H') := q
        cases ef : F (d :: ds) with
        | stuck => rw [ef] at q; exact q.elim
        | ret e outs =>
          rw [ef] at q
          intro G' H' v r rv
          have ee := ext r
          exact q G' H' ee.gg ee.keep (R3'.ext ee) v rv
        | exc y outs =>
          rw [ef] at q
          intro G' H' dd r rx
          have ee := ext r
          exact q G' H' dd ee.gg ee.keep (R3'.ext ee) rx
end
section
variable {P : Program} {w : World} {K : PySem.W.Frag} {mg : Str → Option Value} {base : Heap} {c : Cf}
/-- the def that stands under the name nm -/
structure Cal (P : Program) (w : World) (K : PySem.W.Frag) (mg : Str → Option Value) (base : Heap) (c : Cf) (k : Nat) (nm : Str) (bs : List Nat) (n : Nat) (F : Fn) : Prop where
  ex : ∃ f fd ps, FnOk P w K mg base (L2.CX P w) k f fd ps (spM c bs n F) ∧ mg nm = some (.ref f) ∧ PySem.W.keepIn K (.ref f) = true ∧ Binds K fd ps []
theorem Cal.mono {k j : Nat} {nm : Str} {bs : List Nat} {n : Nat} {F : Fn} (h : Cal P w K mg base c k nm bs n F) (hk : k ≤ j) : Cal P w K mg base c j nm bs n F := by
  obtain ⟨f, fd, ps, h1, h2⟩ := h.ex
  exact ⟨f, fd, ps, h1.mono hk, h2⟩
/-- n parameters ahead, one by keyword alone, its default: () -/
structure CalK (P : Program) (w : World) (K : PySem.W.Frag) (mg : Str → Option Value) (base : Heap) (c : Cf) (k : Nat) (nm : Str) (n : Nat) (ky : Str) (F : Fn) : Prop where
  ex : ∃ f fd ps vds dvs, FnOk P w K mg base (L2.CX P w) k f fd ps (spM c [] (n + 1) F) ∧ mg nm = some (.ref f) ∧ PySem.W.keepIn K (.ref f) = true ∧ Binds K fd ps vds ∧ Vals dvs vds ∧ (∀ G, RepL c G dvs [.tup []]) ∧
    KBn K fd ps n [ky] (fun us ws => us ++ ws) (fun vs zs => vs ++ zs)
theorem CalK.mono {k j : Nat} {nm : Str} {n : Nat} {ky : Str} {F : Fn} (h : CalK P w K mg base c k nm n ky F) (hk : k ≤ j) : CalK P w K mg base c j nm n ky F := by
  obtain ⟨f, fd, ps, vds, dvs, h1, h2⟩ := h.ex
  exact ⟨f, fd, ps, vds, dvs, h1.mono hk, h2⟩
end
section
variable {c : Cf} {B : List (Nat × Addr)} {W : WX} {X : Cx}
theorem pm_cal {F : Fn} {os : List Opn} {k j n : Nat} {x : Str} {p pos : Pos} {e : Expr} {es : List Expr} (C : Cal X.prog X.w X.K X.mg X.base c j x (ownPos 0 os) n F) (hr : Room k X.A) (tk : Takes X W) (ha : PA X (e :: es) (tR c B W os)) (hj : j ≤ k := by decide)
    (nd : (ownSlots os).Nodup := by decide) (hn : os.length + 0 = n := by rfl) (hg : Gl X x := by rfl) (hdb : (x == ("__debug__" : Str)) = false := by decide)
    (he : starEach (e :: es) X.env = (false, eval e X.env) :: starEach es X.env := by rfl) (hpl : (backTo pos (starEach es X.env)).any (·.1) = false := by rfl) :
    PE X (.Call (.Name x p) (e :: es) [] pos) (tM c B W (mCallF F os)) := by
  obtain ⟨f, fd, ps, h1, h2, h3, h4⟩ := C.ex
  have q := pm_callF (p := p) (dds := []) h1 (hr.mono hj) tk h2 h3 h4 .nil (fun _ => .nil) ha nd hn hg hdb he hpl
  simp only [List.append_nil] at q
  exact q
end
end Fx
set_option Elab.async false
set_option linter.all false
set_option maxRecDepth 100000
set_option maxHeartbeats 4000000
namespace Fx
open PySem L2
/-- the built-in names that the module has not bound -/
structure Blt (mg : Str → Option Value) : Prop where
  zlen : mg "len" = none
  ztuple : mg "tuple" = none
  zlist : mg "list" = none
  zint : mg "int" = none
  zsum : mg "sum" = none
  zall : mg "all" = none
  zmax : mg "max" = none
  zmin : mg "min" = none
  zsorted : mg "sorted" = none
  zisinstance : mg "isinstance" = none
  zenumerate : mg "enumerate" = none
  zrange : mg "range" = none
  zset : mg "set" = none
  zbool : mg "bool" = none
  zstr : mg "str" = none
section
variable {c : Cf} {B : List (Nat × Addr)} {W : WX} {X : Cx} {G H : Hp} {A : Addr → Prop} {σ : L2.St} {ρ : Cells} {Z : Ends}
theorem takes0 : Takes X W0 := fun u s' ⟨_, _, _, _, _, _, _, _, _, _, _, _, _, _, _, _, w⟩ => w.elim
theorem passE {E : XK} (tk : Takes X (fun cls d _ H => E cls d H)) : Passes (L2.CX X.prog X.w) X E := fun pins σ H s e s' I h => passAt tk σ pins H s e s' I h
theorem o_add {a b : Expr} {oa ob : Opn} {pos : Pos} (ha : PE X a (tO c B W oa)) (hb : PE X b (tO c B W ob)) (hK : c.K = X.K := by rfl) : PE X (.BinOp a .Add b pos) (tM c B W (mOp2 sAdd oa ob)) := pm_op semAdd (by rw [hK]; exact pe_op op_addA ha hb)
theorem o_sub {a b : Expr} {oa ob : Opn} {pos : Pos} (ha : PE X a (tO c B W oa)) (hb : PE X b (tO c B W ob)) : PE X (.BinOp a .Sub b pos) (tM c B W (mOp2 sSub oa ob)) := pm_op semSub (pe_op op_sub ha hb)
theorem o_mul {a b : Expr} {oa ob : Opn} {pos : Pos} (ha : PE X a (tO c B W oa)) (hb : PE X b (tO c B W ob)) : PE X (.BinOp a .Mult b pos) (tM c B W (mOp2 sMul oa ob)) := pm_op semMul (pe_op op_mul ha hb)
theorem o_fdiv {a b : Expr} {oa ob : Opn} {pos : Pos} (ha : PE X a (tO c B W oa)) (hb : PE X b (tO c B W ob)) : PE X (.BinOp a .FloorDiv b pos) (tM c B W (mOp2 sFdiv oa ob)) := pm_op semFdiv (pe_op op_fdivN ha hb)
theorem o_mod {a b : Expr} {oa ob : Opn} {pos : Pos} (ha : PE X a (tO c B W oa)) (hb : PE X b (tO c B W ob)) : PE X (.BinOp a .Mod b pos) (tM c B W (mOp2 sMod oa ob)) := pm_op semMod (pe_op op_modN ha hb)
theorem o_pow {a b : Expr} {oa ob : Opn} {pos : Pos} (ha : PE X a (tO c B W oa)) (hb : PE X b (tO c B W ob)) : PE X (.BinOp a .Pow b pos) (tM c B W (mOp2 sPow oa ob)) := pm_op semPow (pe_op op_pow ha hb)
theorem f_mul {a b : Expr} {oa ob : Opn} {pos : Pos} (ha : PE X a (tO c B W oa)) (hb : PE X b (tO c B W ob)) (hK : c.K = X.K := by rfl) : PE X (.BinOp a .Mult b pos) (tF c B W (mOp2 sMulL oa ob)) := pf_op semMulL (by rw [hK]; exact pe_op op_repR ha hb)
theorem o_ge {a b : Expr} {oa ob : Opn} {pos : Pos} (ha : PE X a (tO c B W oa)) (hb : PE X b (tO c B W ob)) : PE X (.Compare a [.GtE] [b] pos) (tM c B W (mOp2 sGe oa ob)) := pm_op semGe (pe_cmpR op_ge ha hb (nomark _))
theorem o_eq {a b : Expr} {oa ob : Opn} {pos : Pos} (hu : X.A.units + 64 < cLine) (ha : PE X a (tO c B W oa)) (hb : PE X b (tO c B W ob)) (hK : c.K = X.K := by rfl) : PE X (.Compare a [.Eq] [b] pos) (tM c B W (mOp2 sEq oa ob)) := pm_op semEq (by rw [hK]; exact pe_cmpR (op_eqN hu) ha hb (nomark _))
theorem o_ne {a b : Expr} {oa ob : Opn} {pos : Pos} (hu : X.A.units + 64 < cLine) (ha : PE X a (tO c B W oa)) (hb : PE X b (tO c B W ob)) (hK : c.K = X.K := by rfl) : PE X (.Compare a [.NotEq] [b] pos) (tM c B W (mOp2 sNe oa ob)) := pm_op semNe (by rw [hK]; exact pe_cmpR (op_neN hu) ha hb (nomark _))
theorem o_chlele {a b d : Expr} {oa ob od : Opn} {pos : Pos} (ha : PE X a (tO c B W oa)) (hb : PE X b (tO c B W ob)) (hd : PE X d (tO c B W od)) (hm : lastMarks [CmpOp.LtE, CmpOp.LtE] [b, d] = false := by with_unfolding_all rfl) : PE X (.Compare a [.LtE, .LtE] [b, d] pos) (tM c B W (mChain sLe sLe oa ob od)) := pm_chain semLe semLe (pe_chain op_le op_le ha hb hd hm)
theorem t_lt {a b : Expr} {oa ob : Opn} {pos : Pos} (ha : PE X a (tO c B W oa)) (hb : PE X b (tO c B W ob)) : PT X (.Compare a [.Lt] [b] pos) (tT c B W (mB (mOp2 sLt oa ob))) := pt_op semLt (pt_cmpR op_lt ha hb (nomark _))
theorem t_gt {a b : Expr} {oa ob : Opn} {pos : Pos} (ha : PE X a (tO c B W oa)) (hb : PE X b (tO c B W ob)) : PT X (.Compare a [.Gt] [b] pos) (tT c B W (mB (mOp2 sGt oa ob))) := pt_op semGt (pt_cmpR op_gt ha hb (nomark _))
theorem t_eq {a b : Expr} {oa ob : Opn} {pos : Pos} (hu : X.A.units + 64 < cLine) (ha : PE X a (tO c B W oa)) (hb : PE X b (tO c B W ob)) (hK : c.K = X.K := by rfl) : PT X (.Compare a [.Eq] [b] pos) (tT c B W (mB (mOp2 sEq oa ob))) := pt_op semEq (by rw [hK]; exact pt_cmpR (op_eqN hu) ha hb (nomark _))
theorem t_ne {a b : Expr} {oa ob : Opn} {pos : Pos} (hu : X.A.units + 64 < cLine) (ha : PE X a (tO c B W oa)) (hb : PE X b (tO c B W ob)) (hK : c.K = X.K := by rfl) : PT X (.Compare a [.NotEq] [b] pos) (tT c B W (mB (mOp2 sNe oa ob))) := pt_op semNe (by rw [hK]; exact pt_cmpR (op_neN hu) ha hb (nomark _))
theorem t_in {a b : Expr} {oa ob : Opn} {pos : Pos} (hu : X.A.units + 64 < cLine) (ha : PE X a (tO c B W oa)) (hb : PE X b (tO c B W ob)) (hK : c.K = X.K := by rfl) (hm : behindInMarks .In b = false := by rfl) : PT X (.Compare a [.In] [b] pos) (tT c B W (mB (mOp2 sIn oa ob))) := pt_op semIn (by rw [hK]; exact pt_cmpR (op_inN hu) ha hb hm)
theorem t_nin {a b : Expr} {oa ob : Opn} {pos : Pos} (hu : X.A.units + 64 < cLine) (ha : PE X a (tO c B W oa)) (hb : PE X b (tO c B W ob)) (hK : c.K = X.K := by rfl) (hm : behindInMarks .NotIn b = false := by rfl) : PT X (.Compare a [.NotIn] [b] pos) (tT c B W (mB (mOp2 sNin oa ob))) := pt_op semNin (by rw [hK]; exact pt_cmpR (op_ninN hu) ha hb hm)
theorem t_isn {a b : Expr} {oa ob : Opn} {pos : Pos} (ha : PE X a (tO c B W oa)) (hb : PE X b (tO c B W ob)) : PT X (.Compare a [.IsNot] [b] pos) (tT c B W (mB (mOp2 sNotN oa ob))) := pt_op semNotN (pt_cmpR op_notN ha hb (nomark _))
theorem t_and {a b : Expr} {rest : List Expr} {pos : Pos} {f g : M Bool} (ha : PT X a (tT c B W f)) (hb : PW X (.BoolOp .And (b :: rest) pos) (tT c B W g)) : PT X (.BoolOp .And (a :: b :: rest) pos) (tT c B W (mAnd f g)) := (pw_andM ha hb).pt
theorem t_or {a b : Expr} {rest : List Expr} {pos : Pos} {f g : M Bool} (ha : PT X a (tT c B W f)) (hb : PW X (.BoolOp .Or (b :: rest) pos) (tT c B W g)) : PT X (.BoolOp .Or (a :: b :: rest) pos) (tT c B W (mOr f g)) := (pw_orM ha hb).pt
theorem o_ix {a b : Expr} {oa ob : Opn} {pos : Pos} (ha : PE X a (tO c B W oa)) (hb : PE X b (tO c B W ob)) (hK : c.K = X.K := by rfl) (hs : PlainIx b := by intro _ _; rfl) : PE X (.Subscript a b pos) (tM c B W (mOp2 sIx oa ob)) := pm_op semIx (by rw [hK]; exact pe_ix ix_N ha hb hs)
theorem o_sl {a : Expr} {lo hi : Option Expr} {o : Opn} {l u : Option (M D)} {p2 pos : Pos} (ha : PE X a (tO c B W o)) (hl : L2.PO X lo (tPt c B W l)) (hu : L2.PO X hi (tPt c B W u)) (hK : c.K = X.K := by rfl) : PE X (.Subscript a (.Slice lo hi none p2) pos) (tM c B W (mSl sCut o l u)) := pm_sl semCut (by rw [hK]; exact pe_slice sl_N ha hl hu)
theorem b_len {e : Expr} {o : Opn} {p pos : Pos} (T : Blt X.mg) (h : PE X e (tO c B W o)) (hK : c.K = X.K := by rfl) (hg : Gl X "len" := by rfl) (hs : starEach [e] X.env = (false, eval e X.env) :: starEach [] X.env := by rfl) (hpl : (backTo pos (starEach [] X.env)).any (·.1) = false := by rfl) : PE X (.Call (.Name "len" p) [e] [] pos) (tM c B W (mCall sLen [o])) := pm_call semLen (by rw [hK]; exact pe_callB call_len_seq hg T.zlen boot_len (pa_consO h pa_nilO hs) (he := hs) (hpl := hpl))
theorem b_tuple {e : Expr} {o : Opn} {p pos : Pos} (T : Blt X.mg) (h : PE X e (tO c B W o)) (hK : c.K = X.K := by rfl) (hg : Gl X "tuple" := by rfl) (hs : starEach [e] X.env = (false, eval e X.env) :: starEach [] X.env := by rfl) (hpl : (backTo pos (starEach [] X.env)).any (·.1) = false := by rfl) : PE X (.Call (.Name "tuple" p) [e] [] pos) (tM c B W (mCall sTuple [o])) := pm_call semTuple (by rw [hK]; exact pe_callTy call_tupleN hg T.ztuple PyProof.Rows.boot_tuple (pa_consO h pa_nilO hs) (he := hs) (hpl := hpl))
theorem b_list {e : Expr} {o : Opn} {p pos : Pos} (T : Blt X.mg) (h : PE X e (tO c B W o)) (hK : c.K = X.K := by rfl) (hg : Gl X "list" := by rfl) (hs : starEach [e] X.env = (false, eval e X.env) :: starEach [] X.env := by rfl) (hpl : (backTo pos (starEach [] X.env)).any (·.1) = false := by rfl) : PE X (.Call (.Name "list" p) [e] [] pos) (tF c B W (mCall sList [o])) := pf_call semList (by rw [hK]; exact pe_callTy call_list_of hg T.zlist PyProof.Rows.boot_list (pa_consO h pa_nilO hs) (he := hs) (hpl := hpl))
theorem b_int {e : Expr} {o : Opn} {p pos : Pos} (T : Blt X.mg) (h : PE X e (tO c B W o)) (hg : Gl X "int" := by rfl) (hs : starEach [e] X.env = (false, eval e X.env) :: starEach [] X.env := by rfl) (hpl : (backTo pos (starEach [] X.env)).any (·.1) = false := by rfl) : PE X (.Call (.Name "int" p) [e] [] pos) (tM c B W (mCall sInt [o])) := pm_call semInt (pe_callTy call_int1 hg T.zint PyProof.Rows.boot_int (pa_consO h pa_nilO hs) (he := hs) (hpl := hpl))
theorem b_all {e : Expr} {o : Opn} {p pos : Pos} (T : Blt X.mg) (hc : X.calm = true) (h : PE X e (tO c B W o)) (hK : c.K = X.K := by rfl) (hg : Gl X "all" := by rfl) (hs : starEach [e] X.env = (false, eval e X.env) :: starEach [] X.env := by rfl) (hpl : (backTo pos (starEach [] X.env)).any (·.1) = false := by rfl) : PE X (.Call (.Name "all" p) [e] [] pos) (tM c B W (mCall sAll [o])) := pm_call semAll (by rw [hK]; exact pe_callB (cr_all hc) hg T.zall PyProof.Rows.boot_all (pa_consO h pa_nilO hs) (he := hs) (hpl := hpl))
theorem b_max {e : Expr} {es : List Expr} {os : List Opn} {p pos : Pos} (T : Blt X.mg) (hc : X.calm = true) (h : PA X (e :: es) (tA c B W os)) (hK : c.K = X.K := by rfl) (hg : Gl X "max" := by rfl) (hs : starEach (e :: es) X.env = (false, eval e X.env) :: starEach es X.env := by rfl) (hpl : (backTo pos (starEach es X.env)).any (·.1) = false := by rfl) : PE X (.Call (.Name "max" p) (e :: es) [] pos) (tM c B W (mCall sMax os)) := pm_call semMax (by rw [hK]; exact pe_callB (call_mx hc) hg T.zmax PyProof.Rows.boot_max h (he := hs) (hpl := hpl))
theorem b_min {e : Expr} {es : List Expr} {os : List Opn} {p pos : Pos} (T : Blt X.mg) (hc : X.calm = true) (h : PA X (e :: es) (tA c B W os)) (hK : c.K = X.K := by rfl) (hg : Gl X "min" := by rfl) (hs : starEach (e :: es) X.env = (false, eval e X.env) :: starEach es X.env := by rfl) (hpl : (backTo pos (starEach es X.env)).any (·.1) = false := by rfl) : PE X (.Call (.Name "min" p) (e :: es) [] pos) (tM c B W (mCall sMin os)) := pm_call semMin (by rw [hK]; exact pe_callB (call_mn hc) hg T.zmin PyProof.Rows.boot_min h (he := hs) (hpl := hpl))
theorem b_sorted {e : Expr} {o : Opn} {p pos : Pos} (T : Blt X.mg) (h : PE X e (tO c B W o)) (hK : c.K = X.K := by rfl) (hg : Gl X "sorted" := by rfl) (hs : starEach [e] X.env = (false, eval e X.env) :: starEach [] X.env := by rfl) (hpl : (backTo pos (starEach [] X.env)).any (·.1) = false := by rfl) : PE X (.Call (.Name "sorted" p) [e] [] pos) (tF c B W (mCall sSorted [o])) := pf_call semSorted (by rw [hK]; exact pe_callB fx_cr_sorted hg T.zsorted PyProof.Rows.boot_sorted (pa_consO h pa_nilO hs) (he := hs) (hpl := hpl))
theorem b_ty {x : Str} {n : String} {pos : Pos} (hm : X.mg x = none) (hv : bootBuiltins x = some (.type n)) (hg : Gl X x := by rfl) (hn : x ≠ "__name__" := by decide) (hdb : (x == ("__debug__" : Str)) = false := by decide) : PE X (.Name x pos) (tM c B W (M.pure (.raw (.ty n)))) :=
  pm_c (v := .ty n) ⟨fun pins s σ H Q I q => ld_blt I hg hm hv ⟨.ty n, H, I, rfl, q⟩ hn hdb⟩ fun _ => .raw _
theorem b_isi {e f : Expr} {o o2 : Opn} {p pos : Pos} (T : Blt X.mg) (h : PE X e (tO c B W o)) (h2 : PE X f (tO c B W o2)) (hK : c.K = X.K := by rfl) (hg : Gl X "isinstance" := by rfl) (hs : starEach [e, f] X.env = (false, eval e X.env) :: starEach [f] X.env := by rfl) (hs2 : starEach [f] X.env = (false, eval f X.env) :: starEach [] X.env := by rfl) (hpl : (backTo pos (starEach [f] X.env)).any (·.1) = false := by rfl) : PE X (.Call (.Name "isinstance" p) [e, f] [] pos) (tM c B W (mCall sIsi [o, o2])) := pm_call semIsi (by rw [hK]; exact pe_callB call_isi hg T.zisinstance PyProof.Rows.boot_isinstance (pa_consO h (pa_consO h2 pa_nilO hs2) hs) (he := hs) (hpl := hpl))
theorem b_lenset {a : Expr} {f : M D} {p p2 q pos : Pos} (T : Blt X.mg) (hc : X.calm = true) (ha : PE X a (tM c B W f)) (hK : c.K = X.K := by rfl) (hg : Gl X "len" := by rfl) (hg2 : Gl X "set" := by rfl) (na : starEach [a] X.env = (false, eval a X.env) :: starEach [] X.env := by rfl) : PE X (.Call (.Name "len" p) [.Call (.Name "set" p2) [a] [] q] [] pos) (tM c B W (mLenSet f)) := pm_lenSet hc T.zlen T.zset ha hK hg hg2 na
end
end Fx
set_option Elab.async false
set_option linter.all false
set_option maxRecDepth 100000
set_option maxHeartbeats 4000000
namespace Fx
open PySem L2
section
variable {c : Cf} {B : List (Nat × Addr)} {W : WX} {X : Cx} {G H : Hp} {A : Addr → Prop} {σ : L2.St} {ρ : Cells} {Z : Ends}
theorem rep_range : ∀ l : List Nat, RepL c G (l.map fun i => V.int (0 + (i : Nat))) (l.map fun (k : Nat) => D.int (0 + (k : Int)))
  | [] => .nil
  | _ :: l => .cons (.int _) (rep_range l)
def mListRg (f : M D) : M D := f.bind fun d => match d with
  | .int n => if -(2 ^ 62) ≤ n ∧ n ≤ 16777216 then M.pure (.lst (rangeD 0 n.toNat)) else M.stuck
  | _ => M.stuck
theorem f_lrange {a : Expr} {f : M D} {p q pos pos2 : Pos} (T : Blt X.mg) (hc : X.calm = true) (ha : PE X a (tM c B W f)) (hg : Gl X "list" := by rfl) (hg2 : Gl X "range" := by rfl)
    (na : starEach [a] X.env = (false, eval a X.env) :: starEach [] X.env := by rfl) (na2 : starEach [.Call (.Name "range" q) [a] [] pos2] X.env = (false, eval (.Call (.Name "range" q) [a] [] pos2) X.env) :: starEach [] X.env := by rfl) :
    PE X (.Call (.Name "list" p) [.Call (.Name "range" q) [a] [] pos2] [] pos) (tF c B W (mListRg f)) :=
  pe_imp (pe_listRg hc hg T.zlist (prg_1 hg2 T.zrange ha na) na2) fun σ H Q ⟨G, A, ρ, R, h⟩ => by
    refine ⟨G, A, ρ, R, h.split.imp fun d ρ1 G1 H1 _ _ R1 q v r => ?_⟩
    cases d <;> first | exact q.elim | skip
    rename_i n
    obtain rfl := rep_int r
    have q : After c B W G1 A H1 σ ((if -(2 ^ 62) ≤ n ∧ n ≤ 16777216 then M.pure (D.lst (rangeD 0 n.toNat)) else M.stuck) ρ1) _ := q
    split at q
    · rename_i hn
      refine ⟨n, rfl, ⟨by omega, by omega, by omega, by omega, by omega⟩, fun p0 hp => ?_⟩
      have q := After.ok q R1
      refine q p0 _ hp (fun b o e => by rw [upd_ne (ne_of_none e hp)]; exact e) ⟨rgV 0 n, upd_same, ?_⟩
      unfold rgV rangeD
      rw [Int.sub_zero]
      exact rep_range _
    · exact q.elim
def mSetIx (i : Nat) (fj fe : M D) : MS := mDo fe fun d => mDo (ownAt i) fun _ => mDo fj fun j => mDo (ownAt i) fun o ρ => match o, j with
  | .lst ds, .int k => match ixN ds.length k with
    | some n => .next (ρ.set i (.own (.lst (ds.set n d))))
    | none => .stuck
  | _, _ => .stuck
theorem AfterS.ownAt {i : Nat} {k : D → MS} (h : AfterS c B W G A H (mDo (ownAt i) k ρ) Z) : ∃ d, ρ[i]? = some (.own d) ∧ AfterS c B W G A H (k d ρ) Z := by
  unfold mDo Fx.ownAt at h
  cases e1 : ρ[i]? with
  | none => simp only [e1] at h; exact h.elim
  | some cl =>
    simp only [e1] at h
    cases cl with
    | no => exact h.elim
    | dat d => exact h.elim
    | own o => exact ⟨o, rfl, h⟩
theorem ps_setIx (i : Nat) {x : Str} {ie e : Expr} {fj fe : M D} {np p pos : Pos} (he : PE X e (tM c B W fe)) (hj : PE X ie (tM c B W fj)) (hN : X.N[i]? = some x := by rfl) (hv : Vis X.env.scope x := by first | exact Or.inl rfl | exact Or.inr (Or.inl rfl) | exact Or.inr (Or.inr rfl)) (hd : (x == ("__debug__" : Str)) = false := by decide)
    (hcd : (x == ("__classdict__" : Str)) = false := by decide) (hs : swapsWithSole [.Subscript (.Name x np) ie p] e pos.line X.env = pure false := by rfl) (hw : swappedStores [.Subscript (.Name x np) ie p] e X.env = pure none := by rfl)
    (h1 : (assignEach [.Subscript (.Name x np) ie p] X.env).map (·.2) = [assign (.Subscript (.Name x np) ie p) X.env] := by rfl)
    (ha : ∀ v, assign (.Subscript (.Name x np) ie p) X.env v = (do
      let ov ← holding [v] (eval (.Name x np) X.env)
      let iv ← holding [v, ov] (eval ie X.env)
      standAt p
      holding [v, ov, iv] (setItem ov iv v)
      release [v, ov, iv] []) := by intro _; rfl) :
    PS X (.Assign [.Subscript (.Name x np) ie p] e pos) (tS c B W (mSetIx i fj fe)) :=
  ps_imp (ps_asg he (pg_sub (pe_var hN hv hd hcd) hj set_list ha) hs hw h1) fun Z σ H ⟨G, A, ρ, R, a⟩ => by
    refine ⟨G, A, ρ, R, (a.split R).imp fun d ρ1 G1 H1 _ _ R1 a1 v r => ?_⟩
    obtain ⟨o1, e1, a1⟩ := a1.ownAt
    obtain ⟨p, es, hA, hO⟩ := R1.own i o1 e1
    refine ⟨_, es, G1, A, ρ1, R1, (a1.split R1).imp fun jd ρ2 G2 H2 s2 _ R2 a2 w rw' => ?_⟩
    obtain ⟨o2, e2, a2⟩ := a2.ownAt
    obtain ⟨p', es', hA', hO'⟩ := R2.own i o2 e2
    rw [es] at es'; cases es'
    cases o2 <;> first | exact a2.elim | skip
    rename_i ds
    cases jd <;> first | exact a2.elim | skip
    rename_i kk _
    obtain rfl := rep_int rw'
    obtain ⟨xs, h2, h3⟩ := hO'
    have a2 : AfterS c B W G2 A H2 (match ixN ds.length kk with
      | some n => .next (ρ2.set i (.own (.lst (ds.set n d))))
      | none => .stuck) Z := a2
    cases ej : ixN ds.length kk with
    | none => rw [ej] at a2; exact a2.elim
    | some n =>
      rw [ej] at a2
      refine ⟨p, xs, kk, n, rfl, rfl, h2, by rw [h3.length]; exact ej, ?_⟩
      obtain ⟨R3, k3, s3⟩ := R2.setOwn (d' := .lst (ds.set n d)) (o := .lst (xs.set n v)) e2 es ⟨_, rfl, h3.set (r.mono s2) n⟩
      exact AfterS.nx (AfterS.of R2.own_there (Stp.same (Same.refl _) k3) a2) R3
theorem m_append (i : Nat) {x : Str} {e : Expr} {fe : M D} {np apos cpos : Pos} (he : PE X e (tM c B W fe)) (hN : X.N[i]? = some x := by rfl) (hv : Vis X.env.scope x := by first | exact Or.inl rfl | exact Or.inr (Or.inl rfl) | exact Or.inr (Or.inr rfl)) (hd : (x == ("__debug__" : Str)) = false := by decide)
    (hcd : (x == ("__classdict__" : Str)) = false := by decide) (hbase : attributeBase (.Name x np) "append" X.env (eval (.Name x np) X.env) = eval (.Name x np) X.env := by rfl)
    (hfew : ((backTo cpos (starEach [e] X.env)).all (fun x => !x.1) && (backToKw cpos (keywordEach [] X.env)).all (fun x => x.1.isSome) && decide ([e].length + ([] : List Keyword).length + (if ([] : List Keyword).isEmpty then 0 else 1) < 30)) = true := by rfl)
    (hline : (apos.endLine == cpos.line) = true := by rfl) (hs : starEach [e] X.env = (false, eval e X.env) :: starEach [] X.env := by rfl) (hplain : (backTo cpos (starEach [] X.env)).any (·.1) = false := by rfl) :
    PE X (.Call (.Attribute (.Name x np) "append" apos) [e] [] cpos) (tM c B W (mMethWR wAppend i [fe])) := pm_methWR i semAppend (pe_bm PySem.F.plainAttrs_list PySem.F.slot_list_append PySem.F.type_list_append mt_append (pe_slot i hN hv hd hcd) (pd_cons he pd_nil hs) hbase hfew hline hs hplain)
theorem m_popAt (i : Nat) {x : Str} {e : Expr} {fe : M D} {np apos cpos : Pos} (he : PE X e (tM c B W fe)) (hN : X.N[i]? = some x := by rfl) (hv : Vis X.env.scope x := by first | exact Or.inl rfl | exact Or.inr (Or.inl rfl) | exact Or.inr (Or.inr rfl)) (hd : (x == ("__debug__" : Str)) = false := by decide)
    (hcd : (x == ("__classdict__" : Str)) = false := by decide) (hbase : attributeBase (.Name x np) "pop" X.env (eval (.Name x np) X.env) = eval (.Name x np) X.env := by rfl)
    (hfew : ((backTo cpos (starEach [e] X.env)).all (fun x => !x.1) && (backToKw cpos (keywordEach [] X.env)).all (fun x => x.1.isSome) && decide ([e].length + ([] : List Keyword).length + (if ([] : List Keyword).isEmpty then 0 else 1) < 30)) = true := by rfl)
    (hline : (apos.endLine == cpos.line) = true := by rfl) (hs : starEach [e] X.env = (false, eval e X.env) :: starEach [] X.env := by rfl) (hplain : (backTo cpos (starEach [] X.env)).any (·.1) = false := by rfl) :
    PE X (.Call (.Attribute (.Name x np) "pop" apos) [e] [] cpos) (tM c B W (mMethWR wPopAt i [fe])) := pm_methWR i semPopAt (pe_bm PySem.F.plainAttrs_list PySem.F.slot_list_pop PySem.F.type_list_pop mt_popAt (pe_slot i hN hv hd hcd) (pd_cons he pd_nil hs) hbase hfew hline hs hplain)
theorem m_tindex {a e : Expr} {o o2 : Opn} {apos cpos : Pos} (ha : PE X a (tO c B W o)) (he : PE X e (tO c B W o2)) (hK : c.K = X.K := by rfl) (hbase : attributeBase a "index" X.env (eval a X.env) = eval a X.env := by rfl)
    (hfew : ((backTo cpos (starEach [e] X.env)).all (fun x => !x.1) && (backToKw cpos (keywordEach [] X.env)).all (fun x => x.1.isSome) && decide ([e].length + ([] : List Keyword).length + (if ([] : List Keyword).isEmpty then 0 else 1) < 30)) = true := by rfl)
    (hline : (apos.endLine == cpos.line) = true := by rfl) (hs : starEach [e] X.env = (false, eval e X.env) :: starEach [] X.env := by rfl) (hplain : (backTo cpos (starEach [] X.env)).any (·.1) = false := by rfl) :
    PE X (.Call (.Attribute a "index" apos) [e] [] cpos) (tM c B W (mMeth isTup sTix o [o2])) := pm_methT hK semTix (by rw [hK]; exact pe_bmT PySem.F.slot_tuple_index PySem.F.type_tuple_index mt_tix ha (pa_consO he pa_nilO hs) hbase hfew hline hs hplain)
end
end Fx
set_option Elab.async false
set_option linter.all false
set_option maxRecDepth 100000
set_option maxHeartbeats 4000000
namespace Fx
open PySem L2
section
variable {P : Program} {w : World} {K : PySem.W.Frag} {mg : Str → Option Value} {base : Heap} {c : Cf}
/-- Farm(..) -/
structure CalM (P : Program) (w : World) (K : PySem.W.Frag) (mg : Str → Option Value) (base : Heap) (c : Cf) (k : Nat) (nm : Str) (n : Nat) (F : Fn) : Prop where
  ex : ∃ fI fd ps, Mk K c.farm fI ∧ FnOk P w K mg base (L2.CX P w) k fI fd ps (spM c [0] n F) ∧ mg nm = some (.ref c.farm) ∧ Binds K fd ps []
theorem CalM.mono {k j : Nat} {nm : Str} {n : Nat} {F : Fn} (h : CalM P w K mg base c k nm n F) (hk : k ≤ j) : CalM P w K mg base c j nm n F := by
  obtain ⟨f, fd, ps, h1, h2, h3⟩ := h.ex
  exact ⟨f, fd, ps, h1, h2.mono hk, h3⟩
/-- len(farm) -/
structure CalL (P : Program) (w : World) (K : PySem.W.Frag) (mg : Str → Option Value) (base : Heap) (c : Cf) (k : Nat) (F : Fn) : Prop where
  ex : ∃ f fd ps, PySem.W.findIn K (.ref c.farm) "__len__" = some (some (.ref f)) ∧ PySem.W.isFn K (.ref f) = true ∧ FnOk P w K mg base (L2.CX P w) k f fd ps (spM c [] 1 F) ∧ Binds K fd ps []
/-- an error with one field -/
structure CalX1 (P : Program) (w : World) (K : PySem.W.Frag) (mg : Str → Option Value) (base : Heap) (c : Cf) (k : Nat) (x : Nat) (nm f : Str) : Prop where
  ex : ∃ fI fd ps, XcK c K mg x nm fI ∧ FnOk P w K mg base (L2.CX P w) k fI fd ps (spI1 (c.exc x) f) ∧ Binds K fd ps []
  fl : c.flds x = [f]
structure CalX2 (P : Program) (w : World) (K : PySem.W.Frag) (mg : Str → Option Value) (base : Heap) (c : Cf) (k : Nat) (x : Nat) (nm f g : Str) : Prop where
  ex : ∃ fI fd ps, XcK c K mg x nm fI ∧ FnOk P w K mg base (L2.CX P w) k fI fd ps (spI2 (c.exc x) f g) ∧ Binds K fd ps []
  fl : c.flds x = [g, f]
end
section
variable {c : Cf} {B : List (Nat × Addr)} {W : WX} {X : Cx} {E : XK}
theorem pm_calM {F : Fn} {fs : List (M D)} {k j n : Nat} {x : Str} {p pos : Pos} {e : Expr} {es : List Expr} (C : CalM X.prog X.w X.K X.mg X.base c j x n F) (hr : Room k X.A) (tk : Takes X (fun cls d _ H => E cls d H)) (ha : PA X (e :: es) (tD c B (fun cls d _ H => E cls d H) fs)) (hj : j + 1 ≤ k := by decide)
    (hn : fs.length + 1 = n := by rfl) (hg : Gl X x := by rfl) (hdb : (x == ("__debug__" : Str)) = false := by decide)
    (he : starEach (e :: es) X.env = (false, eval e X.env) :: starEach es X.env := by rfl) (hpl : (backTo pos (starEach es X.env)).any (·.1) = false := by rfl) :
    PE X (.Call (.Name x p) (e :: es) [] pos) (tM c B (fun cls d _ H => E cls d H) (mMake F fs)) := by
  obtain ⟨f, fd, ps, h1, h2, h3, h4⟩ := C.ex
  exact pm_make h1 h2 (hr.mono hj) (passE tk) h3 h4 ha hn hg hdb he hpl
theorem pm_calL {F : Fn} {fe : M D} {k j : Nat} {p pos : Pos} {e : Expr} (T : Blt X.mg) (C : CalL X.prog X.w X.K X.mg X.base c j F) (hr : Room k X.A) (tk : Takes X W) (he : PE X e (tM c B W fe)) (hj : j + 1 ≤ k := by decide) (hg : Gl X "len" := by rfl)
    (hst : starEach [e] X.env = (false, eval e X.env) :: starEach [] X.env := by rfl) (hpl : (backTo pos (starEach [] X.env)).any (·.1) = false := by rfl) :
    PE X (.Call (.Name "len" p) [e] [] pos) (tM c B W (mLenF F fe)) := by
  obtain ⟨f, fd, ps, h1, h2, h3, h4⟩ := C.ex
  exact pm_lenF (E := fun _ _ _ => False) h1 h2 h3 (hr.mono hj) tk h4 T.zlen he hg hst hpl
theorem ps_x1 {x : Nat} {nm f : Str} {k j : Nat} {e : Expr} {fe : M D} {p pos pos2 : Pos} (C : CalX1 X.prog X.w X.K X.mg X.base c j x nm f) (hc : X.calm = true) (tk : Takes X W) (hr : Room k X.A) (ha : PE X e (tM c B W fe)) (hj : j + 1 ≤ k := by decide) (hg : Gl X nm := by rfl)
    (hdb : (nm == ("__debug__" : Str)) = false := by decide) (he : starEach (e :: []) X.env = (false, eval e X.env) :: starEach [] X.env := by rfl) (hpl : (backTo pos (starEach [] X.env)).any (·.1) = false := by rfl) :
    PS X (.Raise (some (.Call (.Name nm p) [e] [] pos)) none pos2) (tS c B W (mRaise x [fe])) := by
  obtain ⟨f, fd, ps, h1, h2, h3⟩ := C.ex
  exact ps_raise1 hc tk h1 C.fl h2 (hr.mono hj) h3 ha hg hdb he hpl
theorem ps_x2 {x : Nat} {nm f g : Str} {k j : Nat} {e e2 : Expr} {fe fe2 : M D} {p pos pos2 : Pos} (C : CalX2 X.prog X.w X.K X.mg X.base c j x nm f g) (hc : X.calm = true) (tk : Takes X W) (hr : Room k X.A) (ha : PE X e (tM c B W fe)) (ha2 : PE X e2 (tM c B W fe2)) (hj : j + 1 ≤ k := by decide) (hg : Gl X nm := by rfl)
    (hdb : (nm == ("__debug__" : Str)) = false := by decide) (he : starEach (e :: [e2]) X.env = (false, eval e X.env) :: starEach [e2] X.env := by rfl) (he2 : starEach [e2] X.env = (false, eval e2 X.env) :: starEach [] X.env := by rfl) (hpl : (backTo pos (starEach [e2] X.env)).any (·.1) = false := by rfl) :
    PS X (.Raise (some (.Call (.Name nm p) [e, e2] [] pos)) none pos2) (tS c B W (mRaise x [fe, fe2])) := by
  obtain ⟨f, fd, ps, h1, h2, h3⟩ := C.ex
  exact ps_raise2 hc tk h1 C.fl h2 (hr.mono hj) h3 ha ha2 hg hdb he he2 hpl
end
def kFree : NameKind → Bool
  | .free => true
  | _ => false
def kCell : NameKind → Bool
  | .cell => true
  | _ => false
def kLoc : NameKind → Bool
  | .local => true
  | _ => false
def kEq : NameKind → NameKind → Bool
  | .local, .local => true
  | .cell, .cell => true
  | .free, .free => true
  | .globalImplicit, .globalImplicit => true
  | .globalExplicit, .globalExplicit => true
  | _, _ => false
def kFun : ScopeKind → Bool
  | .function => true
  | _ => false
def blkB (N : List Str) (sc scope : Scope) (own : List (Str × Nat)) : Bool :=
  kFun scope.kind && scope.names.all (fun y => match scope.names.lookup y.1 with | some k => kEq k y.2 | none => false) && own.all (fun p => match N[p.2]? with | some x => decide (x = p.1) | none => false) &&
    scope.names.all (fun y => !kFree y.2 || (match sc.names.lookup y.1 with | some k => kCell k || kFree k | none => false)) && scope.names.all (fun y => !(kLoc y.2 || kCell y.2) || (own.any (fun p => decide (p.1 = y.1)) || N.all (fun x => !decide (x = y.1))))
theorem kEq_eq {a b : NameKind} (h : kEq a b = true) : a = b := by cases a <;> cases b <;> first | rfl | cases h
theorem blk_of {N : List Str} {sc scope : Scope} {own : List (Str × Nat)} (h : blkB N sc scope own = true) : BlkOk N sc scope own := by
  unfold blkB at h
  simp only [Bool.and_eq_true, List.all_eq_true] at h
  obtain ⟨⟨⟨⟨h1, h2⟩, h3⟩, h4⟩, h5⟩ := h
  refine ⟨?_, fun y hy => ?_, fun p hp => ?_, fun y hy e => ?_, fun y hy e => ?_⟩
  · cases hk : scope.kind <;> rw [hk] at h1 <;> first | rfl | cases h1
  · have q := h2 y hy
    cases e : scope.names.lookup y.1 with
    | none => rw [e] at q; cases q
    | some k => rw [e] at q; rw [kEq_eq q]
  · have q := h3 p hp
    cases e : N[p.2]? with
    | none => rw [e] at q; cases q
    | some k => rw [e] at q; rw [of_decide_eq_true q]
  · have q := h4 y hy
    rw [e] at q
    simp only [kFree, Bool.not_true, Bool.false_or] at q
    cases e2 : sc.names.lookup y.1 with
    | none => rw [e2] at q; cases q
    | some k => rw [e2] at q; cases k <;> first | exact .inl rfl | exact .inr rfl | cases q
  · have q := h5 y hy
    have hk : (kLoc y.2 || kCell y.2) = true := by rcases e with e | e <;> rw [e] <;> rfl
    rw [hk] at q
    simp only [Bool.not_true, Bool.false_or, Bool.or_eq_true] at q
    rcases q with q | q
    · obtain ⟨p, hp, e3⟩ := List.any_eq_true.mp q
      exact .inl (List.mem_map.mpr ⟨p, hp, of_decide_eq_true e3⟩)
    · refine .inr fun hm => ?_
      have := List.all_eq_true.mp q y.1 hm
      simp at this
end Fx
set_option Elab.async false
set_option linter.all false
set_option maxRecDepth 100000
set_option maxHeartbeats 4000000
namespace Fx
open PySem L2
/-- the law's def: a list of at most 63 ints is handed in, True comes out -/
def spLaw (K : PySem.W.Frag) : Sp := fun vs H Q _ => ∃ (a : Addr) (ns : List Int), vs = [.ref a] ∧ LsG K H a (ns.map V.int) ∧ ns.length ≤ 63 ∧ ∀ H', Q (.bl true) H'
theorem law_imp {c : Cf} {F : Fn} (plain : ∀ ns : List Int, ns.length ≤ 63 → ∃ outs, F [.lst (ns.map .int)] = .ret (.bl true) outs) (vs : List V) (H : Hp) (Q : VK) (E : XK) (h : spLaw c.K vs H Q E) : spM c [] 1 F vs H Q E := by
  obtain ⟨a, ns, rfl, hL, hl, q⟩ := h
  obtain ⟨outs, e⟩ := plain ns hl
  refine ⟨H, fun _ => False, [.lst (ns.map .int)], rfl, argsOk_rep (Same.refl H) (.one (.lst hL (repInts ns))), ?_⟩
  rw [e]
  intro G' H' v _ rv
  obtain rfl := rep_bl rv
  exact q H'
theorem mro_ok {CB : Addr} : PySem.HandSPX.refsVE [.ref CB, .type "ValueError", .type "Exception", .type "BaseException", .type "object"] = true := by rfl
end Fx
set_option Elab.async false
set_option linter.all false
set_option maxRecDepth 100000
set_option maxHeartbeats 1000000
namespace Fx
open PySem L2
theorem lcM_pure {g : TgM} {tt : M Bool} {fe : M D} {vs : List Nat} {w : Cells} (P : D → Bool) (f : D → D) : ∀ (ds : List D) (ρ : Cells), wipeC ρ vs = w →
    (∀ d ∈ ds, ∃ ρ1, g d w = some ρ1 ∧ tt ρ1 = .ok (P d) ρ1 ∧ (P d = true → fe ρ1 = .ok (f d) ρ1) ∧ wipeC ρ1 vs = w) →
    ∃ ρ', lcM g tt fe vs ds ρ = some ((ds.filter P).map f, ρ') ∧ wipeC ρ' vs = w
  | [], ρ, hw, _ => ⟨ρ, rfl, hw⟩
  | d :: ds, ρ, hw, h => by
    obtain ⟨ρ1, h1, h2, h3, h4⟩ := h d List.mem_cons_self
    obtain ⟨ρ', e, hw'⟩ := lcM_pure P f ds ρ1 h4 fun x hx => h x (List.mem_cons_of_mem _ hx)
    refine ⟨ρ', ?_, hw'⟩
    unfold lcM
    rw [hw]
    simp only [h1, h2]
    cases hP : P d with
    | true => simp [hP, h3 hP, e]
    | false => simp [hP, e]
theorem wipeC_get {ρ : Cells} {vs : List Nat} {i : Nat} (h : i ∉ vs) : (wipeC ρ vs)[i]? = ρ[i]? := wipeC_out h
/-- the cells behind a comprehension are the cells ahead of it -/
theorem unwipe_same {ρ ρ' : Cells} {vs : List Nat} (hw : wipeC ρ' vs = wipeC ρ vs) : unwipe ρ ρ' vs = ρ := by
  have hl : ρ'.length = ρ.length := by
    have := congrArg List.length hw
    rwa [wipeC_len, wipeC_len] at this
  apply List.ext_getElem?
  intro i
  by_cases hi : i ∈ vs
  · by_cases hlt : i < ρ.length
    · rw [unwipe_in (by rw [hl]; exact hlt) hi, List.getElem?_eq_getElem hlt]
      rfl
    · rw [List.getElem?_eq_none (by rw [unwipe_len]; omega), List.getElem?_eq_none (by omega)]
  · rw [unwipe_out hi, ← wipeC_get (ρ := ρ') hi, hw, wipeC_get hi]
theorem mLc_pure {fi : M (List D)} {g : TgM} {tt : M Bool} {fe : M D} {vs : List Nat} {ρ : Cells} {ds : List D} (P : D → Bool) (f : D → D) (hi : fi ρ = .ok ds ρ) (ho : vs.all (fun v => !isOwn ρ[v]?) = true)
    (h : ∀ d ∈ ds, ∃ ρ1, g d (wipeC ρ vs) = some ρ1 ∧ tt ρ1 = .ok (P d) ρ1 ∧ (P d = true → fe ρ1 = .ok (f d) ρ1) ∧ wipeC ρ1 vs = wipeC ρ vs) :
    mLc fi g tt fe vs ρ = .ok (.lst ((ds.filter P).map f)) ρ := by
  obtain ⟨ρ', e, hw⟩ := lcM_pure P f ds ρ rfl h
  unfold mLc M.bind
  rw [hi]
  show (if vs.all (fun v => !isOwn ρ[v]?) = true then _ else _) = _
  rw [if_pos ho, e]
  show Out.ok _ (unwipe ρ ρ' vs) = _
  rw [unwipe_same hw]
theorem loop_inv {g : TgM} {body : MS} (I : Nat → Cells → Prop) : ∀ (ds : List D) (n : Nat) (ρ : Cells), I n ρ →
    (∀ (i : Nat) (d : D) (ρ : Cells), ds[i]? = some d → I (n + i) ρ → ∃ ρ1, g d ρ = some ρ1 ∧ ∃ ρ2, body ρ1 = .next ρ2 ∧ I (n + i + 1) ρ2) →
    ∃ ρ', loopM g body ds ρ = .next ρ' ∧ I (n + ds.length) ρ'
  | [], n, ρ, hI, _ => ⟨ρ, rfl, hI⟩
  | d :: ds, n, ρ, hI, h => by
    obtain ⟨ρ1, h1, ρ2, h2, h3⟩ := h 0 d ρ rfl hI
    obtain ⟨ρ', e, h4⟩ := loop_inv I ds (n + 1) ρ2 h3 fun i x ρ hx hi => by
      have := h (i + 1) x ρ (by simpa using hx) (by rw [show n + (i + 1) = n + 1 + i by omega]; exact hi)
      rwa [show n + (i + 1) + 1 = n + 1 + i + 1 by omega] at this
    refine ⟨ρ', ?_, by rw [List.length_cons, show n + (ds.length + 1) = n + 1 + ds.length by omega]; exact h4⟩
    unfold loopM
    simp only [h1, h2, e]
/-- while: a measure that falls -/
theorem while_inv {t : M Bool} {body : MS} (I : Nat → Cells → Prop) (E : Cells → Prop) (h : ∀ (m : Nat) (ρ : Cells), I m ρ → ∃ b ρ1, t ρ = .ok b ρ1 ∧ (b = false → E ρ1) ∧ (b = true → ∃ ρ2 m', body ρ1 = .next ρ2 ∧ m' < m ∧ I m' ρ2)) :
    ∀ (n m : Nat) (ρ : Cells), m < n → I m ρ → ∃ ρ', whileM t body n ρ = .next ρ' ∧ E ρ'
  | 0, _, _, hn, _ => by omega
  | n + 1, m, ρ, hn, hI => by
    obtain ⟨b, ρ1, h1, h2, h3⟩ := h m ρ hI
    unfold whileM
    simp only [h1]
    cases b with
    | false => exact ⟨ρ1, by simp, h2 rfl⟩
    | true =>
      obtain ⟨ρ2, m', h4, h5, h6⟩ := h3 rfl
      obtain ⟨ρ', e, h7⟩ := while_inv I E h n m' ρ2 (by omega) h6
      exact ⟨ρ', by simp [h4, e], h7⟩
end Fx
set_option Elab.async false
set_option linter.all false
set_option maxRecDepth 100000
set_option maxHeartbeats 4000000
namespace Fx
open PySem L2
section
variable {c : Cf} {B : List (Nat × Addr)} {W : WX} {X : Cx} {G H : Hp} {A : Addr → Prop} {σ : L2.St} {ρ : Cells} {Z : Ends}
end
end Fx
set_option Elab.async false
set_option linter.all false
set_option maxRecDepth 100000
set_option maxHeartbeats 4000000
namespace Fx
open PySem PyProof.Rows
section
variable {prog : Program} {w : World} {A : Around} {E : Value → Shared → Prop} {s : Shared}
end
end Fx
namespace Fx
open PySem L2 PyProof.Rows
section
variable {c : Cf} {B : List (Nat × Addr)} {W : WX} {X : Cx} {G H : Hp} {A : Addr → Prop} {σ : L2.St} {ρ : Cells} {Z : Ends}
def sRev : D → Option D
  | .lst ds => some (.lst ds.reverse)
  | _ => none
/-- x[::-1] -/
def mRev (sem : D → Option D) (o : Opn) : M D := o.pre.bind fun a => (rdM o a).bind fun d => M.lift (sem d)
theorem RepL.rev : ∀ {vs : List V} {ds : List D}, RepL c G vs ds → RepL c G vs.reverse ds.reverse
  | _, _, .nil => .nil
  | _, _, .cons r t => by
    rw [List.reverse_cons, List.reverse_cons]
    exact t.rev.append (.one r)
theorem rev_core {o : Opn} {sem : D → Option D} {Qd : D → Hp → Hp → Prop} (R : Rel c B G A H σ ρ) (a : After c B W G A H σ (mRev sem o ρ) fun d _ G' H' => Qd d G' H') {r : V → Hp → Prop}
    (k : ∀ G' H' x d e, Same G' H' → Opr c G' H' x d → sem d = some e → Qd e G' H' → r x H') : tO c B W o σ H fun x H1 => r x H1 := by
  refine ⟨G, A, ρ, R, a.split.imp fun a0 ρ1 G1 H1 _ _ R1 a1 x fx => ?_⟩
  obtain ⟨d, e1, a2⟩ := a1.rd
  obtain ⟨e, e2, q⟩ := a2.lift R1
  exact k G1 H1 x d e R1.same (fx G1 H1 ρ1 d (Same.refl _) R1 e1) e2 q
theorem f_revL {e : Expr} {o : Opn} {k : Nat} {p1 p2 p3 pos : Pos} (he : PE X e (tO c B W o)) (hK : c.K = X.K := by rfl) : PE X (.Subscript e (.Slice none none (some (.UnaryOp .USub (.Constant (.int 1) k p1) p2)) p3) pos) (tF c B W (mRev sRev o)) :=
  pe_imp (pe_revL he) fun σ H Q ⟨G, A, ρ, R, a⟩ => rev_core R a.k2 fun G' H' x d e s o1 e1 q => by
    cases d <;> first | (cases e1; done) | skip
    cases e1
    obtain ⟨p, us, rfl, hp, r1⟩ := o1.lst s
    rw [← hK]
    exact ⟨p, us, rfl, hp.sq, fun z hz => q.lst hz r1.rev⟩
theorem o_revL {e : Expr} {o : Opn} {k : Nat} {p1 p2 p3 pos : Pos} (he : PE X e (tO c B W o)) (hK : c.K = X.K := by rfl) : PE X (.Subscript e (.Slice none none (some (.UnaryOp .USub (.Constant (.int 1) k p1) p2)) p3) pos) (tM c B W (mRev sRev o)) := pm_of_pf (f_revL he hK)
end
end Fx
namespace Fx
open PySem L2
section
variable {c : Cf} {B : List (Nat × Addr)} {W : WX} {X : Cx} {G H : Hp} {A : Addr → Prop} {σ : L2.St} {ρ : Cells} {Z : Ends}
theorem Rel.cut {p : Addr} (R : Rel c B G A H σ ρ) (gp : G p = none) (na : ¬ A p) : Rel c B G A (fun b => if b = p then none else H b) σ ρ := by
  refine ⟨fun b o h => ?_, R.len, fun b hb => ?_, R.dat, fun i d h => ?_, R.dis, R.byr⟩
  · have hb : b ≠ p := fun z => by rw [z, gp] at h; cases h
    show (if b = p then none else H b) = some o
    rw [if_neg hb]
    exact R.same b o h
  · have hb' : b ≠ p := fun z => na (z ▸ hb)
    show G b = none ∧ ∃ o, (if b = p then none else H b) = some o
    rw [if_neg hb']
    exact R.ownA b hb
  · obtain ⟨q, h1, h2, h3⟩ := R.own i d h
    have hq : q ≠ p := fun z => na (z ▸ h2)
    refine ⟨q, h1, h2, ?_⟩
    show Own c G (if q = p then none else H q) d
    rw [if_neg hq]
    exact h3
theorem Rel.addOwn {p : Addr} {d : D} {i : Nat} (R : Rel c B G A H σ ρ) (gp : G p = none) (na : ¬ A p) (ho : Own c G (H p) d) (hb : B.all (fun q => q.1 != i) = true) : Rel c B G (fun b => A b ∨ b = p) H (σ.set i (some (.ref p))) (ρ.set i (.own d)) :=
  (R.cut gp na).newOwn (p := p) (if_pos rfl) (fun b o h => by
    have h : (if b = p then none else H b) = some o := h
    by_cases z : b = p
    · rw [if_pos z] at h; cases h
    · rw [if_neg z] at h; exact h) ho hb
def mNew2 (f g : M D) (i j : Nat) : MS := mDo f fun d => mDo g fun e ρ => .next ((ρ.set i (.own d)).set j (.own e))
theorem ps_new2 (i j : Nat) {x y : Str} {a b : Expr} {f g : M D} {px py pt pos : Pos} {kt k2 pt2} (hc : X.calm = true) (hN : X.N.Nodup) (hb1 : B.all (fun q => q.1 != i) = true) (hb2 : B.all (fun q => q.1 != j) = true) (ha : PE X a (tF c B W f)) (hb : PE X b (tF c B W g))
    (hi : X.N[i]? = some x := by rfl) (hj : X.N[j]? = some y := by rfl) (hij : i ≠ j := by decide)
    (hx : X.env.scope.names.lookup x = some .local := by rfl) (hy : X.env.scope.names.lookup y = some .local := by rfl)
    (hw : swappedStores [.Tuple [.Name x px, .Name y py] kt pt] (.Tuple [a, b] k2 pt2) X.env = pure (some [x, y]) := by rfl)
    (hs : swapsWithSole [.Tuple [.Name x px, .Name y py] kt pt] (.Tuple [a, b] k2 pt2) pos.line X.env = pure false := by rfl)
    (hs1 : starEach [a, b] X.env = (false, eval a X.env) :: starEach [b] X.env := by rfl) (hs2 : starEach [b] X.env = (false, eval b X.env) :: starEach [] X.env := by rfl) :
    PS X (.Assign [.Tuple [.Name x px, .Name y py] kt pt] (.Tuple [a, b] k2 pt2) pos) (tS c B W (mNew2 f g i j)) :=
  ps_imp (ps_par hc hN hi hj hij hx hy (pa_cons ha (pa_cons hb pa_nil hs2) hs1) hw hs) fun Z σ H ⟨G, A, ρ, R, a⟩ => by
    refine ⟨G, A, ρ, R, (a.split R).imp fun d ρ1 G1 H1 _ _ R1 a1 p H1' hp hh ho => ?_⟩
    have gp1 : G1 p = none := R1.same.free hp
    have na : ¬ A p := fun z => by
      obtain ⟨_, o, h⟩ := R1.ownA p z
      rw [hp] at h; cases h
    have R1' := R1.ext (H' := H1') (G' := G1) ⟨Same.refl _, hh, R1.same.trans hh, fun _ _ _ => rfl⟩
    refine ⟨G1, A, ρ1, R1', ?_⟩
    obtain ⟨u, hu⟩ := ho.some
    have a1 : AfterS c B W G1 A H1 (mDo g (fun e ρ => .next ((ρ.set i (.own d)).set j (.own e))) ρ1) Z := a1
    unfold mDo at a1
    cases eg : g ρ1 with
    | stuck => rw [eg] at a1; exact a1.elim
    | exc x ρ2 =>
      rw [eg] at a1
      exact fun G' H' dd s k R r => a1 G' A H' σ dd ⟨s, fun b o h n => k b o (hh b o h) n, fun _ h => .inl h⟩ R r
    | ok e ρ2 =>
      rw [eg] at a1
      intro G2 H2 s2 k2 R2 q H2' hq hh2 ho2
      obtain ⟨hp2, gp2⟩ := k2 p u hu na
      have gq : G2 q = none := R2.same.free hq
      have naq : ¬ (A q ∨ q = p) := fun z => by
        rcases z with z | z
        · obtain ⟨_, o, h⟩ := R2.ownA q z
          rw [hq] at h; cases h
        · rw [z, hp2] at hq; cases hq
      have hop : Own c G2 (H2' p) d := by
        rw [hh2 p u hp2, ← hu]
        exact ho.mono s2
      have hq1 : H1 q = none := by
        cases h : H1 q with
        | none => rfl
        | some o =>
          have := (k2 q o (hh q o h) fun z => naq (.inl z)).1
          rw [hq] at this; cases this
      have R2' := R2.ext (H' := H2') (G' := G2) ⟨Same.refl _, hh2, R2.same.trans hh2, fun _ _ _ => rfl⟩
      have R3 := (R2'.addOwn (gp2.trans gp1) na hop hb1).addOwn gq naq ho2 hb2
      refine ⟨.ref p, .ref q, rfl, a1 G2 _ H2' _ ⟨s2, fun b o h n => ?_, fun b h => ?_⟩ R3⟩
      · obtain ⟨z1, z2⟩ := k2 b o (hh b o h) n
        exact ⟨hh2 b o z1, z2⟩
      · rcases h with (h | h) | h
        · exact .inl h
        · exact .inr (by rw [h]; exact hp)
        · exact .inr (by rw [h]; exact hq1)
end
end Fx
set_option Elab.async false
set_option linter.all false
set_option maxRecDepth 100000
set_option maxHeartbeats 4000000
namespace Fx
open PySem L2
section
variable {c : Cf} {B : List (Nat × Addr)} {W : WX} {X : Cx} {G H : Hp} {A : Addr → Prop} {σ : L2.St} {ρ : Cells} {Z : Ends}
end
end Fx
set_option Elab.async false
set_option linter.all false
set_option maxRecDepth 100000
set_option maxHeartbeats 4000000
namespace Fx
open PySem L2
section
variable {c : Cf} {B : List (Nat × Addr)} {W : WX} {X : Cx} {G G' H : Hp} {A : Addr → Prop} {σ : L2.St} {ρ : Cells} {Z : Ends}
end
end Fx
set_option Elab.async false
set_option linter.all false
set_option maxRecDepth 100000
set_option maxHeartbeats 4000000
namespace Fx
open PySem L2
section
variable {c : Cf} {B : List (Nat × Addr)} {W : WX} {X : Cx} {G H : Hp} {A : Addr → Prop} {σ : L2.St} {ρ : Cells} {Z : Ends}
end
end Fx
set_option Elab.async false
set_option linter.all false
set_option maxRecDepth 100000
set_option maxHeartbeats 4000000
namespace Fx
open PySem PySem.Spec PyProof.Rows L2
theorem tup_once (l : Addr) (items : Array Value) (n : Nat) (dd : Option Addr) (sl : Array (Option Value)) (u : Tok) :
    Meets (Builtin.«tuple.__mul__» ⟨[.ref l, .int 1 u], []⟩) (fun _ R s => s.heap.get? l = some { cls := .type "tuple", dict := dd, data := .seq items n, slots := sl } ∧ R (.ok (.ret (Value.ref l))) s) :=
  .of_wp fun prog w A R s h => by
    obtain ⟨hp, g, d, tk, os⟩ := s
    obtain ⟨hl, h⟩ := h
    have f1 := AutoSeq1.idx_int
    have c0 : (decide ((1 : Int) < -(2 ^ 63)) || decide ((1 : Int) ≥ 2 ^ 63)) = false := by decide
    have c1 : (items.isEmpty || (1 : Int) == 1) = true := by simp
    wp_walk using wpAny_loadPart' hl
    repeat (first
      | (refine wpAny_ite_false (decide_eq_false (by rw [c0]; exact Bool.false_ne_true)) ?_; wp_walk using wpAny_loadPart' hl)
      | (refine wpAny_ite_true (decide_eq_true c1) ?_; wp_walk using wpAny_loadPart' hl))
    exact ⟨_, rfl, h⟩
theorem tup_never (l : Addr) (items : Array Value) (n : Nat) (dd : Option Addr) (sl : Array (Option Value)) (x : Int) (u : Tok) (c0 : (decide (x < -(2 ^ 63)) || decide (x ≥ 2 ^ 63)) = false) (c1 : (items.isEmpty || x == 1) = false) (c2 : (decide (x ≤ 0) || items.isEmpty) = true) :
    Meets (Builtin.«tuple.__mul__» ⟨[.ref l, .int x u], []⟩) (fun _ R s => s.heap.get? l = some { cls := .type "tuple", dict := dd, data := .seq items n, slots := sl } ∧
      R (.ok (.ret (Value.ref s.heap.objs.size))) { s with heap := s.heap.push { cls := Value.type "tuple", data := Data.seq #[] }, toks := s.toks }) :=
  .of_wp fun prog w A R s h => by
    obtain ⟨hp, g, d, tk, os⟩ := s
    obtain ⟨hl, h⟩ := h
    have f1 := AutoSeq1.idx_int
    wp_walk using wpAny_loadPart' hl
    repeat (first
      | (refine wpAny_ite_false (decide_eq_false (by rw [c0]; exact Bool.false_ne_true)) ?_; wp_walk using wpAny_loadPart' hl)
      | (refine wpAny_ite_false (decide_eq_false (by rw [c1]; exact Bool.false_ne_true)) ?_; wp_walk using wpAny_loadPart' hl)
      | (refine wpAny_ite_true (decide_eq_true c2) ?_; wp_walk using wpAny_loadPart' hl))
    exact ⟨_, rfl, h⟩
def rRepTN (K : PySem.W.Frag) : R2 := fun x y H Q => ∃ l k xs, x = .ref l ∧ y = .int k ∧ SqT K H l xs ∧ xs ≠ [] ∧ -1000 ≤ k ∧ k ≤ 1000 ∧ xs.length ≤ 1000 ∧
  (k = 1 → Q (.ref l) H) ∧ (k ≠ 1 → ∀ p its, H p = none → Q (.ref p) (upd H p (.frz (tob its) (.tup (List.replicate k.toNat xs).flatten))))
section
variable {X : Cx}
theorem op_repTN : OpR X (binaryOp .Mult) (rRepTN X.K) := by
  intro pins s σ H x y v u Q I rx ry h
  obtain ⟨l, k, xs, rfl, rfl, hT, hne, h1, h2, hz, q1, q2⟩ := h
  cases rx
  obtain ⟨t, rfl⟩ := ry
  obtain ⟨its, r, ⟨⟨cls, dd, data, sl⟩, ho, hc, n, hd⟩, hs⟩ := I.tuple hT
  simp only at hc hd
  subst hc hd
  have hle : its.length = xs.length := r.length.symm
  have hi : its.toArray.isEmpty = false := by
    cases its with
    | nil => exact absurd (List.eq_nil_of_length_eq_zero hle.symm) hne
    | cons a b => rfl
  have c0 : (decide (k < -(2 ^ 63)) || decide (k ≥ 2 ^ 63)) = false := by
    rw [decide_eq_false (by omega), decide_eq_false (by omega)] <;> rfl
  by_cases hk1 : k = 1
  · subst hk1
    refine wpAny_binaryOp_repeat_ref (T := "tuple") (U := "int") (by decide) ⟨_, ho, rfl⟩ (fun s' => typeIs_int s' 1 t) noFill_tuple_mul F.fills_int_mul F.slot_int_rmul repeat_tuple F.slot_int_index.lookup
      (call_meets F.slot_int_rmul (typeIs_int s 1 t) F.entry_int_rmul (F.args_int_rmul_2 _ _) (int_rmul_tuple 1 t l its.toArray n dd sl)
        ⟨ho, rfl, ⟨_, ho, rfl⟩, call_meets F.slot_tuple_mul ⟨_, ho, rfl⟩ F.entry_tuple_mul (F.args_tuple_mul_2 _ _) (tup_once l its.toArray n dd sl t) ⟨ho, ?_⟩⟩)
    exact ⟨.ref l, H, I, rfl, q1 rfl⟩
  · have c1 : (its.toArray.isEmpty || k == 1) = false := by
      rw [hi, Bool.false_or]
      exact beq_eq_false_iff_ne.mpr hk1
    by_cases hk0 : k ≤ 0
    · have c2 : (decide (k ≤ 0) || its.toArray.isEmpty) = true := by rw [decide_eq_true hk0]; rfl
      refine wpAny_binaryOp_repeat_ref (T := "tuple") (U := "int") (by decide) ⟨_, ho, rfl⟩ (fun s' => typeIs_int s' k t) noFill_tuple_mul F.fills_int_mul F.slot_int_rmul repeat_tuple F.slot_int_index.lookup
        (call_meets F.slot_int_rmul (typeIs_int s k t) F.entry_int_rmul (F.args_int_rmul_2 _ _) (int_rmul_tuple k t l its.toArray n dd sl)
          ⟨ho, rfl, ⟨_, ho, rfl⟩, call_meets F.slot_tuple_mul ⟨_, ho, rfl⟩ F.entry_tuple_mul (F.args_tuple_mul_2 _ _) (tup_never l its.toArray n dd sl k t c0 c1 c2) ⟨ho, ?_⟩⟩)
      have e : (List.replicate k.toNat xs).flatten = [] := by
        rw [show k.toNat = 0 by omega]
        rfl
      have q := q2 hk1 s.heap.objs.size [] (fresh I)
      rw [e] at q
      exact ⟨.ref s.heap.objs.size, _, tnew (t' := s.toks) I .nil (Nat.zero_le _), rfl, q⟩
    · have hsz0 : its.toArray.size = xs.length := by rw [List.size_toArray, hle]
      have hm : ((its.toArray.size : Nat) : Int) * k ≤ 1000000 := by
        rw [hsz0]
        have a1 : ((xs.length : Nat) : Int) * k ≤ 1000 * k := Int.mul_le_mul_of_nonneg_right (by omega) (by omega)
        omega
      have a1 : k.toNat * xs.length ≤ 1000 * 1000 := Nat.mul_le_mul (by omega) hz
      have flen : (List.replicate k.toNat its).flatten.length ≤ sizeLine := by
        rw [PyProof.Rows.lm_len_rep_flat, hle, sizeLine_eq]
        omega
      have c2 : (decide (k ≤ 0) || its.toArray.isEmpty) = false := by
        rw [hi, Bool.or_false]
        exact decide_eq_false hk0
      have c4 : Builtin.Tuple.tupleTooMany (((its.toArray.size : Nat) : Int) * k) = false := by
        unfold Builtin.Tuple.tupleTooMany
        rw [sizeLine_eq]
        exact decide_eq_false (by omega)
      refine wpAny_binaryOp_repeat_ref (T := "tuple") (U := "int") (by decide) ⟨_, ho, rfl⟩ (fun s' => typeIs_int s' k t) noFill_tuple_mul F.fills_int_mul F.slot_int_rmul repeat_tuple F.slot_int_index.lookup
        (call_meets F.slot_int_rmul (typeIs_int s k t) F.entry_int_rmul (F.args_int_rmul_2 _ _) (int_rmul_tuple k t l its.toArray n dd sl)
          ⟨ho, rfl, ⟨_, ho, rfl⟩, call_meets F.slot_tuple_mul ⟨_, ho, rfl⟩ F.entry_tuple_mul (F.args_tuple_mul_2 _ _) (tuple_mulW l its.toArray n dd sl k t c0 c1 c2 (by omega) c4 (by rw [size_rep, List.size_toArray]; exact flen)) ⟨ho, ?_⟩⟩)
      rw [size_rep]
      have I2 := tnew (t' := s.toks) I (r.rep k.toNat) (by rw [PyProof.Rows.lm_len_rep_flat, sizeLine_eq]; omega)
      exact ⟨.ref s.heap.objs.size, _, I2, rfl, q2 hk1 _ _ (fresh I)⟩
end
section
variable {c : Cf} {B : List (Nat × Addr)} {W : WX} {X : Cx} {G H : Hp} {A : Addr → Prop} {σ : L2.St} {ρ : Cells}
def sRepT : D → D → Option D
  | .tup a, .int k => if a ≠ [] ∧ a.length ≤ 1000 ∧ -1000 ≤ k ∧ k ≤ 1000 then some (.tup (List.replicate k.toNat a).flatten) else none
  | _, _ => none
theorem semRepT : Sem2 c (rRepTN c.K) sRepT := fun G H x y d1 d2 d Q s a b e k => by
  cases d1 <;> cases d2 <;> first | (cases e; done) | skip
  simp only [sRepT] at e
  split at e
  · rename_i h
    cases e
    obtain ⟨p, us, rfl, hp, r1, R1⟩ := a.tup s
    refine ⟨p, _, us, rfl, b.int, hp.sq, fun z => h.1 ?_, h.2.2.1, h.2.2.2, by rw [r1.length]; exact h.2.1, fun z => ?_, fun _ q its hq => k.tup s hq (rep_flatten r1 _)⟩
    · have := r1.length
      rw [z] at this
      exact List.eq_nil_of_length_eq_zero this.symm
    · subst z
      have e2 : ∀ ds : List D, (List.replicate (1 : Int).toNat ds).flatten = ds := fun ds => by
        show (List.replicate 1 ds).flatten = ds
        simp
      rw [e2] at k
      exact k.flat s R1
  · cases e
theorem o_repT {a b : Expr} {oa ob : Opn} {pos : Pos} (ha : PE X a (tO c B W oa)) (hb : PE X b (tO c B W ob)) (hK : c.K = X.K := by rfl) : PE X (.BinOp a .Mult b pos) (tM c B W (mOp2 sRepT oa ob)) := pm_op semRepT (by rw [hK]; exact pe_op op_repTN ha hb)
end
end Fx
set_option Elab.async false
set_option linter.all false
set_option maxRecDepth 100000
set_option maxHeartbeats 4000000
namespace Fx
open PySem L2
section
variable {c : Cf} {B : List (Nat × Addr)} {W : WX} {X : Cx} {G H : Hp} {A : Addr → Prop} {σ : L2.St} {ρ : Cells} {Z : Ends}
section
variable {a : Addr} {oe : Obj} {cls : Value} {d : Option Addr} {pn : List (Addr × Obj)} {k i : Nat} {nm : Str} {fs : List Str}
end
section
variable {k i : Nat} {nm n : Str} {fs : List Str} {body : List Stmt} {hs : Stmt} {np pos pos' : Pos} {m : MS} {hv : Exc → Option D}
end
end
end Fx
set_option Elab.async false
set_option linter.all false
set_option maxRecDepth 100000
set_option maxHeartbeats 4000000
namespace Fx
open PySem L2
section
variable {c : Cf} {B : List (Nat × Addr)} {W : WX} {X : Cx} {G H : Hp} {A : Addr → Prop} {σ : L2.St} {ρ : Cells} {Z : Ends}
def AfterSF (c : Cf) (B : List (Nat × Addr)) (W : WX) (G : Hp) (A : Addr → Prop) (H : Hp) (o : OutS) (D : Ends) : Prop := match o with
  | .ret d ρ' => ∀ G' A' H' σ' p H2, Stp G A H G' A' H' → Rel c B G' A' H' σ' ρ' → H' p = none → Same H' H2 → Own c G' (H2 p) d → D.rt (.ref p) H2
  | .exc x ρ' => ∀ G' A' H' σ' dd, Stp G A H G' A' H' → Rel c B G' A' H' σ' ρ' → ExcAt c G' x dd → W (.ref (c.exc x.c)) (some dd) σ' H'
  | _ => False
def tSF (c : Cf) (B : List (Nat × Addr)) (W : WX) (m : MS) : TS := fun D σ H => ∃ G A ρ, Rel c B G A H σ ρ ∧ AfterSF c B W G A H (m ρ) D
def mSeqF (m n : MS) : MS := fun ρ => match m ρ with
  | .next ρ' => n ρ'
  | .exc x ρ' => .exc x ρ'
  | _ => .stuck
theorem AfterSF.of {o : OutS} {G' H' : Hp} {A' : Addr → Prop} (hA : ∀ b, A b → ∃ o, H b = some o) (s : Stp G A H G' A' H') (h : AfterSF c B W G A H o Z) : AfterSF c B W G' A' H' o Z := by
  cases o with
  | stuck => exact h
  | next ρ' => exact h
  | ret d ρ' => exact fun G2 A2 H2 σ2 p H3 s2 R => h G2 A2 H2 σ2 p H3 (s.trans s2 hA) R
  | brk ρ' => exact h
  | cont ρ' => exact h
  | exc x ρ' => exact fun G2 A2 H2 σ2 dd s2 R r => h G2 A2 H2 σ2 dd (s.trans s2 hA) R r
theorem pssF_cons {st : Stmt} {rest : List Stmt} {m n : MS} (h1 : PS X st (tS c B W m)) (h2 : PSs X rest (tSF c B W n)) : PSs X (st :: rest) (tSF c B W (mSeqF m n)) :=
  pss_imp (pss_cons h1 h2) fun D σ H ⟨G, A, ρ, R, a⟩ => by
    refine ⟨G, A, ρ, R, ?_⟩
    unfold mSeqF at a
    cases e : m ρ with
    | next ρ' =>
      rw [e] at a
      exact fun G' A' H' σ' s R' => ⟨G', A', ρ', R', AfterSF.of R.own_there s a⟩
    | stuck => rw [e] at a; exact a
    | ret d ρ' => rw [e] at a; exact a.elim
    | brk ρ' => rw [e] at a; exact a.elim
    | cont ρ' => rw [e] at a; exact a.elim
    | exc x ρ' => rw [e] at a; exact a
theorem pssF_ret {e : Expr} {f : M D} {pos : Pos} (he : PE X e (tF c B W f)) : PSs X [.Return (some e) pos] (tSF c B W (mRet f)) :=
  pss_imp (pss_one (ps_ret he)) fun D σ H ⟨G, A, ρ, R, a⟩ => by
    refine ⟨G, A, ρ, R, ?_⟩
    unfold mRet mDo at a
    cases e : f ρ with
    | stuck => rw [e] at a; exact a
    | ok d ρ' =>
      rw [e] at a
      exact fun G' H' s k R' p H2 hp hh ho => a G' A H' σ p H2 (Stp.same s k) R' hp hh ho
    | exc x ρ' =>
      rw [e] at a
      exact fun G' H' dd s k R' r => a G' A H' σ dd (Stp.same s k) R' r
/-- what a slot owns goes -/
theorem Rel.drop (R : Rel c B G A H σ ρ) {i : Nat} {d : D} {p : Addr} (e : ρ[i]? = some (.own d)) (es : σ[i]? = some (some (.ref p))) (hb : B.all (fun q => q.1 != i) = true) :
    Rel c B G (fun b => A b ∧ b ≠ p) (fun b => if b = p then none else H b) σ (ρ.set i .no) := by
  obtain ⟨p', es', hA, hO⟩ := R.own i d e
  rw [es] at es'; cases es'
  obtain ⟨gp, _⟩ := R.ownA p hA
  have hi : i < ρ.length := (List.getElem?_eq_some_iff.mp e).1
  have at_ : ∀ b, b ≠ p → (if b = p then none else H b) = H b := fun b hb => if_neg hb
  have g : ∀ (j : Nat) (x : Cell), (ρ.set i .no)[j]? = some x → x ≠ .no → j ≠ i ∧ ρ[j]? = some x := fun j x h hx => by
    by_cases z : j = i
    · subst z; rw [List.getElem?_set_self hi] at h; cases h; exact absurd rfl hx
    · rw [List.getElem?_set_ne (Ne.symm z)] at h; exact ⟨z, h⟩
  refine ⟨fun b w q => ?_, by rw [List.length_set]; exact R.len, fun b ⟨h1, h2⟩ => ?_, fun j x h => ?_, fun j x h => ?_, fun j k x y q hjk h1 h2 h3 h4 => ?_, fun q hq => ?_⟩
  · show (if b = p then none else H b) = some w
    rw [at_ b (ne_of_none q gp)]; exact R.same b w q
  · obtain ⟨h3, o, h4⟩ := R.ownA b h1
    exact ⟨h3, o, by show (if b = p then none else H b) = some o; rw [at_ b h2]; exact h4⟩
  · exact R.dat j x (g j _ h (fun z => by cases z)).2
  · obtain ⟨nj, h'⟩ := g j _ h (fun z => by cases z)
    obtain ⟨q, h1, h2, h3⟩ := R.own j x h'
    have nq : q ≠ p := fun w => R.dis j i x d p nj h' e (by rw [← w]; exact h1) es
    exact ⟨q, h1, ⟨h2, nq⟩, by show Own c G (if q = p then none else H q) x; rw [at_ q nq]; exact h3⟩
  · exact R.dis j k x y q hjk (g j _ h1 (fun z => by cases z)).2 (g k _ h2 (fun z => by cases z)).2 h3 h4
  · obtain ⟨h1, h2, x, h3⟩ := R.byr q hq
    have z : q.1 ≠ i := by
      have := List.all_eq_true.mp hb q hq
      simpa using this
    refine ⟨h1, ⟨h2, fun w => ?_⟩, x, by rw [List.getElem?_set_ne (Ne.symm z)]; exact h3⟩
    exact R.dis q.1 i x d p z h3 e (by rw [← w]; exact h1) es
def AfterFr (c : Cf) (bs : List Nat) (G : Hp) (A : Addr → Prop) (H : Hp) (vs : List V) (o : FOut) (Q : VK) (E : XK) : Prop := match o with
  | .stuck => False
  | .ret d outs => ∀ G' H' p H2, Ret c bs G A H vs outs G' H' → H' p = none → Same H' H2 → Own c G' (H2 p) d → Q (.ref p) H2
  | .exc x outs => ∀ G' H' dd, Ret c bs G A H vs outs G' H' → ExcAt c G' x dd → E (.ref (c.exc x.c)) (some dd) H'
def mkFr (len : Nat) (bs : List Nat) (m : MS) : Fn := fun ds => match m (initC len bs ds) with
  | .ret d ρ => .ret d (outsOf bs ρ)
  | .exc x ρ => .exc x (outsOf bs ρ)
  | _ => .stuck
def spFr (c : Cf) (bs : List Nat) (n : Nat) (F : Fn) : Sp := fun vs H Q E => ∃ G A ds, ds.length = n ∧ ArgsOk c bs G A H vs ds ∧ AfterFr c bs G A H vs (F ds) Q E
end
section
variable {P : Program} {w : World} {K : PySem.W.Frag} {mg : Str → Option Value} {base : Heap} {c : Cf}
theorem fr_ok {x qual : Str} {st : Stmt} {f : Addr} {fd : FuncData} {N ps : List Str} {k : Nat} {dvs : List V} {kws : List (Str × V)} {m : MS} (bs : List Nat) (F : FunD K x qual (defArgs st) (defBody st) (defScope st) dvs kws f fd) (S : FnScope N ps (defScope st)) (hN : ps.length ≤ N.length) (hbs : ∀ i ∈ bs, i < ps.length)
    (body : ∀ (B : List (Nat × Addr)), B.map (·.1) = bs → ∀ (cdv : Value) (A : Around) (outer : List Env) (s : Shared) (H : Hp) (E : XK), Room k (A.deeper (PyProof.Rows.envOfC qual (defScope st) s.heap.objs.size f cdv)) →
      PSs (cxOf (L2.CX P w) P w K mg base N qual (defScope st) f cdv A outer s H E) (defBody st) (tSF c B (fun cls d _ H => E cls d H) m)) :
    FnOk P w K mg base (L2.CX P w) (k + 1) f fd ps (spFr c bs ps.length (mkFr N.length bs m)) := by
  refine F.ok S (fun vs H Q E h => ?_) (fun cdv A outer s H vs Q E hr h => ?_)
  · obtain ⟨G, A, ds, hn, ok, _⟩ := h
    rw [ok.len, hn]
  · obtain ⟨G, A0, ds, hn, ok, a⟩ := h
    have hl : vs.length = ps.length := by rw [ok.len, hn]
    have hlt : ∀ i ∈ bs, i < ds.length := fun i hi => by rw [hn]; exact hbs i hi
    have : ∃ B : List (Nat × Addr), B.map (·.1) = bs ∧ ∀ q ∈ B, vs[q.1]? = some (.ref q.2) := by
      have : ∀ l : List Nat, (∀ i ∈ l, i ∈ bs) → ∃ B : List (Nat × Addr), B.map (·.1) = l ∧ ∀ q ∈ B, vs[q.1]? = some (.ref q.2) := by
        intro l
        induction l with
        | nil => intro _; exact ⟨[], rfl, fun q h => by cases h⟩
        | cons i l ih =>
          intro hi
          obtain ⟨B, h1, h2⟩ := ih fun j hj => hi j (List.mem_cons_of_mem _ hj)
          have him := hi i List.mem_cons_self
          obtain ⟨p, e, _⟩ := ok.own i _ (List.getElem?_eq_getElem (hlt i him)) him
          refine ⟨(i, p) :: B, by rw [List.map_cons, h1], fun q hq => ?_⟩
          rcases List.mem_cons.mp hq with z | z
          · subst z; exact e
          · exact h2 q z
      exact this bs fun _ h => h
    obtain ⟨B, hB1, hB2⟩ := this
    have hBm : ∀ q ∈ B, q.1 ∈ bs ∧ vs[q.1]? = some (.ref q.2) := fun q hq => ⟨by rw [← hB1]; exact List.mem_map_of_mem hq, hB2 q hq⟩
    have hBi : ∀ i ∈ bs, ∃ p, (i, p) ∈ B ∧ vs[i]? = some (.ref p) := fun i hi => by
      rw [← hB1] at hi
      obtain ⟨q, hq, e⟩ := List.mem_map.mp hi
      subst e
      exact ⟨q.2, hq, hB2 q hq⟩
    refine ⟨_, body B hB1 cdv A outer s H E hr, G, _, _, rel_start ok (by rw [hl]; exact hN) B hBm hlt, ?_⟩
    have a : AfterFr c bs G A0 H vs (match m (initC N.length bs ds) with
      | .ret d ρ => .ret d (outsOf bs ρ)
      | .exc x ρ => .exc x (outsOf bs ρ)
      | _ => .stuck) Q E := a
    cases e : m (initC N.length bs ds) with
    | stuck => rw [e] at a; exact a.elim
    | brk ρ => rw [e] at a; exact a.elim
    | cont ρ => rw [e] at a; exact a.elim
    | next ρ => rw [e] at a; exact a.elim
    | ret d ρ => rw [e] at a; exact fun G' A' H' σ' p H2 s' R' hp hh ho => a G' H' p H2 (ret_of ok hlt hBi s' R') hp hh ho
    | exc x ρ => rw [e] at a; exact fun G' A' H' σ' dd s' R' r => a G' H' dd (ret_of ok hlt hBi s' R') r
theorem fr_ok0 {x qual : Str} {st : Stmt} {f : Addr} {fd : FuncData} {N ps : List Str} {k : Nat} {dvs : List V} {kws : List (Str × V)} {m : MS} (F : FunD K x qual (defArgs st) (defBody st) (defScope st) dvs kws f fd) (S : FnScope N ps (defScope st)) (hN : ps.length ≤ N.length)
    (body : ∀ (cdv : Value) (A : Around) (outer : List Env) (s : Shared) (H : Hp) (E : XK), Room k (A.deeper (PyProof.Rows.envOfC qual (defScope st) s.heap.objs.size f cdv)) →
      PSs (cxOf (L2.CX P w) P w K mg base N qual (defScope st) f cdv A outer s H E) (defBody st) (tSF c [] (fun cls d _ H => E cls d H) m)) :
    FnOk P w K mg base (L2.CX P w) (k + 1) f fd ps (spFr c [] ps.length (mkFr N.length [] m)) :=
  fr_ok [] F S hN (fun i h => by simp at h) fun B hB => by
    have : B = [] := by simpa using hB
    subst this
    exact body
/-- the def that stands under the name nm gives a new list -/
structure CalR (P : Program) (w : World) (K : PySem.W.Frag) (mg : Str → Option Value) (base : Heap) (c : Cf) (k : Nat) (nm : Str) (bs : List Nat) (n : Nat) (F : Fn) : Prop where
  ex : ∃ f fd ps, FnOk P w K mg base (L2.CX P w) k f fd ps (spFr c bs n F) ∧ mg nm = some (.ref f) ∧ PySem.W.keepIn K (.ref f) = true ∧ Binds K fd ps []
end
section
variable {c : Cf} {B : List (Nat × Addr)} {W : WX} {X : Cx} {G H : Hp} {A : Addr → Prop} {σ : L2.St} {ρ : Cells} {Z : Ends}
/-- f(e, ..), its list is new -/
theorem pf_calR {F : Fn} {os : List Opn} {k j n : Nat} {x : Str} {p pos : Pos} {e : Expr} {es : List Expr} (C : CalR X.prog X.w X.K X.mg X.base c j x (ownPos 0 os) n F) (hr : Room k X.A) (tk : Takes X W) (ha : PA X (e :: es) (tR c B W os)) (hj : j ≤ k := by decide)
    (nd : (ownSlots os).Nodup := by decide) (hn : os.length = n := by rfl) (hg : Gl X x := by rfl) (hdb : (x == ("__debug__" : Str)) = false := by decide)
    (he : starEach (e :: es) X.env = (false, eval e X.env) :: starEach es X.env := by rfl) (hpl : (backTo pos (starEach es X.env)).any (·.1) = false := by rfl) :
    PE X (.Call (.Name x p) (e :: es) [] pos) (tF c B W (mCallF F os)) := by
  obtain ⟨f, fd, ps, h1, h2, h3, h4⟩ := C.ex
  refine pe_imp (pe_callSD (p := p) h1 (hr.mono hj) hg h2 h3 h4 .nil (fun σ => passAt tk σ) ha hdb he hpl) fun σ H Q ⟨G, A, ρ, R, a⟩ => ?_
  refine ⟨G, A, ρ, R, a.split.imp fun as ρ1 G1 H1 _ _ R1 q vs hv => ?_⟩
  have q : After c B W G1 A H1 σ (match rdA os as ρ1 with
    | none => .stuck
    | some ds => match F ds with
      | .stuck => .stuck
      | .ret d outs => .ok d (setOuts (ownSlots os) outs ρ1)
      | .exc x outs => .exc x (setOuts (ownSlots os) outs ρ1)) (fun d x G' H' => ∀ p H2, H' p = none → Same H' H2 → Own c G' (H2 p) d → Q (.ref p) H2) := q
  cases ed : rdA os as ρ1 with
  | none => rw [ed] at q; exact q.elim
  | some ds =>
    rw [ed] at q
    have ok := args_ok R1 nd hv ed
    have hlen := rdA_len ed
    simp only [List.append_nil]
    refine ⟨G1, _, ds, by rw [hlen]; exact hn, ok, ?_⟩
    cases ef : F ds with
    | stuck => simp only [ef] at q; exact q.elim
    | ret d outs =>
      simp only [ef] at q
      intro G' H' p H2 r hp hh ho
      obtain ⟨s1, k1, R2⟩ := R1.ret nd hv ed r
      exact q G' H' s1 k1 R2 p H2 hp hh ho
    | exc y outs =>
      simp only [ef] at q
      intro G' H' dd r rx
      obtain ⟨s1, k1, R2⟩ := R1.ret nd hv ed r
      exact q G' H' dd s1 k1 R2 rx
def zipD : List D → List D → List D
  | d :: ds, e :: es => .tup [d, e] :: zipD ds es
  | _, _ => []
def sZip : D → D → Option (List D)
  | .lst ds, .lst es => some (zipD ds es)
  | .tup ds, .tup es => some (zipD ds es)
  | _, _ => none
def mZip (f g : M D) : M (List D) := (seqM [f, g]).bind fun ds => match ds with
  | [d, e] => M.lift (sZip d e)
  | _ => M.stuck
end
end Fx
set_option Elab.async false
set_option linter.all false
set_option maxRecDepth 100000
set_option maxHeartbeats 4000000
namespace Fx
open PySem PySem.Spec PyProof.Rows L2
section
variable {X : Cx}
end
section
variable {c : Cf} {B : List (Nat × Addr)} {W : WX} {X : Cx}
end
end Fx
set_option Elab.async false
set_option linter.all false
set_option maxRecDepth 100000
set_option maxHeartbeats 1000000
namespace Fx
open PySem L2
def SetAt (ρ : Cells) (i : Nat) (x : Cell) (ρ' : Cells) : Prop := ρ.set i x = ρ'
theorem setAt_z {a x : Cell} {l : Cells} : SetAt (a :: l) 0 x (x :: l) := rfl
theorem setAt_s {a x : Cell} {l l' : Cells} {n : Nat} (h : SetAt l n x l') : SetAt (a :: l) (n + 1) x (a :: l') := by
  unfold SetAt at h ⊢
  rw [List.set_cons_succ, h]
def GetAt (ρ : Cells) (i : Nat) (x : Cell) : Prop := ρ[i]? = some x
theorem getAt_z {a : Cell} {l : Cells} : GetAt (a :: l) 0 a := rfl
theorem getAt_s {a x : Cell} {l : Cells} {n : Nat} (h : GetAt l n x) : GetAt (a :: l) (n + 1) x := h
def Put (ks : List Nat) (os : List D) (ρ ρ' : Cells) : Prop := setOuts ks os ρ = ρ'
theorem put_n {os : List D} {ρ : Cells} : Put [] os ρ ρ := by cases os <;> rfl
theorem put_c {k : Nat} {ks : List Nat} {o : D} {os : List D} {ρ ρ1 ρ2 : Cells} (h : SetAt ρ k (.own o) ρ1) (h2 : Put ks os ρ1 ρ2) : Put (k :: ks) (o :: os) ρ ρ2 := by
  unfold Put setOuts
  rw [show ρ.set k (.own o) = ρ1 from h]
  exact h2
def Tg (g : TgM) (d : D) (ρ ρ' : Cells) : Prop := g d ρ = some ρ'
theorem tg_nm {i : Nat} {d : D} {ρ ρ' : Cells} (h : SetAt ρ i (.dat d) ρ') : Tg (gNm i) d ρ ρ' := by
  unfold Tg gNm
  rw [show ρ.set i (.dat d) = ρ' from h]
def Tgs (is : List Nat) (ds : List D) (ρ ρ' : Cells) : Prop := gNms is ds ρ = some ρ'
theorem tgs_n {ρ : Cells} : Tgs [] [] ρ ρ := rfl
theorem tgs_c {i : Nat} {is : List Nat} {d : D} {ds : List D} {ρ ρ1 ρ2 : Cells} (h : SetAt ρ i (.dat d) ρ1) (h2 : Tgs is ds ρ1 ρ2) : Tgs (i :: is) (d :: ds) ρ ρ2 := by
  unfold Tgs gNms
  rw [show ρ.set i (.dat d) = ρ1 from h]
  exact h2
/-- what lies under a name of data -/
def Is (d e : D) : Prop := d = e
theorem f_od {a b : Option D} (h : a = b) : a = b := h
theorem f_ol {a b : Option (List D)} (h : a = b) : a = b := h
theorem f_op {a b : Option (D × D)} (h : a = b) : a = b := h
theorem f_bt {a : Bool} (h : a = true) : a = true := h
theorem f_on {a b : Option Nat} (h : a = b) : a = b := h
theorem f_ld {a b : List D} (h : a = b) : a = b := h
theorem is_r {d : D} : Is d d := rfl
theorem is_id {d e : D} (h : Is d e) : Is d e := h
theorem tg_tp {is : List Nat} {d : D} {ds : List D} {ρ ρ' : Cells} (h0 : Is d (.tup ds)) (h : Tgs is ds ρ ρ') : Tg (gTp is) d ρ ρ' := by
  unfold Tg gTp
  rw [show d = .tup ds from h0]
  exact h
def NB (b b' : Bool) : Prop := b = b'
theorem nb_id {b b' : Bool} (h : NB b b') : NB b b' := h
theorem nb_t {p : Prop} [Decidable p] (h : p) : NB (decide p) true := decide_eq_true h
theorem nb_f {p : Prop} [Decidable p] (h : ¬p) : NB (decide p) false := decide_eq_false h
theorem nb_nt {p : Prop} [Decidable p] (h : ¬p) : NB (!decide p) true := by unfold NB; rw [decide_eq_false h]; rfl
theorem nb_nf {p : Prop} [Decidable p] (h : p) : NB (!decide p) false := by unfold NB; rw [decide_eq_true h]; rfl
theorem nb_lt : NB true true := rfl
theorem nb_lf : NB false false := rfl
theorem nb_ltn : NB (!true) false := rfl
theorem nb_lfn : NB (!false) true := rfl
section
variable {ρ ρ1 ρ2 ρ3 ρ4 : Cells} {d e a b d1 d2 d3 : D}
theorem v_var {i : Nat} (h : GetAt ρ i (.dat d)) : mVar i ρ = .ok d ρ := by
  unfold mVar
  rw [show ρ[i]? = some (.dat d) from h]
theorem v_pure {α : Type} {x : α} : M.pure x ρ = .ok x ρ := rfl
theorem p_dat {f : M D} (h : f ρ = .ok a ρ1) : Opn.pre (.dat f) ρ = .ok a ρ1 := h
theorem p_own {i : Nat} (h : GetAt ρ i (.own d)) : Opn.pre (.own i) ρ = .ok .non ρ := by
  show (match cellD ρ[i]? with | some _ => Out.ok D.non ρ | none => .stuck) = _
  rw [show ρ[i]? = some (.own d) from h]
  rfl
def Rd (o : Opn) (a : D) (ρ : Cells) (d : D) : Prop := o.rd a ρ = some d
theorem r_dat {f : M D} : Rd (.dat f) a ρ a := rfl
theorem r_own {i : Nat} (h : GetAt ρ i (.own d)) : Rd (.own i) a ρ d := by
  show cellD ρ[i]? = some d
  rw [show ρ[i]? = some (.own d) from h]
  rfl
theorem x_op2 {sem : D → D → Option D} {oa ob : Opn} (h1 : oa.pre ρ = .ok a ρ1) (h2 : ob.pre ρ1 = .ok b ρ2) (h3 : Rd oa a ρ2 d1) (h4 : Rd ob b ρ2 d2) (h5 : sem d1 d2 = some d) : mOp2 sem oa ob ρ = .ok d ρ2 := by
  unfold mOp2 M.bind rdM
  simp only [h1, h2, Out.andThen, show oa.rd a ρ2 = some d1 from h3, show ob.rd b ρ2 = some d2 from h4, M.lift, h5]
def Pl (os : List Opn) (ρ : Cells) (as : List D) (ρ' : Cells) : Prop := preL os ρ = .ok as ρ'
theorem pl_n : Pl [] ρ [] ρ := rfl
theorem pl_c {o : Opn} {os : List Opn} {as : List D} (h1 : o.pre ρ = .ok a ρ1) (h2 : Pl os ρ1 as ρ2) : Pl (o :: os) ρ (a :: as) ρ2 := by
  unfold Pl preL M.bind
  simp only [h1, Out.andThen, show preL os ρ1 = .ok as ρ2 from h2, M.pure]
def Rl (os : List Opn) (as : List D) (ρ : Cells) (ds : List D) : Prop := rdL os as ρ = some ds
theorem rl_n : Rl [] [] ρ [] := rfl
theorem rl_c {o : Opn} {os : List Opn} {as ds : List D} (h1 : Rd o a ρ d) (h2 : Rl os as ρ ds) : Rl (o :: os) (a :: as) ρ (d :: ds) := by
  unfold Rl rdL
  rw [show o.rd a ρ = some d from h1, show rdL os as ρ = some ds from h2]
theorem x_call {sem : List D → Option D} {os : List Opn} {as ds : List D} (h1 : Pl os ρ as ρ1) (h2 : Rl os as ρ1 ds) (h3 : sem ds = some d) : mCall sem os ρ = .ok d ρ1 := by
  unfold mCall M.bind rdLM
  simp only [show preL os ρ = .ok as ρ1 from h1, Out.andThen, show rdL os as ρ1 = some ds from h2, M.lift, h3]
def Ra (os : List Opn) (as : List D) (ρ : Cells) (ds : List D) (ks : List Nat) : Prop := rdA os as ρ = some ds ∧ ownSlots os = ks
theorem ra_n : Ra [] [] ρ [] [] := ⟨rfl, rfl⟩
theorem ra_d {f : M D} {os : List Opn} {as ds : List D} {ks : List Nat} (h : Ra os as ρ ds ks) : Ra (.dat f :: os) (a :: as) ρ (a :: ds) ks := by
  refine ⟨?_, h.2⟩
  unfold rdA
  rw [h.1]; rfl
theorem ra_o {i : Nat} {os : List Opn} {as ds : List D} {ks : List Nat} (h0 : GetAt ρ i (.own d)) (h : Ra os as ρ ds ks) : Ra (.own i :: os) (a :: as) ρ (d :: ds) (i :: ks) := by
  refine ⟨?_, by unfold ownSlots; rw [h.2]⟩
  unfold rdA
  rw [show ρ[i]? = some (.own d) from h0]
  simp only [h.1]; rfl
theorem x_callF {F : Fn} {os : List Opn} {as ds outs : List D} {ks : List Nat} (h1 : Pl os ρ as ρ1) (h2 : Ra os as ρ1 ds ks) (h3 : F ds = .ret d outs) (h4 : Put ks outs ρ1 ρ2) : mCallF F os ρ = .ok d ρ2 := by
  unfold mCallF M.bind
  simp only [show preL os ρ = .ok as ρ1 from h1, Out.andThen, h2.1, h3, h2.2]
  rw [show setOuts ks outs ρ1 = ρ2 from h4]
def Sq (fs : List (M D)) (ρ : Cells) (ds : List D) (ρ' : Cells) : Prop := seqM fs ρ = .ok ds ρ'
theorem sq_n : Sq [] ρ [] ρ := rfl
theorem sq_c {f : M D} {fs : List (M D)} {ds : List D} (h1 : f ρ = .ok d ρ1) (h2 : Sq fs ρ1 ds ρ2) : Sq (f :: fs) ρ (d :: ds) ρ2 := by
  unfold Sq seqM M.bind
  simp only [h1, Out.andThen, show seqM fs ρ1 = .ok ds ρ2 from h2, M.pure]
def App (ds es fs : List D) : Prop := ds ++ es = fs
theorem app_n {es : List D} : App [] es es := rfl
theorem app_c {ds es fs : List D} (h : App ds es fs) : App (d :: ds) es (d :: fs) := by
  unfold App at h ⊢
  rw [List.cons_append, h]
theorem x_callK {F : Fn} {fs ks : List (M D)} {ds es as outs : List D} (h1 : Sq fs ρ ds ρ1) (h2 : Sq ks ρ1 es ρ2) (h3 : App ds es as) (h4 : F as = .ret d outs) : mCallK F (fun ds es => ds ++ es) fs ks ρ = .ok d ρ2 := by
  unfold mCallK M.bind
  simp only [show seqM fs ρ = .ok ds ρ1 from h1, Out.andThen, show seqM ks ρ1 = .ok es ρ2 from h2, show ds ++ es = as from h3, appF, h4]
theorem x_callD {F : Fn} {os : List Opn} {as ds es outs : List D} {ks : List Nat} (h1 : Pl os ρ as ρ1) (h2 : Ra os as ρ1 ds ks) (h3 : App ds [.tup []] es) (h4 : F es = .ret d outs) (h5 : Put ks outs ρ1 ρ2) : mCallF (fun ds => F (ds ++ [.tup []])) os ρ = .ok d ρ2 := by
  refine x_callF h1 h2 (d := d) (outs := outs) ?_ h5
  show F (ds ++ [.tup []]) = _
  rw [show ds ++ [.tup []] = es from h3, h4]
theorem x_callN {F : Fn} {f : M D} {fs : List (M D)} {ds outs : List D} (h1 : f ρ = .ok a ρ1) (h2 : Sq fs ρ1 ds ρ2) (h3 : F (a :: ds) = .ret d outs) : mCallN F f fs ρ = .ok d ρ2 := by
  unfold mCallN M.bind
  simp only [h1, Out.andThen, show seqM fs ρ1 = .ok ds ρ2 from h2, h3]
theorem x_make {F : Fn} {fs : List (M D)} {ds : List D} {ns : List Str} {es : List D} (h1 : Sq fs ρ ds ρ1) (h2 : F (.rcd [] [] :: ds) = .ret .non [d]) (h3 : Is d (.rcd ns es)) : mMake F fs ρ = .ok d ρ1 := by
  unfold Is at h3
  subst h3
  unfold mMake M.bind
  simp only [show seqM fs ρ = .ok ds ρ1 from h1, Out.andThen, h2]
theorem x_tup {fs : List (M D)} {ds : List D} (h1 : Sq fs ρ ds ρ1) : mTup fs ρ = .ok (.tup ds) ρ1 := by
  unfold mTup M.bind
  simp only [show seqM fs ρ = .ok ds ρ1 from h1, Out.andThen, M.pure]
theorem x_lst {fs : List (M D)} {ds : List D} (h1 : Sq fs ρ ds ρ1) : mLst fs ρ = .ok (.lst ds) ρ1 := by
  unfold mLst M.bind
  simp only [show seqM fs ρ = .ok ds ρ1 from h1, Out.andThen, M.pure]
theorem x_neg {f : M D} {i : Int} (h1 : f ρ = .ok (.int i) ρ1) : mNeg f ρ = .ok (.int (-i)) ρ1 := by
  unfold mNeg M.bind
  simp only [h1, Out.andThen, M.pure]
theorem x_meth {is : D → Bool} {sem : D → List D → Option D} {o : Opn} {os : List Opn} {as ds : List D} (h1 : o.pre ρ = .ok a ρ1) (h2 : Rd o a ρ1 d1) (h3 : is d1 = true) (h4 : Pl os ρ1 as ρ2) (h5 : Rd o a ρ2 d2) (h6 : Rl os as ρ2 ds) (h7 : sem d2 ds = some d) : mMeth is sem o os ρ = .ok d ρ2 := by
  unfold mMeth M.bind rdM rdLM
  simp only [h1, Out.andThen, show o.rd a ρ1 = some d1 from h2, h3, if_pos, show preL os ρ1 = .ok as ρ2 from h4, show o.rd a ρ2 = some d2 from h5, show rdL os as ρ2 = some ds from h6, M.lift, h7]
theorem x_methWR {sem : D → List D → Option (D × D)} {i : Nat} {fs : List (M D)} {ds : List D} (h1 : GetAt ρ i (.own d1)) (h2 : isLst d1 = true) (h3 : Sq fs ρ ds ρ1) (h4 : GetAt ρ1 i (.own d2)) (h5 : sem d2 ds = some (d, d3)) (h6 : SetAt ρ1 i (.own d3) ρ2) : mMethWR sem i fs ρ = .ok d ρ2 := by
  unfold mMethWR M.bind ownAt setOwn
  simp only [show ρ[i]? = some (.own d1) from h1, Out.andThen, h2, if_pos, show seqM fs ρ = .ok ds ρ1 from h3, show ρ1[i]? = some (.own d2) from h4, M.lift, h5, show ρ1.set i (.own d3) = ρ2 from h6, M.pure]
theorem x_methW {sem : D → List D → Option (D × D)} {i : Nat} {os : List Opn} {as ds : List D} (h1 : GetAt ρ i (.own d1)) (h2 : isLst d1 = true) (h3 : Pl os ρ as ρ1) (h4 : Rl os as ρ1 ds) (h5 : GetAt ρ1 i (.own d2)) (h6 : sem d2 ds = some (d, d3)) (h7 : SetAt ρ1 i (.own d3) ρ2) : mMethW sem i os ρ = .ok d ρ2 := by
  unfold mMethW M.bind ownAt setOwn rdLM
  simp only [show ρ[i]? = some (.own d1) from h1, Out.andThen, h2, if_pos, show preL os ρ = .ok as ρ1 from h3, show rdL os as ρ1 = some ds from h4, show ρ1[i]? = some (.own d2) from h5, M.lift, h6, show ρ1.set i (.own d3) = ρ2 from h7, M.pure]
theorem pt_n : mPart none ρ = .ok none ρ := rfl
theorem pt_s {f : M D} {j : Int} (h : f ρ = .ok (.int j) ρ1) : mPart (some f) ρ = .ok (some j) ρ1 := by
  unfold mPart M.bind
  simp only [h, Out.andThen, M.pure]
theorem x_sl {sem : D → Option Int → Option Int → Option D} {o : Opn} {lo hi : Option (M D)} {l u : Option Int} (h1 : o.pre ρ = .ok a ρ1) (h2 : mPart lo ρ1 = .ok l ρ2) (h3 : mPart hi ρ2 = .ok u ρ3) (h4 : Rd o a ρ3 d1) (h5 : sem d1 l u = some d) : mSl sem o lo hi ρ = .ok d ρ3 := by
  unfold mSl M.bind rdM
  simp only [h1, Out.andThen, h2, h3, show o.rd a ρ3 = some d1 from h4, M.lift, h5]
theorem x_rev {sem : D → Option D} {o : Opn} (h1 : o.pre ρ = .ok a ρ1) (h2 : Rd o a ρ1 d1) (h3 : sem d1 = some d) : mRev sem o ρ = .ok d ρ1 := by
  unfold mRev M.bind rdM
  simp only [h1, Out.andThen, show o.rd a ρ1 = some d1 from h2, M.lift, h3]
theorem x_lrg {f : M D} {k : Int} (h : f ρ = .ok (.int k) ρ1) (h1 : -(2 ^ 62) ≤ k) (h2 : k ≤ 16777216) : mListRg f ρ = .ok (.lst (rangeD 0 k.toNat)) ρ1 := by
  unfold mListRg M.bind
  rw [h]
  show (if -(2 ^ 62) ≤ k ∧ k ≤ 16777216 then M.pure (D.lst (rangeD 0 k.toNat)) else M.stuck) _ = _
  rw [if_pos ⟨h1, h2⟩]
  rfl
theorem x_fld {fe : M D} {f : Str} {ns : List Str} {ds : List D} (h : fe ρ = .ok d ρ1) (h1 : Is d (.rcd ns ds)) (h2 : (ns.zip ds).lookup f = some e) : mFld fe f ρ = .ok e ρ1 := by
  unfold mFld M.bind
  rw [h, show d = .rcd ns ds from h1]
  simp only [Out.andThen, M.lift, h2]
theorem x_lenF {F : Fn} {fe : M D} {k : Int} {outs : List D} (h : fe ρ = .ok d ρ1) (h1 : isRcd d = true) (h2 : F [d] = .ret (.int k) outs) (h3 : 0 ≤ k) (h4 : k < 2 ^ 63) : mLenF F fe ρ = .ok (.int k) ρ1 := by
  unfold mLenF M.bind
  simp only [h, Out.andThen, h1, if_pos, h2]
  rw [if_pos ⟨h3, h4⟩]
theorem x_methF {F : Fn} {m : Str} {fo : M D} {fs : List (M D)} {ds outs : List D} (h : fo ρ = .ok d ρ1) (h1 : noName m d = true) (h2 : Sq fs ρ1 ds ρ2) (h3 : F (d :: ds) = .ret e outs) : mMethF F m fo fs ρ = .ok e ρ2 := by
  unfold mMethF M.bind
  simp only [h, Out.andThen, h1, if_pos, show seqM fs ρ1 = .ok ds ρ2 from h2, appF, h3]
theorem x_lenset {f : M D} (h : f ρ = .ok d ρ1) (h2 : sLenSet d = some e) : mLenSet f ρ = .ok e ρ1 := by
  unfold mLenSet M.bind
  simp only [h, Out.andThen, M.lift, h2]
def chK (b : Bool) (s2 : D → D → Option D) (d2 : D) (ob oc : Opn) (b0 : D) : M D := if b = true then oc.pre.bind fun e => (rdM ob b0).bind fun d2 => (rdM oc e).bind fun d3 => M.lift (s2 d2 d3) else M.pure (.bl false)
theorem chK_f {s2 : D → D → Option D} {ob oc : Opn} : chK false s2 d2 ob oc b ρ = .ok (.bl false) ρ := rfl
theorem chK_t {s2 : D → D → Option D} {ob oc : Opn} (h1 : oc.pre ρ = .ok e ρ1) (h2 : Rd ob b ρ1 d1) (h3 : Rd oc e ρ1 d3) (h4 : s2 d1 d3 = some d) : chK true s2 d2 ob oc b ρ = .ok d ρ1 := by
  unfold chK M.bind rdM
  simp only [if_pos, h1, Out.andThen, show ob.rd b ρ1 = some d1 from h2, show oc.rd e ρ1 = some d3 from h3, M.lift, h4]
theorem x_chain {s1 s2 : D → D → Option D} {oa ob oc : Opn} {z z' : Bool} {o : Out D} (h1 : oa.pre ρ = .ok a ρ1) (h2 : ob.pre ρ1 = .ok b ρ2) (h3 : Rd oa a ρ2 d1) (h4 : Rd ob b ρ2 d2) (h5 : s1 d1 d2 = some (.bl z)) (hz : NB z z') (h6 : chK z' s2 d2 ob oc b ρ2 = o) : mChain s1 s2 oa ob oc ρ = o := by
  rw [← h6]
  unfold mChain M.bind rdM chK
  rw [← show z = z' from hz]
  simp only [h1, h2, Out.andThen, show oa.rd a ρ2 = some d1 from h3, show ob.rd b ρ2 = some d2 from h4, M.lift, h5]
  cases z <;> rfl
theorem i_seq {f : M D} {ds : List D} (h : f ρ = .ok d ρ1) (h2 : itemsOf d = some ds) : mSeqI f ρ = .ok ds ρ1 := by
  unfold mSeqI M.bind
  simp only [h, Out.andThen, M.lift, h2]
theorem i_enum {f : M D} {ds : List D} (h : f ρ = .ok d ρ1) (h2 : itemsOf d = some ds) : mEnum f ρ = .ok (enumD 0 ds) ρ1 := by
  unfold mEnum M.bind
  simp only [h, Out.andThen, M.lift, h2, M.pure]
theorem i_range {f : M D} {k : Int} (h : f ρ = .ok (.int k) ρ1) (h1 : k ≤ 16777216) (h2 : -16777216 ≤ k) : mRange1 f ρ = .ok (rangeD 0 k.toNat) ρ1 := by
  unfold mRange1 M.bind
  simp only [h, Out.andThen]
  rw [if_pos ⟨h1, h2⟩]
  rfl
theorem i_zip {f g : M D} {ds : List D} (h : f ρ = .ok d ρ1) (h2 : g ρ1 = .ok e ρ2) (h3 : sZip d e = some ds) : mZip f g ρ = .ok ds ρ2 := by
  unfold mZip M.bind
  simp only [seqM, M.bind, h, h2, Out.andThen, M.pure, M.lift, h3]
theorem b_b {f : M D} {b : Bool} (h : f ρ = .ok (.bl b) ρ1) : mB f ρ = .ok b ρ1 := by
  unfold mB M.bind
  simp only [h, Out.andThen, M.pure]
theorem b_not {f : M Bool} {b b' : Bool} (h : f ρ = .ok b ρ1) (hb : NB (!b) b') : mNot f ρ = .ok b' ρ1 := by
  unfold mNot M.bind
  simp only [h, Out.andThen, M.pure, show (!b) = b' from hb]
def andK (b : Bool) (g : M Bool) : M Bool := if b = true then g else M.pure false
theorem andK_t {g : M Bool} {o : Out Bool} (h : g ρ = o) : andK true g ρ = o := h
theorem andK_f {g : M Bool} : andK false g ρ = .ok false ρ := rfl
theorem b_and {f g : M Bool} {b b' : Bool} {o : Out Bool} (h : f ρ = .ok b ρ1) (hb : NB b b') (h2 : andK b' g ρ1 = o) : mAnd f g ρ = o := by
  unfold mAnd M.bind
  unfold andK at h2
  rw [h, show b = b' from hb]
  exact h2
def orK (b : Bool) (g : M Bool) : M Bool := if b = true then M.pure true else g
theorem orK_f {g : M Bool} {o : Out Bool} (h : g ρ = o) : orK false g ρ = o := h
theorem orK_t {g : M Bool} : orK true g ρ = .ok true ρ := rfl
theorem b_or {f g : M Bool} {b b' : Bool} {o : Out Bool} (h : f ρ = .ok b ρ1) (hb : NB b b') (h2 : orK b' g ρ1 = o) : mOr f g ρ = o := by
  unfold mOr M.bind
  unfold orK at h2
  rw [h, show b = b' from hb]
  exact h2
def ifK {α : Type} (b : Bool) (f g : M α) : M α := if b = true then f else g
theorem ifK_t {α : Type} {f g : M α} {o : Out α} (h : f ρ = o) : ifK true f g ρ = o := h
theorem ifK_f {α : Type} {f g : M α} {o : Out α} (h : g ρ = o) : ifK false f g ρ = o := h
theorem x_if {α : Type} {t : M Bool} {f g : M α} {b b' : Bool} {o : Out α} (h : t ρ = .ok b ρ1) (hb : NB b b') (h2 : ifK b' f g ρ1 = o) : mIf t f g ρ = o := by
  unfold mIf M.bind
  unfold ifK at h2
  rw [h, show b = b' from hb]
  exact h2
theorem x_andV {f g : M D} {b b' : Bool} {o : Out D} (h : f ρ = .ok (.bl b) ρ1) (hb : NB b b') (h2 : ifK b' g (M.pure (.bl false)) ρ1 = o) : mAndV f g ρ = o := by
  unfold mAndV M.bind
  unfold ifK at h2
  rw [b_b h, show b = b' from hb]
  exact h2
theorem x_orV {f g : M D} {b b' : Bool} {o : Out D} (h : f ρ = .ok (.bl b) ρ1) (hb : NB b b') (h2 : ifK b' (M.pure (.bl true)) g ρ1 = o) : mOrV f g ρ = o := by
  unfold mOrV M.bind
  unfold ifK at h2
  rw [b_b h, show b = b' from hb]
  exact h2
theorem x_notV {f : M D} {b b' : Bool} (h : f ρ = .ok (.bl b) ρ1) (hb : NB (!b) b') : mNotV f ρ = .ok (.bl b') ρ1 := by
  unfold mNotV M.bind
  rw [b_b h]
  simp only [Out.andThen, M.pure, show (!b) = b' from hb]
theorem s_run {m : MS} {len : Nat} {bs : List Nat} {ds outs : List D} {ρ0 : Cells} (h0 : initC len bs ds = ρ0) (h : m ρ0 = .ret d ρ1) (h2 : outsOf bs ρ1 = outs) : mkFn len bs m ds = .ret d outs := by
  unfold mkFn
  rw [h0, h]
  simp only [h2]
variable {o : OutS} {m n R : MS}
theorem s_one (h : mSeq m mSkip ρ = o) : m ρ = o := by
  rw [← h]
  unfold mSeq mSkip
  cases m ρ <;> rfl
theorem g_seq (h : mSeq m R ρ = o) : mSeq m R ρ = o := h
theorem s_assoc (h : mSeq m (mSeq n R) ρ = o) : mSeq (mSeq m n) R ρ = o := by
  rw [← h]
  unfold mSeq
  cases m ρ <;> rfl
theorem s_skip (h : R ρ = o) : mSeq mSkip R ρ = o := h
theorem s_end : mSkip ρ = .next ρ := rfl
theorem s_step {S : MS} (h1 : S ρ = .next ρ1) (h2 : R ρ1 = o) : mSeq S R ρ = o := by
  unfold mSeq
  rw [h1]
  exact h2
theorem s_retS {S : MS} (h1 : S ρ = .ret d ρ1) : mSeq S R ρ = .ret d ρ1 := by
  unfold mSeq
  rw [h1]
theorem s_asg {f : M D} {g : TgM} (h1 : f ρ = .ok d ρ1) (h2 : Tg g d ρ1 ρ2) (h3 : R ρ2 = o) : mSeq (mAsg f g) R ρ = o := by
  unfold mSeq mAsg mDo
  rw [h1]
  simp only [show g d ρ1 = some ρ2 from h2]
  exact h3
theorem s_new {f : M D} {i : Nat} (h1 : f ρ = .ok d ρ1) (h2 : SetAt ρ1 i (.own d) ρ2) (h3 : R ρ2 = o) : mSeq (mNew f i) R ρ = o := by
  unfold mSeq mNew mDo
  rw [h1]
  simp only [show ρ1.set i (.own d) = ρ2 from h2]
  exact h3
theorem s_expr {f : M D} (h1 : f ρ = .ok d ρ1) (h3 : R ρ1 = o) : mSeq (mExpr f) R ρ = o := by
  unfold mSeq mExpr mDo
  rw [h1]
  exact h3
theorem s_ret {f : M D} (h1 : f ρ = .ok d ρ1) : mSeq (mRet f) R ρ = .ret d ρ1 := by
  unfold mSeq mRet mDo
  rw [h1]
theorem s_retN : mSeq mRetN R ρ = .ret .non ρ := rfl
def ifSK (b : Bool) (m n : MS) : MS := if b = true then m else n
theorem s_t (h : mSeq m R ρ = o) : mSeq (ifSK true m n) R ρ = o := h
theorem s_f (h : mSeq n R ρ = o) : mSeq (ifSK false m n) R ρ = o := h
theorem s_if {t : M Bool} {b b' : Bool} (h : t ρ = .ok b ρ1) (hb : NB b b') (h2 : mSeq (ifSK b' m n) R ρ1 = o) : mSeq (mIfS t m n) R ρ = o := by
  rw [← h2]
  unfold mSeq mIfS mDo ifSK
  rw [h, show b = b' from hb]
  cases b' <;> rfl
theorem s_par {f g : M D} {i j : Nat} (h1 : f ρ = .ok d ρ1) (h2 : g ρ1 = .ok e ρ2) (h3 : SetAt ρ2 i (.dat d) ρ3) (h4 : SetAt ρ3 j (.dat e) ρ4) (h5 : R ρ4 = o) : mSeq (mPar f g i j) R ρ = o := by
  unfold mSeq mPar mDo
  simp only [h1, h2, show ρ2.set i (.dat d) = ρ3 from h3, show ρ3.set j (.dat e) = ρ4 from h4]
  exact h5
theorem s_new2 {f g : M D} {i j : Nat} (h1 : f ρ = .ok d ρ1) (h2 : g ρ1 = .ok e ρ2) (h3 : SetAt ρ2 i (.own d) ρ3) (h4 : SetAt ρ3 j (.own e) ρ4) (h5 : R ρ4 = o) : mSeq (mNew2 f g i j) R ρ = o := by
  unfold mSeq mNew2 mDo
  simp only [h1, h2, show ρ2.set i (.own d) = ρ3 from h3, show ρ3.set j (.own e) = ρ4 from h4]
  exact h5
theorem s_frz {i : Nat} (h1 : GetAt ρ i (.own d)) (h2 : SetAt ρ i (.dat d) ρ1) (h3 : mSeq m R ρ1 = o) : mSeq (mFrz i m) R ρ = o := by
  unfold mSeq mFrz
  simp only [show ρ[i]? = some (.own d) from h1, show ρ.set i (.dat d) = ρ1 from h2]
  exact h3
theorem s_frzD {i : Nat} (h1 : GetAt ρ i (.dat d)) (h3 : mSeq m R ρ = o) : mSeq (mFrz i m) R ρ = o := by
  unfold mSeq mFrz
  simp only [show ρ[i]? = some (.dat d) from h1]
  exact h3
theorem s_for {fi : M (List D)} {g : TgM} {ds : List D} (h1 : fi ρ = .ok ds ρ1) (h2 : loopM g m ds ρ1 = .next ρ2) (h3 : R ρ2 = o) : mSeq (mFor fi g m) R ρ = o := by
  unfold mSeq mFor mDo
  simp only [h1, h2]
  exact h3
theorem s_forR {fi : M (List D)} {g : TgM} {ds : List D} (h1 : fi ρ = .ok ds ρ1) (h2 : loopM g m ds ρ1 = .ret d ρ2) : mSeq (mFor fi g m) R ρ = .ret d ρ2 := by
  unfold mSeq mFor mDo
  simp only [h1, h2]
theorem s_while {t : M Bool} {k : Nat} (h2 : whileM t m k ρ = .next ρ2) (h3 : R ρ2 = o) : mSeq (whileM t m k) R ρ = o := by
  unfold mSeq
  simp only [h2]
  exact h3
theorem s_whileR {t : M Bool} {k : Nat} (h2 : whileM t m k ρ = .ret d ρ2) : mSeq (whileM t m k) R ρ = .ret d ρ2 := by
  unfold mSeq
  simp only [h2]
theorem s_raise {x : Nat} {fs : List (M D)} {ds : List D} (h : Sq fs ρ ds ρ1) : mSeq (mRaise x fs) R ρ = .exc ⟨x, ds.reverse⟩ ρ1 := by
  unfold mSeq mRaise mDo
  simp only [show seqM fs ρ = .ok ds ρ1 from h]
theorem s_setIx {i : Nat} {fj fe : M D} {ds : List D} {k : Int} {kn : Nat} (h1 : fe ρ = .ok d ρ1) (h2 : GetAt ρ1 i (.own d1)) (h3 : fj ρ1 = .ok (.int k) ρ2) (h4 : GetAt ρ2 i (.own (.lst ds))) (h5 : ixN ds.length k = some kn) (h6 : SetAt ρ2 i (.own (.lst (ds.set kn d))) ρ3) (h7 : R ρ3 = o) : mSeq (mSetIx i fj fe) R ρ = o := by
  unfold mSeq mSetIx mDo
  simp only [h1, ownAt, show ρ1[i]? = some (.own d1) from h2, h3, show ρ2[i]? = some (.own (.lst ds)) from h4, h5, show ρ2.set i (.own (.lst (ds.set kn d))) = ρ3 from h6]
  exact h7
end
end Fx
set_option Elab.async false
set_option linter.all false
set_option maxRecDepth 100000
set_option maxHeartbeats 1000000
namespace Fx
open PySem PyProof.Rows L2
section
variable {c : Cf} {B : List (Nat × Addr)} {W : WX} {X : Cx} {G H : Hp} {A : Addr → Prop} {σ : L2.St} {ρ : Cells} {Z : Ends}
def mPar3 (f g h : M D) (i j l : Nat) : MS := mDo f fun d => mDo g fun e => mDo h fun u ρ => .next (((ρ.set i (.dat d)).set j (.dat e)).set l (.dat u))
end
variable {ρ ρ1 ρ2 ρ3 ρ4 ρ5 ρ6 : Cells} {d e u : D} {o : OutS} {R : MS}
theorem s_par3 {f g h : M D} {i j l : Nat} (h1 : f ρ = .ok d ρ1) (h2 : g ρ1 = .ok e ρ2) (h3 : h ρ2 = .ok u ρ3) (h4 : SetAt ρ3 i (.dat d) ρ4) (h5 : SetAt ρ4 j (.dat e) ρ5) (h6 : SetAt ρ5 l (.dat u) ρ6) (h7 : R ρ6 = o) : mSeq (mPar3 f g h i j l) R ρ = o := by
  unfold mSeq mPar3 mDo
  simp only [h1, h2, h3, show ρ3.set i (.dat d) = ρ4 from h4, show ρ4.set j (.dat e) = ρ5 from h5, show ρ5.set l (.dat u) = ρ6 from h6]
  exact h7
end Fx
set_option Elab.async false
set_option linter.all false
set_option maxRecDepth 100000
set_option maxHeartbeats 2000000
namespace Fx
open PySem PyProof.Rows L2
def pick {α : Type} (is : List Nat) (l : List α) : List α := is.filterMap fun i => l[i]?
section
variable {P : Program} {w : World} {K : PySem.W.Frag} {mg : Str → Option Value} {base : Heap} {c : Cf}
end
section
variable {c : Cf} {B : List (Nat × Addr)} {W : WX} {X : Cx} {G H : Hp} {A : Addr → Prop} {σ : L2.St} {ρ : Cells} {Z : Ends}
def mAugV (i : Nat) (fe : M D) : MS := fun ρ => match ρ[i]? with
  | some (.dat (.int a)) => mDo fe (fun d ρ' => match d with
    | .int b => .next (ρ'.set i (.dat (.int (a + b))))
    | _ => .stuck) ρ
  | _ => .stuck
end
theorem s_augV {i : Nat} {fe : M D} {a b : Int} {ρ ρ1 ρ2 : Cells} {o : OutS} {R : MS} (h1 : GetAt ρ i (.dat (.int a))) (h2 : fe ρ = .ok (.int b) ρ1) (h3 : SetAt ρ1 i (.dat (.int (a + b))) ρ2) (h4 : R ρ2 = o) : mSeq (mAugV i fe) R ρ = o := by
  unfold mSeq mAugV mDo
  simp only [show ρ[i]? = some (.dat (.int a)) from h1, h2, show ρ1.set i (.dat (.int (a + b))) = ρ2 from h3]
  exact h4
def Pk (is : List Nat) (l : List D) (as : List D) : Prop := pick is l = as
def At (l : List D) (i : Nat) (a : D) : Prop := l[i]? = some a
theorem at_z {a : D} {l : List D} : At (a :: l) 0 a := rfl
theorem at_s {a x : D} {l : List D} {n : Nat} (h : At l n x) : At (a :: l) (n + 1) x := h
theorem pk_n {l : List D} : Pk [] l [] := rfl
theorem pk_c {i : Nat} {is : List Nat} {l as : List D} {a : D} (h : At l i a) (h2 : Pk is l as) : Pk (i :: is) l (a :: as) := by
  unfold Pk pick at h2 ⊢
  rw [List.filterMap_cons, show l[i]? = some a from h, h2]
theorem x_callW {F : Fn} {fs ks : List (M D)} {is : List Nat} {ds es as bs outs : List D} {d : D} {ρ ρ1 ρ2 : Cells} (h1 : Sq fs ρ ds ρ1) (h2 : Sq ks ρ1 es ρ2) (h3 : App ds es as) (h4 : Pk is as bs) (h5 : F bs = .ret d outs) : mCallK F (fun ds es => pick is (ds ++ es)) fs ks ρ = .ok d ρ2 := by
  unfold mCallK M.bind
  simp only [show seqM fs ρ = .ok ds ρ1 from h1, Out.andThen, show seqM ks ρ1 = .ok es ρ2 from h2, show ds ++ es = as from h3, show pick is as = bs from h4, appF, h5]
end Fx
set_option Elab.async false
set_option linter.all false
set_option maxRecDepth 100000
set_option maxHeartbeats 2000000
namespace Fx
open PySem PyProof.Rows L2
section
variable {c : Cf} {B : List (Nat × Addr)} {W : WX} {X : Cx} {G H : Hp} {A : Addr → Prop} {σ : L2.St} {ρ : Cells} {Z : Ends}
def mIsF (f : M D) : M D := f.bind fun d => if isRcd d = true then M.pure (.bl true) else M.stuck
def mEqF (F : Fn) (f g : M D) : M D := f.bind fun d1 => g.bind fun d2 => fun ρ => if (isRcd d1 && isRcd d2) = true then (match F [d1, d2] with
  | .ret (.bl r) _ => .ok (.bl r) ρ
  | _ => .stuck) else .stuck
end
variable {ρ ρ1 ρ2 : Cells} {d d1 d2 : D}
theorem x_isF {f : M D} (h : f ρ = .ok d ρ1) (h2 : isRcd d = true) : mIsF f ρ = .ok (.bl true) ρ1 := by
  unfold mIsF M.bind
  simp only [h, Out.andThen, h2, if_pos, M.pure]
theorem x_eqF {F : Fn} {f g : M D} {b : Bool} {outs : List D} (h1 : f ρ = .ok d1 ρ1) (h2 : g ρ1 = .ok d2 ρ2) (h3 : isRcd d1 = true) (h4 : isRcd d2 = true) (h5 : F [d1, d2] = .ret (.bl b) outs) : mEqF F f g ρ = .ok (.bl b) ρ2 := by
  unfold mEqF M.bind
  simp only [h1, h2, Out.andThen, h3, h4, Bool.and_self, if_pos, h5]
end Fx
set_option Elab.async false
set_option linter.all false
set_option maxRecDepth 100000
set_option maxHeartbeats 4000000
namespace Fx
open PySem L2
def isDic : D → Bool
  | .dic _ _ => true
  | _ => false
section
variable {c : Cf} {B : List (Nat × Addr)} {W : WX} {X : Cx} {G H : Hp} {A : Addr → Prop} {σ : L2.St} {ρ : Cells}
def mMethWD (sem : D → List D → Option (D × D)) (i : Nat) (fs : List (M D)) : M D := (ownAt i).bind fun d0 => if isDic d0 = true then (seqM fs).bind fun ds => (ownAt i).bind fun d => (M.lift (sem d ds)).bind fun r => (setOwn i r.2).bind fun _ => M.pure r.1 else M.stuck
theorem x_methWD {sem : D → List D → Option (D × D)} {i : Nat} {fs : List (M D)} {ds : List D} {d d1 d2 d3 : D} {ρ1 ρ2 : Cells} (h1 : GetAt ρ i (.own d1)) (h2 : isDic d1 = true) (h3 : Sq fs ρ ds ρ1) (h4 : GetAt ρ1 i (.own d2)) (h5 : sem d2 ds = some (d, d3)) (h6 : SetAt ρ1 i (.own d3) ρ2) : mMethWD sem i fs ρ = .ok d ρ2 := by
  unfold mMethWD M.bind ownAt setOwn
  simp only [show ρ[i]? = some (.own d1) from h1, Out.andThen, h2, if_true]
  rw [show seqM fs ρ = .ok ds ρ1 from h3]
  simp only [show ρ1[i]? = some (.own d2) from h4, M.lift, h5, M.pure, show ρ1.set i (.own d3) = ρ2 from h6]
end
end Fx
set_option Elab.async false
set_option linter.all false
set_option maxRecDepth 100000
set_option maxHeartbeats 4000000
namespace Fx
open PySem L2
section
variable {X : Cx} {pins : List (Addr × Obj)} {σ : L2.St} {H : Hp} {s : Shared}
end
section
variable {X : Cx}
end
end Fx
set_option Elab.async false
set_option linter.all false
set_option maxRecDepth 100000
set_option maxHeartbeats 4000000
namespace Fx
open PySem L2
/-- what the cells own -/
def Owd (σ : L2.St) (ρ : Cells) (b : Addr) : Prop := ∃ (i : Nat) (d : D), ρ[i]? = some (.own d) ∧ σ[i]? = some (some (.ref b))
def NoTbl (G : Hp) : Prop := ∀ b ps, G b ≠ some (.tbl ps)
section
variable {c : Cf} {G H : Hp}
end
section
variable {c : Cf} {B : List (Nat × Addr)} {W : WX} {X : Cx} {G G' H H' : Hp} {A A' : Addr → Prop} {σ σ' : L2.St} {ρ ρ' : Cells} {T : List (Addr × Str)}
theorem Rel.sub (R : Rel c B G A H σ ρ) {b : Addr} (h : Owd σ ρ b) : A b := by
  obtain ⟨i, d, h1, h2⟩ := h
  obtain ⟨p, k1, k2, _⟩ := R.own i d h1
  rw [h2] at k1; cases k1
  exact k2
theorem Rel.small (R : Rel c B G A H σ ρ) : Rel c B G (Owd σ ρ) H σ ρ := by
  refine ⟨R.same, R.len, fun b hb => R.ownA b (R.sub hb), R.dat, fun i d h => ?_, R.dis, fun q hq => ?_⟩
  · obtain ⟨p, h1, _, h3⟩ := R.own i d h
    exact ⟨p, h1, ⟨i, d, h, h1⟩, h3⟩
  · obtain ⟨h1, _, d, h3⟩ := R.byr q hq
    exact ⟨h1, ⟨q.1, d, h3, h1⟩, d, h3⟩
/-- the tables as they stand; their code objects are frozen -/
structure TabOk (T : List (Addr × Str)) (G H : Hp) : Prop where
  tabs : ∀ q ∈ T, ∃ ps : Array Value, H q.1 = some (.tbl ps) ∧ TriplesOk ps.toList ∧ ∀ (pos : Pos) (cv : Value), codeAmong pos ps.toList = some cv → ∃ a, cv = .ref a ∧ G a = some (LamX.CodeO a q.2)
  noG : NoTbl G
theorem TabOk.to (t : TabOk T G H) (s : Same G H) : LamX.Tabs T H := fun q hq => by
  obtain ⟨ps, h1, h2, h3⟩ := t.tabs q hq
  refine ⟨ps, h1, h2, fun pos cv h => ?_⟩
  obtain ⟨a, e1, e2⟩ := h3 pos cv h
  exact ⟨a, e1, s _ _ e2⟩
def KeepT (A : Addr → Prop) (G H G' H' : Hp) : Prop := ∀ b o, H b = some o → ¬ A b → (∀ ps, o ≠ .tbl ps) → H' b = some o ∧ ((∀ q, o ≠ LamX.CodeO b q) → G' b = G b)
structure StpT (A : Addr → Prop) (G H G' H' : Hp) (A' : Addr → Prop) : Prop where
  gg : Same G G'
  kp : KeepT A G H G' H'
  aa : ∀ b, A' b → A b ∨ H b = none ∨ ∃ ps, H b = some (.tbl ps)
theorem StpT.refl : StpT A G H G H A := ⟨Same.refl _, fun b o h _ _ => ⟨h, fun _ => rfl⟩, fun b h => .inl h⟩
theorem StpT.trans {G1 H1 G2 H2 : Hp} {A1 A2 : Addr → Prop} (a : StpT A G H G1 H1 A1) (b : StpT A1 G1 H1 G2 H2 A2) : StpT A G H G2 H2 A2 where
  gg := a.gg.trans b.gg
  kp := fun x o h n t => by
    obtain ⟨k1, k2⟩ := a.kp x o h n t
    have n1 : ¬ A1 x := fun z => by
      rcases a.aa x z with y | y | ⟨ps, y⟩
      · exact n y
      · rw [h] at y; cases y
      · rw [h] at y; cases y; exact t ps rfl
    obtain ⟨k3, k4⟩ := b.kp x o k1 n1 t
    exact ⟨k3, fun q => (k4 q).trans (k2 q)⟩
  aa := fun x h => by
    cases e : H x with
    | none => exact .inr (.inl rfl)
    | some o =>
      by_cases n : A x
      · exact .inl n
      · by_cases t : ∃ ps, o = .tbl ps
        · obtain ⟨ps, rfl⟩ := t
          exact .inr (.inr ⟨ps, rfl⟩)
        · have k1 := (a.kp x o e n fun ps z => t ⟨ps, z⟩).1
          rcases b.aa x h with y | y | ⟨ps, y⟩
          · exact (a.aa x y).imp_right fun z => by rwa [e] at z
          · rw [k1] at y; cases y
          · rw [k1] at y; cases y; exact absurd ⟨ps, rfl⟩ t
def AfterT {α : Type} (T : List (Addr × Str)) (c : Cf) (B : List (Nat × Addr)) (G H : Hp) (σ : L2.St) (ρ : Cells) (o : Out α) (Q : α → Cells → Hp → Hp → Prop) : Prop := match o with
  | .ok a ρ' => ∀ G' H', StpT (Owd σ ρ) G H G' H' (Owd σ ρ') → Rel c B G' (Owd σ ρ') H' σ ρ' → TabOk T G' H' → Q a ρ' G' H'
  | _ => False
def AfterST (T : List (Addr × Str)) (c : Cf) (B : List (Nat × Addr)) (G H : Hp) (σ : L2.St) (ρ : Cells) (o : OutS) (D : Ends) : Prop := match o with
  | .next ρ' => ∀ G' H' σ', StpT (Owd σ ρ) G H G' H' (Owd σ' ρ') → Rel c B G' (Owd σ' ρ') H' σ' ρ' → TabOk T G' H' → D.nx σ' H'
  | .ret d ρ' => ∀ G' H' σ' v, StpT (Owd σ ρ) G H G' H' (Owd σ' ρ') → Rel c B G' (Owd σ' ρ') H' σ' ρ' → TabOk T G' H' → Rep c G' v d → D.rt v H'
  | .brk ρ' => ∀ G' H' σ', StpT (Owd σ ρ) G H G' H' (Owd σ' ρ') → Rel c B G' (Owd σ' ρ') H' σ' ρ' → TabOk T G' H' → D.bk σ' H'
  | .cont ρ' => ∀ G' H' σ', StpT (Owd σ ρ) G H G' H' (Owd σ' ρ') → Rel c B G' (Owd σ' ρ') H' σ' ρ' → TabOk T G' H' → D.ct σ' H'
  | _ => False
theorem AfterT.of {α : Type} {G1 H1 : Hp} {ρ1 : Cells} {o : Out α} {Q : α → Cells → Hp → Hp → Prop} (s : StpT (Owd σ ρ) G H G1 H1 (Owd σ ρ1)) (h : AfterT T c B G H σ ρ o Q) : AfterT T c B G1 H1 σ ρ1 o Q := by
  cases o with
  | stuck => exact h
  | exc x ρ' => exact h
  | ok a ρ' => exact fun G' H' s' R t => h G' H' (s.trans s') R t
theorem AfterST.of {G1 H1 : Hp} {σ1 : L2.St} {ρ1 : Cells} {o : OutS} {Z : Ends} (s : StpT (Owd σ ρ) G H G1 H1 (Owd σ1 ρ1)) (h : AfterST T c B G H σ ρ o Z) : AfterST T c B G1 H1 σ1 ρ1 o Z := by
  cases o with
  | stuck => exact h
  | exc x ρ' => exact h
  | brk ρ' => exact fun G' H' σ' s' R t => h G' H' σ' (s.trans s') R t
  | cont ρ' => exact fun G' H' σ' s' R t => h G' H' σ' (s.trans s') R t
  | next ρ' => exact fun G' H' σ' s' R t => h G' H' σ' (s.trans s') R t
  | ret d ρ' => exact fun G' H' σ' v s' R t => h G' H' σ' v (s.trans s') R t
theorem AfterT.ok {α : Type} {a : α} {Q : α → Cells → Hp → Hp → Prop} (h : AfterT T c B G H σ ρ (.ok a ρ) Q) (R : Rel c B G (Owd σ ρ) H σ ρ) (t : TabOk T G H) : Q a ρ G H := h G H StpT.refl R t
theorem AfterST.nx {Z : Ends} (h : AfterST T c B G H σ ρ (.next ρ) Z) (R : Rel c B G (Owd σ ρ) H σ ρ) (t : TabOk T G H) : Z.nx σ H := h G H σ StpT.refl R t
theorem AfterT.split {α β : Type} {f : M α} {k : α → M β} {Q : β → Cells → Hp → Hp → Prop} (h : AfterT T c B G H σ ρ ((f.bind k) ρ) Q) : AfterT T c B G H σ ρ (f ρ) fun a ρ' G' H' => AfterT T c B G' H' σ ρ' (k a ρ') Q := by
  unfold M.bind at h
  cases e : f ρ with
  | stuck => rw [e] at h; exact h
  | exc x ρ' => rw [e] at h; exact h
  | ok a ρ' => rw [e] at h; exact fun G' H' s R t => AfterT.of s h
theorem AfterT.imp {α : Type} {o : Out α} {Q Q' : α → Cells → Hp → Hp → Prop} (h : AfterT T c B G H σ ρ o Q) (k : ∀ a ρ' G' H', StpT (Owd σ ρ) G H G' H' (Owd σ ρ') → Rel c B G' (Owd σ ρ') H' σ ρ' → TabOk T G' H' → Q a ρ' G' H' → Q' a ρ' G' H') : AfterT T c B G H σ ρ o Q' := by
  cases o with
  | stuck => exact h
  | exc x ρ' => exact h
  | ok a ρ' => exact fun G' H' s R t => k a ρ' G' H' s R t (h G' H' s R t)
theorem AfterST.split {α : Type} {f : M α} {k : α → MS} {Z : Ends} (h : AfterST T c B G H σ ρ (mDo f k ρ) Z) : AfterT T c B G H σ ρ (f ρ) fun a ρ' G' H' => AfterST T c B G' H' σ ρ' (k a ρ') Z := by
  unfold mDo at h
  cases e : f ρ with
  | stuck => rw [e] at h; exact h
  | exc x ρ' => rw [e] at h; exact h
  | ok a ρ' => rw [e] at h; exact fun G' H' s R t => AfterST.of s h
/-- a value ahead of one that makes a lambda, compared -/
def mCmp (sem : D → D → Option D) (f g : M D) : M D := f.bind fun d => g.bind fun e => M.lift (sem d e)
end
end Fx
set_option Elab.async false
set_option linter.all false
set_option maxRecDepth 100000
set_option maxHeartbeats 4000000
namespace Fx
open PySem L2
section
variable {c : Cf} {B : List (Nat × Addr)} {W : WX} {X : Cx} {G G' H H' : Hp} {A A' : Addr → Prop} {σ σ' : L2.St} {ρ ρ' : Cells} {T : List (Addr × Str)}
end
section
variable {P : Program} {w : World} {K : PySem.W.Frag} {mg : Str → Option Value} {base : Heap} {c : Cf} {T : List (Addr × Str)}
end
section
variable {c : Cf} {B : List (Nat × Addr)} {W : WX} {X : Cx} {T : List (Addr × Str)}
end
end Fx
set_option Elab.async false
set_option linter.all false
set_option maxRecDepth 100000
set_option maxHeartbeats 4000000
namespace Fx
open PySem L2
section
variable {prog : Program} {w : World} {A : Around} {E : Value → Shared → Prop} {s : Shared} {K : PySem.W.Frag} {x y C f : Addr} {ox : Obj} {od : Option Obj}
end
section
variable {c : Cf} {B : List (Nat × Addr)} {W : WX} {X : Cx} {G H : Hp} {A : Addr → Prop} {σ : L2.St} {ρ : Cells} {Z : Ends}
def mNeF (F : Fn) (f g : M D) : M D := f.bind fun d1 => g.bind fun d2 => fun ρ => if (isRcd d1 && isRcd d2) = true then (match F [d1, d2] with
  | .ret (.bl r) _ => .ok (.bl (!r)) ρ
  | _ => .stuck) else .stuck
end
section
variable {P : Program} {w : World} {K : PySem.W.Frag} {mg : Str → Option Value} {base : Heap} {c : Cf}
end
section
variable {c : Cf} {B : List (Nat × Addr)} {W : WX} {X : Cx} {G H : Hp} {A : Addr → Prop} {σ : L2.St} {ρ : Cells} {E : XK}
def mMakeK (F : Fn) (js : List Nat) (gs : List (M D)) : M D := (seqM gs).bind fun es ρ => match F (.rcd [] [] :: pick js es) with
  | .ret .non [.rcd ns ds] => .ok (.rcd ns ds) ρ
  | .exc x _ => .exc x ρ
  | _ => .stuck
def mMethK (F : Fn) (m : Str) (js : List Nat) (fo : M D) (gs : List (M D)) : M D := fo.bind fun d => if noName m d = true then (seqM gs).bind fun es => appF F (d :: pick js es) else M.stuck
end
section
variable {ρ ρ1 ρ2 : Cells} {d d1 d2 : D}
theorem x_neF {F : Fn} {f g : M D} {b : Bool} {outs : List D} (h1 : f ρ = .ok d1 ρ1) (h2 : g ρ1 = .ok d2 ρ2) (h3 : isRcd d1 = true) (h4 : isRcd d2 = true) (h5 : F [d1, d2] = .ret (.bl b) outs) : mNeF F f g ρ = .ok (.bl (!b)) ρ2 := by
  unfold mNeF M.bind
  simp only [h1, h2, Out.andThen, h3, h4, Bool.and_self, if_pos, h5]
theorem x_makeK {F : Fn} {js : List Nat} {gs : List (M D)} {es ds vs : List D} {ns : List Str} (h1 : Sq gs ρ es ρ1) (h2 : Pk js es ds) (h3 : F (.rcd [] [] :: ds) = .ret .non [.rcd ns vs]) : mMakeK F js gs ρ = .ok (.rcd ns vs) ρ1 := by
  unfold mMakeK M.bind
  simp only [show seqM gs ρ = .ok es ρ1 from h1, Out.andThen, show pick js es = ds from h2, h3]
theorem x_methK {F : Fn} {m : Str} {js : List Nat} {fo : M D} {gs : List (M D)} {es ds outs : List D} {e : D} (h1 : fo ρ = .ok d ρ1) (h2 : noName m d = true) (h3 : Sq gs ρ1 es ρ2) (h4 : Pk js es ds) (h5 : F (d :: ds) = .ret e outs) : mMethK F m js fo gs ρ = .ok e ρ2 := by
  unfold mMethK M.bind
  simp only [h1, Out.andThen, h2, if_pos, show seqM gs ρ1 = .ok es ρ2 from h3, show pick js es = ds from h4, appF, h5]
theorem x_cmp {sem : D → D → Option D} {f g : M D} (h1 : f ρ = .ok d1 ρ1) (h2 : g ρ1 = .ok d2 ρ2) (h3 : sem d1 d2 = some d) : mCmp sem f g ρ = .ok d ρ2 := by
  unfold mCmp M.bind
  simp only [h1, h2, Out.andThen, M.lift, h3]
end
end Fx
set_option Elab.async false
set_option linter.all false
set_option maxRecDepth 100000
set_option maxHeartbeats 4000000
namespace Fx
open PySem L2
section
variable {c : Cf} {B : List (Nat × Addr)} {W : WX} {X : Cx} {G G' H H' : Hp} {A A' : Addr → Prop} {σ σ' : L2.St} {ρ ρ' : Cells} {T : List (Addr × Str)}
end
section
variable {c : Cf} {B : List (Nat × Addr)} {X : Cx} {T : List (Addr × Str)}
end
section
variable {P : Program} {w : World} {K : PySem.W.Frag} {mg : Str → Option Value} {base : Heap} {c : Cf} {T : List (Addr × Str)}
end
end Fx
set_option Elab.async false
set_option linter.all false
set_option maxRecDepth 100000
set_option maxHeartbeats 4000000
namespace Fx
open PySem L2
mutual
inductive NkH (K : PySem.W.Frag) (H : Hp) : V → NestedKey → Prop
  | non : NkH K H .non .none
  | bl (b : Bool) : NkH K H (.bl b) (.num (if b = true then 1 else 0))
  | int (i : Int) : NkH K H (.int i) (.num i)
  | str (x : Str) : NkH K H (.str x) (.text x)
  | tup {a : Addr} {xs : List V} {ks : List NestedKey} : SqT K H a xs → NkHL K H xs ks → NkH K H (.ref a) (.tup ks)
inductive NkHL (K : PySem.W.Frag) (H : Hp) : List V → List NestedKey → Prop
  | nil : NkHL K H [] []
  | cons {v : V} {vs : List V} {k : NestedKey} {ks : List NestedKey} : NkH K H v k → NkHL K H vs ks → NkHL K H (v :: vs) (k :: ks)
end
section
variable {X : Cx} {pins : List (Addr × Obj)} {σ : L2.St} {H : Hp} {s : Shared}
mutual
theorem NkH.is (I : Inv X pins σ H s) : ∀ (k : NestedKey) (v : V) (u : Value), NkH X.K H v k → RelV v u → NestedIs s.heap k u
  | .none, _, _, h, r => by
    cases h
    cases r
    exact .none
  | .num i, _, _, h, r => by
    cases h with
    | bl b => cases r; exact .bool rfl
    | int i => obtain ⟨t, rfl⟩ := r; exact .int _ t
  | .text x, _, _, h, r => by
    cases h
    obtain ⟨t, rfl⟩ := r
    exact .text x t
  | .tup ks, _, _, h, r => by
    cases h with
    | tup hs ha =>
      cases r
      obtain ⟨its, rv, ⟨o, ho, hc, n, hd⟩, _⟩ := I.tuple hs
      exact .tup ho hc hd (NkHL.is I ks _ _ ha (by simpa using rv))
theorem NkHL.is (I : Inv X pins σ H s) : ∀ (ks : List NestedKey) (vs : List V) (us : List Value), NkHL X.K H vs ks → Vals vs us → NestedAll s.heap ks us
  | [], _, _, h, r => by
    cases h
    cases r
    exact .nil
  | k :: ks, _, _, h, r => by
    cases h with
    | cons h1 h2 =>
      cases r with
      | cons r1 r2 => exact .cons (NkH.is I k _ _ h1 r1) (NkHL.is I ks _ _ h2 r2)
end
end
section
variable {c : Cf} {G H : Hp}
theorem nkL_cons {d : D} {ds : List D} {ks : List NestedKey} (h : nkL (d :: ds) = some ks) : ∃ k ks', nk d = some k ∧ nkL ds = some ks' ∧ ks = k :: ks' := by
  unfold nkL at h
  cases h1 : nk d with
  | none => simp only [h1] at h; cases h
  | some k =>
    cases h2 : nkL ds with
    | none => simp only [h1, h2] at h; cases h
    | some ks' => simp only [h1, h2] at h; cases h; exact ⟨k, ks', rfl, rfl, rfl⟩
mutual
theorem Rep.nk (s : Same G H) : ∀ {v : V} {d : D} {k : NestedKey}, Rep c G v d → nk d = some k → NkH c.K H v k
  | _, _, _, .non, h => by unfold Fx.nk at h; cases h; exact .non
  | _, _, _, .bl b, h => by unfold Fx.nk at h; cases h; exact .bl b
  | _, _, _, .int i, h => by unfold Fx.nk at h; cases h; exact .int i
  | _, _, _, .str x, h => by unfold Fx.nk at h; cases h; exact .str x
  | _, .tup ds, _, .tup e r, h => by
    unfold Fx.nk at h
    cases h2 : nkL ds with
    | none => simp only [h2] at h; cases h
    | some ks => simp only [h2] at h; cases h; exact .tup (e.mono s).sq (RepL.nk s r h2)
  | _, _, _, .lst .., h => by unfold Fx.nk at h; cases h
  | _, _, _, .dic .., h => by unfold Fx.nk at h; cases h
  | _, _, _, .rcd .., h => by unfold Fx.nk at h; cases h
  | _, _, _, .raw _, h => by unfold Fx.nk at h; cases h
  | _, _, _, .std .., h => by unfold Fx.nk at h; cases h
theorem RepL.nk (s : Same G H) : ∀ {vs : List V} {ds : List D} {ks : List NestedKey}, RepL c G vs ds → nkL ds = some ks → NkHL c.K H vs ks
  | _, _, _, .nil, h => by unfold nkL at h; cases h; exact .nil
  | _, _, _, .cons r t, h => by
    obtain ⟨k, ks', h1, h2, rfl⟩ := nkL_cons h
    exact .cons (Rep.nk s r h1) (RepL.nk s t h2)
end
theorem rep_nk_ref {v : V} {d : D} {ks : List NestedKey} (r : Rep c G v d) (h : nk d = some (.tup ks)) : ∃ p, v = .ref p := by
  cases r <;> first | (unfold nk at h; cases h; done) | exact ⟨_, rfl⟩
theorem nkL_append : ∀ {ds es : List D} {ks ls : List NestedKey}, nkL ds = some ks → nkL es = some ls → nkL (ds ++ es) = some (ks ++ ls)
  | [], _, _, _, h, h2 => by unfold nkL at h; cases h; exact h2
  | d :: ds, _, _, _, h, h2 => by
    obtain ⟨k, ks', h1, h3, rfl⟩ := nkL_cons h
    rw [List.cons_append, nkL, h1, nkL_append h3 h2]
    rfl
end
section
variable {P : Program} {w : World} {H : Hp} {h h' : Heap} {a b : Addr} {xs : List (NestedKey × Addr)}
theorem kd_addr (o : ObjOk P w H h b (KdO P w a xs)) : a = b := by
  obtain ⟨h1, ⟨ob, hb⟩, st⟩ := o
  refine Classical.byContradiction fun ne => ?_
  let oc : Obj := { cls := .none, data := .fields #[] }
  have q := st h { h with objs := h.objs.setIfInBounds a oc } h1 fun o e => by
    unfold Heap.get? at e ⊢
    simp only [Array.getElem?_setIfInBounds, if_neg ne]
    exact e
  obtain ⟨_, o2, es, ep, e1, _, e2, _⟩ := q
  obtain ⟨_, o3, _, _, e3, _⟩ := h1
  have hlt := Heap.lt_size e3
  unfold Heap.get? at e1
  simp only [Array.getElem?_setIfInBounds, if_pos, if_pos hlt] at e1
  have e1 : some oc = some o2 := e1
  cases e1
  cases e2
theorem kd_new (hd : (a == sysModules) = false) {o : Obj} {es : Array DictEntry} {ep : Nat} (e : h.get? a = some o) (x : o.ExactDict) (d : o.data = .dict es ep) (l : es.toList = xs.map fun x => entryOfKey (nestedKind P w) (x.1, x.2, .bool true)) : ObjOk P w H h a (KdO P w a xs) :=
  ⟨⟨hd, o, es, ep, e, x, d, l⟩, ⟨o, e⟩, fun h1 h2 ⟨q0, o1, es1, ep1, q1, q2, q3, q4⟩ k => ⟨q0, o1, es1, ep1, k _ q1, q2, q3, q4⟩⟩
end
/-- how such a dict stands in an abstract heap -/
structure Kd (K : PySem.W.Frag) (P : Program) (w : World) (H : Hp) (a : Addr) (ps : List Addr) (ks : List NestedKey) : Prop where
  ob : ∃ a0, H a = some (KdO P w a0 (ks.zip ps))
  len : ks.length = ps.length
  nd : ks.Nodup
  dp : ∀ k ∈ ks, k.depth ≤ 8
  at_ : NkHL K H (ps.map V.ref) ks
def trip (x : NestedKey × Addr) : NestedKey × Addr × Value := (x.1, x.2, .bool true)
theorem nkHL_get {K : PySem.W.Frag} {H : Hp} : ∀ {ps : List Addr} {ks : List NestedKey} {k : NestedKey} {p : Addr}, NkHL K H (ps.map V.ref) ks → (k, p) ∈ ks.zip ps → NkH K H (.ref p) k
  | [], ks, k, p, _, h => by simp at h
  | q :: ps, [], k, p, _, h => by simp at h
  | q :: ps, j :: ks, k, p, r, h => by
    rw [List.map_cons] at r
    cases r with
    | cons r1 r2 =>
      rw [List.zip_cons_cons] at h
      rcases List.mem_cons.mp h with e | h
      · cases e; exact r1
      · exact nkHL_get r2 h
theorem zipK {β : Type} : ∀ {ks : List NestedKey} {ps : List β}, ks.length = ps.length → (ks.zip ps).map (·.1) = ks
  | [], [], _ => rfl
  | k :: ks, p :: ps, h => by rw [List.zip_cons_cons, List.map_cons, zipK (by simpa using h)]
section
variable {X : Cx} {pins : List (Addr × Obj)} {σ : L2.St} {H : Hp} {s : Shared} {a : Addr} {ps : List Addr} {ks : List NestedKey}
theorem Kd.dict (I : Inv X pins σ H s) (k : Kd X.K X.prog X.w H a ps ks) : (a == sysModules) = false ∧ s.heap.DictOfH (nestedKind X.prog X.w) a ((ks.zip ps).map trip) := by
  obtain ⟨a0, e⟩ := k.ob
  have o := I.hok _ _ e
  have ea := kd_addr o
  subst ea
  obtain ⟨⟨hd, ob, es, ep, e1, e2, e3, e4⟩, _⟩ := o
  refine ⟨hd, ob, es, ep, e1, e2, e3, ?_, fun x hx => ?_, ?_⟩
  · rw [e4, List.map_map]
    rfl
  · obtain ⟨⟨j, p⟩, hj, rfl⟩ := List.mem_map.mp hx
    refine ⟨NkH.is I _ _ _ (nkHL_get k.at_ hj) rfl, k.dp j ?_⟩
    exact (List.of_mem_zip hj).1
  · rw [List.map_map]
    show ((ks.zip ps).map (·.1)).Nodup
    rw [zipK k.len]
    exact k.nd
theorem at_zip {k : NestedKey} : ∀ {ks : List NestedKey} {ps : List Addr}, ks.length = ps.length → (atKey ((ks.zip ps).map trip) k).isSome = decide (k ∈ ks)
  | [], [], _ => by simp [atKey]
  | j :: ks, p :: ps, h => by
    have ih := at_zip (k := k) (ks := ks) (ps := ps) (by simpa using h)
    unfold atKey at ih ⊢
    by_cases e : j = k
    · subst e
      simp [trip]
    · have e' : ¬ k = j := fun z => e z.symm
      simp only [List.zip_cons_cons, List.map_cons, trip, List.mem_cons, e', false_or] at ih ⊢
      simpa [List.find?_cons, e] using ih
end
end Fx
set_option Elab.async false
set_option linter.all false
set_option maxRecDepth 100000
set_option maxHeartbeats 4000000
namespace Fx
open PySem L2
def sInS : D → D → Option D
  | d, .exc 0 ds => match nk d, nkL ds with
    | some (.tup k), some ks => if (NestedKey.tup k).depth ≤ 8 then some (.bl (decide (NestedKey.tup k ∈ ks))) else none
    | _, _ => none
  | _, _ => none
def sNinS (d e : D) : Option D := match sInS d e with
  | some (.bl b) => some (.bl (!b))
  | _ => none
def rInS (K : PySem.W.Frag) (P : Program) (w : World) (neg : Bool) : R2 := fun x y H Q => ∃ (a p : Addr) (ps : List Addr) (ks : List NestedKey) (k : NestedKey), x = .ref p ∧ y = .ref a ∧ Kd K P w H a ps ks ∧ NkH K H (.ref p) k ∧ k.depth ≤ 8 ∧ Q (.bl (decide (k ∈ ks) != neg)) H
section
variable {X : Cx} {a b : Expr} {ta tb : TE}
theorem room_k {A : Around} (hu : A.units + 64 < cLine) {P : Program} {w : World} : (nestedKind P w).room A.in1 := by
  show A.in1.units + 8 < cLine
  simp only [Around.in1_units]
  omega
theorem pc_ninS (hu : X.A.units + 64 < cLine) (ha : PE X a ta) (hb : PE X b tb) : PC X .NotIn a b (tOp (rInS X.K X.prog X.w true) ta tb) := by
  refine ⟨fun pins s σ H Q I h => ?_⟩
  refine thn (ha.run pins s σ H _ I h) fun v s1 ⟨x, H1, I1, rx, q1⟩ => thn (hb.run pins s1 σ H1 _ I1 q1) fun u s2 ⟨y, H2, I2, ry, q2⟩ => ?_
  obtain ⟨a, p, ps, ks, k, rfl, rfl, kd, kn, dp, q⟩ := q2
  cases (show v = Value.ref p from rx)
  cases (show u = Value.ref a from ry)
  obtain ⟨hd, dk⟩ := kd.dict I2
  refine notIn_keyed (knd := nestedKind X.prog X.w) (room_k hu) (k := k) ⟨NkH.is I2 k _ _ kn rfl, dp⟩ hd ⟨_, dk, rfl⟩ ⟨.bl _, H2, I2.tok _, ?_, q⟩
  rw [valueAt_pairsH, Option.isSome_map, at_zip kd.len]
  show Value.bool _ = Value.bool _
  rw [Bool.bne_true]
/-- d[k] = True, a new key -/
def rSetS (K : PySem.W.Frag) (P : Program) (w : World) : TSet := fun o i v H Q => ∃ (a p : Addr) (ps : List Addr) (ks : List NestedKey) (k : NestedKey), o = .ref a ∧ i = .ref p ∧ v = .bl true ∧ Kd K P w H a ps ks ∧ NkH K H (.ref p) k ∧ k.depth ≤ 8 ∧ k ∉ ks ∧ ks.length ≤ 16777216 ∧
  Q (upd H a (KdO P w a ((ks ++ [k]).zip (ps ++ [p]))))
theorem set_kd (hu : X.A.units + 64 < cLine) : PSet X (rSetS X.K X.prog X.w) := by
  intro pins s σ H o i v ov iv u Q I ro ri rv h
  obtain ⟨a, p, ps, ks, k, rfl, rfl, rfl, kd, kn, dp, hn, hz, q⟩ := h
  cases (show ov = Value.ref a from ro)
  cases (show iv = Value.ref p from ri)
  cases (show u = Value.bool true from rv)
  obtain ⟨hd, dk⟩ := kd.dict I
  have hnone : atKey ((ks.zip ps).map trip) k = none := by
    have := at_zip (k := k) kd.len
    rw [decide_eq_false hn] at this
    simpa using this
  refine wpAny_setItem_heap (knd := nestedKind X.prog X.w) (room_k hu) (k := k) ⟨NkH.is I k _ _ kn rfl, dp⟩ dk (fun h' dk' hs => ?_) ?_
  · rw [storedH_new hnone] at dk'
    obtain ⟨o, es, ep, e1, e2, e3, e4, _⟩ := dk'
    refine ⟨_, d_write I (by obtain ⟨a0, e⟩ := kd.ob; rw [e]; exact True.intro) hs ⟨o, e1⟩ (kd_new hd e1 e2 e3 ?_), q⟩
    rw [e4, List.zip_append kd.len, List.map_append, List.map_append, List.map_map]
    rfl
  · rw [List.length_map, List.length_zip, ← kd.len, Nat.min_self]
    exact Nat.le_trans hz (by decide)
/-- {x: True} -/
def tKd (K : PySem.W.Frag) (P : Program) (w : World) (tk : TE) : TE := fun σ H Q => ∀ a, H a = none → tk σ (upd H a (KdO P w a [])) fun x H1 => ∃ (p : Addr) (k : NestedKey), x = .ref p ∧ H1 a = some (KdO P w a []) ∧ NkH K H1 (.ref p) k ∧ k.depth ≤ 8 ∧ Q (.ref a) (upd H1 a (KdO P w a [(k, p)]))
theorem pe_kd {pos p2 : Pos} {kk} (hu : X.A.units + 64 < cLine) (hk : PE X a ta) : PE X (.Dict [some a] [.Constant (.bool true) kk p2] pos) (tKd X.K X.prog X.w ta) := by
  refine ⟨fun pins s σ H Q I q => ?_⟩
  have hn := I.hok.fresh (Nat.le_refl s.heap.objs.size)
  have hb : (s.heap.objs.size == sysModules) = false := beq_eq_false_iff_ne.mpr (Ne.symm (Nat.ne_of_lt I.big))
  have hg : (s.heap.push { cls := .type "dict", data := .dict #[] }).get? s.heap.objs.size = some { cls := .type "dict", data := .dict #[] } := Heap.get?_push_size _ rfl
  have I1 := I.laid (a := s.heap.objs.size) (o := KdO X.prog X.w s.heap.objs.size []) (h' := s.heap.push { cls := .type "dict", data := .dict #[] }) (t' := s.toks) (fun _ _ q => Heap.get?_push_of_some _ q) (Nat.le_refl _) (kd_new hb hg ⟨rfl, rfl, rfl⟩ rfl rfl)
  have hr : (nestedKind X.prog X.w).room X.A := by show X.A.units + 8 < cLine; omega
  rw [arm_eval_Dict, zip_pairTrees [some a] [.Constant (.bool true) kk p2] X.env pos rfl rfl, dictDisplay_pairs _ (by simp [pairTrees]) (by simp [pairTrees])]
  refine wpAny_bind (wpAny_standAt (wpAny_bind (wpAny_subDictH (knd := nestedKind X.prog X.w) hr (by simp [pairTrees]) ?_)))
  refine pairTrees_cons_walk (thn (hk.run pins _ σ _ _ I1 (q _ hn)) fun v s1 ⟨x, H1, I2, rx, p, k, ex, e, kn, dp, q1⟩ => ?_)
  subst ex
  cases (show v = Value.ref p from rx)
  refine wpAny_Constant_bool (pairTrees_nil_walk ⟨[(k, p, .bool true)], ⟨rfl, rfl, ⟨NkH.is I2 k _ _ kn rfl, dp⟩, True.intro⟩, ?_, fun h' tk dk hs => ?_⟩)
  · obtain ⟨⟨_, o, es, ep, e1, e2, e3, e4⟩, _⟩ := I2.hok _ _ e
    exact ⟨o, es, ep, e1, e2, e3, e4, fun x hx => (by cases hx), List.nodup_nil⟩
  · have dk : h'.DictOfH (nestedKind X.prog X.w) s.heap.objs.size [(k, p, .bool true)] := dk
    obtain ⟨o, es, ep, e1, e2, e3, e4, _⟩ := dk
    refine wpAny_pure ⟨.ref s.heap.objs.size, _, d_write I2 (by rw [e]; exact True.intro) hs ⟨o, e1⟩ (kd_new (xs := [(k, p)]) hb e1 e2 e3 e4), rfl, q1⟩
end
section
variable {c : Cf} {B : List (Nat × Addr)} {W : WX} {X : Cx} {G H : Hp} {A : Addr → Prop} {σ : L2.St} {ρ : Cells}
theorem KdAt.kd {o : Option HO} {xs : List V} {ks : List NestedKey} {ds : List D} {a : Addr} (s : Same G H) (ho : ∀ u, o = some u → H a = some u) (h : KdAt c o xs ks) (r : RepL c G xs ds) (e : nkL ds = some ks) : ∃ ps, xs = ps.map V.ref ∧ Kd c.K c.P c.w H a ps ks := by
  obtain ⟨a0, ps, h1, h2, rfl, h4, h5, h6⟩ := h
  exact ⟨ps, rfl, ⟨a0, ho _ h1⟩, h2, h4, h6, r.nk s e⟩
theorem Opr.std {v : V} {ds : List D} (s : Same G H) (h : Opr c G H v (.exc 0 ds)) : ∃ a ps ks, v = .ref a ∧ nkL ds = some ks ∧ Kd c.K c.P c.w H a ps ks := by
  rcases h with h | ⟨q, rfl, h⟩
  · cases h with
    | std h r e =>
      obtain ⟨ps, _, k⟩ := h.kd s (fun u hu => s _ _ hu) r e
      exact ⟨_, ps, _, rfl, e, k⟩
  · obtain ⟨_, xs, ks, h, r, e⟩ := h
    obtain ⟨ps, _, k⟩ := h.kd s (fun u hu => hu) r e
    exact ⟨_, ps, ks, rfl, e, k⟩
theorem Opr.nk {v : V} {d : D} {ks : List NestedKey} (s : Same G H) (h : Opr c G H v d) (e : nk d = some (.tup ks)) : ∃ p, v = .ref p ∧ NkH c.K H (.ref p) (.tup ks) := by
  rcases h with h | ⟨q, rfl, h⟩
  · obtain ⟨p, rfl⟩ := rep_nk_ref h e
    exact ⟨p, rfl, h.nk s e⟩
  · cases d <;> first | exact h.elim | (unfold Fx.nk at e; cases e; done)
theorem sInS_inv {d1 d2 d : D} (h : sInS d1 d2 = some d) : ∃ ds k ks, d2 = .exc 0 ds ∧ nk d1 = some (.tup k) ∧ nkL ds = some ks ∧ (NestedKey.tup k).depth ≤ 8 ∧ d = .bl (decide (NestedKey.tup k ∈ ks)) := by
  unfold sInS at h
  split at h
  · split at h
    · split at h
      · cases h
        exact ⟨_, _, _, rfl, ‹_›, ‹_›, ‹_›, rfl⟩
      · cases h
    · cases h
  · cases h
theorem semNinS : Sem2 c (rInS c.K c.P c.w true) sNinS := fun G H x y d1 d2 d Q s a b e k => by
  unfold sNinS at e
  cases hs : sInS d1 d2 with
  | none => rw [hs] at e; cases e
  | some r =>
    obtain ⟨ds, kk, ks, rfl, h1, h2, h3, rfl⟩ := sInS_inv hs
    rw [hs] at e
    cases e
    obtain ⟨q, ps, ks', rfl, h4, kd⟩ := b.std s
    rw [h2] at h4
    cases h4
    obtain ⟨p, rfl, kn⟩ := a.nk s h1
    refine ⟨q, p, ps, ks, _, rfl, rfl, kd, kn, h3, ?_⟩
    rw [Bool.bne_true]
    exact k.flat s (.bl _)
theorem t_ninS {a b : Expr} {oa ob : Opn} {pos : Pos} (hu : X.A.units + 64 < cLine) (ha : PE X a (tO c B W oa)) (hb : PE X b (tO c B W ob)) (hK : c.K = X.K := by rfl) (hP : c.P = X.prog := by rfl) (hw : c.w = X.w := by rfl) (hm : behindInMarks .NotIn b = false := by rfl) : PT X (.Compare a [.NotIn] [b] pos) (tT c B W (mB (mOp2 sNinS oa ob))) := pt_op semNinS (by rw [hK, hP, hw]; exact pt_cmp (pc_ninS hu ha hb) hm)
end
end Fx
set_option Elab.async false
set_option linter.all false
set_option maxRecDepth 100000
set_option maxHeartbeats 4000000
namespace Fx
open PySem L2
def newS (d : D) : Option D := match nk d with
  | some (.tup k) => if (NestedKey.tup k).depth ≤ 8 then some (.exc 0 [d]) else none
  | _ => none
def mKd (i : Nat) : M D := (mVar i).bind fun d => M.lift (newS d)
def putS : D → D → Option D
  | .exc 0 ds, j => match nk j, nkL ds with
    | some (.tup k), some ks => if (NestedKey.tup k).depth ≤ 8 ∧ NestedKey.tup k ∉ ks ∧ ks.length < 16777216 then some (.exc 0 (ds ++ [j])) else none
    | _, _ => none
  | _, _ => none
def tru : D → Bool
  | .bl b => b
  | _ => false
theorem tru_inv {d : D} (h : tru d = true) : d = .bl true := by
  cases d <;> first | (cases h; done) | skip
  · rename_i b
    have h : b = true := by assumption
    rw [h]
def mSetS (i : Nat) (fj fe : M D) : MS := mDo fe fun d => mDo (ownAt i) fun _ => mDo fj fun j => mDo (ownAt i) fun o ρ => if tru d = true then (match putS o j with
    | some o' => .next (ρ.set i (.own o'))
    | none => .stuck) else .stuck
section
variable {c : Cf} {B : List (Nat × Addr)} {W : WX} {X : Cx} {G H : Hp} {A : Addr → Prop} {σ : L2.St} {ρ : Cells}
theorem putS_inv {o j o' : D} (h : putS o j = some o') : ∃ ds k ks, o = .exc 0 ds ∧ nk j = some (.tup k) ∧ nkL ds = some ks ∧ (NestedKey.tup k).depth ≤ 8 ∧ NestedKey.tup k ∉ ks ∧ ks.length < 16777216 ∧ o' = .exc 0 (ds ++ [j]) := by
  unfold putS at h
  split at h
  · split at h
    · split at h
      · rename_i hc
        cases h
        exact ⟨_, _, _, rfl, ‹_›, ‹_›, hc.1, hc.2.1, hc.2.2, rfl⟩
      · cases h
    · cases h
  · cases h
theorem pf_kd (i : Nat) {x : Str} {np pos p2 : Pos} {kk} (hu : X.A.units + 64 < cLine) (hN : X.N[i]? = some x := by rfl) (hv : Vis X.env.scope x := by first | exact Or.inl rfl | exact Or.inr (Or.inl rfl) | exact Or.inr (Or.inr rfl)) (hd : (x == ("__debug__" : Str)) = false := by decide)
    (hcd : (x == ("__classdict__" : Str)) = false := by decide) (hK : c.K = X.K := by rfl) (hP : c.P = X.prog := by rfl) (hw : c.w = X.w := by rfl) : PE X (.Dict [some (.Name x np)] [.Constant (.bool true) kk p2] pos) (tF c B W (mKd i)) :=
  pe_imp (pe_kd hu (pe_var hN hv hd hcd)) fun σ H Q ⟨G, A, ρ, R, a⟩ q hq => by
    unfold mKd mVar M.bind at a
    cases e : ρ[i]? with
    | none => simp only [e] at a; exact a.elim
    | some cl =>
      cases cl with
      | no => simp only [e] at a; exact a.elim
      | own o => simp only [e] at a; exact a.elim
      | dat d =>
        simp only [e] at a
        have a : After c B W G A H σ (M.lift (newS d) ρ) _ := a
        unfold M.lift at a
        cases en : newS d with
        | none => rw [en] at a; exact a.elim
        | some o =>
          rw [en] at a
          have a := After.ok a R
          unfold newS at en
          split at en
          · rename_i k hk
            split at en
            · rename_i dp
              cases en
              obtain ⟨v, h1, h2⟩ := R.dat i d e
              obtain ⟨p, rfl⟩ := rep_nk_ref h2 hk
              have sm : Same G (upd H q (KdO X.prog X.w q [])) := R.same.trans (same_upd hq)
              refine ⟨_, h1, p, .tup k, rfl, upd_same, ?_, dp, ?_⟩
              · rw [← hK]; exact h2.nk sm hk
              · refine a q _ hq (fun b u hb => by rw [upd_ne (ne_of_none hb hq), upd_ne (ne_of_none hb hq)]; exact hb) ?_
                · rw [upd_same]
                  refine ⟨rfl, [.ref p], [.tup k], ⟨q, [p], ?_, rfl, rfl, by simp, by simp, fun j hj => ?_⟩, .one h2, ?_⟩
                  · rw [hP, hw]; rfl
                  · have : j = .tup k := by simpa using hj
                    rw [this]; exact dp
                  · unfold nkL; rw [hk]; rfl
            · cases en
          · cases en
theorem ps_setS (i : Nat) {x : Str} {ie e : Expr} {fj fe : M D} {np p pos : Pos} (hu : X.A.units + 64 < cLine) (he : PE X e (tM c B W fe)) (hj : PE X ie (tM c B W fj)) (hN : X.N[i]? = some x := by rfl) (hv : Vis X.env.scope x := by first | exact Or.inl rfl | exact Or.inr (Or.inl rfl) | exact Or.inr (Or.inr rfl)) (hd : (x == ("__debug__" : Str)) = false := by decide)
    (hcd : (x == ("__classdict__" : Str)) = false := by decide) (hK : c.K = X.K := by rfl) (hP : c.P = X.prog := by rfl) (hw' : c.w = X.w := by rfl) (hs : swapsWithSole [.Subscript (.Name x np) ie p] e pos.line X.env = pure false := by rfl) (hw : swappedStores [.Subscript (.Name x np) ie p] e X.env = pure none := by rfl)
    (h1 : (assignEach [.Subscript (.Name x np) ie p] X.env).map (·.2) = [assign (.Subscript (.Name x np) ie p) X.env] := by rfl)
    (ha : ∀ v, assign (.Subscript (.Name x np) ie p) X.env v = (do
      let ov ← holding [v] (eval (.Name x np) X.env)
      let iv ← holding [v, ov] (eval ie X.env)
      standAt p
      holding [v, ov, iv] (setItem ov iv v)
      release [v, ov, iv] []) := by intro _; rfl) :
    PS X (.Assign [.Subscript (.Name x np) ie p] e pos) (tS c B W (mSetS i fj fe)) :=
  ps_imp (ps_asg he (pg_sub (pe_var hN hv hd hcd) hj (set_kd hu) ha) hs hw h1) fun Z σ H ⟨G, A, ρ, R, a⟩ => by
    refine ⟨G, A, ρ, R, (a.split R).imp fun d ρ1 G1 H1 _ _ R1 a1 v r => ?_⟩
    obtain ⟨o1, e1, a1⟩ := a1.ownAt
    obtain ⟨p, es, hA, hO⟩ := R1.own i o1 e1
    refine ⟨_, es, G1, A, ρ1, R1, (a1.split R1).imp fun jd ρ2 G2 H2 s2 _ R2 a2 w rw' => ?_⟩
    obtain ⟨o2, e2, a3⟩ := a2.ownAt
    obtain ⟨p', es', hA', hO'⟩ := R2.own i o2 e2
    rw [es] at es'; cases es'
    have ht : tru d = true := by
      refine Classical.byContradiction fun z => ?_
      rw [if_neg z] at a3
      exact a3.elim
    rw [if_pos ht] at a3
    clear a2
    obtain rfl := tru_inv ht
    cases en : putS o2 jd with
    | none => rw [en] at a3; exact a3.elim
    | some o' =>
      rw [en] at a3
      obtain ⟨ds, k, ks, rfl, hk, hl, dp, hn, hz, rfl⟩ := putS_inv en
      obtain rfl := rep_bl r
      obtain ⟨_, xs, ks', kd0, rl, hl'⟩ := hO'
      rw [hl] at hl'
      cases hl'
      obtain ⟨q, rfl⟩ := rep_nk_ref rw' hk
      obtain ⟨ps, hx, kd⟩ := kd0.kd (a := p) R2.same (fun u hu => hu) rl hl
      subst hx
      rw [hK, hP, hw'] at kd
      refine ⟨p, q, ps, ks, .tup k, rfl, rfl, rfl, kd, by rw [← hK]; exact rw'.nk R2.same hk, dp, hn, by omega, ?_⟩
      have ho : Own c G2 (some (KdO X.prog X.w p ((ks ++ [NestedKey.tup k]).zip (ps ++ [q])))) (.exc 0 (ds ++ [jd])) := by
        refine ⟨rfl, (ps ++ [q]).map V.ref, ks ++ [NestedKey.tup k], ⟨p, ps ++ [q], by rw [hP, hw'], by rw [List.length_append, List.length_append, kd.len]; rfl, rfl, ?_, ?_, fun j hj => ?_⟩, ?_, nkL_append hl (show nkL [jd] = some [NestedKey.tup k] by unfold nkL; rw [hk]; rfl)⟩
        · rw [List.nodup_append]
          refine ⟨kd.nd, by simp, fun x hx y hy z => ?_⟩
          have : y = .tup k := by simpa using hy
          subst this
          subst z
          exact hn hx
        · rw [List.length_append, List.length_singleton]; omega
        · rcases List.mem_append.mp hj with hj | hj
          · exact kd.dp j hj
          · have : j = .tup k := by simpa using hj
            rw [this]; exact dp
        · rw [List.map_append]
          exact rl.append (.one rw')
      obtain ⟨R3, k3, s3⟩ := R2.setOwn (d' := .exc 0 (ds ++ [jd])) (o := KdO X.prog X.w p ((ks ++ [NestedKey.tup k]).zip (ps ++ [q]))) e2 es ho
      exact AfterS.nx (AfterS.of R2.own_there (Stp.same (Same.refl _) k3) a3) R3
end
section
variable {ρ ρ1 ρ2 ρ3 : Cells} {d d1 d2 : D} {R : MS} {o : OutS}
theorem x_kd {i : Nat} (h1 : GetAt ρ i (.dat d)) (h2 : newS d = some d1) : mKd i ρ = .ok d1 ρ := by
  unfold mKd mVar M.bind
  simp only [show ρ[i]? = some (.dat d) from h1, Out.andThen, M.lift, h2]
theorem s_setS {i : Nat} {fj fe : M D} {j : D} (h1 : fe ρ = .ok (.bl true) ρ1) (h2 : GetAt ρ1 i (.own d1)) (h3 : fj ρ1 = .ok j ρ2) (h4 : GetAt ρ2 i (.own d2)) (h5 : putS d2 j = some d) (h6 : SetAt ρ2 i (.own d) ρ3) (h7 : R ρ3 = o) : mSeq (mSetS i fj fe) R ρ = o := by
  unfold mSeq mSetS mDo ownAt
  simp only [h1, show ρ1[i]? = some (.own d1) from h2, h3, show ρ2[i]? = some (.own d2) from h4, tru, if_true, h5, show ρ2.set i (.own d) = ρ3 from h6, h7]
end
end Fx
set_option Elab.async false
set_option linter.all false
set_option maxRecDepth 100000
set_option maxHeartbeats 4000000
namespace Fx
open PySem L2 PySem.Spec PyProof.Rows
/-- what a def promises where no repr is under way -/
structure FnG (P : Program) (w : World) (K : PySem.W.Frag) (mg : Str → Option Value) (base : Heap) (CX : CXT) (k : Nat) (f : Addr) (fd : FuncData) (ps : List Str) (sp : Sp) : Prop where
  len : ∀ vs H Q E, sp vs H Q E → vs.length = ps.length
  go : ∀ (A : Around) (outer : List Env) (s : Shared) (H : Hp) (args : Args) (us : List Value) (vs : List V) (Q : VK) (E : XK), A.guards = some [] → Room k A → Env0 P w K mg base A outer s H → BindsTo s fd args (ps.zip us) → Vals vs us → sp vs H Q E →
    codeAny (model P w) A (.call (.ref f) args) (CR CX outer P w H s Q E) s
section
variable {P : Program} {w : World} {K : PySem.W.Frag} {mg : Str → Option Value} {base : Heap} {CX : CXT}
theorem FnG.imp {k : Nat} {f : Addr} {fd : FuncData} {ps : List Str} {sp sp' : Sp} (F : FnG P w K mg base CX k f fd ps sp) (h : ∀ vs H Q E, sp' vs H Q E → sp vs H Q E) : FnG P w K mg base CX k f fd ps sp' :=
  ⟨fun vs H Q E q => F.len vs H Q E (h vs H Q E q), fun A outer s H args us vs Q E hg hr e0 b r q => F.go A outer s H args us vs Q E hg hr e0 b r (h vs H Q E q)⟩
theorem FnG.mono {j k : Nat} {f : Addr} {fd : FuncData} {ps : List Str} {sp : Sp} (F : FnG P w K mg base CX j f fd ps sp) (h : j ≤ k) : FnG P w K mg base CX k f fd ps sp :=
  ⟨F.len, fun A outer s H args us vs Q E hg hr => F.go A outer s H args us vs Q E hg (hr.mono h)⟩
/-- by its body -/
theorem fnG_of {k : Nat} {f : Addr} {x qual : Str} {params : Arguments} {body : List Stmt} {scope : Scope} {dvs : List V} {kws : List (Str × V)} {fd : FuncData} {N ps : List Str} {sp : Sp} (F : FunD K x qual params body scope dvs kws f fd) (S : FnScope N ps scope) (len : ∀ vs H Q E, sp vs H Q E → vs.length = ps.length)
    (hb : ∀ (cdv : Value) (A : Around) (outer : List Env) (s : Shared) (H : Hp) (vs : List V) (Q : VK) (E : XK), A.guards = some [] → Room k (A.deeper (envOfC qual scope s.heap.objs.size f cdv)) → sp vs H Q E →
      ∃ t, PSs (cxOf CX P w K mg base N qual scope f cdv A outer s H E) body t ∧ t { nx := fun _ H' => Q .non H', rt := Q } (start N vs) H) : FnG P w K mg base CX (k + 1) f fd ps sp := by
  obtain ⟨oc, od, dV, kV, doc, pm, an, cdv, ct, osl, rfl, lk, hcd, _, _⟩ := F.ex
  refine ⟨len, fun A outer s H args us vs Q E hg hr e0 bind rel hsp => ?_⟩
  have up : ∀ b o, base.get? b = some o → s.heap.get? b = some o := fun b o e => (e0.bs b o e).1
  have KX := e0.mod.kin.keeps up
  have slots : ∀ y ∈ ps.zip us, scope.names.lookup y.1 = some .local ∨ (scope.names.lookup y.1 = some .cell ∧ ((cellsFrom (s.heap.objs.size + 1) scope.names []).lookup y.1).isSome = true) := by
    rintro ⟨y, u⟩ hy
    exact (S.par y (List.of_mem_zip hy).1).imp id fun q => ⟨q, PySem.W.cellsFrom_some _ _ _ (.inl q)⟩
  refine codeAny_call_function hr.depth (KX _ _ lk) rfl S.co S.gen rfl (PySem.W.codeRec_of KX hcd) (bind _ _ _ _ (wpAny_newFunctionEnv_cells S.kind slots fun env he s1 inC => ?_))
  subst he
  refine ⟨(e0.mod.nolimit.keeps up).keeps inC.toInCall.keep, codeAny_func ?_⟩
  obtain ⟨t, ht, q⟩ := hb cdv A outer s H vs Q E hg (hr.deeper _) hsp
  have I := inv_start (CX := CX) (E := E) S hr.hd e0 (len _ _ _ _ hsp) rel inC
  refine wpAny_mono (ht.run [] s1 (start N vs) H _ I q) (fun fl s' z => ?_) fun _ _ z => z
  cases fl <;> first | (obtain ⟨_, _, _, z⟩ := z; exact z.elim) | skip
  · obtain ⟨σ', H', J, qn⟩ := z
    exact ⟨.non, H', J.os, J.bare, J.base, J.hok, rfl, qn⟩
  · obtain ⟨v, σ', H', J, rv, qn⟩ := z
    exact ⟨v, H', J.os, J.bare, J.base, J.hok, rv, qn⟩
end
section
variable {X : Cx} {CX : CXT} {k : Nat} {f : Addr} {fd : FuncData} {ps : List Str} {sp : Sp} {E : L2.St → XK} {x : Str} {p pos : Pos} {e : Expr} {es : List Expr} {t : TA}
theorem pe_callG (F : FnG X.prog X.w X.K X.mg X.base CX k f fd ps sp) (gd : X.A.guards = some []) (hr : Room k X.A) (hg : Gl X x) (hm : X.mg x = some (.ref f)) (hk : PySem.W.keepIn X.K (.ref f) = true) (hb : Binds X.K fd ps []) (hx : ∀ σ, PassesAt CX X σ (E σ))
    (ha : PA X (e :: es) t) (hdb : (x == ("__debug__" : Str)) = false := by decide) (he : starEach (e :: es) X.env = (false, eval e X.env) :: starEach es X.env := by rfl) (hpl : (backTo pos (starEach es X.env)).any (·.1) = false := by rfl) :
    PE X (.Call (.Name x p) (e :: es) [] pos) (tCallSD sp [] E t) := by
  refine ⟨fun pins s σ H Q I h => ?_⟩
  refine wpAny_Call_Name_kw (ld_glob I hg hm ?_ hdb)
  refine PySem.W.callWith_K (h₀ := X.base) I.ok.mod.kin hk (thn (ha.run pos pins s σ H _ I h) fun us s1 ⟨vs, H1, I1, r, q⟩ => ⟨I1.kIn, ?_⟩) he hpl
  have q : sp (vs ++ []) H1 Q (E σ) := q
  rw [List.append_nil] at q
  have hl := F.len _ _ _ _ q
  have b := hb s1 us I1.kIn (by rw [List.append_nil, ← r.length]; exact hl)
  rw [List.append_nil] at b
  refine wpAny_call (codeAny_mono (F.go X.A X.stack s1 H1 ⟨us, []⟩ us vs Q (E σ) gd hr I1.env0 b r q) fun z s' hq => ?_)
  match z, hq with
  | .error er, hq => exact hx σ pins H1 s1 er s' I1 hq
  | .ok (.ret u), hq => exact I1.after hq
  | .ok .next, hq => exact hq.elim
  | .ok .brk, hq => exact hq.elim
  | .ok .cont, hq => exact hq.elim
end
section
variable {c : Cf} {B : List (Nat × Addr)} {W : WX} {X : Cx} {G H : Hp} {A : Addr → Prop} {σ : L2.St} {ρ : Cells}
structure CalG (P : Program) (w : World) (K : PySem.W.Frag) (mg : Str → Option Value) (base : Heap) (c : Cf) (k : Nat) (nm : Str) (bs : List Nat) (n : Nat) (F : Fn) : Prop where
  ex : ∃ f fd ps, FnG P w K mg base (L2.CX P w) k f fd ps (spM c bs n F) ∧ mg nm = some (.ref f) ∧ PySem.W.keepIn K (.ref f) = true ∧ Binds K fd ps []
theorem pm_calNG {F : Fn} {g : M D} {fs : List (M D)} {k j n : Nat} {x : Str} {p pos : Pos} {e : Expr} {es : List Expr} (gd : X.A.guards = some []) (C : CalG X.prog X.w X.K X.mg X.base c j x [0] n F) (hr : Room k X.A) (tk : Takes X W) (he0 : PE X e (tF c B W g)) (ha : PA X es (tD c B W fs)) (hj : j ≤ k := by decide)
    (hn : fs.length + 1 = n := by rfl) (hg : Gl X x := by rfl) (hdb : (x == ("__debug__" : Str)) = false := by decide)
    (he : starEach (e :: es) X.env = (false, eval e X.env) :: starEach es X.env := by rfl) (hpl : (backTo pos (starEach es X.env)).any (·.1) = false := by rfl) :
    PE X (.Call (.Name x p) (e :: es) [] pos) (tM c B W (mCallN F g fs)) := by
  obtain ⟨f, fd, ps, h1, h2, h3, h4⟩ := C.ex
  exact callN_imp (pe_callG h1 gd (hr.mono hj) hg h2 h3 h4 (fun σ => passAt tk σ) (pa_cons he0 ha he) hdb he hpl) hn
end
section
variable {P : Program} {w : World} {K : PySem.W.Frag} {mg : Str → Option Value} {base : Heap} {c : Cf}
theorem fn_okG0 {x qual : Str} {st : Stmt} {f : Addr} {fd : FuncData} {N ps : List Str} {k : Nat} {dvs : List V} {kws : List (Str × V)} {m : MS} (F : FunD K x qual (defArgs st) (defBody st) (defScope st) dvs kws f fd) (S : FnScope N ps (defScope st)) (hN : ps.length ≤ N.length)
    (body : ∀ (cdv : Value) (A : Around) (outer : List Env) (s : Shared) (H : Hp) (E : XK), A.guards = some [] → Room k (A.deeper (PyProof.Rows.envOfC qual (defScope st) s.heap.objs.size f cdv)) →
      PSs (cxOf (L2.CX P w) P w K mg base N qual (defScope st) f cdv A outer s H E) (defBody st) (tS c [] (fun cls d _ H => E cls d H) m)) :
    FnG P w K mg base (L2.CX P w) (k + 1) f fd ps (spM c [] ps.length (mkFn N.length [] m)) :=
  fnG_of F S (fun vs H Q E h => by
    obtain ⟨G, A, ds, hn, ok, _⟩ := h
    rw [ok.len, hn]) fun cdv A outer s H vs Q E hg hr h => fn_core [] hN (fun i h => by simp at h) (fun B hB => by
    have : B = [] := by simpa using hB
    subst this
    exact body cdv A outer s H E hg hr) h
theorem fn_okG1 (i : Nat) {x qual : Str} {st : Stmt} {f : Addr} {fd : FuncData} {N ps : List Str} {k : Nat} {dvs : List V} {kws : List (Str × V)} {m : MS} (F : FunD K x qual (defArgs st) (defBody st) (defScope st) dvs kws f fd) (S : FnScope N ps (defScope st)) (hN : ps.length ≤ N.length) (hi : i < ps.length)
    (body : ∀ (a : Addr) (cdv : Value) (A : Around) (outer : List Env) (s : Shared) (H : Hp) (E : XK), A.guards = some [] → Room k (A.deeper (PyProof.Rows.envOfC qual (defScope st) s.heap.objs.size f cdv)) →
      PSs (cxOf (L2.CX P w) P w K mg base N qual (defScope st) f cdv A outer s H E) (defBody st) (tS c [(i, a)] (fun cls d _ H => E cls d H) m)) :
    FnG P w K mg base (L2.CX P w) (k + 1) f fd ps (spM c [i] ps.length (mkFn N.length [i] m)) :=
  fnG_of F S (fun vs H Q E h => by
    obtain ⟨G, A, ds, hn, ok, _⟩ := h
    rw [ok.len, hn]) fun cdv A outer s H vs Q E hg hr h => fn_core [i] hN (fun j h => by simp at h; subst h; exact hi) (fun B hB => by
    match B, hB with
    | [(j, a)], hB =>
      have : j = i := by simpa using hB
      subst this
      exact body a cdv A outer s H E hg hr) h
end
end Fx
set_option Elab.async false
set_option linter.all false
set_option maxRecDepth 100000
set_option maxHeartbeats 4000000
namespace Fx
open PySem L2
mutual
def noLst : PyData → Bool
  | .none => true
  | .bool _ => true
  | .int _ => true
  | .str _ => true
  | .list _ => false
  | .tuple xs => noLsts xs
  | .dict kvs => kvs.isEmpty
def noLsts : List PyData → Bool
  | [] => true
  | x :: xs => noLst x && noLsts xs
end
mutual
inductive DpE (K : PySem.W.Frag) (H : Hp) : V → PyData → Prop
  | non : DpE K H .non .none
  | bl (b : Bool) : DpE K H (.bl b) (.bool b)
  | int (i : Int) : DpE K H (.int i) (.int i)
  | str (x : Str) : DpE K H (.str x) (.str x)
  | lst {a : Addr} {xs : List V} {ds : List PyData} : SqL K H a xs → DpEL K H xs ds → DpE K H (.ref a) (.list ds)
  | tup {a : Addr} {xs : List V} {ds : List PyData} : SqT K H a xs → DpEL K H xs ds → DpE K H (.ref a) (.tuple ds)
  | dic {a : Addr} : L2.Rd H a (.dK []) → DpE K H (.ref a) (.dict [])
inductive DpEL (K : PySem.W.Frag) (H : Hp) : List V → List PyData → Prop
  | nil : DpEL K H [] []
  | cons {v : V} {vs : List V} {d : PyData} {ds : List PyData} : DpE K H v d → DpEL K H vs ds → DpEL K H (v :: vs) (d :: ds)
end
section
variable {X : Cx} {pins : List (Addr × Obj)} {σ : L2.St} {H : Hp} {s : Shared}
mutual
theorem DpE.reads (I : Inv X pins σ H s) : ∀ (d : PyData) (v : V) (u : Value), DpE X.K H v d → RelV v u → ∃ as, Reads s.heap u d as ∧ (noLst d = true → sysModules ∉ as)
  | .none, _, _, h, r => by
    cases h
    cases r
    exact ⟨_, Reads.none, fun _ z => nomatch z⟩
  | .bool b, _, _, h, r => by
    cases h
    cases r
    exact ⟨_, Reads.bool b, fun _ z => nomatch z⟩
  | .int i, _, _, h, r => by
    cases h
    obtain ⟨t, rfl⟩ := r
    exact ⟨_, Reads.int i t, fun _ z => nomatch z⟩
  | .str x, _, _, h, r => by
    cases h
    obtain ⟨t, rfl⟩ := r
    exact ⟨_, Reads.str x t, fun _ z => nomatch z⟩
  | .list ds, _, _, h, r => by
    cases h with
    | lst hs ha =>
      cases r
      obtain ⟨its, rv, ⟨o, n, ho, hc, _, hd⟩, _⟩ := I.list hs
      obtain ⟨as, hr, _⟩ := DpEL.reads I ds _ its ha rv
      exact ⟨_, Reads.list ho hc hd hr, fun z => by unfold noLst at z; cases z⟩
  | .tuple ds, _, _, h, r => by
    cases h with
    | tup hs ha =>
      cases r
      obtain ⟨its, rv, ⟨o, ho, hc, n, hd⟩, _⟩ := I.tuple hs
      obtain ⟨as, hr, hn⟩ := DpEL.reads I ds _ its ha rv
      exact ⟨_, Reads.tuple ho hc hd hr, fun z => hn (by unfold noLst at z; exact z)⟩
  | .dict kvs, _, _, h, r => by
    cases h with
    | dic hs =>
      cases r
      obtain ⟨_, hd, vs, rel, o, es, ep, h1, h2, h3, _, h5, _⟩ := dk_rd I.hok hs
      cases rel
      have he : es.toList = [] := by
        cases e : es.toList with
        | nil => rfl
        | cons a l => rw [e] at h5; cases h5
      refine ⟨_, Reads.dict (as := []) (bs := []) h1 h2.1 h3 (by rw [he]; exact .nil) (by rw [he]; exact .nil), fun _ z => ?_⟩
      rw [List.append_nil, List.mem_singleton] at z
      rw [← z] at hd
      simp at hd
theorem DpEL.reads (I : Inv X pins σ H s) : ∀ (ds : List PyData) (vs : List V) (us : List Value), DpEL X.K H vs ds → Vals vs us → ∃ as, ReadsAll s.heap us ds as ∧ (noLsts ds = true → sysModules ∉ as)
  | [], _, _, h, r => by
    cases h
    cases r
    exact ⟨_, ReadsAll.nil, fun _ z => nomatch z⟩
  | d :: ds, _, _, h, r => by
    cases h with
    | cons h1 h2 =>
      cases r with
      | cons r1 r2 =>
        obtain ⟨as, q1, n1⟩ := DpE.reads I d _ _ h1 r1
        obtain ⟨bs, q2, n2⟩ := DpEL.reads I ds _ _ h2 r2
        refine ⟨_, ReadsAll.cons q1 q2, fun z hm => ?_⟩
        unfold noLsts at z
        rw [Bool.and_eq_true] at z
        exact (List.mem_append.mp hm).elim (n1 z.1) (n2 z.2)
end
end
def rRepr (K : PySem.W.Frag) : List V → Hp → VK → Prop := fun xs H Q => ∃ (x : V) (d : PyData), xs = [x] ∧ DpE K H x d ∧ d.showable = true ∧ (d.hasDict = false ∨ noLst d = true) ∧ d.leavesShort 13 = true ∧ d.weight ≤ 2 ^ 20 ∧ d.depth ≤ 60 ∧ Q (.str d.shown) H
theorem call_repr {X : Cx} (gd : X.A.guards = some []) (hu : X.A.units + 64 < cLine) : CallR X (.builtin "repr") (rRepr X.K) := by
  intro pins s σ H xs us Q I r h
  obtain ⟨x, d, rfl, hd, hs, hn, hl, hw, hdp, q⟩ := h
  obtain ⟨u, rfl, ru⟩ := r.one
  have hz := PyData.shown_fits (by omega) (by omega) hl hw
  have go : ∀ a, u = .ref a → wpAny (model X.prog X.w) X.A (call (.builtin "repr") [u]) (EP X pins σ Q) X.xe s := fun a ea => by
    subst ea
    obtain ⟨as, hr, hm⟩ := DpE.reads I d _ _ hd ru
    refine repr_of_reads' hr hs (fun z => ?_) gd (by omega) (fun b o e => e) (fun h' t tk hk => ⟨.str _, H, I.un (Un.kept hk) (I.hok.kept hk), ⟨_, rfl⟩, q⟩) hz
    rcases hn with hn | hn
    · rw [hn] at z; cases z
    · exact hm hn
  cases hd with
  | non => cases ru; exact PySem.P.repr_of_none ⟨.str _, H, I.tok _, ⟨_, rfl⟩, q⟩
  | bl b => cases ru; exact PySem.P.repr_of_bool ⟨.str _, H, I.tok _, ⟨_, rfl⟩, q⟩
  | int i =>
    obtain ⟨t, rfl⟩ := ru
    exact PySem.P.repr_of_int (by simpa [PyData.showable] using hs) ⟨.str _, H, I.tok _, ⟨_, rfl⟩, q⟩
  | str x =>
    obtain ⟨t, rfl⟩ := ru
    exact PySem.P.repr_of_str ⟨.str _, H, I.tok _, ⟨_, rfl⟩, q⟩ hz
  | lst => cases ru; exact go _ rfl
  | tup => cases ru; exact go _ rfl
  | dic => cases ru; exact go _ rfl
mutual
def pyE : D → PyData
  | .non => .none
  | .bl b => .bool b
  | .int i => .int i
  | .str x => .str x
  | .tup ds => .tuple (pyEs ds)
  | .lst ds => .list (pyEs ds)
  | .dic _ _ => .dict []
  | .rcd _ _ => .none
  | .exc _ _ => .none
  | .raw _ => .none
def pyEs : List D → List PyData
  | [] => []
  | d :: ds => pyE d :: pyEs ds
end
mutual
def okE : D → Bool
  | .non => true
  | .bl _ => true
  | .int _ => true
  | .str _ => true
  | .tup ds => okEs ds
  | .lst ds => okEs ds
  | .dic ks ds => ks.isEmpty && ds.isEmpty
  | .rcd _ _ => false
  | .exc _ _ => false
  | .raw _ => false
def okEs : List D → Bool
  | [] => true
  | d :: ds => okE d && okEs ds
end
section
variable {c : Cf} {G H : Hp}
mutual
theorem Rep.dpE (s : Same G H) : ∀ {v : V} {d : D}, Rep c G v d → okE d = true → DpE c.K H v (pyE d)
  | _, _, .non, _ => by unfold pyE; exact .non
  | _, _, .bl b, _ => by unfold pyE; exact .bl b
  | _, _, .int i, _ => by unfold pyE; exact .int i
  | _, _, .str x, _ => by unfold pyE; exact .str x
  | _, _, .tup e r, h => by unfold okE at h; unfold pyE; exact .tup (e.mono s).sq (RepL.dpE s r h)
  | _, _, .lst e r, h => by unfold okE at h; unfold pyE; exact .lst (e.mono s).sq (RepL.dpE s r h)
  | _, _, .dic (ks := ks) (ds := ds) e l r, h => by
    unfold okE at h
    rw [Bool.and_eq_true] at h
    have h1 : ks = [] := by simpa using h.1
    subst h1
    unfold pyE
    exact .dic (same_rd s e)
  | _, _, .rcd .., h => by unfold okE at h; cases h
  | _, _, .raw _, h => by unfold okE at h; cases h
  | _, _, .std .., h => by unfold okE at h; cases h
theorem RepL.dpE (s : Same G H) : ∀ {vs : List V} {ds : List D}, RepL c G vs ds → okEs ds = true → DpEL c.K H vs (pyEs ds)
  | _, _, .nil, _ => by unfold pyEs; exact .nil
  | _, _, .cons r t, h => by
    unfold okEs at h
    rw [Bool.and_eq_true] at h
    unfold pyEs
    exact .cons (Rep.dpE s r h.1) (RepL.dpE s t h.2)
end
theorem Opr.dpE (s : Same G H) {v : V} {d : D} (h : Opr c G H v d) (p : okE d = true) : DpE c.K H v (pyE d) := by
  rcases h with h | ⟨q, rfl, h⟩
  · exact h.dpE s p
  · cases d <;> first | exact h.elim | skip
    · obtain ⟨xs, h1, h2⟩ := h
      unfold okE at p
      unfold pyE
      exact .lst (SqL.of h1) (h2.dpE s p)
    · obtain ⟨xs, h1, h2, h3⟩ := h
      unfold okE at p
      rw [Bool.and_eq_true] at p
      rename_i ks ds
      have e1 : ks = [] := by simpa using p.1
      subst e1
      unfold pyE
      exact .dic (.inl h1)
    · unfold okE at p; cases p
    · unfold okE at p; cases p
end
def reprOk (d : D) : Bool := okE d && (pyE d).showable && (!(pyE d).hasDict || noLst (pyE d)) && (pyE d).leavesShort 13 && decide ((pyE d).weight ≤ 1048576) && decide ((pyE d).depth ≤ 60)
def sRepr : List D → Option D
  | [d] => if reprOk d = true then some (.str (pyE d).shown) else none
  | _ => none
section
variable {c : Cf} {B : List (Nat × Addr)} {W : WX} {X : Cx} {G H : Hp}
theorem semRepr : SemC c (rRepr c.K) sRepr := fun G H vs ds d Q s a e k => by
  match ds, e with
  | [x], e =>
    have e : (if reprOk x = true then some (D.str (pyE x).shown) else none) = some d := e
    split at e
    · rename_i h
      cases e
      obtain ⟨v, rfl, o⟩ := oprL1 a
      unfold reprOk at h
      simp only [Bool.and_eq_true, Bool.or_eq_true, Bool.not_eq_true', decide_eq_true_eq] at h
      obtain ⟨⟨⟨⟨⟨h1, h2⟩, h3⟩, h4⟩, h5⟩, h6⟩ := h
      exact ⟨v, pyE x, rfl, o.dpE s h1, h2, h3, h4, by simpa using h5, h6, k.flat s (.str _)⟩
    · cases e
  | [], e => cases e
  | _ :: _ :: _, e => cases e
theorem b_repr {e : Expr} {o : Opn} {p pos : Pos} (gd : X.A.guards = some []) (hz : X.mg "repr" = none) (hu : X.A.units + 64 < cLine) (h : PE X e (tO c B W o)) (hK : c.K = X.K := by rfl) (hg : Gl X "repr" := by rfl) (hs : starEach [e] X.env = (false, eval e X.env) :: starEach [] X.env := by rfl) (hpl : (backTo pos (starEach [] X.env)).any (·.1) = false := by rfl) : PE X (.Call (.Name "repr" p) [e] [] pos) (tM c B W (mCall sRepr [o])) := pm_call semRepr (by rw [hK]; exact pe_callB (call_repr gd hu) hg hz PyProof.Rows.boot_repr (pa_consO h pa_nilO hs) (he := hs) (hpl := hpl))
end
end Fx
set_option Elab.async false
set_option linter.all false
set_option maxRecDepth 100000
set_option maxHeartbeats 4000000
namespace Fx
open PySem L2 PySem.Spec PyProof.Rows
section
variable {P : Program} {w : World} {K : PySem.W.Frag} {mg mb : Str → Option Value} {a : Addr} {s₁ : Shared} {vs : List Value} {ns : List Int}
/-- an abstract heap that tells of the script alone -/
theorem script_heap (KX : K.In s₁.heap) (ha : s₁.heap.get? a = some { cls := .type "list", data := .seq vs.toArray }) (hi : IntsAre vs ns) (hl : ns.length ≤ sizeLine) :
    ∃ H : Hp, L2.Only H ∧ SqL K H a (ns.map V.int) ∧ HOk P w H s₁.heap ∧ ∀ b, H b ≠ none → b = a ∧ K.lookup a = none := by
  have rv := vals_ints hi
  have hlen := hi.length
  by_cases hk : K.lookup a = none
  · let ob : Obj := { cls := .type "list", data := .seq vs.toArray }
    refine ⟨upd (fun _ => none) a (.frz ob (.lst (ns.map V.int))), fun b => ?_, .inl (.inr ⟨ob, upd_same⟩), fun b u e => ?_, fun b n => ?_⟩
    · by_cases z : b = a
      · rw [z]; exact .inr ⟨_, _, upd_same⟩
      · exact .inl (upd_ne z)
    · by_cases z : b = a
      · subst z
        rw [upd_same] at e
        cases e
        exact ⟨ha, by rw [List.length_map]; exact hl, vs, _, rv, ha⟩
      · rw [upd_ne z] at e
        cases e
    · refine ⟨Classical.byContradiction fun z => n (upd_ne z), hk⟩
  · obtain ⟨o, ho⟩ := Option.ne_none_iff_exists'.mp hk
    have e := KX a o ho
    rw [ha] at e
    cases e
    exact ⟨fun _ => none, fun _ => .inl rfl, .inr ⟨_, vs.toArray, _, ho, rfl, rfl, rfl, by rw [List.size_toArray, hlen]; exact hl, by simpa using rv⟩, fun b u z => (by have z : (none : Option HO) = some u := z; cases z), fun b n => absurd rfl n⟩
theorem law_callG {CX : CXT} {k : Nat} {fa : Addr} {fd : FuncData} {x : Str} {sp : Sp} (KX : K.In s₁.heap) (hns : s₁.heap.Ns mainGlobals mg) (hb : s₁.heap.Ns builtinsNs mb) (hbb : ∀ x : Str, x ≠ "__name__" → mb x = bootBuiltins x) (hlim : s₁.heap.NoLimit) (hg : s₁.gens = #[])
    (ha : s₁.heap.get? a = some { cls := .type "list", data := .seq vs.toArray }) (hi : IntsAre vs ns) (hl : ns.length ≤ sizeLine) (hr : Room k callerA)
    (F : ∀ base : Heap, K.In base → base.Ns mainGlobals mg → FnG P w K mg base CX k fa fd [x] sp) (hbind : ∀ (s : Shared) (u : Value), BindsTo s fd ⟨[u], []⟩ [(x, u)])
    (hsp : ∀ H : Hp, SqL K H a (ns.map V.int) → sp [.ref a] H (fun v _ => v = .bl true) fun _ _ _ => False) (hCX : ∀ H e s', CX [] H s₁ (fun _ _ _ => False) e s' → False) :
    codeAny (model P w) callerA (.call (.ref fa) ⟨[.ref a], []⟩) (fun r s' => r = .ok (.ret (.bool true)) ∧ OldK s₁.heap s'.heap ∧ s'.os = s₁.os ∧ AllBare s'.gens) s₁ := by
  obtain ⟨H, only, seq, hok, own⟩ := script_heap (P := P) (w := w) KX ha hi hl
  -- what is no list is not tracked
  have free : ∀ {b : Addr} {o : Obj}, s₁.heap.get? b = some o → (∀ us n, o.data ≠ .seq us n) → H b = none := fun {b o} e nd => Classical.byContradiction fun n => by
    obtain ⟨z, _⟩ := own b n
    rw [z, ha] at e
    cases e
    exact nd _ _ rfl
  have nsB : ∀ {b : Addr} {m : Str → Option Value}, s₁.heap.Ns b m → (hidT s₁.heap H).Ns b m := fun ⟨o, es, ep, e, d, q⟩ => ⟨o, es, ep, hidT_get e (free e fun us n z => by rw [d] at z; cases z), d, q⟩
  have inB : K.In (hidT s₁.heap H) := fun b o e => hidT_get (KX b o e) (Classical.byContradiction fun n => by
    obtain ⟨z, q⟩ := own b n
    rw [z, q] at e
    cases e)
  obtain ⟨mc, l1, l2⟩ := hlim
  have env : Env0 P w K mg (hidT s₁.heap H) callerA [] s₁ H := ⟨rfl, ⟨inB, nsB hns, ⟨mb, nsB hb, hbb⟩, mc, nsB l1, l2⟩, fun b o e => of_hidT e, Nat.le_of_eq (hidT_size _ _), trivial, fun b z => absurd (show b ∈ ([] : List Addr) from z) (by simp), hok, .of_eq hg⟩
  refine codeAny_mono ((F _ inB (nsB hns)).go callerA [] s₁ H ⟨[.ref a], []⟩ [.ref a] [.ref a] _ _ rfl hr env (hbind s₁ (.ref a)) (.cons rfl .nil) (hsp H seq)) fun r s' z => ?_
  match r, z with
  | .error e, z => exact (hCX H e s' z).elim
  | .ok .next, z => exact z.elim
  | .ok .brk, z => exact z.elim
  | .ok .cont, z => exact z.elim
  | .ok (.ret u), ⟨v, H', os, bare, un, hok', rel, q⟩ =>
    have q : v = .bl true := q
    subst q
    have rel : u = Value.bool true := rel
    subst rel
    refine ⟨rfl, OldK.of_keep fun b o e => ?_, os, bare⟩
    rcases only b with n | ⟨ob, xs, n⟩
    · exact un.keep b o e n (fun z => absurd (show b ∈ ([] : List Addr) from z) (by simp)) (by simp)
    · obtain ⟨e1, _⟩ := hok b _ n
      rw [e] at e1
      cases e1
      exact (hok' b _ (un.frzs b _ _ n)).1
end
theorem walk_fxG {l : PySem.W.OpenLaw} {k : Nat} {q : Program} {loose : List Str} {XP : (Str → Option Value) → Heap → Prop} {YP : World → Heap → Prop} {d : DefRec} {K : Params → PySem.W.Frag} {x : Str}
    (hn : l.most = some 63) (hdf : d.params.defaults = []) (hr : Room k callerA) (hY : ∀ (w : World) (h : Heap), YP w h → (K w.params).In h)
    (F : ∀ (w : World) (mg : Str → Option Value) (fa : Addr) (h : Heap), (K w.params).In h → h.Ns mainGlobals mg → mg d.name = some (.ref fa) →
      ∃ fd : FuncData, (∀ (s : Shared) (u : Value), BindsTo s fd ⟨[u], []⟩ [(x, u)]) ∧ ∀ base : Heap, (K w.params).In base → base.Ns mainGlobals mg → FnG l.prog w (K w.params) mg base (L2.CX l.prog w) k fa fd [x] (spLaw (K w.params))) :
    PySem.W.WalkO q loose XP YP l.row.toRowW d [] (fun f vs => PySem.call f vs) := by
  refine Att.attach_call hn hdf fun w s₀ s₁ mg mb fa o pm cd doc a vs ns G Y ho hd hcd hmg hobj hints hlen hg => ?_
  have KX := hY w _ Y
  obtain ⟨fd, hb, hF⟩ := F w mg fa _ KX G.T.g hmg
  have hlen2 : ns.length ≤ sizeLine := Nat.le_trans hlen (by decide)
  refine law_callG KX G.T.g G.T.b G.T.builtins G.T.nolimit hg hobj hints hlen2 hr hF hb (fun H hS => ?_) fun H e s' z => ?_
  · refine ⟨a, ns, rfl, ?_, hlen, fun _ => rfl⟩
    rcases hS with hS | ⟨o', its, m, h1, _⟩
    · exact .inl hS
    · have e := KX _ _ h1
      rw [hobj] at e
      cases e
      have rv := vals_ints hints
      refine .inr ⟨vs, _, h1, ?_, rv⟩
      rw [← rv.length, List.length_map]
      exact hlen2
  · obtain ⟨_, _, _, _, _, _, _, _, _, _, _, _, z⟩ := z
    exact z.elim
end Fx
set_option Elab.async false
set_option linter.all false
set_option maxRecDepth 100000
set_option maxHeartbeats 4000000
namespace Fx
open PySem L2
section
variable {c : Cf} {B : List (Nat × Addr)} {W : WX} {X : Cx}
end
section
variable {c : Cf} {B : List (Nat × Addr)} {W : WX} {X : Cx} {G H : Hp}
end
end Fx
set_option Elab.async false
set_option linter.all false
set_option maxRecDepth 100000
set_option maxHeartbeats 1000000
namespace Fx
open PySem L2 PyProof.Rows
section
variable {c : Cf} {B : List (Nat × Addr)} {W : WX} {X : Cx}
end
end Fx
set_option Elab.async false
set_option linter.all false
set_option maxRecDepth 100000
set_option maxHeartbeats 1000000
namespace Fx
open PySem L2 PyProof.Rows
section
variable {c : Cf} {B : List (Nat × Addr)} {W : WX} {X : Cx} {G G' H : Hp} {A : Addr → Prop} {σ : L2.St} {ρ : Cells}
end
end Fx
set_option Elab.async false
set_option linter.all false
set_option maxRecDepth 100000
set_option maxHeartbeats 1000000
namespace Fx
open PySem L2 PyProof.Rows
section
variable {c : Cf} {B : List (Nat × Addr)} {W : WX} {X : Cx}
theorem callF_imp {F : Fn} {os : List Opn} {n : Nat} {dvs : List V} {dds : List D} {ex : Expr} (hpe : PE X ex (tCallSD (spM c (ownPos 0 os) n F) dvs (WE W) (tR c B W os))) (hdd : ∀ G, RepL c G dvs dds) (nd : (ownSlots os).Nodup) (hn : os.length + dds.length = n) : PE X ex (tM c B W (mCallF (fun ds => F (ds ++ dds)) os)) :=
  pe_imp hpe fun σ H Q ⟨G, A, ρ, R, a⟩ => by
    refine ⟨G, A, ρ, R, a.split.imp fun as ρ1 G1 H1 _ _ R1 q vs hv => ?_⟩
    have q : After c B W G1 A H1 σ (match rdA os as ρ1 with
      | none => .stuck
      | some ds => match F (ds ++ dds) with
        | .stuck => .stuck
        | .ret d outs => .ok d (setOuts (ownSlots os) outs ρ1)
        | .exc x outs => .exc x (setOuts (ownSlots os) outs ρ1)) (fun d x G' H' => ∀ v, Rep c G' v d → Q v H') := q
    cases ed : rdA os as ρ1 with
    | none => rw [ed] at q; exact q.elim
    | some ds =>
      rw [ed] at q
      have ok := args_ok R1 nd hv ed
      have hlen := rdA_len ed
      have hlt : ∀ i ∈ ownPos 0 os, i < ds.length := fun i hi => by have := ownPos_lt hi; rw [hlen]; omega
      have hlv : ∀ i ∈ ownPos 0 os, i < vs.length := fun i hi => by rw [ok.len]; exact hlt i hi
      refine ⟨G1, _, ds ++ dds, by rw [List.length_append, hlen]; exact hn, ok.app (hdd G1) hlt, ?_⟩
      cases ef : F (ds ++ dds) with
      | stuck => simp only [ef] at q; exact q.elim
      | ret d outs =>
        simp only [ef] at q
        intro G' H' v r rv
        obtain ⟨s1, k1, R2⟩ := R1.ret nd hv ed (r.app hlv)
        exact q G' H' s1 k1 R2 v rv
      | exc y outs =>
        simp only [ef] at q
        intro G' H' dd r rx
        obtain ⟨s1, k1, R2⟩ := R1.ret nd hv ed (r.app hlv)
        exact q G' H' dd s1 k1 R2 rx
theorem pm_calG {F : Fn} {os : List Opn} {k j n : Nat} {x : Str} {p pos : Pos} {e : Expr} {es : List Expr} (gd : X.A.guards = some []) (C : CalG X.prog X.w X.K X.mg X.base c j x (ownPos 0 os) n F) (hr : Room k X.A) (tk : Takes X W) (ha : PA X (e :: es) (tR c B W os)) (hj : j ≤ k := by decide)
    (nd : (ownSlots os).Nodup := by decide) (hn : os.length + 0 = n := by rfl) (hg : Gl X x := by rfl) (hdb : (x == ("__debug__" : Str)) = false := by decide)
    (he : starEach (e :: es) X.env = (false, eval e X.env) :: starEach es X.env := by rfl) (hpl : (backTo pos (starEach es X.env)).any (·.1) = false := by rfl) :
    PE X (.Call (.Name x p) (e :: es) [] pos) (tM c B W (mCallF F os)) := by
  obtain ⟨f, fd, ps, h1, h2, h3, h4⟩ := C.ex
  have q := callF_imp (dds := []) (pe_callG (p := p) (pos := pos) h1 gd (hr.mono hj) hg h2 h3 h4 (fun σ => passAt tk σ) ha hdb he hpl) (fun _ => .nil) nd hn
  simp only [List.append_nil] at q
  exact q
theorem m_pop (i : Nat) {x : Str} {np apos cpos : Pos} (hN : X.N[i]? = some x := by rfl) (hv : Vis X.env.scope x := by first | exact Or.inl rfl | exact Or.inr (Or.inl rfl) | exact Or.inr (Or.inr rfl)) (hd : (x == ("__debug__" : Str)) = false := by decide)
    (hcd : (x == ("__classdict__" : Str)) = false := by decide) (hbase : attributeBase (.Name x np) "pop" X.env (eval (.Name x np) X.env) = eval (.Name x np) X.env := by rfl)
    (hline : (apos.endLine == cpos.line) = true := by rfl) :
    PE X (.Call (.Attribute (.Name x np) "pop" apos) [] [] cpos) (tM c B W (mMethWR wPop i [])) := pm_methWR0 i semPop (pe_bm0 PySem.F.plainAttrs_list PySem.F.slot_list_pop PySem.F.type_list_pop mt_pop (pe_slot i hN hv hd hcd) hbase hline)
end
end Fx
set_option Elab.async false
set_option linter.all false
set_option maxRecDepth 100000
set_option maxHeartbeats 1000000
namespace Fx
open PySem L2 PyProof.Rows
section
variable {c : Cf} {B : List (Nat × Addr)} {W : WX} {X : Cx}
def wClear : D → List D → Option (D × D)
  | .lst _, [] => some (.non, .lst [])
  | _, _ => none
theorem semClear : SemWR c rClear wClear := fun G H p vs d ds e d' Q s a b h k => by
  match d, ds, h with
  | .lst xs, [], h =>
    cases h
    obtain ⟨us, hu, r⟩ := a
    cases repL0 b
    exact ⟨p, us, rfl, rfl, hu, k _ _ ⟨_, rfl, .nil⟩ .non⟩
theorem m_clear (i : Nat) {x : Str} {np apos cpos : Pos} (hN : X.N[i]? = some x := by rfl) (hv : Vis X.env.scope x := by first | exact Or.inl rfl | exact Or.inr (Or.inl rfl) | exact Or.inr (Or.inr rfl)) (hd : (x == ("__debug__" : Str)) = false := by decide)
    (hcd : (x == ("__classdict__" : Str)) = false := by decide) (hbase : attributeBase (.Name x np) "clear" X.env (eval (.Name x np) X.env) = eval (.Name x np) X.env := by rfl)
    (hline : (apos.endLine == cpos.line) = true := by rfl) :
    PE X (.Call (.Attribute (.Name x np) "clear" apos) [] [] cpos) (tM c B W (mMethWR wClear i [])) := pm_methWR0 i semClear (pe_bm0 PySem.F.plainAttrs_list PySem.F.slot_list_clear PySem.F.type_list_clear mt_clear (pe_slot i hN hv hd hcd) hbase hline)
theorem m_tcount {a e : Expr} {o o2 : Opn} {apos cpos : Pos} (ha : PE X a (tO c B W o)) (he : PE X e (tO c B W o2)) (hK : c.K = X.K := by rfl) (hbase : attributeBase a "count" X.env (eval a X.env) = eval a X.env := by rfl)
    (hfew : ((backTo cpos (starEach [e] X.env)).all (fun x => !x.1) && (backToKw cpos (keywordEach [] X.env)).all (fun x => x.1.isSome) && decide ([e].length + ([] : List Keyword).length + (if ([] : List Keyword).isEmpty then 0 else 1) < 30)) = true := by rfl)
    (hline : (apos.endLine == cpos.line) = true := by rfl) (hs : starEach [e] X.env = (false, eval e X.env) :: starEach [] X.env := by rfl) (hplain : (backTo cpos (starEach [] X.env)).any (·.1) = false := by rfl) :
    PE X (.Call (.Attribute a "count" apos) [e] [] cpos) (tM c B W (mMeth isTup sTcount o [o2])) := pm_methT hK semTcount (by rw [hK]; exact pe_bmT PySem.F.slot_tuple_count PySem.F.type_tuple_count mt_tcount ha (pa_consO he pa_nilO hs) hbase hfew hline hs hplain)
end
end Fx
set_option Elab.async false
set_option linter.all false
set_option maxRecDepth 100000
set_option maxHeartbeats 1000000
namespace Fx
open PySem L2 PyProof.Rows
section
variable {c : Cf} {G G' H : Hp} {a : Addr} {o0 : Obj} {φ : Heap → Prop}
/-- all but the one address, which holds a locked thing of no shape -/
structure Less (G G' : Hp) (a : Addr) (o0 : Obj) (φ : Heap → Prop) : Prop where
  at_ : G a = some (.frz o0 (.ext φ))
  sm : ∀ b o, G b = some o → b ≠ a → G' b = some o
theorem Less.go (l : Less G G' a o0 φ) {b : Addr} {o : HO} (h : G b = some o) (n : o ≠ .frz o0 (.ext φ)) : G' b = some o := l.sm b o h fun z => by
  subst z
  rw [l.at_] at h
  exact n (Option.some.inj h).symm
theorem Less.lsG {K : PySem.W.Frag} {b : Addr} {xs : List V} (l : Less G G' a o0 φ) (h : LsG K G b xs) : LsG K G' b xs := by
  rcases h with (h | ⟨o, h⟩) | h
  · exact .inl (.inl (l.go h fun z => nomatch z))
  · exact .inl (.inr ⟨o, l.go h fun z => by cases z⟩)
  · exact .inr h
theorem Less.tupAt {K : PySem.W.Frag} {b : Addr} {xs : List V} (l : Less G G' a o0 φ) (h : TupAt K G b xs) : TupAt K G' b xs := by
  rcases h with ⟨o, h, d⟩ | h
  · exact .inl ⟨o, l.go h fun z => (by cases z), d⟩
  · exact .inr h
mutual
theorem Rep.less (l : Less G G' a o0 φ) : ∀ {v : V} {d : D}, Rep c G v d → Rep c G' v d
  | _, _, .non => .non
  | _, _, .bl b => .bl b
  | _, _, .int i => .int i
  | _, _, .str x => .str x
  | _, _, .tup s r => .tup (l.tupAt s) (RepL.less l r)
  | _, _, .lst s r => .lst (l.lsG s) (RepL.less l r)
  | _, _, .dic s e r => .dic (s.elim (fun h => .inl (l.go h fun z => nomatch z)) fun ⟨o, h⟩ => .inr ⟨o, l.go h fun z => (by cases z)⟩) e (RepL.less l r)
  | _, _, .rcd s e r => .rcd (l.go s fun z => nomatch z) e (RepL.less l r)
  | _, _, .raw v => .raw v
  | _, _, .std h r k => .std (let ⟨b, ps, h1, h2⟩ := h; ⟨b, ps, l.go h1 fun z => (by cases z), h2⟩) (RepL.less l r) k
theorem RepL.less (l : Less G G' a o0 φ) : ∀ {vs : List V} {ds : List D}, RepL c G vs ds → RepL c G' vs ds
  | _, _, .nil => .nil
  | _, _, .cons h t => .cons (Rep.less l h) (RepL.less l t)
end
theorem Own.less (l : Less G G' a o0 φ) {o : Option HO} {d : D} (h : Own c G o d) : Own c G' o d := by
  cases d <;> first | exact h.elim | skip
  · obtain ⟨xs, h1, h2⟩ := h; exact ⟨xs, h1, h2.less l⟩
  · obtain ⟨xs, h1, h3, h2⟩ := h; exact ⟨xs, h1, h3, h2.less l⟩
  · obtain ⟨dx, xs, h1, h3, h2⟩ := h; exact ⟨dx, xs, h1, h3, h2.less l⟩
  · obtain ⟨h0, xs, ks, h1, h2, h3⟩ := h; exact ⟨h0, xs, ks, h1, h2.less l, h3⟩
end
/-- the keys of the locked dict at d -/
def Itq (d : Addr) (u : HO) (o : Obj) (ps : List Addr) : It :=
  ⟨fun i H => i < ps.length ∧ H d = some (.frz o u), fun i H x H' => (∃ q, x = .ref q ∧ ps[i]? = some q) ∧ H' = H, fun i H => ps.length ≤ i ∧ H d = some (.frz o u)⟩
theorem locked_kd {X : Cx} {pins : List (Addr × Obj)} {σ : L2.St} {H : Hp} {s : Shared} {d a0 : Addr} {o : Obj} {xs : List (NestedKey × Addr)} (I : Inv X pins σ H s) (h : H d = some (.frz o (KdO X.prog X.w a0 xs))) :
    (d == sysModules) = false ∧ s.heap.get? d = some o ∧ o.ExactDict ∧ ∃ (es : Array DictEntry) (ep : Nat), o.data = .dict es ep ∧ es.toList = xs.map fun x => entryOfKey (nestedKind X.prog X.w) (x.1, x.2, .bool true) := by
  obtain ⟨h1, h2⟩ := I.hok d _ h
  have e := kd_addr h2
  subst e
  obtain ⟨⟨q0, o1, es, ep, q1, q2, q3, q4⟩, _⟩ := h2
  rw [h1] at q1
  cases q1
  exact ⟨q0, h1, q2, es, ep, q3, q4⟩
theorem turn_q {P : Program} {w : World} {K : PySem.W.Frag} {tg : Expr} {d a0 : Addr} {o : Obj} {es : Array DictEntry} {ep : Nat} {ks : List NestedKey} {ps : List Addr} (it : Addr) (hl : ks.length = ps.length) (hod : o.data = .dict es ep) : Turn P w K tg (Itq d (KdO P w a0 (ks.zip ps)) o ps) [it] it fun i h => h.IsKeyIter it d i ps.length ep := by
  have hz : (ks.zip ps).length = ps.length := by rw [List.length_zip, hl, Nat.min_self]
  have hsz : ∀ {es' : Array DictEntry}, es'.toList = (ks.zip ps).map (fun x => entryOfKey (nestedKind P w) (x.1, x.2, .bool true)) → es'.size = ps.length := fun h => by
    have := congrArg List.length h
    rwa [List.length_map, hz, Array.length_toList] at this
  refine ⟨List.mem_singleton.mpr rfl, fun i h st b hb => ?_, fun i h h' st k => st.at fun oi e => k it (List.mem_singleton.mpr rfl) oi e, ?_, ?_, fun A i s Q E st h => wpAny_pyIter_keyiter st h⟩
  · rw [List.mem_singleton.mp hb]
    obtain ⟨oi, e, _, dd⟩ := st
    exact ⟨oi, e, fun v z => nomatch dd.symm.trans z⟩
  · rintro X rfl rfl rfl hc i pins s σ H E I hf st ⟨hi, hd⟩
    obtain ⟨f0, f1, f2, f3, f4, f5⟩ := hf it (List.mem_singleton.mpr rfl)
    obtain ⟨_, hgd, _, es', ep', hdt, hes⟩ := locked_kd I hd
    obtain ⟨e1, e2⟩ := dict_ep hod hdt
    subst e1 e2
    have hq : ps[i]? = some ps[i] := List.getElem?_eq_getElem hi
    have hk : ks[i]? = some (ks[i]'(by omega)) := List.getElem?_eq_getElem _
    have hen : es'[i]? = some (entryOfKey (nestedKind X.prog X.w) (ks[i]'(by omega), ps[i], .bool true)) := by
      rw [← Array.getElem?_toList, hes, List.getElem?_map, (List.getElem?_zip_eq_some (z := (ks[i]'(by omega), ps[i]))).mpr ⟨hk, hq⟩]
      rfl
    refine next_key_item st hgd hdt (hsz hes) hen fun h' st' sb => ?_
    have I1 : Inv X pins σ H { s with heap := h' } := I.turned (t' := s.toks) (fun b ob hb e => (sb.2 b hb).trans e) f0 f1 f3 f4 f5
    obtain ⟨oi, e, cc, dd⟩ := id st'
    exact ⟨_, rfl, go_of (s := { s with heap := h' }) e cc dd (by decide) ⟨.ref ps[i], H, I1, rfl, ⟨⟨_, rfl, hq⟩, rfl⟩, st', fun b hb => (hf b hb).1⟩⟩
  · rintro X rfl rfl rfl hc i pins s σ H E I hf st ⟨hi, hd⟩
    obtain ⟨f0, f1, f2, f3, f4, f5⟩ := hf it (List.mem_singleton.mpr rfl)
    obtain ⟨_, hgd, _, es', ep', hdt, hes⟩ := locked_kd I hd
    obtain ⟨e1, e2⟩ := dict_ep hod hdt
    subst e1 e2
    exact next_key_end (I.ok.hd hc) st hgd hdt (hsz hes) hi fun h' eb => ⟨rfl, I.turned (t' := s.toks) (fun b ob hb e => eb b ob hb e) f0 f1 f3 f4 f5⟩
/-- the walk of a name whose dict is locked -/
def iQ (P : Program) (w : World) (i : Nat) : TI := fun σ H R => ∃ (d a0 : Addr) (o : Obj) (ks : List NestedKey) (ps : List Addr), σ[i]? = some (some (.ref d)) ∧ H d = some (.frz o (KdO P w a0 (ks.zip ps))) ∧ ks.length = ps.length ∧ R (Itq d (KdO P w a0 (ks.zip ps)) o ps) H
section
variable {c : Cf} {B : List (Nat × Addr)} {W : WX} {X : Cx}
theorem pi_q (i : Nat) {tg : Expr} {x : Str} {np : Pos} (hN : X.N[i]? = some x := by rfl) (hv : Vis X.env.scope x := by first | exact Or.inl rfl | exact Or.inr (Or.inl rfl) | exact Or.inr (Or.inr rfl)) (hd : (x == ("__debug__" : Str)) = false := by decide)
    (hcd : (x == ("__classdict__" : Str)) = false := by decide) : PI X tg (.Name x np) (iQ X.prog X.w i) := by
  refine ⟨fun pins s σ H R I ⟨d, a0, o, ks, ps, e1, e2, e3, q⟩ => ?_⟩
  refine thn ((pe_slot (pos := np) i hN hv hd hcd).run pins s σ H (fun v H1 => v = .ref d ∧ H1 = H) I ⟨_, e1, rfl, rfl⟩) fun u s1 ⟨v, H1, I1, rv, ev, eh⟩ => ?_
  subst ev eh
  obtain rfl : u = Value.ref d := rv
  obtain ⟨hs, hgd, hx, es, ep, hdt, hes⟩ := locked_kd I1 e2
  refine iter_keys hs hgd hx hdt (pi_one (tk := s1.toks) I1 _ (turn_q _ e3 hdt) ⟨_, Heap.get?_push_size _ rfl, rfl, ?_⟩ q)
  have hz : es.size = ps.length := by
    have := congrArg List.length hes
    rw [List.length_map, List.length_zip, e3, Nat.min_self, Array.length_toList] at this
    exact this
  rw [hz] <;> rfl
/-- the comprehension: the dict is out of reach while it is walked -/
def mLcS (i : Nat) (g : TgM) (tt : M Bool) (fe : M D) (vs : List Nat) : M D := fun ρ => match ρ[i]? with
  | some (.own (.exc 0 ds)) => (match mLc (M.pure ds) g tt fe vs (ρ.set i .no) with
    | .ok d ρ' => .ok d (ρ'.set i (.own (.exc 0 ds)))
    | _ => .stuck)
  | _ => .stuck
theorem itq_ok {G : Hp} {d : Addr} {u : HO} {o : Obj} {ps : List Addr} {ds : List D} (hG : G d = some (.frz o u)) (r : RepL c G (ps.map V.ref) ds) (hl : ds.length ≤ sizeLine) : ItOk c vRep (Itq d u o ps) ds G where
  len := hl
  go := fun i H' hi s => ⟨by rw [← r.length, List.length_map] at hi; exact hi, s _ _ hG⟩
  yld := fun i G' H' x H'' hi s1 s2 ⟨⟨q, ex, hq⟩, e⟩ => by
    subst ex e
    obtain ⟨e, h1, h2⟩ := r.getV (i := i) (v := .ref q) (by rw [List.getElem?_map, hq]; rfl)
    exact ⟨G', e, h1, Ext.refl s2, h2.mono s1⟩
  stop := fun H' s => ⟨by rw [← r.length, List.length_map]; exact Nat.le_refl _, s _ _ hG⟩
theorem tLc_imp {wi wi' : TI} {g : TG} {tt : TT} {te : TE} {vs : List Nat} {σ : L2.St} {H : Hp} {Q : VK} (h : tLc wi g tt te vs σ H Q) (k : ∀ R, wi σ H R → wi' σ H R) : tLc wi' g tt te vs σ H Q := k _ h
end
section
variable {c : Cf} {B : List (Nat × Addr)} {W : WX} {X : Cx} {G H : Hp} {A : Addr → Prop} {σ : L2.St} {ρ : Cells}
/-- a cell's dict is locked -/
theorem Rel.lockS (R : Rel c B G A H σ ρ) {i : Nat} {ds : List D} (hi : ρ[i]? = some (.own (.exc 0 ds))) (hB : B.all (fun q => q.1 != i) = true) {d : Addr} (hd : σ[i]? = some (some (.ref d))) (hA : A d) (w : HO) :
    Rel c B (upd G d w) (fun b => A b ∧ b ≠ d) (upd H d w) σ (ρ.set i .no) := by
  have gd : G d = none := (R.ownA d hA).1
  have sG : Same G (upd G d w) := same_upd gd
  have get : ∀ {j : Nat} {x : Cell}, (ρ.set i .no)[j]? = some x → x ≠ .no → j ≠ i ∧ ρ[j]? = some x := fun {j x} h hx => by
    by_cases z : j = i
    · subst z
      have hlt := (List.getElem?_eq_some_iff.mp hi).1
      rw [List.getElem?_set_self hlt] at h
      exact absurd (Option.some.inj h).symm hx
    · rw [List.getElem?_set_ne (fun q => z q.symm)] at h
      exact ⟨z, h⟩
  refine ⟨fun b o h => ?_, by rw [List.length_set]; exact R.len, fun b ⟨hb, hn⟩ => ?_, fun j e h => ?_, fun j e h => ?_, fun j k e f p hjk h1 h2 => ?_, fun q hq => ?_⟩
  · by_cases z : b = d
    · subst z; rw [upd_same] at h ⊢; exact h
    · rw [upd_ne z] at h ⊢; exact R.same b o h
  · rw [upd_ne hn, upd_ne hn]; exact R.ownA b hb
  · obtain ⟨_, h⟩ := get h (fun z => nomatch z)
    obtain ⟨v, h1, h2⟩ := R.dat j e h
    exact ⟨v, h1, h2.mono sG⟩
  · obtain ⟨n, h⟩ := get h (fun z => nomatch z)
    obtain ⟨p, h1, h2, h3⟩ := R.own j e h
    have np : p ≠ d := fun z => R.dis j i e _ p n h hi h1 (by rw [z]; exact hd)
    exact ⟨p, h1, ⟨h2, np⟩, by rw [upd_ne np]; exact h3.mono sG⟩
  · obtain ⟨_, h1⟩ := get h1 (fun z => nomatch z)
    obtain ⟨_, h2⟩ := get h2 (fun z => nomatch z)
    exact R.dis j k e f p hjk h1 h2
  · obtain ⟨h1, h2, e, h3⟩ := R.byr q hq
    have n : q.1 ≠ i := by simpa using List.all_eq_true.mp hB q hq
    have np : q.2 ≠ d := fun z => R.dis q.1 i e _ q.2 n h3 hi h1 (by rw [z]; exact hd)
    exact ⟨h1, ⟨h2, np⟩, e, by rw [List.getElem?_set_ne (fun z => n z.symm)]; exact h3⟩
/-- and given back -/
theorem Rel.openS {G1 H1 : Hp} {ρ' : Cells} {i : Nat} {ds : List D} {d : Addr} {o : Obj} {φ : Heap → Prop} (hd : σ[i]? = some (some (.ref d))) (hA : A d) (hG : G1 d = some (.frz o (.ext φ))) (R : Rel c B G1 (fun b => A b ∧ b ≠ d) H1 σ ρ')
    (hO : Own c (fun b => if b = d then none else G1 b) (some (.ext φ)) (.exc 0 ds)) : Rel c B (fun b => if b = d then none else G1 b) A (upd H1 d (.ext φ)) σ (ρ'.set i (.own (.exc 0 ds))) := by
  have L : Less G1 (fun b => if b = d then none else G1 b) d o φ := ⟨hG, fun b o h n => by simp only [if_neg n]; exact h⟩
  have hlt : i < ρ'.length := by rw [← R.len]; exact (List.getElem?_eq_some_iff.mp hd).1
  have get : ∀ {j : Nat} {x : Cell}, (ρ'.set i (.own (.exc 0 ds)))[j]? = some x → (j = i ∧ x = .own (.exc 0 ds)) ∨ (j ≠ i ∧ ρ'[j]? = some x) := fun {j x} h => by
    by_cases z : j = i
    · subst z
      rw [List.getElem?_set_self hlt] at h
      exact .inl ⟨rfl, (Option.some.inj h).symm⟩
    · rw [List.getElem?_set_ne (fun q => z q.symm)] at h
      exact .inr ⟨z, h⟩
  refine ⟨fun b o h => ?_, by rw [List.length_set]; exact R.len, fun b hb => ?_, fun j e h => ?_, fun j e h => ?_, fun j k e f p hjk h1 h2 s1 s2 => ?_, fun q hq => ?_⟩
  · by_cases z : b = d
    · simp [z] at h
    · simp only [if_neg z] at h
      rw [upd_ne z]
      exact R.same b o h
  · by_cases z : b = d
    · subst z
      exact ⟨by simp, _, upd_same⟩
    · simp only [if_neg z]
      rw [upd_ne z]
      exact R.ownA b ⟨hb, z⟩
  · rcases get h with ⟨_, z⟩ | ⟨_, h⟩
    · cases z
    · obtain ⟨v, h1, h2⟩ := R.dat j e h
      exact ⟨v, h1, h2.less L⟩
  · rcases get h with ⟨rfl, z⟩ | ⟨n, h⟩
    · cases z
      exact ⟨d, hd, hA, by rw [upd_same]; exact hO⟩
    · obtain ⟨p, h1, ⟨h2, np⟩, h3⟩ := R.own j e h
      exact ⟨p, h1, h2, by rw [upd_ne np]; exact h3.less L⟩
  · rcases get h1 with ⟨y1, z1⟩ | ⟨n1, m1⟩ <;> rcases get h2 with ⟨y2, z2⟩ | ⟨n2, m2⟩
    · exact hjk (y1.trans y2.symm)
    · rw [y1, hd] at s1
      cases s1
      obtain ⟨p2, g1, ⟨_, g2⟩, _⟩ := R.own k f m2
      rw [s2] at g1
      cases g1
      exact g2 rfl
    · rw [y2, hd] at s2
      cases s2
      obtain ⟨p2, g1, ⟨_, g2⟩, _⟩ := R.own _ e m1
      rw [s1] at g1
      cases g1
      exact g2 rfl
    · exact R.dis j k e f p hjk m1 m2 s1 s2
  · obtain ⟨h1, ⟨h2, np⟩, e, h3⟩ := R.byr q hq
    refine ⟨h1, h2, ?_⟩
    by_cases z : q.1 = i
    · rw [z] at h1
      rw [hd] at h1
      cases h1
      exact absurd rfl np
    · exact ⟨e, by rw [List.getElem?_set_ne (fun y => z y.symm)]; exact h3⟩
/-- the heart of a comprehension, where the frozen heap is known -/
theorem lc_readF {fi : M (List D)} {P : VP} {ts vs : List Nat} {g : TgM} {tt : M Bool} {fe : M D} {Q : VK} (ht : ts.all (fun t => vs.contains t) = true) (hB : B.all (fun q => !vs.contains q.1) = true) (R : Rel c B G A H σ ρ)
    (a : After c B W G A H σ (mLc fi g tt fe vs ρ) fun d _ G' H' => ∀ p H2, H' p = none → Same H' H2 → Own c G' (H2 p) d → Q (.ref p) H2) :
    tLc (fun σ1 H1 Rr => After c B W G A H1 σ1 (fi ρ) fun ds _ G' H' => ∀ J, ItOk c P J ds G' → Rr J H') (tG c B P ts g) (tT c B W0 tt) (tM c B W0 fe) vs σ H Q := by
  have ht' : ∀ t ∈ ts, t ∈ vs := fun t h => by
    have := List.all_eq_true.mp ht t h
    simpa using this
  show After c B W G A H σ (fi ρ) _
  refine a.split.imp fun ds ρ1 G1 H1 _ _ R1 a1 J okJ D hD => ?_
  cases hv : vs.all (fun v => !isOwn ρ1[v]?) with
  | false => 
    have a1 : After c B W G1 A H1 σ (if vs.all (fun v => !isOwn ρ1[v]?) = true then (match lcM g tt fe vs ds ρ1 with | some (es, ρ') => Out.ok (Fx.D.lst es) (Fx.unwipe ρ1 ρ' vs) | none => .stuck) else .stuck) _ := a1
    rw [if_neg (by rw [hv]; exact Bool.false_ne_true)] at a1
    exact a1.elim
  | true =>
    have a1 : After c B W G1 A H1 σ (if vs.all (fun v => !isOwn ρ1[v]?) = true then (match lcM g tt fe vs ds ρ1 with | some (es, ρ') => Out.ok (Fx.D.lst es) (Fx.unwipe ρ1 ρ' vs) | none => .stuck) else .stuck) _ := a1
    rw [if_pos hv] at a1
    cases hl : lcM g tt fe vs ds ρ1 with
    | none => rw [hl] at a1; exact a1.elim
    | some r =>
      obtain ⟨es, ρe⟩ := r
      rw [hl] at a1
      have gD : G1 D = none := R1.same.free hD
      have nD : ¬ A D := fun z => by obtain ⟨_, o, q⟩ := R1.ownA D z; rw [hD] at q; cases q
      refine ⟨fun i n H2 => n = ds.length - i ∧ i ≤ ds.length ∧ ∃ G2 ρ2 acc es1 es2, Same G1 G2 ∧ G2 D = none ∧ Keep A G1 H1 G2 H2 ∧ Rel c B G2 A H2 (L2.wipe σ vs) (wipeC ρ2 vs) ∧ H2 D = some (.lst acc) ∧ RepL c G2 acc es1 ∧ acc.length ≤ i ∧
        lcM g tt fe vs (ds.drop i) ρ2 = some (es2, ρe) ∧ es1 ++ es2 = es, ⟨_, rfl, Nat.zero_le _, G1, ρ1, [], [], es, Same.refl _, gD, fun b o e n => ⟨by rw [upd_ne (ne_of_none e hD)]; exact e, rfl⟩, (R1.other gD nD fun b hb => upd_ne hb).wipe hB, upd_same, .nil, Nat.le_refl _, hl, rfl⟩, ?_⟩
      rintro i n H2 ⟨rfl, hi, G2, ρ2, acc, es1, es2, s2, g2, k2, R2, hacc, racc, hlen, hlc, hes⟩
      by_cases hlt : i < ds.length
      · refine .inr ⟨okJ.go i H2 hlt (s2.trans R2.same), fun H' => ∃ G2 ρ2 acc es1 es2, Same G1 G2 ∧ G2 D = none ∧ Keep A G1 H1 G2 H' ∧ Rel c B G2 A H' (L2.wipe σ vs) (wipeC ρ2 vs) ∧ H' D = some (.lst acc) ∧ RepL c G2 acc es1 ∧ acc.length ≤ i + 1 ∧
          lcM g tt fe vs (ds.drop (i + 1)) ρ2 = some (es2, ρe) ∧ es1 ++ es2 = es, fun H' q => ⟨_, by omega, rfl, hlt, q⟩, fun x H3 hy => ?_⟩
        obtain ⟨G3, d, e1, x3, pr⟩ := okJ.yld i G2 H2 x H3 hlt s2 R2.same hy
        have R3 := R2.ext x3
        have hacc3 := x3.hh D _ hacc
        have g3 : G3 D = none := (x3.new D _ hacc).trans g2
        have k3 : Keep A G1 H1 G3 H3 := k2.trans x3.keep
        have ed : ds.drop i = d :: ds.drop (i + 1) := by
          rw [List.drop_eq_getElem_cons hlt]
          congr 1
          rw [List.getElem?_eq_getElem hlt] at e1
          exact Option.some.inj e1
        rw [ed] at hlc
        unfold lcM at hlc
        cases eg : g d (wipeC ρ2 vs) with
        | none => rw [eg] at hlc; cases hlc
        | some ρ3 =>
          rw [eg] at hlc
          refine ⟨G3, A, _, d, ρ3, R3, pr, eg, fun σ4 R4 o4 => ⟨wipe_only o4 ht', G3, A, ρ3, R4, ?_⟩⟩
          have ew := wipe_only o4 ht'
          cases et : tt ρ3 with
          | stuck => simp only [et] at hlc; cases hlc
          | exc x r => simp only [et] at hlc; cases hlc
          | ok b ρ4 =>
            simp only [et] at hlc
            intro G4 H4 s4 k4 R5
            have hacc4 := k4 D _ hacc3 nD
            refine ite_prop (fun eb => ?_) (fun eb => ?_)
            · rw [if_pos eb] at hlc
              refine ⟨G4, A, ρ4, R5, ?_⟩
              cases ef : fe ρ4 with
              | stuck => simp only [ef] at hlc; cases hlc
              | exc x r => simp only [ef] at hlc; cases hlc
              | ok e ρ5 =>
                simp only [ef] at hlc
                intro G5 H5 s5 k5 R6 v rv
                have hacc5 := k5 D _ hacc4.1 nD
                cases er : lcM g tt fe vs (ds.drop (i + 1)) ρ5 with
                | none => rw [er] at hlc; cases hlc
                | some r =>
                  obtain ⟨es3, ρe'⟩ := r
                  rw [er] at hlc
                  have hlc' : some (e :: es3, ρe') = some (es2, ρe) := hlc
                  cases hlc'
                  have g5 : G5 D = none := hacc5.2.trans (hacc4.2.trans g3)
                  have hsl := okJ.len
                  refine ⟨acc, hacc5.1, by omega, G5, ρ5, acc ++ [v], es1 ++ [e], es3, s2.trans (x3.gg.trans (s4.trans s5)), g5, ?_, ?_, upd_same, (racc.mono (x3.gg.trans (s4.trans s5))).append (.one rv), by rw [List.length_append]; simp; exact hlen, er, by rw [List.append_assoc]; exact hes⟩
                  · intro b o hb hn
                    have q := (k3.trans (k4.trans k5)) b o hb hn
                    exact ⟨by rw [upd_ne (ne_of_none hb hD)]; exact q.1, q.2⟩
                  · rw [← ew]
                    exact (R6.other g5 nD fun b hb => upd_ne hb).wipe hB
            · rw [if_neg (by rw [eb]; exact Bool.false_ne_true)] at hlc
              refine ⟨G4, ρ4, acc, es1, es2, s2.trans (x3.gg.trans s4), hacc4.2.trans g3, k3.trans k4, ?_, hacc4.1, racc.mono (x3.gg.trans s4), by omega, hlc, hes⟩
              rw [← ew]
              exact R5.wipe hB
      · have ei : i = ds.length := by omega
        subst ei
        rw [List.drop_length] at hlc
        cases hlc
        rw [List.append_nil] at hes
        subst hes
        have R3 : Rel c B G2 A (fun b => if b = D then none else H2 b) (L2.wipe σ vs) (wipeC ρe vs) := R2.other g2 nD fun b hb => if_neg hb
        have R4 := R1.unwipe s2 hv hB R3
        refine .inl ⟨okJ.stop H2 (s2.trans R2.same), a1 G2 _ s2 (fun b o hb hn => ?_) R4 D H2 (if_pos rfl) (fun b o hb => ?_) ⟨acc, hacc, racc⟩⟩
        · have q := k2 b o hb hn
          exact ⟨by show (if b = D then none else H2 b) = some o; rw [if_neg (ne_of_none hb hD)]; exact q.1, q.2⟩
        · have hb : (if b = D then none else H2 b) = some o := hb
          by_cases z : b = D
          · rw [if_pos z] at hb; cases hb
          · rw [if_neg z] at hb; exact hb
theorem pf_lcS {elt tg : Expr} {ifs : List Expr} {scope : Scope} (i : Nat) {x : Str} {np : Pos} (own : List (Str × Nat)) {pos : Pos} {ts : List Nat} {g : TgM} {tt : M Bool} {fe : M D} (hc : X.calm = true) (hNd : X.N.Nodup) (ok : BlkOk X.N X.env.scope scope own)
    (ht : ts.all (fun t => (own.map (·.2)).contains t) = true) (hB : B.all (fun q => !(own.map (·.2)).contains q.1) = true)
    (hg : ∀ (s : Shared) (H : Hp) (C : Addr) (cl : List (Str × Addr)) (fp : List Addr), PG (X.blk s H scope (compEnvC scope cl C X.env) fp) tg (tG c B vRep ts g)) (htt : ∀ (s : Shared) (H : Hp) (C : Addr) (cl : List (Str × Addr)) (fp : List Addr), PTs (X.blk s H scope (compEnvC scope cl C X.env) fp) ifs (tT c B W0 tt))
    (he : ∀ (s : Shared) (H : Hp) (C : Addr) (cl : List (Str × Addr)) (fp : List Addr), PE (X.blk s H scope (compEnvC scope cl C X.env) fp) elt (tM c B W0 fe)) (hBi : B.all (fun q => q.1 != i) = true := by rfl) (hP : c.P = X.prog := by rfl) (hw : c.w = X.w := by rfl) (hs : ∀ y, foldedSetIterable (.Name x np) X.env y = pure y := by intro _; rfl)
    (hN : X.N[i]? = some x := by rfl) (hv : Vis X.env.scope x := by first | exact Or.inl rfl | exact Or.inr (Or.inl rfl) | exact Or.inr (Or.inr rfl)) (hd : (x == ("__debug__" : Str)) = false := by decide)
    (hcd : (x == ("__classdict__" : Str)) = false := by decide) :
    PE X (.ListComp elt [⟨tg, .Name x np, ifs, 0⟩] scope pos) (tF c B W (mLcS i g tt fe (own.map (·.2)))) := by
  refine pe_imp (pe_lock (pe_lc hc hNd (pi_q i hN hv hd hcd) ok hg htt he hs)) fun σ H Q ⟨G, A, ρ, R, a⟩ => ?_
  have a : After c B W G A H σ (match ρ[i]? with
    | some (.own (.exc 0 ds)) => (match mLc (M.pure ds) g tt fe (own.map (·.2)) (ρ.set i .no) with
      | .ok d ρ' => .ok d (ρ'.set i (.own (.exc 0 ds)))
      | _ => .stuck)
    | _ => .stuck) (fun d _ G' H' => ∀ p H2, H' p = none → Same H' H2 → Own c G' (H2 p) d → Q (.ref p) H2) := a
  split at a
  case h_2 => exact a.elim
  rename_i ds hi
  split at a
  case h_2 => exact a.elim
  rename_i e ρ' hm
  obtain ⟨d, hd1, hA, _, xs, ks, ⟨a0, ps, h1, h2, rfl, h4, h5, h6⟩, r, hk⟩ := R.own i _ hi
  rw [hP, hw] at h1
  have hA2 := hA
  refine ⟨d, _, h1, trivial, fun od => ?_⟩
  have R1 := R.lockS hi hBi hd1 hA (.frz od (KdO X.prog X.w a0 (ks.zip ps)))
  have gd : G d = none := (R.ownA d hA).1
  have r1 : RepL c (upd G d (.frz od (KdO X.prog X.w a0 (ks.zip ps)))) (ps.map V.ref) ds := r.mono (same_upd gd)
  have hlen : ds.length ≤ sizeLine := by
    rw [← r.length, List.length_map, ← h2]
    exact Nat.le_trans h5 (by decide)
  refine tLc_imp (lc_readF (W := W) (fi := M.pure ds) (P := vRep) ht hB R1 ?_) fun Rr ax => ⟨d, a0, od, ks, ps, hd1, upd_same, h2, After.ok ax R1 _ (itq_ok upd_same r1 hlen)⟩
  · rw [hm]
    intro G' H' sG kp R2 p H2 hp sH ow
    have hG' : G' d = some (.frz od (KdO X.prog X.w a0 (ks.zip ps))) := sG _ _ upd_same
    have hH' := R2.same _ _ hG'
    refine ⟨sH _ _ hH', ?_⟩
    have np : p ≠ d := fun z => by rw [z, hH'] at hp; cases hp
    have L : Less G' (fun b => if b = d then none else G' b) d od _ := ⟨hG', fun b o h n => by simp only [if_neg n]; exact h⟩
    have sG2 : Same G (fun b => if b = d then none else G' b) := fun b o h => by
      have n : b ≠ d := fun z => by rw [z, gd] at h; cases h
      simp only [if_neg n]
      exact sG b o (by rw [upd_ne n]; exact h)
    have hO : Own c (fun b => if b = d then none else G' b) (some (KdO X.prog X.w a0 (ks.zip ps))) (.exc 0 ds) := ⟨rfl, _, ks, ⟨a0, ps, by rw [hP, hw], h2, rfl, h4, h5, h6⟩, r.mono sG2, hk⟩
    have R3 := R2.openS (ds := ds) hd1 hA2 hG' hO
    refine a _ _ sG2 (fun b o h n => ?_) R3 p (upd H2 d (KdO X.prog X.w a0 (ks.zip ps))) (by rw [upd_ne np]; exact hp) (fun b o h => ?_) (by rw [upd_ne np]; exact ow.less L)
    · have nb : b ≠ d := fun z => n (by rw [z]; exact hA2)
      obtain ⟨k1, k2⟩ := kp b o (by rw [upd_ne nb]; exact h) (fun z => n z.1)
      refine ⟨by rw [upd_ne nb]; exact k1, ?_⟩
      simp only [if_neg nb]
      rw [k2, upd_ne nb]
    · by_cases z : b = d
      · subst z; rw [upd_same] at h ⊢; exact h
      · rw [upd_ne z] at h ⊢; exact sH b o h
end
end Fx
set_option Elab.async false
set_option linter.all false
set_option maxRecDepth 100000
set_option maxHeartbeats 4000000
namespace Fx
open PySem L2
def top (i : Nat) : Stmt := PySem.Challenge.pw_stickyservers_k20_greatest_loads.main.body.getD i (.Pass ⟨0, 0, 0, 0⟩)
def cfK (P : Program) (w : World) (K : PySem.W.Frag) (C0 : Addr) (ex : Nat → Addr) : Cf := ⟨K, C0, ex, fun i => match i with | 0 => ["index", "part"] | 1 => ["session"] | 2 => ["index"] | 3 => ["index"] | _ => [], P, w⟩
structure Txt (K : PySem.W.Frag) (mg : Str → Option Value) (C0 : Addr) : Prop where
  blt : Blt mg
  cls : Cls K C0
  na_many : NoAttr K C0 "many"
  na_rows : NoAttr K C0 "rows"
  na_most : NoAttr K C0 "most"
  zzip : mg "zip" = none
  zdict : mg "dict" = none
  zrepr : mg "repr" = none
  gMAX_SERVERS : ∃ t, mg "MAX_SERVERS" = some (.int 30 t)
  gMAX_SESSIONS : ∃ t, mg "MAX_SESSIONS" = some (.int 60 t)
section
variable {P : Program} {w : World} {K : PySem.W.Frag} {mg : Str → Option Value} {base : Heap} {C0 : Addr} {ex : Nat → Addr}
abbrev s_is_int : Stmt := top 9
abbrev n_is_int : List Str := ["value"]
theorem sc_is_int : FnScope n_is_int ["value"] (defScope s_is_int) := ⟨rfl, rfl, rfl, by decide +kernel, rfl, by decide +kernel, by decide +kernel⟩
def b_is_int : MS := (mRet (mAndV (mCall sIsi [(.dat (mVar 0)), (.dat (M.pure (.raw (.ty "int"))))]) (mNotV (mCall sIsi [(.dat (mVar 0)), (.dat (M.pure (.raw (.ty "bool"))))]))))
def m_is_int : Fn := mkFn 1 [] b_is_int
theorem ok_is_int {f : Addr} {fd : FuncData} (T : Txt K mg C0)  (F : FunD K "is_int" "is_int" (defArgs s_is_int) (defBody s_is_int) (defScope s_is_int) [] [] f fd) : FnOk P w K mg base (L2.CX P w) 1 f fd ["value"] (spM (cfK P w K C0 ex) [] 1 m_is_int) :=
  fn_ok0 (P := P) (w := w) (K := K) (mg := mg) (base := base) (c := cfK P w K C0 ex) (k := 0) (m := b_is_int) (st := s_is_int) (N := n_is_int) (ps := ["value"]) F sc_is_int (by decide) fun cdv A outer s H E hr =>
    (pss_oneM (ps_retM (pm_andV (b_isi T.blt (po_dat (pm_var 0)) (po_dat (b_ty T.blt.zint PyProof.Rows.boot_int))) (pm_oneV (pm_notV (b_isi T.blt (po_dat (pm_var 0)) (po_dat (b_ty T.blt.zbool PyProof.Rows.boot_bool))))))))
abbrev s_is_from : Stmt := top 10
abbrev n_is_from : List Str := ["value", "low", "high"]
theorem sc_is_from : FnScope n_is_from ["value", "low", "high"] (defScope s_is_from) := ⟨rfl, rfl, rfl, by decide +kernel, rfl, by decide +kernel, by decide +kernel⟩
def b_is_from : MS := (mRet (mAndV (mCallF m_is_int [(.dat (mVar 0))]) (mChain sLe sLe (.dat (mVar 1)) (.dat (mVar 0)) (.dat (mVar 2)))))
def m_is_from : Fn := mkFn 3 [] b_is_from
theorem ok_is_from {f : Addr} {fd : FuncData} (T : Txt K mg C0) (c_is_int : Cal P w K mg base (cfK P w K C0 ex) 1 "is_int" [] 1 m_is_int) (F : FunD K "is_from" "is_from" (defArgs s_is_from) (defBody s_is_from) (defScope s_is_from) [] [] f fd) : FnOk P w K mg base (L2.CX P w) 2 f fd ["value", "low", "high"] (spM (cfK P w K C0 ex) [] 3 m_is_from) :=
  fn_ok0 (P := P) (w := w) (K := K) (mg := mg) (base := base) (c := cfK P w K C0 ex) (k := 1) (m := b_is_from) (st := s_is_from) (N := n_is_from) (ps := ["value", "low", "high"]) F sc_is_from (by decide) fun cdv A outer s H E hr =>
    (pss_oneM (ps_retM (pm_andV (pm_cal c_is_int hr (takes_of rfl rfl rfl rfl) (pr_dat (pm_var 0) pr_nil)) (pm_oneV (o_chlele (po_dat (pm_var 1)) (po_dat (pm_var 0)) (po_dat (pm_var 2)))))))
abbrev s_is_row : Stmt := top 11
abbrev n_is_row : List Str := ["value", "servers", "server"]
theorem sc_is_row : FnScope n_is_row ["value", "servers"] (defScope s_is_row) := ⟨rfl, rfl, rfl, by decide +kernel, rfl, by decide +kernel, by decide +kernel⟩
def b_is_row : MS := (mSeq (mIfS (mOr (mNot (mB (mCall sIsi [(.dat (mVar 0)), (.dat (M.pure (.raw (.ty "tuple"))))]))) (mB (mOp2 sEq (.dat (mVar 0)) (.dat (mTup []))))) (mRet (M.pure (.bl false))) mSkip) (mSeq (mIfS (mNot (mB (mCall sAll [(.dat (mLc (mSeqI (mVar 0)) (gNm 2) (M.pure true) (mCallF m_is_from [(.dat (mVar 2)), (.dat (M.pure (.int 0))), (.dat (mOp2 sSub (.dat (mVar 1)) (.dat (M.pure (.int 1)))))]) [2]))]))) (mRet (M.pure (.bl false))) mSkip) (mRet (mOp2 sEq (.dat (mLenSet (mVar 0))) (.dat (mCall sLen [(.dat (mVar 0))]))))))
def m_is_row : Fn := mkFn 3 [] b_is_row
theorem ok_is_row {f : Addr} {fd : FuncData} (T : Txt K mg C0) (c_is_from : Cal P w K mg base (cfK P w K C0 ex) 2 "is_from" [] 3 m_is_from) (F : FunD K "is_row" "is_row" (defArgs s_is_row) (defBody s_is_row) (defScope s_is_row) [] [] f fd) : FnOk P w K mg base (L2.CX P w) 3 f fd ["value", "servers"] (spM (cfK P w K C0 ex) [] 2 m_is_row) :=
  fn_ok0 (P := P) (w := w) (K := K) (mg := mg) (base := base) (c := cfK P w K C0 ex) (k := 2) (m := b_is_row) (st := s_is_row) (N := n_is_row) (ps := ["value", "servers"]) F sc_is_row (by decide) fun cdv A outer s H E hr =>
    (pss_consM (ps_ifM (t_or (pt_notM (pt_v (b_isi T.blt (po_dat (pm_var 0)) (po_dat (b_ty T.blt.ztuple PyProof.Rows.boot_tuple))))) (pw_and1' (t_eq hr.units (po_dat (pm_var 0)) (po_dat (pm_tup pd_nil))))) (pss_oneM (ps_retM pm_bl)) pss_nilM) (pss_consM (ps_ifM (pt_notM (pt_v (b_all T.blt rfl (po_dat (pm_of_pf (pf_lc [("server", 2)] rfl sc_is_row.nd (pi_seqM rfl (pm_var 0)) (blk_of (by rfl)) (by rfl) (by rfl) (fun s H C cl fp => (pg_nm 2 sc_is_row.nd rfl)) (fun s H C cl fp => pts_nilM) (fun s H C cl fp => (pm_cal c_is_from hr takes0 (pr_dat (pm_var 2) (pr_dat pm_int (pr_dat (o_sub (po_dat (pm_var 1)) (po_dat pm_int)) pr_nil))))))))))) (pss_oneM (ps_retM pm_bl)) pss_nilM) (pss_oneM (ps_retM (o_eq hr.units (po_dat (b_lenset T.blt rfl (pm_var 0))) (po_dat (b_len T.blt (po_dat (pm_var 0)))))))))
abbrev s_Farmdd_initdd : Stmt := inClass (top 12) 0
abbrev n_Farmdd_initdd : List Str := ["self", "servers", "lists", "failures", "index", "row"]
theorem sc_Farmdd_initdd : FnScope n_Farmdd_initdd ["self", "servers", "lists", "failures"] (defScope s_Farmdd_initdd) := ⟨rfl, rfl, rfl, by decide +kernel, rfl, by decide +kernel, by decide +kernel⟩
def b_Farmdd_initdd : MS := (mSeq (mIfS (mNot (mB (mCallF m_is_from [(.dat (mVar 1)), (.dat (M.pure (.int 1))), (.dat (M.pure (.int 30)))]))) (mRaise 0 [(M.pure (.str "servers")), (mNeg (M.pure (.int 1)))]) mSkip) (mSeq (mIfS (mOr (mNot (mB (mCall sIsi [(.dat (mVar 2)), (.dat (M.pure (.raw (.ty "list"))))]))) (mB (mOp2 sGt (.dat (mCall sLen [(.dat (mVar 2))])) (.dat (M.pure (.int 60)))))) (mRaise 0 [(M.pure (.str "lists")), (mNeg (M.pure (.int 1)))]) mSkip) (mSeq (mFor (mEnum (mVar 2)) (gTp [4, 5]) (mIfS (mNot (mB (mCallF m_is_row [(.dat (mVar 5)), (.dat (mVar 1))]))) (mRaise 0 [(M.pure (.str "lists")), (mVar 4)]) mSkip)) (mSeq (mIfS (mNot (mB (mCallF m_is_from [(.dat (mVar 3)), (.dat (M.pure (.int 0))), (.dat (mVar 1))]))) (mRaise 0 [(M.pure (.str "failures")), (mNeg (M.pure (.int 1)))]) mSkip) (mSeq (mSetF 0 "many" (mVar 1)) (mSeq (mSetF 0 "rows" (mCall sTuple [(.dat (mVar 2))])) (mSetF 0 "most" (mVar 3))))))))
def m_Farmdd_initdd : Fn := mkFn 6 [0] b_Farmdd_initdd
theorem ok_Farmdd_initdd {f : Addr} {fd : FuncData} (T : Txt K mg C0) (c_is_from : Cal P w K mg base (cfK P w K C0 ex) 2 "is_from" [] 3 m_is_from) (c_NoFarm : CalX2 P w K mg base (cfK P w K C0 ex) 1 0 "NoFarm" "part" "index") (c_is_row : Cal P w K mg base (cfK P w K C0 ex) 3 "is_row" [] 2 m_is_row) (F : FunD K "__init__" "Farm.__init__" (defArgs s_Farmdd_initdd) (defBody s_Farmdd_initdd) (defScope s_Farmdd_initdd) [] [] f fd) : FnOk P w K mg base (L2.CX P w) 4 f fd ["self", "servers", "lists", "failures"] (spM (cfK P w K C0 ex) [0] 4 m_Farmdd_initdd) :=
  fn_ok1 0 (P := P) (w := w) (K := K) (mg := mg) (base := base) (c := cfK P w K C0 ex) (k := 3) (m := b_Farmdd_initdd) (st := s_Farmdd_initdd) (N := n_Farmdd_initdd) (ps := ["self", "servers", "lists", "failures"]) F sc_Farmdd_initdd (by decide) (by decide) fun aR cdv A outer s H E hr =>
    (pss_consM (ps_ifM (pt_notM (pt_v (pm_cal c_is_from hr (takes_of rfl rfl rfl rfl) (pr_dat (pm_var 1) (pr_dat pm_int (pr_dat (pm_globI T.gMAX_SERVERS.choose_spec) pr_nil)))))) (pss_oneM (ps_x2 c_NoFarm rfl (takes_of rfl rfl rfl rfl) hr pm_str (pm_neg pm_int))) pss_nilM) (pss_consM (ps_ifM (t_or (pt_notM (pt_v (b_isi T.blt (po_dat (pm_var 2)) (po_dat (b_ty T.blt.zlist PyProof.Rows.boot_list))))) (pw_and1' (t_gt (po_dat (b_len T.blt (po_dat (pm_var 2)))) (po_dat (pm_globI T.gMAX_SESSIONS.choose_spec))))) (pss_oneM (ps_x2 c_NoFarm rfl (takes_of rfl rfl rfl rfl) hr pm_str (pm_neg pm_int))) pss_nilM) (pss_consM (ps_forM (passes_of rfl) rfl (pi_enumM rfl T.blt.zenumerate (pm_var 2)) (pg_tpM rfl rfl (pgs_consM (pg_nm 4 sc_Farmdd_initdd.nd rfl) (pgs_consM (pg_nm 5 sc_Farmdd_initdd.nd rfl) pgs_nilM))) (pss_oneM (ps_ifM (pt_notM (pt_v (pm_cal c_is_row hr (takes_of rfl rfl rfl rfl) (pr_dat (pm_var 5) (pr_dat (pm_var 1) pr_nil))))) (pss_oneM (ps_x2 c_NoFarm rfl (takes_of rfl rfl rfl rfl) hr pm_str (pm_var 4))) pss_nilM))) (pss_consM (ps_ifM (pt_notM (pt_v (pm_cal c_is_from hr (takes_of rfl rfl rfl rfl) (pr_dat (pm_var 3) (pr_dat pm_int (pr_dat (pm_var 1) pr_nil)))))) (pss_oneM (ps_x2 c_NoFarm rfl (takes_of rfl rfl rfl rfl) hr pm_str (pm_neg pm_int))) pss_nilM) (pss_consM (ps_setF 0 T.cls T.na_many (pm_var 1)) (pss_consM (ps_setF 0 T.cls T.na_rows (b_tuple T.blt (po_dat (pm_var 2)))) (pss_oneM (ps_setF 0 T.cls T.na_most (pm_var 3)))))))))
abbrev s_Farmdd_lendd : Stmt := inClass (top 12) 2
abbrev n_Farmdd_lendd : List Str := ["self"]
theorem sc_Farmdd_lendd : FnScope n_Farmdd_lendd ["self"] (defScope s_Farmdd_lendd) := ⟨rfl, rfl, rfl, by decide +kernel, rfl, by decide +kernel, by decide +kernel⟩
def b_Farmdd_lendd : MS := (mRet (mCall sLen [(.dat (mFld (mVar 0) "rows"))]))
def m_Farmdd_lendd : Fn := mkFn 1 [] b_Farmdd_lendd
theorem ok_Farmdd_lendd {f : Addr} {fd : FuncData} (T : Txt K mg C0)  (F : FunD K "__len__" "Farm.__len__" (defArgs s_Farmdd_lendd) (defBody s_Farmdd_lendd) (defScope s_Farmdd_lendd) [] [] f fd) : FnOk P w K mg base (L2.CX P w) 1 f fd ["self"] (spM (cfK P w K C0 ex) [] 1 m_Farmdd_lendd) :=
  fn_ok0 (P := P) (w := w) (K := K) (mg := mg) (base := base) (c := cfK P w K C0 ex) (k := 0) (m := b_Farmdd_lendd) (st := s_Farmdd_lendd) (N := n_Farmdd_lendd) (ps := ["self"]) F sc_Farmdd_lendd (by decide) fun cdv A outer s H E hr =>
    (pss_oneM (ps_retM (b_len T.blt (po_dat (pm_fld T.cls T.na_rows (pm_var 0))))))
abbrev s_check_placement : Stmt := top 14
abbrev n_check_placement : List Str := ["farm", "placement", "index", "server"]
theorem sc_check_placement : FnScope n_check_placement ["farm", "placement"] (defScope s_check_placement) := ⟨rfl, rfl, rfl, by decide +kernel, rfl, by decide +kernel, by decide +kernel⟩
def b_check_placement : MS := (mSeq (mIfS (mOr (mNot (mB (mCall sIsi [(.dat (mVar 1)), (.dat (M.pure (.raw (.ty "tuple"))))]))) (mB (mOp2 sNe (.dat (mCall sLen [(.dat (mVar 1))])) (.dat (mLenF m_Farmdd_lendd (mVar 0)))))) (mRaise 2 [(mNeg (M.pure (.int 1)))]) mSkip) (mFor (mEnum (mVar 1)) (gTp [2, 3]) (mIfS (mAnd (mB (mOp2 sNotN (.dat (mVar 3)) (.dat (M.pure .non)))) (mOr (mNot (mB (mCallF m_is_from [(.dat (mVar 3)), (.dat (M.pure (.int 0))), (.dat (mOp2 sSub (.dat (mFld (mVar 0) "many")) (.dat (M.pure (.int 1)))))]))) (mB (mOp2 sNin (.dat (mVar 3)) (.dat (mOp2 sIx (.dat (mFld (mVar 0) "rows")) (.dat (mVar 2)))))))) (mRaise 2 [(mVar 2)]) mSkip)))
def m_check_placement : Fn := mkFn 4 [] b_check_placement
theorem ok_check_placement {f : Addr} {fd : FuncData} (T : Txt K mg C0) (c_len : CalL P w K mg base (cfK P w K C0 ex) 1 m_Farmdd_lendd) (c_NoPlacement : CalX1 P w K mg base (cfK P w K C0 ex) 1 2 "NoPlacement" "index") (c_is_from : Cal P w K mg base (cfK P w K C0 ex) 2 "is_from" [] 3 m_is_from) (F : FunD K "check_placement" "check_placement" (defArgs s_check_placement) (defBody s_check_placement) (defScope s_check_placement) [] [] f fd) : FnOk P w K mg base (L2.CX P w) 3 f fd ["farm", "placement"] (spM (cfK P w K C0 ex) [] 2 m_check_placement) :=
  fn_ok0 (P := P) (w := w) (K := K) (mg := mg) (base := base) (c := cfK P w K C0 ex) (k := 2) (m := b_check_placement) (st := s_check_placement) (N := n_check_placement) (ps := ["farm", "placement"]) F sc_check_placement (by decide) fun cdv A outer s H E hr =>
    (pss_consM (ps_ifM (t_or (pt_notM (pt_v (b_isi T.blt (po_dat (pm_var 1)) (po_dat (b_ty T.blt.ztuple PyProof.Rows.boot_tuple))))) (pw_and1' (t_ne hr.units (po_dat (b_len T.blt (po_dat (pm_var 1)))) (po_dat (pm_calL T.blt c_len hr (takes_of rfl rfl rfl rfl) (pm_var 0)))))) (pss_oneM (ps_x1 c_NoPlacement rfl (takes_of rfl rfl rfl rfl) hr (pm_neg pm_int))) pss_nilM) (pss_oneM (ps_forM (passes_of rfl) rfl (pi_enumM rfl T.blt.zenumerate (pm_var 1)) (pg_tpM rfl rfl (pgs_consM (pg_nm 2 sc_check_placement.nd rfl) (pgs_consM (pg_nm 3 sc_check_placement.nd rfl) pgs_nilM))) (pss_oneM (ps_ifM (t_and (t_isn (po_dat (pm_var 3)) (po_dat pm_non)) (pw_and1' (t_or (pt_notM (pt_v (pm_cal c_is_from hr (takes_of rfl rfl rfl rfl) (pr_dat (pm_var 3) (pr_dat pm_int (pr_dat (o_sub (po_dat (pm_fld T.cls T.na_many (pm_var 0))) (po_dat pm_int)) pr_nil)))))) (pw_and1' (t_nin hr.units (po_dat (pm_var 3)) (po_dat (o_ix (po_dat (pm_fld T.cls T.na_rows (pm_var 0))) (po_dat (pm_var 2))))))))) (pss_oneM (ps_x1 c_NoPlacement rfl (takes_of rfl rfl rfl rfl) hr (pm_var 2))) pss_nilM)))))
abbrev s_near : Stmt := top 16
abbrev n_near : List Str := ["farm", "session"]
theorem sc_near : FnScope n_near ["farm", "session"] (defScope s_near) := ⟨rfl, rfl, rfl, by decide +kernel, rfl, by decide +kernel, by decide +kernel⟩
def b_near : MS := (mRet (mSl sCut (.dat (mOp2 sIx (.dat (mFld (mVar 0) "rows")) (.dat (mVar 1)))) none (some (mOp2 sAdd (.dat (mFld (mVar 0) "most")) (.dat (M.pure (.int 1)))))))
def m_near : Fn := mkFn 2 [] b_near
theorem ok_near {f : Addr} {fd : FuncData} (T : Txt K mg C0)  (F : FunD K "near" "near" (defArgs s_near) (defBody s_near) (defScope s_near) [] [] f fd) : FnOk P w K mg base (L2.CX P w) 1 f fd ["farm", "session"] (spM (cfK P w K C0 ex) [] 2 m_near) :=
  fn_ok0 (P := P) (w := w) (K := K) (mg := mg) (base := base) (c := cfK P w K C0 ex) (k := 0) (m := b_near) (st := s_near) (N := n_near) (ps := ["farm", "session"]) F sc_near (by decide) fun cdv A outer s H E hr =>
    (pss_oneM (ps_retM (o_sl (po_dat (o_ix (po_dat (pm_fld T.cls T.na_rows (pm_var 0))) (po_dat (pm_var 1)))) pp_none (pp_some (o_add (po_dat (pm_fld T.cls T.na_most (pm_var 0))) (po_dat pm_int))))))
abbrev s_loads : Stmt := top 17
abbrev n_loads : List Str := ["farm", "placement", "server"]
theorem sc_loads : FnScope n_loads ["farm", "placement"] (defScope s_loads) := ⟨rfl, rfl, rfl, by decide +kernel, rfl, by decide +kernel, by decide +kernel⟩
def b_loads : MS := (mSeq (mExpr (mCallF m_check_placement [(.dat (mVar 0)), (.dat (mVar 1))])) (mRet (mLc (mRange1 (mFld (mVar 0) "many")) (gNm 2) (M.pure true) (mMeth isTup sTcount (.dat (mVar 1)) [(.dat (mVar 2))]) [2])))
def m_loads : Fn := mkFn 3 [] b_loads
theorem ok_loads {f : Addr} {fd : FuncData} (T : Txt K mg C0) (c_check_placement : Cal P w K mg base (cfK P w K C0 ex) 3 "check_placement" [] 2 m_check_placement) (F : FunD K "loads" "loads" (defArgs s_loads) (defBody s_loads) (defScope s_loads) [] [] f fd) : FnOk P w K mg base (L2.CX P w) 4 f fd ["farm", "placement"] (spM (cfK P w K C0 ex) [] 2 m_loads) :=
  fn_ok0 (P := P) (w := w) (K := K) (mg := mg) (base := base) (c := cfK P w K C0 ex) (k := 3) (m := b_loads) (st := s_loads) (N := n_loads) (ps := ["farm", "placement"]) F sc_loads (by decide) fun cdv A outer s H E hr =>
    (pss_consM (ps_exprM (pm_cal c_check_placement hr (takes_of rfl rfl rfl rfl) (pr_dat (pm_var 0) (pr_dat (pm_var 1) pr_nil)))) (pss_oneM (ps_retM (pm_of_pf (pf_lc [("server", 2)] rfl sc_loads.nd (pi_range1M T.blt.zrange (pm_fld T.cls T.na_many (pm_var 0))) (blk_of (by rfl)) (by rfl) (by rfl) (fun s H C cl fp => (pg_nm 2 sc_loads.nd rfl)) (fun s H C cl fp => pts_nilM) (fun s H C cl fp => (m_tcount (po_dat (pm_var 1)) (po_dat (pm_var 2)))))))))
def mf_loads : Fn := mkFr 3 [] (mSeqF (mExpr (mCallF m_check_placement [(.dat (mVar 0)), (.dat (mVar 1))])) (mRet (mLc (mRange1 (mFld (mVar 0) "many")) (gNm 2) (M.pure true) (mMeth isTup sTcount (.dat (mVar 1)) [(.dat (mVar 2))]) [2])))
theorem okr_loads {f : Addr} {fd : FuncData} (T : Txt K mg C0) (c_check_placement : Cal P w K mg base (cfK P w K C0 ex) 3 "check_placement" [] 2 m_check_placement) (F : FunD K "loads" "loads" (defArgs s_loads) (defBody s_loads) (defScope s_loads) [] [] f fd) : FnOk P w K mg base (L2.CX P w) 4 f fd ["farm", "placement"] (spFr (cfK P w K C0 ex) [] 2 mf_loads) :=
  fr_ok0 (P := P) (w := w) (K := K) (mg := mg) (base := base) (c := cfK P w K C0 ex) (k := 3) (m := (mSeqF (mExpr (mCallF m_check_placement [(.dat (mVar 0)), (.dat (mVar 1))])) (mRet (mLc (mRange1 (mFld (mVar 0) "many")) (gNm 2) (M.pure true) (mMeth isTup sTcount (.dat (mVar 1)) [(.dat (mVar 2))]) [2])))) (st := s_loads) (N := n_loads) (ps := ["farm", "placement"]) F sc_loads (by decide) fun cdv A outer s H E hr =>
    (pssF_cons (ps_exprM (pm_cal c_check_placement hr (takes_of rfl rfl rfl rfl) (pr_dat (pm_var 0) (pr_dat (pm_var 1) pr_nil)))) (pssF_ret (pf_lc [("server", 2)] rfl sc_loads.nd (pi_range1M T.blt.zrange (pm_fld T.cls T.na_many (pm_var 0))) (blk_of (by rfl)) (by rfl) (by rfl) (fun s H C cl fp => (pg_nm 2 sc_loads.nd rfl)) (fun s H C cl fp => pts_nilM) (fun s H C cl fp => (m_tcount (po_dat (pm_var 1)) (po_dat (pm_var 2)))))))
abbrev s_first_bad_server : Stmt := top 18
abbrev n_first_bad_server : List Str := ["farm", "servers", "index", "server"]
theorem sc_first_bad_server : FnScope n_first_bad_server ["farm", "servers"] (defScope s_first_bad_server) := ⟨rfl, rfl, rfl, by decide +kernel, rfl, by decide +kernel, by decide +kernel⟩
def b_first_bad_server : MS := (mSeq (mFor (mEnum (mVar 1)) (gTp [2, 3]) (mIfS (mOr (mNot (mB (mCallF m_is_from [(.dat (mVar 3)), (.dat (M.pure (.int 0))), (.dat (mOp2 sSub (.dat (mFld (mVar 0) "many")) (.dat (M.pure (.int 1)))))]))) (mB (mOp2 sIn (.dat (mVar 3)) (.dat (mSl sCut (.dat (mVar 1)) none (some (mVar 2))))))) (mRet (mVar 2)) mSkip)) (mRet (M.pure .non)))
def m_first_bad_server : Fn := mkFn 4 [] b_first_bad_server
theorem ok_first_bad_server {f : Addr} {fd : FuncData} (T : Txt K mg C0) (c_is_from : Cal P w K mg base (cfK P w K C0 ex) 2 "is_from" [] 3 m_is_from) (F : FunD K "first_bad_server" "first_bad_server" (defArgs s_first_bad_server) (defBody s_first_bad_server) (defScope s_first_bad_server) [] [] f fd) : FnOk P w K mg base (L2.CX P w) 3 f fd ["farm", "servers"] (spM (cfK P w K C0 ex) [] 2 m_first_bad_server) :=
  fn_ok0 (P := P) (w := w) (K := K) (mg := mg) (base := base) (c := cfK P w K C0 ex) (k := 2) (m := b_first_bad_server) (st := s_first_bad_server) (N := n_first_bad_server) (ps := ["farm", "servers"]) F sc_first_bad_server (by decide) fun cdv A outer s H E hr =>
    (pss_consM (ps_forM (passes_of rfl) rfl (pi_enumM rfl T.blt.zenumerate (pm_var 1)) (pg_tpM rfl rfl (pgs_consM (pg_nm 2 sc_first_bad_server.nd rfl) (pgs_consM (pg_nm 3 sc_first_bad_server.nd rfl) pgs_nilM))) (pss_oneM (ps_ifM (t_or (pt_notM (pt_v (pm_cal c_is_from hr (takes_of rfl rfl rfl rfl) (pr_dat (pm_var 3) (pr_dat pm_int (pr_dat (o_sub (po_dat (pm_fld T.cls T.na_many (pm_var 0))) (po_dat pm_int)) pr_nil)))))) (pw_and1' (t_in hr.units (po_dat (pm_var 3)) (po_dat (o_sl (po_dat (pm_var 1)) pp_none (pp_some (pm_var 2))))))) (pss_oneM (ps_retM (pm_var 2))) pss_nilM))) (pss_oneM (ps_retM pm_non)))
abbrev s_greatest_load : Stmt := top 19
abbrev n_greatest_load : List Str := ["farm", "servers", "index", "found", "session", "server"]
theorem sc_greatest_load : FnScope n_greatest_load ["farm", "servers"] (defScope s_greatest_load) := ⟨rfl, rfl, rfl, by decide +kernel, rfl, by decide +kernel, by decide +kernel⟩
def b_greatest_load : MS := (mSeq (mIfS (mNot (mB (mCall sIsi [(.dat (mVar 1)), (.dat (M.pure (.raw (.ty "tuple"))))]))) (mRaise 3 [(mNeg (M.pure (.int 1)))]) mSkip) (mSeq (mAsg (mCallF m_first_bad_server [(.dat (mVar 0)), (.dat (mVar 1))]) (gNm 2)) (mSeq (mIfS (mB (mOp2 sNotN (.dat (mVar 2)) (.dat (M.pure .non)))) (mRaise 3 [(mVar 2)]) mSkip) (mSeq (mNew (mLst []) 3) (mSeq (mFor (mRange1 (mLenF m_Farmdd_lendd (mVar 0))) (gNm 4) (mExpr (mMethWR wAppend 3 [(mOp2 sIx (.dat (mOp2 sAdd (.dat (mLc (mSeqI (mCallF m_near [(.dat (mVar 0)), (.dat (mVar 4))])) (gNm 5) (mB (mOp2 sIn (.dat (mVar 5)) (.dat (mVar 1)))) (mVar 5) [5])) (.dat (mLst [(M.pure .non)])))) (.dat (M.pure (.int 0))))]))) (mFrz 3 (mRet (mTup [(mCall sLen [(.dat (mLc (mSeqI (mVar 3)) (gNm 5) (mB (mOp2 sNotN (.dat (mVar 5)) (.dat (M.pure .non)))) (mVar 5) [5]))]), (mCall sTuple [(.dat (mVar 3))])]))))))))
def m_greatest_load : Fn := mkFn 6 [] b_greatest_load
theorem ok_greatest_load {f : Addr} {fd : FuncData} (T : Txt K mg C0) (c_NoServers : CalX1 P w K mg base (cfK P w K C0 ex) 1 3 "NoServers" "index") (c_first_bad_server : Cal P w K mg base (cfK P w K C0 ex) 3 "first_bad_server" [] 2 m_first_bad_server) (c_len : CalL P w K mg base (cfK P w K C0 ex) 1 m_Farmdd_lendd) (c_near : Cal P w K mg base (cfK P w K C0 ex) 1 "near" [] 2 m_near) (F : FunD K "greatest_load" "greatest_load" (defArgs s_greatest_load) (defBody s_greatest_load) (defScope s_greatest_load) [] [] f fd) : FnOk P w K mg base (L2.CX P w) 4 f fd ["farm", "servers"] (spM (cfK P w K C0 ex) [] 2 m_greatest_load) :=
  fn_ok0 (P := P) (w := w) (K := K) (mg := mg) (base := base) (c := cfK P w K C0 ex) (k := 3) (m := b_greatest_load) (st := s_greatest_load) (N := n_greatest_load) (ps := ["farm", "servers"]) F sc_greatest_load (by decide) fun cdv A outer s H E hr =>
    (pss_consM (ps_ifM (pt_notM (pt_v (b_isi T.blt (po_dat (pm_var 1)) (po_dat (b_ty T.blt.ztuple PyProof.Rows.boot_tuple))))) (pss_oneM (ps_x1 c_NoServers rfl (takes_of rfl rfl rfl rfl) hr (pm_neg pm_int))) pss_nilM) (pss_consM (ps_asgM (pm_cal c_first_bad_server hr (takes_of rfl rfl rfl rfl) (pr_dat (pm_var 0) (pr_dat (pm_var 1) pr_nil))) (pg_nm 2 sc_greatest_load.nd rfl)) (pss_consM (ps_ifM (t_isn (po_dat (pm_var 2)) (po_dat pm_non)) (pss_oneM (ps_x1 c_NoServers rfl (takes_of rfl rfl rfl rfl) hr (pm_var 2))) pss_nilM) (pss_consM (ps_newM 3 sc_greatest_load.nd (pf_lst pd_nil) rfl) (pss_consM (ps_forM (passes_of rfl) rfl (pi_range1M T.blt.zrange (pm_calL T.blt c_len hr (takes_of rfl rfl rfl rfl) (pm_var 0))) (pg_nm 4 sc_greatest_load.nd rfl) (pss_oneM (ps_exprM (m_append 3 (o_ix (po_dat (o_add (po_dat (pm_of_pf (pf_lc [("server", 5)] rfl sc_greatest_load.nd (pi_seqM rfl (pm_cal c_near hr (takes_of rfl rfl rfl rfl) (pr_dat (pm_var 0) (pr_dat (pm_var 4) pr_nil)))) (blk_of (by rfl)) (by rfl) (by rfl) (fun s H C cl fp => (pg_nm 5 sc_greatest_load.nd rfl)) (fun s H C cl fp => (pts_oneM (t_in hr.units (po_dat (pm_var 5)) (po_dat (pm_var 1))))) (fun s H C cl fp => (pm_var 5))))) (po_dat (pm_of_pf (pf_lst (pd_cons pm_non pd_nil)))))) (po_dat pm_int)))))) (pss_oneM (ps_frz 3 rfl (ps_retM (pm_tup (pd_cons (b_len T.blt (po_dat (pm_of_pf (pf_lc [("server", 5)] rfl sc_greatest_load.nd (pi_seqM rfl (pm_var 3)) (blk_of (by rfl)) (by rfl) (by rfl) (fun s H C cl fp => (pg_nm 5 sc_greatest_load.nd rfl)) (fun s H C cl fp => (pts_oneM (t_isn (po_dat (pm_var 5)) (po_dat pm_non)))) (fun s H C cl fp => (pm_var 5)))))) (pd_cons (b_tuple T.blt (po_dat (pm_var 3))) pd_nil)))))))))))
abbrev s_law_well : Stmt := top 21
abbrev n_law_well : List Str := ["_law_cell", "_law_turn"]
theorem sc_law_well : FnScope n_law_well ["_law_cell", "_law_turn"] (defScope s_law_well) := ⟨rfl, rfl, rfl, by decide +kernel, rfl, by decide +kernel, by decide +kernel⟩
def b_law_well : MS := (mRet (mLst [(mOp2 sMul (.dat (mVar 0)) (.dat (mCall sInt [(.dat (mOp2 sGe (.dat (mVar 0)) (.dat (mOp2 sPow (.dat (M.pure (.int 10))) (.dat (M.pure (.int 18)))))))]))), (mOp2 sAdd (.dat (mOp2 sMod (.dat (mVar 0)) (.dat (M.pure (.int 2147483563))))) (.dat (mOp2 sMul (.dat (M.pure (.int 70001))) (.dat (mVar 1))))), (M.pure (.int 0))]))
def m_law_well : Fn := mkFn 2 [] b_law_well
theorem ok_law_well {f : Addr} {fd : FuncData} (T : Txt K mg C0)  (F : FunD K "_law_well" "_law_well" (defArgs s_law_well) (defBody s_law_well) (defScope s_law_well) [] [] f fd) : FnOk P w K mg base (L2.CX P w) 1 f fd ["_law_cell", "_law_turn"] (spM (cfK P w K C0 ex) [] 2 m_law_well) :=
  fn_ok0 (P := P) (w := w) (K := K) (mg := mg) (base := base) (c := cfK P w K C0 ex) (k := 0) (m := b_law_well) (st := s_law_well) (N := n_law_well) (ps := ["_law_cell", "_law_turn"]) F sc_law_well (by decide) fun cdv A outer s H E hr =>
    (pss_oneM (ps_retM (pm_of_pf (pf_lst (pd_cons (o_mul (po_dat (pm_var 0)) (po_dat (b_int T.blt (po_dat (o_ge (po_dat (pm_var 0)) (po_dat (o_pow (po_dat pm_int) (po_dat pm_int)))))))) (pd_cons (o_add (po_dat (o_mod (po_dat (pm_var 0)) (po_dat pm_int))) (po_dat (o_mul (po_dat pm_int) (po_dat (pm_var 1))))) (pd_cons pm_int pd_nil)))))))
def mf_law_well : Fn := mkFr 2 [] (mRet (mLst [(mOp2 sMul (.dat (mVar 0)) (.dat (mCall sInt [(.dat (mOp2 sGe (.dat (mVar 0)) (.dat (mOp2 sPow (.dat (M.pure (.int 10))) (.dat (M.pure (.int 18)))))))]))), (mOp2 sAdd (.dat (mOp2 sMod (.dat (mVar 0)) (.dat (M.pure (.int 2147483563))))) (.dat (mOp2 sMul (.dat (M.pure (.int 70001))) (.dat (mVar 1))))), (M.pure (.int 0))]))
theorem okr_law_well {f : Addr} {fd : FuncData} (T : Txt K mg C0)  (F : FunD K "_law_well" "_law_well" (defArgs s_law_well) (defBody s_law_well) (defScope s_law_well) [] [] f fd) : FnOk P w K mg base (L2.CX P w) 1 f fd ["_law_cell", "_law_turn"] (spFr (cfK P w K C0 ex) [] 2 mf_law_well) :=
  fr_ok0 (P := P) (w := w) (K := K) (mg := mg) (base := base) (c := cfK P w K C0 ex) (k := 0) (m := (mRet (mLst [(mOp2 sMul (.dat (mVar 0)) (.dat (mCall sInt [(.dat (mOp2 sGe (.dat (mVar 0)) (.dat (mOp2 sPow (.dat (M.pure (.int 10))) (.dat (M.pure (.int 18)))))))]))), (mOp2 sAdd (.dat (mOp2 sMod (.dat (mVar 0)) (.dat (M.pure (.int 2147483563))))) (.dat (mOp2 sMul (.dat (M.pure (.int 70001))) (.dat (mVar 1))))), (M.pure (.int 0))]))) (st := s_law_well) (N := n_law_well) (ps := ["_law_cell", "_law_turn"]) F sc_law_well (by decide) fun cdv A outer s H E hr =>
    (pssF_ret (pf_lst (pd_cons (o_mul (po_dat (pm_var 0)) (po_dat (b_int T.blt (po_dat (o_ge (po_dat (pm_var 0)) (po_dat (o_pow (po_dat pm_int) (po_dat pm_int)))))))) (pd_cons (o_add (po_dat (o_mod (po_dat (pm_var 0)) (po_dat pm_int))) (po_dat (o_mul (po_dat pm_int) (po_dat (pm_var 1))))) (pd_cons pm_int pd_nil)))))
abbrev s_law_take : Stmt := top 22
abbrev n_law_take : List Str := ["_law_well_here", "_law_bound", "_law_drawn_here", "_law_value"]
theorem sc_law_take : FnScope n_law_take ["_law_well_here", "_law_bound"] (defScope s_law_take) := ⟨rfl, rfl, rfl, by decide +kernel, rfl, by decide +kernel, by decide +kernel⟩
def b_law_take : MS := (mSeq (mIfS (mB (mOp2 sGt (.dat (mOp2 sIx (.own 0) (.dat (M.pure (.int 0))))) (.dat (M.pure (.int 0))))) (mSeq (mAsg (mOp2 sMod (.dat (mOp2 sIx (.own 0) (.dat (M.pure (.int 0))))) (.dat (mVar 1))) (gNm 2)) (mSeq (mSetIx 0 (M.pure (.int 0)) (mOp2 sFdiv (.dat (mOp2 sIx (.own 0) (.dat (M.pure (.int 0))))) (.dat (mVar 1)))) (mRet (mVar 2)))) mSkip) (mSeq (mSetIx 0 (M.pure (.int 2)) (mOp2 sAdd (.dat (mOp2 sIx (.own 0) (.dat (M.pure (.int 2))))) (.dat (M.pure (.int 1))))) (mSeq (mAsg (mOp2 sMod (.dat (mOp2 sMul (.dat (mOp2 sAdd (.dat (mOp2 sAdd (.dat (mOp2 sIx (.own 0) (.dat (M.pure (.int 1))))) (.dat (mOp2 sMul (.dat (M.pure (.int 67867967))) (.dat (mOp2 sIx (.own 0) (.dat (M.pure (.int 2))))))))) (.dat (M.pure (.int 17))))) (.dat (M.pure (.int 48271))))) (.dat (M.pure (.int 2147483563)))) (gNm 3)) (mSeq (mAsg (mOp2 sMod (.dat (mOp2 sMul (.dat (mVar 3)) (.dat (mOp2 sAdd (.dat (mOp2 sFdiv (.dat (mVar 3)) (.dat (M.pure (.int 1033))))) (.dat (M.pure (.int 69697))))))) (.dat (M.pure (.int 2147483587)))) (gNm 3)) (mRet (mOp2 sMod (.dat (mOp2 sFdiv (.dat (mOp2 sMod (.dat (mOp2 sMul (.dat (mVar 3)) (.dat (mOp2 sAdd (.dat (mOp2 sFdiv (.dat (mVar 3)) (.dat (M.pure (.int 2029))))) (.dat (M.pure (.int 40759))))))) (.dat (M.pure (.int 2147483629))))) (.dat (M.pure (.int 7))))) (.dat (mVar 1))))))))
def m_law_take : Fn := mkFn 4 [0] b_law_take
theorem ok_law_take {f : Addr} {fd : FuncData} (T : Txt K mg C0)  (F : FunD K "_law_take" "_law_take" (defArgs s_law_take) (defBody s_law_take) (defScope s_law_take) [] [] f fd) : FnOk P w K mg base (L2.CX P w) 1 f fd ["_law_well_here", "_law_bound"] (spM (cfK P w K C0 ex) [0] 2 m_law_take) :=
  fn_ok1 0 (P := P) (w := w) (K := K) (mg := mg) (base := base) (c := cfK P w K C0 ex) (k := 0) (m := b_law_take) (st := s_law_take) (N := n_law_take) (ps := ["_law_well_here", "_law_bound"]) F sc_law_take (by decide) (by decide) fun aR cdv A outer s H E hr =>
    (pss_consM (ps_ifM (t_gt (po_dat (o_ix (po_own 0) (po_dat pm_int))) (po_dat pm_int)) (pss_consM (ps_asgM (o_mod (po_dat (o_ix (po_own 0) (po_dat pm_int))) (po_dat (pm_var 1))) (pg_nm 2 sc_law_take.nd rfl)) (pss_consM (ps_setIx 0 (o_fdiv (po_dat (o_ix (po_own 0) (po_dat pm_int))) (po_dat (pm_var 1))) pm_int) (pss_oneM (ps_retM (pm_var 2))))) pss_nilM) (pss_consM (ps_setIx 0 (o_add (po_dat (o_ix (po_own 0) (po_dat pm_int))) (po_dat pm_int)) pm_int) (pss_consM (ps_asgM (o_mod (po_dat (o_mul (po_dat (o_add (po_dat (o_add (po_dat (o_ix (po_own 0) (po_dat pm_int))) (po_dat (o_mul (po_dat pm_int) (po_dat (o_ix (po_own 0) (po_dat pm_int))))))) (po_dat pm_int))) (po_dat pm_int))) (po_dat pm_int)) (pg_nm 3 sc_law_take.nd rfl)) (pss_consM (ps_asgM (o_mod (po_dat (o_mul (po_dat (pm_var 3)) (po_dat (o_add (po_dat (o_fdiv (po_dat (pm_var 3)) (po_dat pm_int))) (po_dat pm_int))))) (po_dat pm_int)) (pg_nm 3 sc_law_take.nd rfl)) (pss_oneM (ps_retM (o_mod (po_dat (o_fdiv (po_dat (o_mod (po_dat (o_mul (po_dat (pm_var 3)) (po_dat (o_add (po_dat (o_fdiv (po_dat (pm_var 3)) (po_dat pm_int))) (po_dat pm_int))))) (po_dat pm_int))) (po_dat pm_int))) (po_dat (pm_var 1)))))))))
abbrev s_law_mixed : Stmt := top 23
abbrev n_law_mixed : List Str := ["_law_well_here", "_law_some", "_law_left", "_law_found"]
theorem sc_law_mixed : FnScope n_law_mixed ["_law_well_here", "_law_some"] (defScope s_law_mixed) := ⟨rfl, rfl, rfl, by decide +kernel, rfl, by decide +kernel, by decide +kernel⟩
def b_law_mixed : MS := (mSeq (mNew (mCall sList [(.dat (mVar 1))]) 2) (mSeq (mNew (mLst []) 3) (mSeq (whileM (mB (mOp2 sNe (.own 2) (.dat (mLst [])))) (mExpr (mMethWR wAppend 3 [(mMethWR wPopAt 2 [(mCallF m_law_take [(.own 0), (.dat (mCall sLen [(.own 2)]))])])])) 4096) (mFrz 3 (mRet (mVar 3))))))
def m_law_mixed : Fn := mkFn 4 [0] b_law_mixed
theorem ok_law_mixed {f : Addr} {fd : FuncData} (T : Txt K mg C0) (c_law_take : Cal P w K mg base (cfK P w K C0 ex) 1 "_law_take" [0] 2 m_law_take) (F : FunD K "_law_mixed" "_law_mixed" (defArgs s_law_mixed) (defBody s_law_mixed) (defScope s_law_mixed) [] [] f fd) : FnOk P w K mg base (L2.CX P w) 2 f fd ["_law_well_here", "_law_some"] (spM (cfK P w K C0 ex) [0] 2 m_law_mixed) :=
  fn_ok1 0 (P := P) (w := w) (K := K) (mg := mg) (base := base) (c := cfK P w K C0 ex) (k := 1) (m := b_law_mixed) (st := s_law_mixed) (N := n_law_mixed) (ps := ["_law_well_here", "_law_some"]) F sc_law_mixed (by decide) (by decide) fun aR cdv A outer s H E hr =>
    (pss_consM (ps_newM 2 sc_law_mixed.nd (b_list T.blt (po_dat (pm_var 1))) rfl) (pss_consM (ps_newM 3 sc_law_mixed.nd (pf_lst pd_nil) rfl) (pss_consM (ps_whileM 4096 (passes_of rfl) (t_ne hr.units (po_own 2) (po_dat (pm_of_pf (pf_lst pd_nil)))) (pss_oneM (ps_exprM (m_append 3 (m_popAt 2 (pm_cal c_law_take hr (takes_of rfl rfl rfl rfl) (pr_own 0 (pr_dat (b_len T.blt (po_own 2)) pr_nil)))))))) (pss_oneM (ps_frz 3 rfl (ps_retM (pm_var 3)))))))
abbrev s_law_farm : Stmt := top 24
abbrev n_law_farm : List Str := ["_law_well_here", "_law_greatest", "_law_many", "_law_depth", "_law_size", "_law_base", "_law_rows", "_law_session", "_law_row", "_law_spot"]
theorem sc_law_farm : FnScope n_law_farm ["_law_well_here", "_law_greatest", "_law_many", "_law_depth"] (defScope s_law_farm) := ⟨rfl, rfl, rfl, by decide +kernel, rfl, by decide +kernel, by decide +kernel⟩
def b_law_farm : MS := (mSeq (mAsg (mOp2 sAdd (.dat (M.pure (.int 1))) (.dat (mCallF m_law_take [(.own 0), (.dat (mVar 1))]))) (gNm 4)) (mSeq (mAsg (mCallF m_law_mixed [(.own 0), (.dat (mListRg (mVar 4)))]) (gNm 5)) (mSeq (mNew (mLst []) 6) (mSeq (mFor (mRange1 (mCallF m_law_take [(.own 0), (.dat (mOp2 sAdd (.dat (mVar 2)) (.dat (M.pure (.int 1)))))])) (gNm 7) (mSeq (mAsg (mOp2 sIx (.dat (mLst [(mCall sList [(.dat (mVar 5))]), (mRev sRev (.dat (mVar 5))), (mCallF m_law_mixed [(.own 0), (.dat (mVar 5))])])) (.dat (mCallF m_law_take [(.own 0), (.dat (M.pure (.int 3)))]))) (gNm 8)) (mSeq (mAsg (mCallF m_law_take [(.own 0), (.dat (mVar 4))]) (gNm 9)) (mSeq (mAsg (mOp2 sIx (.dat (mLst [(mVar 8), (mOp2 sAdd (.dat (mSl sCut (.dat (mVar 8)) (some (mVar 9)) none)) (.dat (mSl sCut (.dat (mVar 8)) none (some (mVar 9)))))])) (.dat (mCallF m_law_take [(.own 0), (.dat (M.pure (.int 2)))]))) (gNm 8)) (mExpr (mMethWR wAppend 6 [(mCall sTuple [(.dat (mSl sCut (.dat (mVar 8)) none (some (mOp2 sIx (.dat (mLst [(mVar 4), (mOp2 sAdd (.dat (M.pure (.int 1))) (.dat (mCallF m_law_take [(.own 0), (.dat (mVar 4))])))])) (.dat (mCallF m_law_take [(.own 0), (.dat (M.pure (.int 2)))]))))))])])))))) (mFrz 6 (mRet (mTup [(mVar 4), (mVar 6), (mCall sMin [(.dat (mVar 4)), (.dat (mCallF m_law_take [(.own 0), (.dat (mOp2 sAdd (.dat (mVar 3)) (.dat (M.pure (.int 1)))))]))])])))))))
def m_law_farm : Fn := mkFn 10 [0] b_law_farm
theorem ok_law_farm {f : Addr} {fd : FuncData} (T : Txt K mg C0) (c_law_take : Cal P w K mg base (cfK P w K C0 ex) 1 "_law_take" [0] 2 m_law_take) (c_law_mixed : Cal P w K mg base (cfK P w K C0 ex) 2 "_law_mixed" [0] 2 m_law_mixed) (F : FunD K "_law_farm" "_law_farm" (defArgs s_law_farm) (defBody s_law_farm) (defScope s_law_farm) [] [] f fd) : FnOk P w K mg base (L2.CX P w) 3 f fd ["_law_well_here", "_law_greatest", "_law_many", "_law_depth"] (spM (cfK P w K C0 ex) [0] 4 m_law_farm) :=
  fn_ok1 0 (P := P) (w := w) (K := K) (mg := mg) (base := base) (c := cfK P w K C0 ex) (k := 2) (m := b_law_farm) (st := s_law_farm) (N := n_law_farm) (ps := ["_law_well_here", "_law_greatest", "_law_many", "_law_depth"]) F sc_law_farm (by decide) (by decide) fun aR cdv A outer s H E hr =>
    (pss_consM (ps_asgM (o_add (po_dat pm_int) (po_dat (pm_cal c_law_take hr (takes_of rfl rfl rfl rfl) (pr_own 0 (pr_dat (pm_var 1) pr_nil))))) (pg_nm 4 sc_law_farm.nd rfl)) (pss_consM (ps_asgM (pm_cal c_law_mixed hr (takes_of rfl rfl rfl rfl) (pr_own 0 (pr_dat (pm_of_pf (f_lrange T.blt rfl (pm_var 4))) pr_nil))) (pg_nm 5 sc_law_farm.nd rfl)) (pss_consM (ps_newM 6 sc_law_farm.nd (pf_lst pd_nil) rfl) (pss_consM (ps_forM (passes_of rfl) rfl (pi_range1M T.blt.zrange (pm_cal c_law_take hr (takes_of rfl rfl rfl rfl) (pr_own 0 (pr_dat (o_add (po_dat (pm_var 2)) (po_dat pm_int)) pr_nil)))) (pg_nm 7 sc_law_farm.nd rfl) (pss_consM (ps_asgM (o_ix (po_dat (pm_of_pf (pf_lst (pd_cons (pm_of_pf (b_list T.blt (po_dat (pm_var 5)))) (pd_cons (o_revL (po_dat (pm_var 5))) (pd_cons (pm_cal c_law_mixed hr (takes_of rfl rfl rfl rfl) (pr_own 0 (pr_dat (pm_var 5) pr_nil))) pd_nil)))))) (po_dat (pm_cal c_law_take hr (takes_of rfl rfl rfl rfl) (pr_own 0 (pr_dat pm_int pr_nil))))) (pg_nm 8 sc_law_farm.nd rfl)) (pss_consM (ps_asgM (pm_cal c_law_take hr (takes_of rfl rfl rfl rfl) (pr_own 0 (pr_dat (pm_var 4) pr_nil))) (pg_nm 9 sc_law_farm.nd rfl)) (pss_consM (ps_asgM (o_ix (po_dat (pm_of_pf (pf_lst (pd_cons (pm_var 8) (pd_cons (o_add (po_dat (o_sl (po_dat (pm_var 8)) (pp_some (pm_var 9)) pp_none)) (po_dat (o_sl (po_dat (pm_var 8)) pp_none (pp_some (pm_var 9))))) pd_nil))))) (po_dat (pm_cal c_law_take hr (takes_of rfl rfl rfl rfl) (pr_own 0 (pr_dat pm_int pr_nil))))) (pg_nm 8 sc_law_farm.nd rfl)) (pss_oneM (ps_exprM (m_append 6 (b_tuple T.blt (po_dat (o_sl (po_dat (pm_var 8)) pp_none (pp_some (o_ix (po_dat (pm_of_pf (pf_lst (pd_cons (pm_var 4) (pd_cons (o_add (po_dat pm_int) (po_dat (pm_cal c_law_take hr (takes_of rfl rfl rfl rfl) (pr_own 0 (pr_dat (pm_var 4) pr_nil))))) pd_nil))))) (po_dat (pm_cal c_law_take hr (takes_of rfl rfl rfl rfl) (pr_own 0 (pr_dat pm_int pr_nil)))))))))))))))) (pss_oneM (ps_frz 6 rfl (ps_retM (pm_tup (pd_cons (pm_var 4) (pd_cons (pm_var 6) (pd_cons (b_min T.blt rfl (pa_consO (po_dat (pm_var 4)) (pa_consO (po_dat (pm_cal c_law_take hr (takes_of rfl rfl rfl rfl) (pr_own 0 (pr_dat (o_add (po_dat (pm_var 3)) (po_dat pm_int)) pr_nil)))) pa_nilO))) pd_nil)))))))))))
abbrev s_law_first : Stmt := top 25
abbrev n_law_first : List Str := ["_law_row", "_law_down", "_law_server"]
theorem sc_law_first : FnScope n_law_first ["_law_row", "_law_down"] (defScope s_law_first) := ⟨rfl, rfl, rfl, by decide +kernel, rfl, by decide +kernel, by decide +kernel⟩
def b_law_first : MS := (mRet (mOp2 sIx (.dat (mOp2 sAdd (.dat (mLc (mSeqI (mVar 0)) (gNm 2) (mB (mOp2 sNin (.dat (mVar 2)) (.dat (mVar 1)))) (mVar 2) [2])) (.dat (mLst [(M.pure .non)])))) (.dat (M.pure (.int 0)))))
def m_law_first : Fn := mkFn 3 [] b_law_first
theorem ok_law_first {f : Addr} {fd : FuncData} (T : Txt K mg C0)  (F : FunD K "_law_first" "_law_first" (defArgs s_law_first) (defBody s_law_first) (defScope s_law_first) [] [] f fd) : FnOk P w K mg base (L2.CX P w) 1 f fd ["_law_row", "_law_down"] (spM (cfK P w K C0 ex) [] 2 m_law_first) :=
  fn_ok0 (P := P) (w := w) (K := K) (mg := mg) (base := base) (c := cfK P w K C0 ex) (k := 0) (m := b_law_first) (st := s_law_first) (N := n_law_first) (ps := ["_law_row", "_law_down"]) F sc_law_first (by decide) fun cdv A outer s H E hr =>
    (pss_oneM (ps_retM (o_ix (po_dat (o_add (po_dat (pm_of_pf (pf_lc [("_law_server", 2)] rfl sc_law_first.nd (pi_seqM rfl (pm_var 0)) (blk_of (by rfl)) (by rfl) (by rfl) (fun s H C cl fp => (pg_nm 2 sc_law_first.nd rfl)) (fun s H C cl fp => (pts_oneM (t_nin hr.units (po_dat (pm_var 2)) (po_dat (pm_var 1))))) (fun s H C cl fp => (pm_var 2))))) (po_dat (pm_of_pf (pf_lst (pd_cons pm_non pd_nil)))))) (po_dat pm_int))))
abbrev s_law_next : Stmt := top 26
abbrev n_law_next : List Str := ["_law_case", "_law_state", "_law_size", "_law_rows", "_law_most", "_law_down", "_law_places", "_law_found", "_law_session", "_law_row", "_law_word", "_law_later", "_law_server", "_law_one", "_law_less", "_law_moved", "_law_at", "_law_here"]
theorem sc_law_next : FnScope n_law_next ["_law_case", "_law_state"] (defScope s_law_next) := ⟨rfl, rfl, rfl, by decide +kernel, rfl, by decide +kernel, by decide +kernel⟩
def b_law_next : MS := (mSeq (mAsg (mVar 0) (gTp [2, 3, 4])) (mSeq (mAsg (mVar 1) (gTp [5, 6])) (mSeq (mNew (mLst []) 7) (mSeq (mFor (mEnum (mVar 3)) (gTp [8, 9]) (mSeq (mAsg (mIf (mB (mOp2 sNotN (.dat (mOp2 sIx (.dat (mVar 6)) (.dat (mVar 8)))) (.dat (M.pure .non)))) (mTup [(M.pure (.str "end")), (M.pure .non)]) (mTup [(M.pure (.str "begin")), (mCallF m_law_first [(.dat (mVar 9)), (.dat (mVar 5))])])) (gTp [10, 11])) (mExpr (mMethWR wAppend 7 [(mTup [(mTup [(mVar 10), (mVar 8)]), (mTup [(mVar 5), (mOp2 sAdd (.dat (mOp2 sAdd (.dat (mSl sCut (.dat (mVar 6)) none (some (mVar 8)))) (.dat (mTup [(mVar 11)])))) (.dat (mSl sCut (.dat (mVar 6)) (some (mOp2 sAdd (.dat (mVar 8)) (.dat (M.pure (.int 1))))) none)))])])])))) (mSeq (mFor (mRange1 (mVar 2)) (gNm 12) (mIfS (mB (mOp2 sIn (.dat (mVar 12)) (.dat (mVar 5)))) (mExpr (mMethWR wAppend 7 [(mTup [(mTup [(M.pure (.str "up")), (mVar 12)]), (mTup [(mCall sTuple [(.dat (mLc (mSeqI (mVar 5)) (gNm 13) (mB (mOp2 sNe (.dat (mVar 13)) (.dat (mVar 12)))) (mVar 13) [13]))]), (mVar 6)])])])) (mIfS (mB (mOp2 sLt (.dat (mCall sLen [(.dat (mVar 5))])) (.dat (mVar 4)))) (mSeq (mAsg (mCall sTuple [(.dat (mCall sSorted [(.dat (mOp2 sAdd (.dat (mVar 5)) (.dat (mTup [(mVar 12)]))))]))]) (gNm 14)) (mSeq (mAsg (mLc (mEnum (mVar 6)) (gTp [16, 17]) (M.pure true) (mIf (mB (mOp2 sEq (.dat (mVar 17)) (.dat (mVar 12)))) (mCallF m_law_first [(.dat (mOp2 sIx (.dat (mVar 3)) (.dat (mVar 16)))), (.dat (mVar 14))]) (mVar 17)) [16, 17]) (gNm 15)) (mExpr (mMethWR wAppend 7 [(mTup [(mTup [(M.pure (.str "down")), (mVar 12)]), (mTup [(mVar 14), (mCall sTuple [(.dat (mVar 15))])])])])))) mSkip))) (mFrz 7 (mRet (mVar 7))))))))
def m_law_next : Fn := mkFn 18 [] b_law_next
theorem ok_law_next {f : Addr} {fd : FuncData} (T : Txt K mg C0) (c_law_first : Cal P w K mg base (cfK P w K C0 ex) 1 "_law_first" [] 2 m_law_first) (F : FunD K "_law_next" "_law_next" (defArgs s_law_next) (defBody s_law_next) (defScope s_law_next) [] [] f fd) : FnOk P w K mg base (L2.CX P w) 2 f fd ["_law_case", "_law_state"] (spM (cfK P w K C0 ex) [] 2 m_law_next) :=
  fn_ok0 (P := P) (w := w) (K := K) (mg := mg) (base := base) (c := cfK P w K C0 ex) (k := 1) (m := b_law_next) (st := s_law_next) (N := n_law_next) (ps := ["_law_case", "_law_state"]) F sc_law_next (by decide) fun cdv A outer s H E hr =>
    (pss_consM (ps_asgM (pm_var 0) (pg_any (pg_tpM rfl rfl (pgs_consM (pg_nm 2 sc_law_next.nd rfl) (pgs_consM (pg_nm 3 sc_law_next.nd rfl) (pgs_consM (pg_nm 4 sc_law_next.nd rfl) pgs_nilM)))))) (pss_consM (ps_asgM (pm_var 1) (pg_any (pg_tpM rfl rfl (pgs_consM (pg_nm 5 sc_law_next.nd rfl) (pgs_consM (pg_nm 6 sc_law_next.nd rfl) pgs_nilM))))) (pss_consM (ps_newM 7 sc_law_next.nd (pf_lst pd_nil) rfl) (pss_consM (ps_forM (passes_of rfl) rfl (pi_enumM rfl T.blt.zenumerate (pm_var 3)) (pg_tpM rfl rfl (pgs_consM (pg_nm 8 sc_law_next.nd rfl) (pgs_consM (pg_nm 9 sc_law_next.nd rfl) pgs_nilM))) (pss_consM (ps_asgM (pm_if (t_isn (po_dat (o_ix (po_dat (pm_var 6)) (po_dat (pm_var 8)))) (po_dat pm_non)) (pm_tup (pd_cons pm_str (pd_cons pm_non pd_nil))) (pm_tup (pd_cons pm_str (pd_cons (pm_cal c_law_first hr (takes_of rfl rfl rfl rfl) (pr_dat (pm_var 9) (pr_dat (pm_var 5) pr_nil))) pd_nil)))) (pg_any (pg_tpM rfl rfl (pgs_consM (pg_nm 10 sc_law_next.nd rfl) (pgs_consM (pg_nm 11 sc_law_next.nd rfl) pgs_nilM))))) (pss_oneM (ps_exprM (m_append 7 (pm_tup (pd_cons (pm_tup (pd_cons (pm_var 10) (pd_cons (pm_var 8) pd_nil))) (pd_cons (pm_tup (pd_cons (pm_var 5) (pd_cons (o_add (po_dat (o_add (po_dat (o_sl (po_dat (pm_var 6)) pp_none (pp_some (pm_var 8)))) (po_dat (pm_tup (pd_cons (pm_var 11) pd_nil))))) (po_dat (o_sl (po_dat (pm_var 6)) (pp_some (o_add (po_dat (pm_var 8)) (po_dat pm_int))) pp_none))) pd_nil))) pd_nil)))))))) (pss_consM (ps_forM (passes_of rfl) rfl (pi_range1M T.blt.zrange (pm_var 2)) (pg_nm 12 sc_law_next.nd rfl) (pss_oneM (ps_ifM (t_in hr.units (po_dat (pm_var 12)) (po_dat (pm_var 5))) (pss_oneM (ps_exprM (m_append 7 (pm_tup (pd_cons (pm_tup (pd_cons pm_str (pd_cons (pm_var 12) pd_nil))) (pd_cons (pm_tup (pd_cons (b_tuple T.blt (po_dat (pm_of_pf (pf_lc [("_law_one", 13)] rfl sc_law_next.nd (pi_seqM rfl (pm_var 5)) (blk_of (by rfl)) (by rfl) (by rfl) (fun s H C cl fp => (pg_nm 13 sc_law_next.nd rfl)) (fun s H C cl fp => (pts_oneM (t_ne hr.units (po_dat (pm_var 13)) (po_dat (pm_var 12))))) (fun s H C cl fp => (pm_var 13)))))) (pd_cons (pm_var 6) pd_nil))) pd_nil)))))) (pss_oneM (ps_ifM (t_lt (po_dat (b_len T.blt (po_dat (pm_var 5)))) (po_dat (pm_var 4))) (pss_consM (ps_asgM (b_tuple T.blt (po_dat (pm_of_pf (b_sorted T.blt (po_dat (o_add (po_dat (pm_var 5)) (po_dat (pm_tup (pd_cons (pm_var 12) pd_nil))))))))) (pg_nm 14 sc_law_next.nd rfl)) (pss_consM (ps_asgLc 15 [("_law_at", 16), ("_law_here", 17)] rfl sc_law_next.nd rfl rfl (by rfl) rfl (pi_enumM rfl T.blt.zenumerate (pm_var 6)) (blk_of (by rfl)) (by rfl) (by rfl) (fun s H C cl fp => (pg_tpM rfl rfl (pgs_consM (pg_nm 16 sc_law_next.nd rfl) (pgs_consM (pg_nm 17 sc_law_next.nd rfl) pgs_nilM)))) (fun s H C cl fp => pts_nilM) (fun s H C cl fp => (pm_if (t_eq hr.units (po_dat (pm_var 17)) (po_dat (pm_var 12))) (pm_cal c_law_first hr takes0 (pr_dat (o_ix (po_dat (pm_var 3)) (po_dat (pm_var 16))) (pr_dat (pm_var 14) pr_nil))) (pm_var 17)))) (pss_oneM (ps_exprM (m_append 7 (pm_tup (pd_cons (pm_tup (pd_cons pm_str (pd_cons (pm_var 12) pd_nil))) (pd_cons (pm_tup (pd_cons (pm_var 14) (pd_cons (b_tuple T.blt (po_dat (pm_var 15))) pd_nil))) pd_nil)))))))) pss_nilM))))) (pss_oneM (ps_frz 7 rfl (ps_retM (pm_var 7)))))))))
abbrev s_law_known : Stmt := top 27
abbrev n_law_known : List Str := ["_law_case", "_law_begun", "_law_seen", "_law_waiting", "_law_event", "_law_later", "_law_down", "_law_places"]
theorem sc_law_known : FnScope n_law_known ["_law_case"] (defScope s_law_known) := ⟨rfl, rfl, rfl, by decide +kernel, rfl, by decide +kernel, by decide +kernel⟩
def b_law_known : MS := (mSeq (mAsg (mTup [(mTup []), (mOp2 sRepT (.dat (mTup [(M.pure .non)])) (.dat (mCall sLen [(.dat (mOp2 sIx (.dat (mVar 0)) (.dat (M.pure (.int 1)))))])))]) (gNm 1)) (mSeq (mNew2 (mKd 1) (mLst [(mVar 1)]) 2 3) (mSeq (whileM (mB (mOp2 sNe (.own 3) (.dat (mLst [])))) (mFor (mSeqI (mCallF m_law_next [(.dat (mVar 0)), (.dat (mMethWR wPop 3 []))])) (gTp [4, 5]) (mIfS (mB (mOp2 sNinS (.dat (mVar 5)) (.own 2))) (mSeq (mSetS 2 (mVar 5) (M.pure (.bl true))) (mExpr (mMethWR wAppend 3 [(mVar 5)]))) mSkip)) 4096) (mRet (mLcS 2 (gTp [6, 7]) (mB (mOp2 sEq (.dat (mVar 6)) (.dat (mTup [])))) (mVar 7) [6, 7])))))
def m_law_known : Fn := mkFn 8 [] b_law_known
theorem ok_law_known {f : Addr} {fd : FuncData} (T : Txt K mg C0) (c_law_next : Cal P w K mg base (cfK P w K C0 ex) 2 "_law_next" [] 2 m_law_next) (F : FunD K "_law_known" "_law_known" (defArgs s_law_known) (defBody s_law_known) (defScope s_law_known) [] [] f fd) : FnOk P w K mg base (L2.CX P w) 3 f fd ["_law_case"] (spM (cfK P w K C0 ex) [] 1 m_law_known) :=
  fn_ok0 (P := P) (w := w) (K := K) (mg := mg) (base := base) (c := cfK P w K C0 ex) (k := 2) (m := b_law_known) (st := s_law_known) (N := n_law_known) (ps := ["_law_case"]) F sc_law_known (by decide) fun cdv A outer s H E hr =>
    (pss_consM (ps_asgM (pm_tup (pd_cons (pm_tup pd_nil) (pd_cons (o_repT (po_dat (pm_tup (pd_cons pm_non pd_nil))) (po_dat (b_len T.blt (po_dat (o_ix (po_dat (pm_var 0)) (po_dat pm_int)))))) pd_nil))) (pg_nm 1 sc_law_known.nd rfl)) (pss_consM (ps_new2 2 3 rfl sc_law_known.nd rfl rfl (pf_kd 1 hr.units) (pf_lst (pd_cons (pm_var 1) pd_nil))) (pss_consM (ps_whileM 4096 (passes_of rfl) (t_ne hr.units (po_own 3) (po_dat (pm_of_pf (pf_lst pd_nil)))) (pss_oneM (ps_forM (passes_of rfl) rfl (pi_seqM rfl (pm_cal c_law_next hr (takes_of rfl rfl rfl rfl) (pr_dat (pm_var 0) (pr_dat (m_pop 3) pr_nil)))) (pg_any (pg_tpM rfl rfl (pgs_consM (pg_nm 4 sc_law_known.nd rfl) (pgs_consM (pg_nm 5 sc_law_known.nd rfl) pgs_nilM)))) (pss_oneM (ps_ifM (t_ninS hr.units (po_dat (pm_var 5)) (po_own 2)) (pss_consM (ps_setS 2 hr.units pm_bl (pm_var 5)) (pss_oneM (ps_exprM (m_append 3 (pm_var 5))))) pss_nilM))))) (pss_oneM (ps_retM (pm_of_pf (pf_lcS 2 [("_law_down", 6), ("_law_places", 7)] rfl sc_law_known.nd (blk_of (by rfl)) (by rfl) (by rfl) (fun s H C cl fp => (pg_any (pg_tpM rfl rfl (pgs_consM (pg_nm 6 sc_law_known.nd rfl) (pgs_consM (pg_nm 7 sc_law_known.nd rfl) pgs_nilM))))) (fun s H C cl fp => (pts_oneM (t_eq hr.units (po_dat (pm_var 6)) (po_dat (pm_tup pd_nil))))) (fun s H C cl fp => (pm_var 7)))))))))
abbrev s_law_over : Stmt := top 28
abbrev n_law_over : List Str := ["_law_rows", "_law_places", "_law_session"]
theorem sc_law_over : FnScope n_law_over ["_law_rows", "_law_places", "_law_session"] (defScope s_law_over) := ⟨rfl, rfl, rfl, by decide +kernel, rfl, by decide +kernel, by decide +kernel⟩
def b_law_over : MS := (mRet (mSl sCut (.dat (mOp2 sIx (.dat (mVar 0)) (.dat (mVar 2)))) none (some (mMeth isTup sTix (.dat (mOp2 sIx (.dat (mVar 0)) (.dat (mVar 2)))) [(.dat (mOp2 sIx (.dat (mVar 1)) (.dat (mVar 2))))]))))
def m_law_over : Fn := mkFn 3 [] b_law_over
theorem ok_law_over {f : Addr} {fd : FuncData} (T : Txt K mg C0)  (F : FunD K "_law_over" "_law_over" (defArgs s_law_over) (defBody s_law_over) (defScope s_law_over) [] [] f fd) : FnOk P w K mg base (L2.CX P w) 1 f fd ["_law_rows", "_law_places", "_law_session"] (spM (cfK P w K C0 ex) [] 3 m_law_over) :=
  fn_ok0 (P := P) (w := w) (K := K) (mg := mg) (base := base) (c := cfK P w K C0 ex) (k := 0) (m := b_law_over) (st := s_law_over) (N := n_law_over) (ps := ["_law_rows", "_law_places", "_law_session"]) F sc_law_over (by decide) fun cdv A outer s H E hr =>
    (pss_oneM (ps_retM (o_sl (po_dat (o_ix (po_dat (pm_var 0)) (po_dat (pm_var 2)))) pp_none (pp_some (m_tindex (po_dat (o_ix (po_dat (pm_var 0)) (po_dat (pm_var 2)))) (po_dat (o_ix (po_dat (pm_var 1)) (po_dat (pm_var 2)))))))))
abbrev s_law_arises : Stmt := top 29
abbrev n_law_arises : List Str := ["_law_case", "_law_places", "_law_size", "_law_rows", "_law_most", "_law_left", "_law_session", "_law_server", "_law_used", "_law_held", "_law_one"]
theorem sc_law_arises : FnScope n_law_arises ["_law_case", "_law_places"] (defScope s_law_arises) := ⟨rfl, rfl, rfl, by decide +kernel, rfl, by decide +kernel, by decide +kernel⟩
def b_law_arises : MS := (mSeq (mAsg (mVar 0) (gTp [2, 3, 4])) (mSeq (mAsg (mLc (mEnum (mVar 1)) (gTp [6, 7]) (mB (mOp2 sNotN (.dat (mVar 7)) (.dat (M.pure .non)))) (mVar 6) [6, 7]) (gNm 5)) (mSeq (mIfS (mB (mOp2 sNe (.dat (mLc (mSeqI (mVar 5)) (gNm 6) (mB (mOp2 sGt (.dat (mCall sLen [(.dat (mCallF m_law_over [(.dat (mVar 3)), (.dat (mVar 1)), (.dat (mVar 6))]))])) (.dat (mVar 4)))) (mVar 6) [6])) (.dat (mLst [])))) (mRet (M.pure (.bl false))) mSkip) (mSeq (whileM (mB (mOp2 sNe (.dat (mVar 5)) (.dat (mLst [])))) (mSeq (mAsg (mLc (mSeqI (mVar 5)) (gNm 6) (M.pure true) (mOp2 sIx (.dat (mVar 1)) (.dat (mVar 6))) [6]) (gNm 8)) (mSeq (mAsg (mLc (mSeqI (mVar 5)) (gNm 10) (mB (mOp2 sNe (.dat (mLc (mSeqI (mCallF m_law_over [(.dat (mVar 3)), (.dat (mVar 1)), (.dat (mVar 10))])) (gNm 7) (mB (mOp2 sIn (.dat (mVar 7)) (.dat (mVar 8)))) (mVar 7) [7])) (.dat (mLst [])))) (mVar 10) [10]) (gNm 9)) (mSeq (mIfS (mB (mOp2 sEq (.dat (mCall sLen [(.dat (mVar 9))])) (.dat (mCall sLen [(.dat (mVar 5))])))) (mRet (M.pure (.bl false))) mSkip) (mAsg (mVar 9) (gNm 5))))) 4096) (mRet (M.pure (.bl true)))))))
def m_law_arises : Fn := mkFn 11 [] b_law_arises
theorem ok_law_arises {f : Addr} {fd : FuncData} (T : Txt K mg C0) (c_law_over : Cal P w K mg base (cfK P w K C0 ex) 1 "_law_over" [] 3 m_law_over) (F : FunD K "_law_arises" "_law_arises" (defArgs s_law_arises) (defBody s_law_arises) (defScope s_law_arises) [] [] f fd) : FnOk P w K mg base (L2.CX P w) 2 f fd ["_law_case", "_law_places"] (spM (cfK P w K C0 ex) [] 2 m_law_arises) :=
  fn_ok0 (P := P) (w := w) (K := K) (mg := mg) (base := base) (c := cfK P w K C0 ex) (k := 1) (m := b_law_arises) (st := s_law_arises) (N := n_law_arises) (ps := ["_law_case", "_law_places"]) F sc_law_arises (by decide) fun cdv A outer s H E hr =>
    (pss_consM (ps_asgM (pm_var 0) (pg_any (pg_tpM rfl rfl (pgs_consM (pg_nm 2 sc_law_arises.nd rfl) (pgs_consM (pg_nm 3 sc_law_arises.nd rfl) (pgs_consM (pg_nm 4 sc_law_arises.nd rfl) pgs_nilM)))))) (pss_consM (ps_asgLc 5 [("_law_session", 6), ("_law_server", 7)] rfl sc_law_arises.nd rfl rfl (by rfl) rfl (pi_enumM rfl T.blt.zenumerate (pm_var 1)) (blk_of (by rfl)) (by rfl) (by rfl) (fun s H C cl fp => (pg_tpM rfl rfl (pgs_consM (pg_nm 6 sc_law_arises.nd rfl) (pgs_consM (pg_nm 7 sc_law_arises.nd rfl) pgs_nilM)))) (fun s H C cl fp => (pts_oneM (t_isn (po_dat (pm_var 7)) (po_dat pm_non)))) (fun s H C cl fp => (pm_var 6))) (pss_consM (ps_ifM (t_ne hr.units (po_dat (pm_of_pf (pf_lc [("_law_session", 6)] rfl sc_law_arises.nd (pi_seqM rfl (pm_var 5)) (blk_of (by rfl)) (by rfl) (by rfl) (fun s H C cl fp => (pg_nm 6 sc_law_arises.nd rfl)) (fun s H C cl fp => (pts_oneM (t_gt (po_dat (b_len T.blt (po_dat (pm_cal c_law_over hr takes0 (pr_dat (pm_var 3) (pr_dat (pm_var 1) (pr_dat (pm_var 6) pr_nil))))))) (po_dat (pm_var 4))))) (fun s H C cl fp => (pm_var 6))))) (po_dat (pm_of_pf (pf_lst pd_nil)))) (pss_oneM (ps_retM pm_bl)) pss_nilM) (pss_consM (ps_whileM 4096 (passes_of rfl) (t_ne hr.units (po_dat (pm_var 5)) (po_dat (pm_of_pf (pf_lst pd_nil)))) (pss_consM (ps_asgM (pm_of_pf (pf_lc [("_law_session", 6)] rfl sc_law_arises.nd (pi_seqM rfl (pm_var 5)) (blk_of (by rfl)) (by rfl) (by rfl) (fun s H C cl fp => (pg_nm 6 sc_law_arises.nd rfl)) (fun s H C cl fp => pts_nilM) (fun s H C cl fp => (o_ix (po_dat (pm_var 1)) (po_dat (pm_var 6)))))) (pg_nm 8 sc_law_arises.nd rfl)) (pss_consM (ps_asgLc 9 [("_law_one", 10)] rfl sc_law_arises.nd rfl rfl (by rfl) rfl (pi_seqM rfl (pm_var 5)) (blk_of (by rfl)) (by rfl) (by rfl) (fun s H C cl fp => (pg_nm 10 sc_law_arises.nd rfl)) (fun s H C cl fp => (pts_oneM (t_ne hr.units (po_dat (pm_of_pf (pf_lc [("_law_server", 7)] rfl sc_law_arises.nd (pi_seqM rfl (pm_cal c_law_over hr takes0 (pr_dat (pm_var 3) (pr_dat (pm_var 1) (pr_dat (pm_var 10) pr_nil))))) (blk_of (by rfl)) (by rfl) (by rfl) (fun s H C cl fp => (pg_nm 7 sc_law_arises.nd rfl)) (fun s H C cl fp => (pts_oneM (t_in hr.units (po_dat (pm_var 7)) (po_dat (pm_var 8))))) (fun s H C cl fp => (pm_var 7))))) (po_dat (pm_of_pf (pf_lst pd_nil)))))) (fun s H C cl fp => (pm_var 10))) (pss_consM (ps_ifM (t_eq hr.units (po_dat (b_len T.blt (po_dat (pm_var 9)))) (po_dat (b_len T.blt (po_dat (pm_var 5))))) (pss_oneM (ps_retM pm_bl)) pss_nilM) (pss_oneM (ps_asgM (pm_var 9) (pg_nm 5 sc_law_arises.nd rfl))))))) (pss_oneM (ps_retM pm_bl))))))
abbrev s_law_near : Stmt := top 30
abbrev n_law_near : List Str := ["_law_case", "_law_session"]
theorem sc_law_near : FnScope n_law_near ["_law_case", "_law_session"] (defScope s_law_near) := ⟨rfl, rfl, rfl, by decide +kernel, rfl, by decide +kernel, by decide +kernel⟩
def b_law_near : MS := (mRet (mSl sCut (.dat (mOp2 sIx (.dat (mOp2 sIx (.dat (mVar 0)) (.dat (M.pure (.int 1))))) (.dat (mVar 1)))) none (some (mOp2 sAdd (.dat (mOp2 sIx (.dat (mVar 0)) (.dat (M.pure (.int 2))))) (.dat (M.pure (.int 1)))))))
def m_law_near : Fn := mkFn 2 [] b_law_near
theorem ok_law_near {f : Addr} {fd : FuncData} (T : Txt K mg C0)  (F : FunD K "_law_near" "_law_near" (defArgs s_law_near) (defBody s_law_near) (defScope s_law_near) [] [] f fd) : FnOk P w K mg base (L2.CX P w) 1 f fd ["_law_case", "_law_session"] (spM (cfK P w K C0 ex) [] 2 m_law_near) :=
  fn_ok0 (P := P) (w := w) (K := K) (mg := mg) (base := base) (c := cfK P w K C0 ex) (k := 0) (m := b_law_near) (st := s_law_near) (N := n_law_near) (ps := ["_law_case", "_law_session"]) F sc_law_near (by decide) fun cdv A outer s H E hr =>
    (pss_oneM (ps_retM (o_sl (po_dat (o_ix (po_dat (o_ix (po_dat (pm_var 0)) (po_dat pm_int))) (po_dat (pm_var 1)))) pp_none (pp_some (o_add (po_dat (o_ix (po_dat (pm_var 0)) (po_dat pm_int))) (po_dat pm_int))))))
abbrev s_law_drawn : Stmt := top 31
abbrev n_law_drawn : List Str := ["_law_well_here", "_law_case", "_law_size", "_law_rows", "_law_most", "_law_places", "_law_session", "_law_empty", "_law_server", "_law_down"]
theorem sc_law_drawn : FnScope n_law_drawn ["_law_well_here", "_law_case"] (defScope s_law_drawn) := ⟨rfl, rfl, rfl, by decide +kernel, rfl, by decide +kernel, by decide +kernel⟩
def b_law_drawn : MS := (mSeq (mAsg (mVar 1) (gTp [2, 3, 4])) (mSeq (mNew (mOp2 sMulL (.dat (mLst [(M.pure .non)])) (.dat (mCall sLen [(.dat (mVar 3))]))) 5) (mSeq (mFor (mSeqI (mCallF m_law_mixed [(.own 0), (.dat (mListRg (mCall sLen [(.dat (mVar 3))])))])) (gNm 6) (mSeq (mAsg (mLc (mRange1 (mVar 2)) (gNm 8) (mB (mOp2 sNin (.dat (mVar 8)) (.own 5))) (mVar 8) [8]) (gNm 7)) (mSeq (mAsg (mSl sCut (.dat (mCallF m_law_mixed [(.own 0), (.dat (mVar 7))])) none (some (mCallF m_law_take [(.own 0), (.dat (mOp2 sAdd (.dat (mVar 4)) (.dat (M.pure (.int 1)))))]))) (gNm 9)) (mSeq (mIfS (mB (mOp2 sGt (.dat (mCallF m_law_take [(.own 0), (.dat (M.pure (.int 4)))])) (.dat (M.pure (.int 0))))) (mAsg (mSl sCut (.dat (mLc (mSeqI (mOp2 sIx (.dat (mVar 3)) (.dat (mVar 6)))) (gNm 8) (mB (mOp2 sIn (.dat (mVar 8)) (.dat (mVar 7)))) (mVar 8) [8])) none (some (mCallF m_law_take [(.own 0), (.dat (mOp2 sAdd (.dat (mVar 4)) (.dat (M.pure (.int 1)))))]))) (gNm 9)) mSkip) (mSeq (mSetIx 5 (mVar 6) (mCallF m_law_first [(.dat (mOp2 sIx (.dat (mVar 3)) (.dat (mVar 6)))), (.dat (mVar 9))])) (mIfS (mB (mOp2 sEq (.dat (mCallF m_law_take [(.own 0), (.dat (M.pure (.int 9)))])) (.dat (M.pure (.int 0))))) (mSetIx 5 (mVar 6) (M.pure .non)) mSkip)))))) (mRet (mCall sTuple [(.own 5)])))))
def m_law_drawn : Fn := mkFn 10 [0] b_law_drawn
theorem ok_law_drawn {f : Addr} {fd : FuncData} (T : Txt K mg C0) (c_law_mixed : Cal P w K mg base (cfK P w K C0 ex) 2 "_law_mixed" [0] 2 m_law_mixed) (c_law_take : Cal P w K mg base (cfK P w K C0 ex) 1 "_law_take" [0] 2 m_law_take) (c_law_first : Cal P w K mg base (cfK P w K C0 ex) 1 "_law_first" [] 2 m_law_first) (F : FunD K "_law_drawn" "_law_drawn" (defArgs s_law_drawn) (defBody s_law_drawn) (defScope s_law_drawn) [] [] f fd) : FnOk P w K mg base (L2.CX P w) 3 f fd ["_law_well_here", "_law_case"] (spM (cfK P w K C0 ex) [0] 2 m_law_drawn) :=
  fn_ok1 0 (P := P) (w := w) (K := K) (mg := mg) (base := base) (c := cfK P w K C0 ex) (k := 2) (m := b_law_drawn) (st := s_law_drawn) (N := n_law_drawn) (ps := ["_law_well_here", "_law_case"]) F sc_law_drawn (by decide) (by decide) fun aR cdv A outer s H E hr =>
    (pss_consM (ps_asgM (pm_var 1) (pg_any (pg_tpM rfl rfl (pgs_consM (pg_nm 2 sc_law_drawn.nd rfl) (pgs_consM (pg_nm 3 sc_law_drawn.nd rfl) (pgs_consM (pg_nm 4 sc_law_drawn.nd rfl) pgs_nilM)))))) (pss_consM (ps_newM 5 sc_law_drawn.nd (f_mul (po_dat (pm_of_pf (pf_lst (pd_cons pm_non pd_nil)))) (po_dat (b_len T.blt (po_dat (pm_var 3))))) rfl) (pss_consM (ps_forM (passes_of rfl) rfl (pi_seqM rfl (pm_cal c_law_mixed hr (takes_of rfl rfl rfl rfl) (pr_own 0 (pr_dat (pm_of_pf (f_lrange T.blt rfl (b_len T.blt (po_dat (pm_var 3))))) pr_nil)))) (pg_nm 6 sc_law_drawn.nd rfl) (pss_consM (ps_asgM (pm_of_pf (pf_lc [("_law_server", 8)] rfl sc_law_drawn.nd (pi_range1M T.blt.zrange (pm_var 2)) (blk_of (by rfl)) (by rfl) (by rfl) (fun s H C cl fp => (pg_nm 8 sc_law_drawn.nd rfl)) (fun s H C cl fp => (pts_oneM (t_nin hr.units (po_dat (pm_var 8)) (po_own 5)))) (fun s H C cl fp => (pm_var 8)))) (pg_nm 7 sc_law_drawn.nd rfl)) (pss_consM (ps_asgM (o_sl (po_dat (pm_cal c_law_mixed hr (takes_of rfl rfl rfl rfl) (pr_own 0 (pr_dat (pm_var 7) pr_nil)))) pp_none (pp_some (pm_cal c_law_take hr (takes_of rfl rfl rfl rfl) (pr_own 0 (pr_dat (o_add (po_dat (pm_var 4)) (po_dat pm_int)) pr_nil))))) (pg_nm 9 sc_law_drawn.nd rfl)) (pss_consM (ps_ifM (t_gt (po_dat (pm_cal c_law_take hr (takes_of rfl rfl rfl rfl) (pr_own 0 (pr_dat pm_int pr_nil)))) (po_dat pm_int)) (pss_oneM (ps_asgM (o_sl (po_dat (pm_of_pf (pf_lc [("_law_server", 8)] rfl sc_law_drawn.nd (pi_seqM rfl (o_ix (po_dat (pm_var 3)) (po_dat (pm_var 6)))) (blk_of (by rfl)) (by rfl) (by rfl) (fun s H C cl fp => (pg_nm 8 sc_law_drawn.nd rfl)) (fun s H C cl fp => (pts_oneM (t_in hr.units (po_dat (pm_var 8)) (po_dat (pm_var 7))))) (fun s H C cl fp => (pm_var 8))))) pp_none (pp_some (pm_cal c_law_take hr (takes_of rfl rfl rfl rfl) (pr_own 0 (pr_dat (o_add (po_dat (pm_var 4)) (po_dat pm_int)) pr_nil))))) (pg_nm 9 sc_law_drawn.nd rfl))) pss_nilM) (pss_consM (ps_setIx 5 (pm_cal c_law_first hr (takes_of rfl rfl rfl rfl) (pr_dat (o_ix (po_dat (pm_var 3)) (po_dat (pm_var 6))) (pr_dat (pm_var 9) pr_nil))) (pm_var 6)) (pss_oneM (ps_ifM (t_eq hr.units (po_dat (pm_cal c_law_take hr (takes_of rfl rfl rfl rfl) (pr_own 0 (pr_dat pm_int pr_nil)))) (po_dat pm_int)) (pss_oneM (ps_setIx 5 pm_non (pm_var 6))) pss_nilM))))))) (pss_oneM (ps_retM (b_tuple T.blt (po_own 5)))))))
abbrev s_law_greatest_right : Stmt := top 32
abbrev n_law_greatest_right : List Str := ["_law_farm_here", "_law_case", "_law_some", "_law_told", "_law_due", "_law_session", "_law_server", "_law_shown", "_law_one"]
theorem sc_law_greatest_right : FnScope n_law_greatest_right ["_law_farm_here", "_law_case", "_law_some"] (defScope s_law_greatest_right) := ⟨rfl, rfl, rfl, by decide +kernel, rfl, by decide +kernel, by decide +kernel⟩
def b_law_greatest_right : MS := (mSeq (mAsg (mCallF m_greatest_load [(.dat (mVar 0)), (.dat (mVar 2))]) (gNm 3)) (mSeq (mAsg (M.pure (.int 0)) (gNm 4)) (mSeq (mFor (mRange1 (mCall sLen [(.dat (mOp2 sIx (.dat (mVar 1)) (.dat (M.pure (.int 1)))))])) (gNm 5) (mAsg (mOp2 sAdd (.dat (mVar 4)) (.dat (mCall sInt [(.dat (mOp2 sNe (.dat (mLc (mSeqI (mCallF m_law_near [(.dat (mVar 1)), (.dat (mVar 5))])) (gNm 6) (mB (mOp2 sIn (.dat (mVar 6)) (.dat (mVar 2)))) (mVar 6) [6])) (.dat (mLst []))))]))) (gNm 4))) (mSeq (mIfS (mOr (mNot (mB (mCall sIsi [(.dat (mVar 3)), (.dat (M.pure (.raw (.ty "tuple"))))]))) (mOr (mB (mOp2 sNe (.dat (mCall sLen [(.dat (mVar 3))])) (.dat (M.pure (.int 2))))) (mOr (mB (mOp2 sNe (.dat (mOp2 sIx (.dat (mVar 3)) (.dat (M.pure (.int 0))))) (.dat (mVar 4)))) (mB (mCall sIsi [(.dat (mOp2 sIx (.dat (mVar 3)) (.dat (M.pure (.int 0))))), (.dat (M.pure (.raw (.ty "bool"))))]))))) (mRet (M.pure (.bl false))) mSkip) (mSeq (mIfS (mOr (mNot (mB (mCall sIsi [(.dat (mOp2 sIx (.dat (mVar 3)) (.dat (M.pure (.int 1))))), (.dat (M.pure (.raw (.ty "tuple"))))]))) (mB (mOp2 sNe (.dat (mCall sLen [(.dat (mOp2 sIx (.dat (mVar 3)) (.dat (M.pure (.int 1)))))])) (.dat (mCall sLen [(.dat (mOp2 sIx (.dat (mVar 1)) (.dat (M.pure (.int 1)))))]))))) (mRet (M.pure (.bl false))) mSkip) (mSeq (mIfS (mB (mOp2 sNe (.dat (mCall sLen [(.dat (mLc (mSeqI (mOp2 sIx (.dat (mVar 3)) (.dat (M.pure (.int 1))))) (gNm 6) (mB (mOp2 sIn (.dat (mVar 6)) (.dat (mVar 2)))) (mVar 6) [6]))])) (.dat (mVar 4)))) (mRet (M.pure (.bl false))) mSkip) (mSeq (mFor (mEnum (mOp2 sIx (.dat (mVar 3)) (.dat (M.pure (.int 1))))) (gTp [5, 6]) (mSeq (mAsg (mLc (mSeqI (mOp2 sIx (.dat (mOp2 sIx (.dat (mVar 1)) (.dat (M.pure (.int 1))))) (.dat (mVar 5)))) (gNm 8) (M.pure true) (mCall sRepr [(.dat (mVar 8))]) [8]) (gNm 7)) (mIfS (mAnd (mB (mOp2 sNotN (.dat (mVar 6)) (.dat (M.pure .non)))) (mB (mOp2 sNin (.dat (mCall sRepr [(.dat (mVar 6))])) (.dat (mVar 7))))) (mRet (M.pure (.bl false))) mSkip))) (mRet (mCallF m_law_arises [(.dat (mVar 1)), (.dat (mOp2 sIx (.dat (mVar 3)) (.dat (M.pure (.int 1)))))])))))))))
def m_law_greatest_right : Fn := mkFn 9 [] b_law_greatest_right
theorem ok_law_greatest_right {f : Addr} {fd : FuncData} (T : Txt K mg C0) (c_greatest_load : Cal P w K mg base (cfK P w K C0 ex) 4 "greatest_load" [] 2 m_greatest_load) (c_law_near : Cal P w K mg base (cfK P w K C0 ex) 1 "_law_near" [] 2 m_law_near) (c_law_arises : Cal P w K mg base (cfK P w K C0 ex) 2 "_law_arises" [] 2 m_law_arises) (F : FunD K "_law_greatest_right" "_law_greatest_right" (defArgs s_law_greatest_right) (defBody s_law_greatest_right) (defScope s_law_greatest_right) [] [] f fd) : FnG P w K mg base (L2.CX P w) 5 f fd ["_law_farm_here", "_law_case", "_law_some"] (spM (cfK P w K C0 ex) [] 3 m_law_greatest_right) :=
  fn_okG0 (P := P) (w := w) (K := K) (mg := mg) (base := base) (c := cfK P w K C0 ex) (k := 4) (m := b_law_greatest_right) (st := s_law_greatest_right) (N := n_law_greatest_right) (ps := ["_law_farm_here", "_law_case", "_law_some"]) F sc_law_greatest_right (by decide) fun cdv A outer s H E gd hr =>
    (pss_consM (ps_asgM (pm_cal c_greatest_load hr (takes_of rfl rfl rfl rfl) (pr_dat (pm_var 0) (pr_dat (pm_var 2) pr_nil))) (pg_nm 3 sc_law_greatest_right.nd rfl)) (pss_consM (ps_asgM pm_int (pg_nm 4 sc_law_greatest_right.nd rfl)) (pss_consM (ps_forM (passes_of rfl) rfl (pi_range1M T.blt.zrange (b_len T.blt (po_dat (o_ix (po_dat (pm_var 1)) (po_dat pm_int))))) (pg_nm 5 sc_law_greatest_right.nd rfl) (pss_oneM (ps_asgM (o_add (po_dat (pm_var 4)) (po_dat (b_int T.blt (po_dat (o_ne hr.units (po_dat (pm_of_pf (pf_lc [("_law_server", 6)] rfl sc_law_greatest_right.nd (pi_seqM rfl (pm_cal c_law_near hr (takes_of rfl rfl rfl rfl) (pr_dat (pm_var 1) (pr_dat (pm_var 5) pr_nil)))) (blk_of (by rfl)) (by rfl) (by rfl) (fun s H C cl fp => (pg_nm 6 sc_law_greatest_right.nd rfl)) (fun s H C cl fp => (pts_oneM (t_in hr.units (po_dat (pm_var 6)) (po_dat (pm_var 2))))) (fun s H C cl fp => (pm_var 6))))) (po_dat (pm_of_pf (pf_lst pd_nil)))))))) (pg_nm 4 sc_law_greatest_right.nd rfl)))) (pss_consM (ps_ifM (t_or (pt_notM (pt_v (b_isi T.blt (po_dat (pm_var 3)) (po_dat (b_ty T.blt.ztuple PyProof.Rows.boot_tuple))))) (pw_orM (t_ne hr.units (po_dat (b_len T.blt (po_dat (pm_var 3)))) (po_dat pm_int)) (pw_orM (t_ne hr.units (po_dat (o_ix (po_dat (pm_var 3)) (po_dat pm_int))) (po_dat (pm_var 4))) (pw_and1' (pt_v (b_isi T.blt (po_dat (o_ix (po_dat (pm_var 3)) (po_dat pm_int))) (po_dat (b_ty T.blt.zbool PyProof.Rows.boot_bool)))))))) (pss_oneM (ps_retM pm_bl)) pss_nilM) (pss_consM (ps_ifM (t_or (pt_notM (pt_v (b_isi T.blt (po_dat (o_ix (po_dat (pm_var 3)) (po_dat pm_int))) (po_dat (b_ty T.blt.ztuple PyProof.Rows.boot_tuple))))) (pw_and1' (t_ne hr.units (po_dat (b_len T.blt (po_dat (o_ix (po_dat (pm_var 3)) (po_dat pm_int))))) (po_dat (b_len T.blt (po_dat (o_ix (po_dat (pm_var 1)) (po_dat pm_int)))))))) (pss_oneM (ps_retM pm_bl)) pss_nilM) (pss_consM (ps_ifM (t_ne hr.units (po_dat (b_len T.blt (po_dat (pm_of_pf (pf_lc [("_law_server", 6)] rfl sc_law_greatest_right.nd (pi_seqM rfl (o_ix (po_dat (pm_var 3)) (po_dat pm_int))) (blk_of (by rfl)) (by rfl) (by rfl) (fun s H C cl fp => (pg_nm 6 sc_law_greatest_right.nd rfl)) (fun s H C cl fp => (pts_oneM (t_in hr.units (po_dat (pm_var 6)) (po_dat (pm_var 2))))) (fun s H C cl fp => (pm_var 6))))))) (po_dat (pm_var 4))) (pss_oneM (ps_retM pm_bl)) pss_nilM) (pss_consM (ps_forM (passes_of rfl) rfl (pi_enumM rfl T.blt.zenumerate (o_ix (po_dat (pm_var 3)) (po_dat pm_int))) (pg_tpM rfl rfl (pgs_consM (pg_nm 5 sc_law_greatest_right.nd rfl) (pgs_consM (pg_nm 6 sc_law_greatest_right.nd rfl) pgs_nilM))) (pss_consM (ps_asgLc 7 [("_law_one", 8)] rfl sc_law_greatest_right.nd rfl rfl (by rfl) rfl (pi_seqM rfl (o_ix (po_dat (o_ix (po_dat (pm_var 1)) (po_dat pm_int))) (po_dat (pm_var 5)))) (blk_of (by rfl)) (by rfl) (by rfl) (fun s H C cl fp => (pg_nm 8 sc_law_greatest_right.nd rfl)) (fun s H C cl fp => pts_nilM) (fun s H C cl fp => (b_repr gd T.zrepr hr.units (po_dat (pm_var 8))))) (pss_oneM (ps_ifM (t_and (t_isn (po_dat (pm_var 6)) (po_dat pm_non)) (pw_and1' (t_nin hr.units (po_dat (b_repr gd T.zrepr hr.units (po_dat (pm_var 6)))) (po_dat (pm_var 7))))) (pss_oneM (ps_retM pm_bl)) pss_nilM)))) (pss_oneM (ps_retM (pm_cal c_law_arises hr (takes_of rfl rfl rfl rfl) (pr_dat (pm_var 1) (pr_dat (o_ix (po_dat (pm_var 3)) (po_dat pm_int)) pr_nil))))))))))))
abbrev s_law_right : Stmt := top 33
abbrev n_law_right : List Str := ["_law_well_here", "_law_case", "_law_farm_here", "_law_places", "_law_told", "_law_server", "_law_loose", "_law_row", "_law_turn", "_law_some", "_law_known_here", "_law_most"]
theorem sc_law_right : FnScope n_law_right ["_law_well_here"] (defScope s_law_right) := ⟨rfl, rfl, rfl, by decide +kernel, rfl, by decide +kernel, by decide +kernel⟩
def b_law_right : MS := (mSeq (mAsg (mCallF m_law_farm [(.own 0), (.dat (M.pure (.int 30))), (.dat (mOp2 sIx (.dat (mLst [(M.pure (.int 60)), (M.pure (.int 20))])) (.dat (mCallF m_law_take [(.own 0), (.dat (M.pure (.int 2)))])))), (.dat (M.pure (.int 6)))]) (gNm 1)) (mSeq (mAsg (mMake m_Farmdd_initdd [(mOp2 sIx (.dat (mVar 1)) (.dat (M.pure (.int 0)))), (mCall sList [(.dat (mOp2 sIx (.dat (mVar 1)) (.dat (M.pure (.int 1)))))]), (mOp2 sIx (.dat (mVar 1)) (.dat (M.pure (.int 2))))]) (gNm 2)) (mSeq (mAsg (mCallF m_law_drawn [(.own 0), (.dat (mVar 1))]) (gNm 3)) (mSeq (mNew (mCallF mf_loads [(.dat (mVar 2)), (.dat (mVar 3))]) 4) (mSeq (mIfS (mB (mOp2 sNe (.own 4) (.dat (mLc (mRange1 (mOp2 sIx (.dat (mVar 1)) (.dat (M.pure (.int 0))))) (gNm 5) (M.pure true) (mMeth isTup sTcount (.dat (mVar 3)) [(.dat (mVar 5))]) [5])))) (mRet (M.pure (.bl false))) mSkip) (mSeq (mExpr (mMethWR wClear 4 [])) (mSeq (mIfS (mB (mOp2 sNe (.dat (mCallF m_loads [(.dat (mVar 2)), (.dat (mVar 3))])) (.dat (mLc (mRange1 (mOp2 sIx (.dat (mVar 1)) (.dat (M.pure (.int 0))))) (gNm 5) (M.pure true) (mMeth isTup sTcount (.dat (mVar 3)) [(.dat (mVar 5))]) [5])))) (mRet (M.pure (.bl false))) mSkip) (mSeq (mAsg (mCall sTuple [(.dat (mLc (mSeqI (mOp2 sIx (.dat (mVar 1)) (.dat (M.pure (.int 1))))) (gNm 7) (M.pure true) (mOp2 sIx (.dat (mOp2 sAdd (.dat (mLst [(M.pure .non)])) (.dat (mCall sList [(.dat (mVar 7))])))) (.dat (mCallF m_law_take [(.own 0), (.dat (mOp2 sAdd (.dat (mCall sLen [(.dat (mVar 7))])) (.dat (M.pure (.int 1)))))]))) [7]))]) (gNm 6)) (mSeq (mIfS (mB (mOp2 sNe (.dat (mCallF m_loads [(.dat (mVar 2)), (.dat (mVar 6))])) (.dat (mLc (mRange1 (mOp2 sIx (.dat (mVar 1)) (.dat (M.pure (.int 0))))) (gNm 5) (M.pure true) (mMeth isTup sTcount (.dat (mVar 6)) [(.dat (mVar 5))]) [5])))) (mRet (M.pure (.bl false))) mSkip) (mSeq (mFor (mRange1 (M.pure (.int 4))) (gNm 8) (mSeq (mAsg (mCall sTuple [(.dat (mSl sCut (.dat (mCallF m_law_mixed [(.own 0), (.dat (mListRg (mOp2 sIx (.dat (mVar 1)) (.dat (M.pure (.int 0))))))])) none (some (mCallF m_law_take [(.own 0), (.dat (M.pure (.int 5)))]))))]) (gNm 9)) (mIfS (mNot (mB (mCallF m_law_greatest_right [(.dat (mVar 2)), (.dat (mVar 1)), (.dat (mVar 9))]))) (mRet (M.pure (.bl false))) mSkip))) (mSeq (mAsg (mCallF m_law_farm [(.own 0), (.dat (M.pure (.int 3))), (.dat (M.pure (.int 3))), (.dat (M.pure (.int 3)))]) (gNm 1)) (mSeq (mAsg (mMake m_Farmdd_initdd [(mOp2 sIx (.dat (mVar 1)) (.dat (M.pure (.int 0)))), (mCall sList [(.dat (mOp2 sIx (.dat (mVar 1)) (.dat (M.pure (.int 1)))))]), (mOp2 sIx (.dat (mVar 1)) (.dat (M.pure (.int 2))))]) (gNm 2)) (mSeq (mAsg (mCall sTuple [(.dat (mSl sCut (.dat (mCallF m_law_mixed [(.own 0), (.dat (mListRg (mOp2 sIx (.dat (mVar 1)) (.dat (M.pure (.int 0))))))])) none (some (mCallF m_law_take [(.own 0), (.dat (M.pure (.int 4)))]))))]) (gNm 9)) (mSeq (mAsg (mCallF m_law_known [(.dat (mVar 1))]) (gNm 10)) (mSeq (mAsg (mCall sMax [(.dat (mLc (mSeqI (mVar 10)) (gNm 3) (M.pure true) (mCall sLen [(.dat (mLc (mSeqI (mVar 3)) (gNm 5) (mB (mOp2 sIn (.dat (mVar 5)) (.dat (mVar 9)))) (mVar 5) [5]))]) [3]))]) (gNm 11)) (mRet (mAndV (mCallF m_law_greatest_right [(.dat (mVar 2)), (.dat (mVar 1)), (.dat (mVar 9))]) (mOp2 sEq (.dat (mOp2 sIx (.dat (mCallF m_greatest_load [(.dat (mVar 2)), (.dat (mVar 9))])) (.dat (M.pure (.int 0))))) (.dat (mVar 11))))))))))))))))))))
def m_law_right : Fn := mkFn 12 [0] b_law_right
theorem ok_law_right {f : Addr} {fd : FuncData} (T : Txt K mg C0) (c_law_farm : Cal P w K mg base (cfK P w K C0 ex) 3 "_law_farm" [0] 4 m_law_farm) (c_law_take : Cal P w K mg base (cfK P w K C0 ex) 1 "_law_take" [0] 2 m_law_take) (c_Farm : CalM P w K mg base (cfK P w K C0 ex) 4 "Farm" 4 m_Farmdd_initdd) (c_law_drawn : Cal P w K mg base (cfK P w K C0 ex) 3 "_law_drawn" [0] 2 m_law_drawn) (r_loads : CalR P w K mg base (cfK P w K C0 ex) 4 "loads" [] 2 mf_loads) (c_loads : Cal P w K mg base (cfK P w K C0 ex) 4 "loads" [] 2 m_loads) (c_law_mixed : Cal P w K mg base (cfK P w K C0 ex) 2 "_law_mixed" [0] 2 m_law_mixed) (c_law_greatest_right : CalG P w K mg base (cfK P w K C0 ex) 5 "_law_greatest_right" [] 3 m_law_greatest_right) (c_law_known : Cal P w K mg base (cfK P w K C0 ex) 3 "_law_known" [] 1 m_law_known) (c_greatest_load : Cal P w K mg base (cfK P w K C0 ex) 4 "greatest_load" [] 2 m_greatest_load) (F : FunD K "_law_right" "_law_right" (defArgs s_law_right) (defBody s_law_right) (defScope s_law_right) [] [] f fd) : FnG P w K mg base (L2.CX P w) 6 f fd ["_law_well_here"] (spM (cfK P w K C0 ex) [0] 1 m_law_right) :=
  fn_okG1 0 (P := P) (w := w) (K := K) (mg := mg) (base := base) (c := cfK P w K C0 ex) (k := 5) (m := b_law_right) (st := s_law_right) (N := n_law_right) (ps := ["_law_well_here"]) F sc_law_right (by decide) (by decide) fun aR cdv A outer s H E gd hr =>
    (pss_consM (ps_asgM (pm_cal c_law_farm hr (takes_of rfl rfl rfl rfl) (pr_own 0 (pr_dat pm_int (pr_dat (o_ix (po_dat (pm_of_pf (pf_lst (pd_cons pm_int (pd_cons pm_int pd_nil))))) (po_dat (pm_cal c_law_take hr (takes_of rfl rfl rfl rfl) (pr_own 0 (pr_dat pm_int pr_nil))))) (pr_dat pm_int pr_nil))))) (pg_nm 1 sc_law_right.nd rfl)) (pss_consM (ps_asgM (pm_calM c_Farm hr (takes_of rfl rfl rfl rfl) (pd_cons (o_ix (po_dat (pm_var 1)) (po_dat pm_int)) (pd_cons (pm_of_pf (b_list T.blt (po_dat (o_ix (po_dat (pm_var 1)) (po_dat pm_int))))) (pd_cons (o_ix (po_dat (pm_var 1)) (po_dat pm_int)) pd_nil)))) (pg_nm 2 sc_law_right.nd rfl)) (pss_consM (ps_asgM (pm_cal c_law_drawn hr (takes_of rfl rfl rfl rfl) (pr_own 0 (pr_dat (pm_var 1) pr_nil))) (pg_nm 3 sc_law_right.nd rfl)) (pss_consM (ps_newM 4 sc_law_right.nd (pf_calR r_loads hr (takes_of rfl rfl rfl rfl) (pr_dat (pm_var 2) (pr_dat (pm_var 3) pr_nil))) rfl) (pss_consM (ps_ifM (t_ne hr.units (po_own 4) (po_dat (pm_of_pf (pf_lc [("_law_server", 5)] rfl sc_law_right.nd (pi_range1M T.blt.zrange (o_ix (po_dat (pm_var 1)) (po_dat pm_int))) (blk_of (by rfl)) (by rfl) (by rfl) (fun s H C cl fp => (pg_nm 5 sc_law_right.nd rfl)) (fun s H C cl fp => pts_nilM) (fun s H C cl fp => (m_tcount (po_dat (pm_var 3)) (po_dat (pm_var 5)))))))) (pss_oneM (ps_retM pm_bl)) pss_nilM) (pss_consM (ps_exprM (m_clear 4)) (pss_consM (ps_ifM (t_ne hr.units (po_dat (pm_cal c_loads hr (takes_of rfl rfl rfl rfl) (pr_dat (pm_var 2) (pr_dat (pm_var 3) pr_nil)))) (po_dat (pm_of_pf (pf_lc [("_law_server", 5)] rfl sc_law_right.nd (pi_range1M T.blt.zrange (o_ix (po_dat (pm_var 1)) (po_dat pm_int))) (blk_of (by rfl)) (by rfl) (by rfl) (fun s H C cl fp => (pg_nm 5 sc_law_right.nd rfl)) (fun s H C cl fp => pts_nilM) (fun s H C cl fp => (m_tcount (po_dat (pm_var 3)) (po_dat (pm_var 5)))))))) (pss_oneM (ps_retM pm_bl)) pss_nilM) (pss_consM (ps_asgM (b_tuple T.blt (po_dat (pm_of_pf (pf_lc [("_law_row", 7)] rfl sc_law_right.nd (pi_seqM rfl (o_ix (po_dat (pm_var 1)) (po_dat pm_int))) (blk_of (by rfl)) (by rfl) (by rfl) (fun s H C cl fp => (pg_nm 7 sc_law_right.nd rfl)) (fun s H C cl fp => pts_nilM) (fun s H C cl fp => (o_ix (po_dat (o_add (po_dat (pm_of_pf (pf_lst (pd_cons pm_non pd_nil)))) (po_dat (pm_of_pf (b_list T.blt (po_dat (pm_var 7))))))) (po_dat (pm_cal c_law_take hr takes0 (pr_own 0 (pr_dat (o_add (po_dat (b_len T.blt (po_dat (pm_var 7)))) (po_dat pm_int)) pr_nil)))))))))) (pg_nm 6 sc_law_right.nd rfl)) (pss_consM (ps_ifM (t_ne hr.units (po_dat (pm_cal c_loads hr (takes_of rfl rfl rfl rfl) (pr_dat (pm_var 2) (pr_dat (pm_var 6) pr_nil)))) (po_dat (pm_of_pf (pf_lc [("_law_server", 5)] rfl sc_law_right.nd (pi_range1M T.blt.zrange (o_ix (po_dat (pm_var 1)) (po_dat pm_int))) (blk_of (by rfl)) (by rfl) (by rfl) (fun s H C cl fp => (pg_nm 5 sc_law_right.nd rfl)) (fun s H C cl fp => pts_nilM) (fun s H C cl fp => (m_tcount (po_dat (pm_var 6)) (po_dat (pm_var 5)))))))) (pss_oneM (ps_retM pm_bl)) pss_nilM) (pss_consM (ps_forM (passes_of rfl) rfl (pi_range1M T.blt.zrange pm_int) (pg_nm 8 sc_law_right.nd rfl) (pss_consM (ps_asgM (b_tuple T.blt (po_dat (o_sl (po_dat (pm_cal c_law_mixed hr (takes_of rfl rfl rfl rfl) (pr_own 0 (pr_dat (pm_of_pf (f_lrange T.blt rfl (o_ix (po_dat (pm_var 1)) (po_dat pm_int)))) pr_nil)))) pp_none (pp_some (pm_cal c_law_take hr (takes_of rfl rfl rfl rfl) (pr_own 0 (pr_dat pm_int pr_nil))))))) (pg_nm 9 sc_law_right.nd rfl)) (pss_oneM (ps_ifM (pt_notM (pt_v (pm_calG gd c_law_greatest_right hr (takes_of rfl rfl rfl rfl) (pr_dat (pm_var 2) (pr_dat (pm_var 1) (pr_dat (pm_var 9) pr_nil)))))) (pss_oneM (ps_retM pm_bl)) pss_nilM)))) (pss_consM (ps_asgM (pm_cal c_law_farm hr (takes_of rfl rfl rfl rfl) (pr_own 0 (pr_dat pm_int (pr_dat pm_int (pr_dat pm_int pr_nil))))) (pg_nm 1 sc_law_right.nd rfl)) (pss_consM (ps_asgM (pm_calM c_Farm hr (takes_of rfl rfl rfl rfl) (pd_cons (o_ix (po_dat (pm_var 1)) (po_dat pm_int)) (pd_cons (pm_of_pf (b_list T.blt (po_dat (o_ix (po_dat (pm_var 1)) (po_dat pm_int))))) (pd_cons (o_ix (po_dat (pm_var 1)) (po_dat pm_int)) pd_nil)))) (pg_nm 2 sc_law_right.nd rfl)) (pss_consM (ps_asgM (b_tuple T.blt (po_dat (o_sl (po_dat (pm_cal c_law_mixed hr (takes_of rfl rfl rfl rfl) (pr_own 0 (pr_dat (pm_of_pf (f_lrange T.blt rfl (o_ix (po_dat (pm_var 1)) (po_dat pm_int)))) pr_nil)))) pp_none (pp_some (pm_cal c_law_take hr (takes_of rfl rfl rfl rfl) (pr_own 0 (pr_dat pm_int pr_nil))))))) (pg_nm 9 sc_law_right.nd rfl)) (pss_consM (ps_asgM (pm_cal c_law_known hr (takes_of rfl rfl rfl rfl) (pr_dat (pm_var 1) pr_nil)) (pg_nm 10 sc_law_right.nd rfl)) (pss_consM (ps_asgM (b_max T.blt rfl (pa_consO (po_dat (pm_of_pf (pf_lc [("_law_places", 3)] rfl sc_law_right.nd (pi_seqM rfl (pm_var 10)) (blk_of (by rfl)) (by rfl) (by rfl) (fun s H C cl fp => (pg_nm 3 sc_law_right.nd rfl)) (fun s H C cl fp => pts_nilM) (fun s H C cl fp => (b_len T.blt (po_dat (pm_of_pf (pf_lc [("_law_server", 5)] rfl sc_law_right.nd (pi_seqM rfl (pm_var 3)) (blk_of (by rfl)) (by rfl) (by rfl) (fun s H C cl fp => (pg_nm 5 sc_law_right.nd rfl)) (fun s H C cl fp => (pts_oneM (t_in hr.units (po_dat (pm_var 5)) (po_dat (pm_var 9))))) (fun s H C cl fp => (pm_var 5)))))))))) pa_nilO)) (pg_nm 11 sc_law_right.nd rfl)) (pss_oneM (ps_retM (pm_andV (pm_calG gd c_law_greatest_right hr (takes_of rfl rfl rfl rfl) (pr_dat (pm_var 2) (pr_dat (pm_var 1) (pr_dat (pm_var 9) pr_nil)))) (pm_oneV (o_eq hr.units (po_dat (o_ix (po_dat (pm_cal c_greatest_load hr (takes_of rfl rfl rfl rfl) (pr_dat (pm_var 2) (pr_dat (pm_var 9) pr_nil)))) (po_dat pm_int))) (po_dat (pm_var 11))))))))))))))))))))))
abbrev s_law : Stmt := top 34
abbrev n_law : List Str := ["_law_script", "_law_turn", "_law_cell"]
theorem sc_law : FnScope n_law ["_law_script"] (defScope s_law) := ⟨rfl, rfl, rfl, by decide +kernel, rfl, by decide +kernel, by decide +kernel⟩
def b_law : MS := (mSeq (mFor (mEnum (mSl sCut (.dat (mOp2 sAdd (.dat (mVar 0)) (.dat (mLst [(M.pure (.int 0))])))) none (some (M.pure (.int 4))))) (gTp [1, 2]) (mIfS (mNot (mB (mCallN m_law_right (mCallF mf_law_well [(.dat (mVar 2)), (.dat (mVar 1))]) []))) (mRet (M.pure (.bl false))) mSkip)) (mRet (mOp2 sEq (.dat (mOp2 sIx (.dat (mCallF m_greatest_load [(.dat (mMake m_Farmdd_initdd [(M.pure (.int 2)), (mLst [(mTup [(M.pure (.int 0)), (M.pure (.int 1))]), (mTup [(M.pure (.int 1)), (M.pure (.int 0))]), (mTup [(M.pure (.int 1))])]), (M.pure (.int 1))])), (.dat (mTup [(M.pure (.int 0))]))])) (.dat (M.pure (.int 0))))) (.dat (M.pure (.int 2))))))
def m_law : Fn := mkFn 3 [] b_law
theorem ok_law {f : Addr} {fd : FuncData} (T : Txt K mg C0) (c_law_right : CalG P w K mg base (cfK P w K C0 ex) 6 "_law_right" [0] 1 m_law_right) (r_law_well : CalR P w K mg base (cfK P w K C0 ex) 1 "_law_well" [] 2 mf_law_well) (c_greatest_load : Cal P w K mg base (cfK P w K C0 ex) 4 "greatest_load" [] 2 m_greatest_load) (c_Farm : CalM P w K mg base (cfK P w K C0 ex) 4 "Farm" 4 m_Farmdd_initdd) (F : FunD K "law" "law" (defArgs s_law) (defBody s_law) (defScope s_law) [] [] f fd) : FnG P w K mg base (L2.CX P w) 7 f fd ["_law_script"] (spM (cfK P w K C0 ex) [] 1 m_law) :=
  fn_okG0 (P := P) (w := w) (K := K) (mg := mg) (base := base) (c := cfK P w K C0 ex) (k := 6) (m := b_law) (st := s_law) (N := n_law) (ps := ["_law_script"]) F sc_law (by decide) fun cdv A outer s H E gd hr =>
    (pss_consM (ps_forM (passes_of rfl) rfl (pi_enumM rfl T.blt.zenumerate (o_sl (po_dat (o_add (po_dat (pm_var 0)) (po_dat (pm_of_pf (pf_lst (pd_cons pm_int pd_nil)))))) pp_none (pp_some pm_int))) (pg_tpM rfl rfl (pgs_consM (pg_nm 1 sc_law.nd rfl) (pgs_consM (pg_nm 2 sc_law.nd rfl) pgs_nilM))) (pss_oneM (ps_ifM (pt_notM (pt_v (pm_calNG gd c_law_right hr (takes_of rfl rfl rfl rfl) (pf_calR r_law_well hr (takes_of rfl rfl rfl rfl) (pr_dat (pm_var 2) (pr_dat (pm_var 1) pr_nil))) pd_nil))) (pss_oneM (ps_retM pm_bl)) pss_nilM))) (pss_oneM (ps_retM (o_eq hr.units (po_dat (o_ix (po_dat (pm_cal c_greatest_load hr (takes_of rfl rfl rfl rfl) (pr_dat (pm_calM c_Farm hr (takes_of rfl rfl rfl rfl) (pd_cons pm_int (pd_cons (pm_of_pf (pf_lst (pd_cons (pm_tup (pd_cons pm_int (pd_cons pm_int pd_nil))) (pd_cons (pm_tup (pd_cons pm_int (pd_cons pm_int pd_nil))) (pd_cons (pm_tup (pd_cons pm_int pd_nil)) pd_nil))))) (pd_cons pm_int pd_nil)))) (pr_dat (pm_tup (pd_cons pm_int pd_nil)) pr_nil)))) (po_dat pm_int))) (po_dat pm_int)))))
end
end Fx
set_option Elab.async false
set_option linter.all false
set_option maxRecDepth 100000
set_option maxHeartbeats 1000000
namespace Fx
/-- each of S has a next one in S -/
def Cl (R : Int → Int → Prop) (S : List Int) : Prop := ∀ s ∈ S, ∃ o ∈ S, R s o
/-- no such set among l, except for the empty one -/
def NoCore (R : Int → Int → Prop) (l : List Int) : Prop := ∀ S : List Int, (∀ s ∈ S, s ∈ l) → Cl R S → S = []
/-- what is left holds all that can't be peeled -/
def Keeps (R : Int → Int → Prop) (M l : List Int) : Prop := (∀ s ∈ l, s ∈ M) ∧ ∀ S : List Int, (∀ s ∈ S, s ∈ M) → Cl R S → ∀ s ∈ S, s ∈ l
theorem Keeps.start {R : Int → Int → Prop} {M : List Int} : Keeps R M M := ⟨fun _ h => h, fun _ h _ => h⟩
theorem Keeps.step {R : Int → Int → Prop} {M l l' : List Int} (h : Keeps R M l) (h' : ∀ s, s ∈ l' ↔ s ∈ l ∧ ∃ o ∈ l, R s o) : Keeps R M l' := by
  refine ⟨fun s hs => h.1 s ((h' s).mp hs).1, fun S hS hc s hs => (h' s).mpr ⟨h.2 S hS hc s hs, ?_⟩⟩
  obtain ⟨o, ho, r⟩ := hc s hs
  exact ⟨o, h.2 S hS hc o ho, r⟩
theorem Keeps.empty {R : Int → Int → Prop} {M : List Int} (h : Keeps R M []) : NoCore R M := fun S hS hc => by
  cases S with
  | nil => rfl
  | cons s S => exact nomatch h.2 _ hS hc s List.mem_cons_self
/-- pigeons -/
theorem pigeon : ∀ (l m : List Int), l.Nodup → (∀ x ∈ l, x ∈ m) → l.length ≤ m.length
  | [], m, _, _ => Nat.zero_le _
  | a :: l, m, hn, h => by
    obtain ⟨h1, h2⟩ := List.nodup_cons.mp hn
    have ha : a ∈ m := h a List.mem_cons_self
    have := pigeon l (m.erase a) h2 fun x hx => (List.mem_erase_of_ne (fun e => h1 (by rw [← e]; exact hx))).mpr (h x (List.mem_cons_of_mem _ hx))
    rw [List.length_erase_of_mem ha] at this
    have hp := List.length_pos_of_mem ha
    rw [List.length_cons]
    omega
end Fx
set_option Elab.async false
set_option linter.all false
set_option maxRecDepth 100000
set_option maxHeartbeats 1000000
namespace Fx
open PySem L2
section
def rowD (r : List Int) : D := .tup (r.map .int)
def farmD (n : Int) (rows : List (List Int)) (t : Int) : D := .rcd ["many", "rows", "most"] [.int n, .tup (rows.map rowD), .int t]
def optD : Option Int → D
  | none => .non
  | some i => .int i
def plcD (p : List (Option Int)) : D := .tup (p.map optD)
theorem kit_int : kitB "int" "int" = some true := by decide
theorem kit_ib : kitB "int" "bool" = some false := by decide
theorem kit_tt : kitB "tuple" "tuple" = some true := by decide
theorem kit_ll : kitB "list" "list" = some true := by decide
theorem lay_ints : ∀ l : List Int, PyData.canLayAll0 (toPys (l.map .int)) = true
  | [] => by simp [toPys, PyData.canLayAll0]
  | a :: l => by simp [toPys, toPy, PyData.canLayAll0, PyData.canLay0, lay_ints l]
theorem dep_ints : ∀ l : List Int, PyData.depthAll (toPys (l.map .int)) = 0
  | [] => by simp [toPys, PyData.depthAll]
  | a :: l => by simp [toPys, toPy, PyData.depthAll, PyData.depth, dep_ints l]
theorem eqv_ints : ∀ l m : List Int, PyData.eqvAll (toPys (l.map .int)) (toPys (m.map .int)) = decide (l = m)
  | [], [] => by simp [toPys, PyData.eqvAll]
  | [], _ :: _ => by simp [toPys, PyData.eqvAll]
  | _ :: _, [] => by simp [toPys, PyData.eqvAll]
  | a :: l, b :: m => by
    simp only [List.map_cons, toPys, toPy, PyData.eqvAll, PyData.eqv, eqv_ints l m, List.cons.injEq]
    by_cases h : a = b <;> by_cases k : l = m <;> simp [h, k]
theorem sEq_tup (l m : List Int) : sEq (.tup (l.map .int)) (.tup (m.map .int)) = some (.bl (decide (l = m))) := by
  simp [sEq, plain, toPy, PyData.canLay0, lay_ints, PyData.depth, dep_ints, eqD, PyData.eqv, eqv_ints]
theorem sEq_lst (l m : List Int) : sEq (.lst (l.map .int)) (.lst (m.map .int)) = some (.bl (decide (l = m))) := by
  simp [sEq, plain, toPy, PyData.canLay0, lay_ints, PyData.depth, dep_ints, eqD, PyData.eqv, eqv_ints]
theorem sNe_lst (l m : List Int) : sNe (.lst (l.map .int)) (.lst (m.map .int)) = some (.bl (!decide (l = m))) := by
  simp [sNe, plain, toPy, PyData.canLay0, lay_ints, PyData.depth, dep_ints, eqD, PyData.eqv, eqv_ints]
theorem sEq_int (a b : Int) : sEq (.int a) (.int b) = some (.bl (decide (a = b))) := by
  simp [sEq, plain, toPy, PyData.canLay0, PyData.depth, eqD, PyData.eqv]
  rfl
theorem sNe_int (a b : Int) : sNe (.int a) (.int b) = some (.bl (!decide (a = b))) := by
  simp [sNe, plain, toPy, PyData.canLay0, PyData.depth, eqD, PyData.eqv]
  rfl
theorem eqD_int (a b : Int) : eqD (.int a) (.int b) = decide (a = b) := by
  simp [eqD, toPy, PyData.eqv]
  rfl
theorem inD_ints (a : Int) : ∀ l : List Int, inD (.int a) (l.map .int) = decide (a ∈ l)
  | [] => by simp [inD]
  | b :: l => by
    have h := inD_ints a l
    simp only [inD, List.map_cons, List.any_cons] at h ⊢
    rw [h, eqD_int]
    by_cases e : b = a
    · simp [e]
    · have e2 : ¬ a = b := fun z => e z.symm
      simp [e, e2]
theorem sIn_tup (a : Int) (l : List Int) : sIn (.int a) (.tup (l.map .int)) = some (.bl (decide (a ∈ l))) := by
  simp [sIn, itemsOf, plain, toPy, PyData.canLay0, lay_ints, dep_ints, PyData.depth, inD_ints]
theorem sIn_lst (a : Int) (l : List Int) : sIn (.int a) (.lst (l.map .int)) = some (.bl (decide (a ∈ l))) := by
  simp [sIn, itemsOf, plain, toPy, PyData.canLay0, lay_ints, dep_ints, PyData.depth, inD_ints]
theorem sNin_tup (a : Int) (l : List Int) : sNin (.int a) (.tup (l.map .int)) = some (.bl (!decide (a ∈ l))) := by
  simp [sNin, itemsOf, plain, toPy, PyData.canLay0, lay_ints, dep_ints, PyData.depth, inD_ints]
theorem sNin_lst (a : Int) (l : List Int) : sNin (.int a) (.lst (l.map .int)) = some (.bl (!decide (a ∈ l))) := by
  simp [sNin, itemsOf, plain, toPy, PyData.canLay0, lay_ints, dep_ints, PyData.depth, inD_ints]
theorem e_is_int (v : Int) : m_is_int [.int v] = .ret (.bl true) [] := by
  simp [m_is_int, b_is_int, mkFn, mSeq, mIfS, mDo, mRet, mRetN, mSkip, mExpr, mAsg, mAnd, mOr, mNot, mAndV, mOrV, mNotV, mB, mIf, mV, mNeg, mCall, mOp2, mTup, mLst, mMeth, mSl, mPart, preL, seqM, M.bind, M.pure, M.lift, M.stuck, Out.andThen, mVar, Opn.pre, Opn.rd, rdM, rdLM, rdL, cellD, initC, initAt, outsOf, outAt, gNm, gTp, gNms, mNew, mFrz, mPar, mFld, mCallF, mCallK, mCallN, appF, rdA, setOuts, ownSlots, ownPos, mSeqI, mEnum, mRange1, itemsOf, sIsi, tyName, kit_int, kit_ib]
theorem e_is_from (v lo hi : Int) : m_is_from [.int v, .int lo, .int hi] = .ret (.bl (decide (lo ≤ v) && decide (v ≤ hi))) [] := by
  by_cases h1 : lo ≤ v <;> simp [m_is_from, b_is_from, mkFn, mSeq, mIfS, mDo, mRet, mRetN, mSkip, mExpr, mAsg, mAnd, mOr, mNot, mAndV, mOrV, mNotV, mB, mIf, mV, mNeg, mCall, mOp2, mTup, mLst, mMeth, mSl, mPart, preL, seqM, M.bind, M.pure, M.lift, M.stuck, Out.andThen, mVar, Opn.pre, Opn.rd, rdM, rdLM, rdL, cellD, initC, initAt, outsOf, outAt, gNm, gTp, gNms, mNew, mFrz, mPar, mFld, mCallF, mCallK, mCallN, appF, rdA, setOuts, ownSlots, ownPos, mSeqI, mEnum, mRange1, itemsOf, e_is_int, mChain, sLe, h1]
theorem lk_many {a b d : D} : List.lookup ("many" : Str) [(("many" : Str), a), (("rows" : Str), b), (("most" : Str), d)] = some a := by rfl
theorem lk_rows {a b d : D} : List.lookup ("rows" : Str) [(("many" : Str), a), (("rows" : Str), b), (("most" : Str), d)] = some b := by
  have h : (("rows" : Str) == ("many" : Str)) = false := by decide
  simp [List.lookup, h]
theorem e_len (n : Int) (rows : List (List Int)) (t : Int) : m_Farmdd_lendd [farmD n rows t] = .ret (.int rows.length) [] := by
  simp [m_Farmdd_lendd, b_Farmdd_lendd, mkFn, mSeq, mIfS, mDo, mRet, mRetN, mSkip, mExpr, mAsg, mAnd, mOr, mNot, mAndV, mOrV, mNotV, mB, mIf, mV, mNeg, mCall, mOp2, mTup, mLst, mMeth, mSl, mPart, preL, seqM, M.bind, M.pure, M.lift, M.stuck, Out.andThen, mVar, Opn.pre, Opn.rd, rdM, rdLM, rdL, cellD, initC, initAt, outsOf, outAt, gNm, gTp, gNms, mNew, mFrz, mPar, mFld, mCallF, mCallK, mCallN, appF, rdA, setOuts, ownSlots, ownPos, mSeqI, mEnum, mRange1, itemsOf, farmD, sLen, lk_rows]
theorem dedup_nodup : ∀ {l : List Int}, l.Nodup → dedupI l = l
  | [], _ => rfl
  | a :: l, h => by
    obtain ⟨h1, h2⟩ := List.nodup_cons.mp h
    unfold dedupI
    rw [if_neg (by simpa using h1), dedup_nodup h2]
theorem blsOf_map : ∀ l : List Bool, blsOf (l.map .bl) = some l
  | [] => rfl
  | b :: l => by simp [blsOf, blsOf_map l]
theorem e_is_row {n : Int} {r : List Int} (h0 : r ≠ []) (h1 : ∀ v ∈ r, 0 ≤ v ∧ v < n) (hn : r.Nodup) (hl : r.length ≤ 4000) : m_is_row [rowD r, .int n] = .ret (.bl true) [] := by
  have e1 : mLc (mSeqI (mVar 0)) (gNm 2) (M.pure true) (mCallF m_is_from [(.dat (mVar 2)), (.dat (M.pure (.int 0))), (.dat (mOp2 sSub (.dat (mVar 1)) (.dat (M.pure (.int 1)))))]) [2] [.dat (rowD r), .dat (.int n), .no] = .ok (.lst (r.map fun _ => .bl true)) [.dat (rowD r), .dat (.int n), .no] := by
    have := mLc_pure (fi := mSeqI (mVar 0)) (g := gNm 2) (tt := M.pure true) (fe := mCallF m_is_from [(.dat (mVar 2)), (.dat (M.pure (.int 0))), (.dat (mOp2 sSub (.dat (mVar 1)) (.dat (M.pure (.int 1)))))]) (vs := [2]) (ρ := [.dat (rowD r), .dat (.int n), .no]) (ds := r.map .int) (fun _ => true) (fun _ => .bl true) (by simp [mkFn, mSeq, mIfS, mDo, mRet, mRetN, mSkip, mExpr, mAsg, mAnd, mOr, mNot, mAndV, mOrV, mNotV, mB, mIf, mV, mNeg, mCall, mOp2, mTup, mLst, mMeth, mSl, mPart, preL, seqM, M.bind, M.pure, M.lift, M.stuck, Out.andThen, mVar, Opn.pre, Opn.rd, rdM, rdLM, rdL, cellD, initC, initAt, outsOf, outAt, gNm, gTp, gNms, mNew, mFrz, mPar, mFld, mCallF, mCallK, mCallN, appF, rdA, setOuts, ownSlots, ownPos, mSeqI, mEnum, mRange1, itemsOf, rowD]) (by simp [isOwn]) (fun d hd => by
      obtain ⟨v, hv, rfl⟩ := List.mem_map.mp hd
      obtain ⟨q1, q2⟩ := h1 v hv
      have q3 : v ≤ n - 1 := by omega
      refine ⟨[.dat (rowD r), .dat (.int n), .dat (.int v)], by simp [gNm, wipeC], by simp [M.pure], fun _ => ?_, by simp [wipeC]⟩
      simp [mkFn, mSeq, mIfS, mDo, mRet, mRetN, mSkip, mExpr, mAsg, mAnd, mOr, mNot, mAndV, mOrV, mNotV, mB, mIf, mV, mNeg, mCall, mOp2, mTup, mLst, mMeth, mSl, mPart, preL, seqM, M.bind, M.pure, M.lift, M.stuck, Out.andThen, mVar, Opn.pre, Opn.rd, rdM, rdLM, rdL, cellD, initC, initAt, outsOf, outAt, gNm, gTp, gNms, mNew, mFrz, mPar, mFld, mCallF, mCallK, mCallN, appF, rdA, setOuts, ownSlots, ownPos, mSeqI, mEnum, mRange1, itemsOf, sSub, e_is_from, q1, q3])
    rw [this, List.filter_eq_self.mpr (fun _ _ => rfl), List.map_map]
    rfl
  have e2 : sEq (rowD r) (.tup []) = some (.bl false) := by
    have := sEq_tup r []
    rw [decide_eq_false h0] at this
    exact this
  have e3 : blsOf (r.map fun _ => D.bl true) = some (r.map fun _ => true) := by
    have := blsOf_map (r.map fun _ => true)
    rwa [List.map_map] at this
  have e4 : sAll [D.lst (r.map fun _ => D.bl true)] = some (.bl true) := by
    simp [sAll, e3]
  have e5 : sLenSet (rowD r) = some (.int r.length) := by
    simp [sLenSet, rowD, intsOf_map, hl, dedup_nodup hn]
  have e6 : tyName (rowD r) = some "tuple" := rfl
  have e7 : sLen [rowD r] = some (.int r.length) := by simp [sLen, rowD]
  simp [m_is_row, b_is_row, mkFn, mSeq, mIfS, mDo, mRet, mRetN, mSkip, mExpr, mAsg, mAnd, mOr, mNot, mAndV, mOrV, mNotV, mB, mIf, mV, mNeg, mCall, mOp2, mTup, mLst, mMeth, mSl, mPart, preL, seqM, M.bind, M.pure, M.lift, M.stuck, Out.andThen, mVar, Opn.pre, Opn.rd, rdM, rdLM, rdL, cellD, initC, initAt, outsOf, outAt, gNm, gTp, gNms, mNew, mFrz, mPar, mFld, mCallF, mCallK, mCallN, appF, rdA, setOuts, ownSlots, ownPos, mSeqI, mEnum, mRange1, itemsOf, sIsi, e6, kit_tt, e2]
  simp [mkFn, mSeq, mIfS, mDo, mRet, mRetN, mSkip, mExpr, mAsg, mAnd, mOr, mNot, mAndV, mOrV, mNotV, mB, mIf, mV, mNeg, mCall, mOp2, mTup, mLst, mMeth, mSl, mPart, preL, seqM, M.bind, M.pure, M.lift, M.stuck, Out.andThen, mVar, Opn.pre, Opn.rd, rdM, rdLM, rdL, cellD, initC, initAt, outsOf, outAt, gNm, gTp, gNms, mNew, mFrz, mPar, mFld, mCallF, mCallK, mCallN, appF, rdA, setOuts, ownSlots, ownPos, mSeqI, mEnum, mRange1, itemsOf] at e1
  simp [e1, e4, mLenSet, mkFn, mSeq, mIfS, mDo, mRet, mRetN, mSkip, mExpr, mAsg, mAnd, mOr, mNot, mAndV, mOrV, mNotV, mB, mIf, mV, mNeg, mCall, mOp2, mTup, mLst, mMeth, mSl, mPart, preL, seqM, M.bind, M.pure, M.lift, M.stuck, Out.andThen, mVar, Opn.pre, Opn.rd, rdM, rdLM, rdL, cellD, initC, initAt, outsOf, outAt, gNm, gTp, gNms, mNew, mFrz, mPar, mFld, mCallF, mCallK, mCallN, appF, rdA, setOuts, ownSlots, ownPos, mSeqI, mEnum, mRange1, itemsOf, e5, e7, sEq_int]
theorem mSeq_next {m n : MS} {ρ ρ' : Cells} (h : m ρ = .next ρ') : mSeq m n ρ = n ρ' := by simp [mSeq, h]
theorem mSeq_ret {m n : MS} {ρ ρ' : Cells} {d : D} (h : m ρ = .ret d ρ') : mSeq m n ρ = .ret d ρ' := by simp [mSeq, h]
theorem mkFn_next {k : Nat} {bs : List Nat} {m : MS} {ds : List D} {ρ : Cells} (h : m (initC k bs ds) = .next ρ) : mkFn k bs m ds = .ret .non (outsOf bs ρ) := by simp [mkFn, h]
theorem mkFn_ret {k : Nat} {bs : List Nat} {m : MS} {ds : List D} {ρ : Cells} {d : D} (h : m (initC k bs ds) = .ret d ρ) : mkFn k bs m ds = .ret d (outsOf bs ρ) := by simp [mkFn, h]
theorem mIfS_f {t : M Bool} {m n : MS} {ρ ρ' : Cells} (h : t ρ = .ok false ρ') : mIfS t m n ρ = n ρ' := by simp [mIfS, mDo, h]
theorem mIfS_t {t : M Bool} {m n : MS} {ρ ρ' : Cells} (h : t ρ = .ok true ρ') : mIfS t m n ρ = m ρ' := by simp [mIfS, mDo, h]
theorem mFor_next {fi : M (List D)} {g : TgM} {b : MS} {ρ ρ1 : Cells} {ds : List D} (h : fi ρ = .ok ds ρ1) : mFor fi g b ρ = loopM g b ds ρ1 := by simp [mFor, mDo, h]
theorem enumD_inv : ∀ (n i : Nat) (ds : List D) (e : D), (enumD n ds)[i]? = some e → ∃ d, ds[i]? = some d ∧ e = .tup [.int ((n + i : Nat) : Int), d]
  | n, i, [], e, h => by simp [enumD] at h
  | n, 0, d :: ds, e, h => by
    simp [enumD] at h
    exact ⟨d, rfl, by rw [← h]; rfl⟩
  | n, i + 1, d :: ds, e, h => by
    obtain ⟨x, h1, h2⟩ := enumD_inv (n + 1) i ds e (by simpa [enumD] using h)
    exact ⟨x, by simpa using h1, by rw [h2, show n + 1 + i = n + (i + 1) by omega]⟩
def RowOk (n : Int) (r : List Int) : Prop := r ≠ [] ∧ (∀ v ∈ r, 0 ≤ v ∧ v < n) ∧ r.Nodup ∧ r.length ≤ 4000
theorem e_is_row' {n : Int} {r : List Int} (h : RowOk n r) : m_is_row [rowD r, .int n] = .ret (.bl true) [] := e_is_row h.1 h.2.1 h.2.2.1 h.2.2.2
theorem e_make {n t : Int} {rows : List (List Int)} (h1 : 1 ≤ n) (h2 : n ≤ 30) (h3 : rows.length ≤ 60) (h4 : ∀ r ∈ rows, RowOk n r) (h5 : 0 ≤ t) (h6 : t ≤ n) :
    m_Farmdd_initdd [.rcd [] [], .int n, .lst (rows.map rowD), .int t] = .ret .non [farmD n rows t] := by
  have e0 : initC 6 [0] [.rcd [] [], .int n, .lst (rows.map rowD), .int t] = [.own (.rcd [] []), .dat (.int n), .dat (.lst (rows.map rowD)), .dat (.int t), .no, .no] := by rfl
  obtain ⟨ρ', e1, x, y, e2⟩ := loop_inv (g := gTp [4, 5]) (body := mIfS (mNot (mB (mCallF m_is_row [(.dat (mVar 5)), (.dat (mVar 1))]))) (mRaise 0 [(M.pure (.str "lists")), (mVar 4)]) mSkip)
    (fun _ ρ => ∃ x y, ρ = [.own (.rcd [] []), .dat (.int n), .dat (.lst (rows.map rowD)), .dat (.int t), x, y]) (enumD 0 (rows.map rowD)) 0 _ ⟨.no, .no, rfl⟩ (fun i d ρ hd ⟨x, y, e⟩ => by
      obtain ⟨d', h7, rfl⟩ := enumD_inv 0 i _ _ hd
      rw [List.getElem?_map] at h7
      cases hr : rows[i]? with
      | none => rw [hr] at h7; cases h7
      | some r =>
        rw [hr] at h7
        cases h7
        have q := e_is_row' (h4 r (List.mem_of_getElem? hr))
        subst e
        refine ⟨[.own (.rcd [] []), .dat (.int n), .dat (.lst (rows.map rowD)), .dat (.int t), .dat (.int ((0 + i : Nat) : Int)), .dat (rowD r)], by simp [gTp, gNms], [.own (.rcd [] []), .dat (.int n), .dat (.lst (rows.map rowD)), .dat (.int t), .dat (.int ((0 + i : Nat) : Int)), .dat (rowD r)], by simp [mkFn, mSeq, mIfS, mDo, mRet, mRetN, mSkip, mExpr, mAsg, mAnd, mOr, mNot, mAndV, mOrV, mNotV, mB, mIf, mV, mNeg, mCall, mOp2, mTup, mLst, mMeth, mSl, mPart, preL, seqM, M.bind, M.pure, M.lift, M.stuck, Out.andThen, mVar, Opn.pre, Opn.rd, rdM, rdLM, rdL, cellD, initC, initAt, outsOf, outAt, gNm, gTp, gNms, mNew, mFrz, mPar, mFld, mCallF, mCallK, mCallN, appF, rdA, setOuts, ownSlots, ownPos, mSeqI, mEnum, mRange1, itemsOf, q], _, _, rfl⟩)
  subst e2
  have e3 : b_Farmdd_initdd (initC 6 [0] [.rcd [] [], .int n, .lst (rows.map rowD), .int t]) = .next [.own (farmD n rows t), .dat (.int n), .dat (.lst (rows.map rowD)), .dat (.int t), x, y] := by
    rw [e0]
    unfold b_Farmdd_initdd
    rw [mSeq_next (ρ' := [.own (.rcd [] []), .dat (.int n), .dat (.lst (rows.map rowD)), .dat (.int t), .no, .no]) (by simp [mkFn, mSeq, mIfS, mDo, mRet, mRetN, mSkip, mExpr, mAsg, mAnd, mOr, mNot, mAndV, mOrV, mNotV, mB, mIf, mV, mNeg, mCall, mOp2, mTup, mLst, mMeth, mSl, mPart, preL, seqM, M.bind, M.pure, M.lift, M.stuck, Out.andThen, mVar, Opn.pre, Opn.rd, rdM, rdLM, rdL, cellD, initC, initAt, outsOf, outAt, gNm, gTp, gNms, mNew, mFrz, mPar, mFld, mCallF, mCallK, mCallN, appF, rdA, setOuts, ownSlots, ownPos, mSeqI, mEnum, mRange1, itemsOf, e_is_from, h1, h2])]
    have g1 : sIsi [.lst (rows.map rowD), .raw (.ty "list")] = some (.bl true) := by simp [sIsi, tyName, kit_ll]
    have g2 : ¬ ((60 : Int) < (rows.length : Int)) := by omega
    rw [mSeq_next (ρ' := [.own (.rcd [] []), .dat (.int n), .dat (.lst (rows.map rowD)), .dat (.int t), .no, .no]) (by simp [mkFn, mSeq, mIfS, mDo, mRet, mRetN, mSkip, mExpr, mAsg, mAnd, mOr, mNot, mAndV, mOrV, mNotV, mB, mIf, mV, mNeg, mCall, mOp2, mTup, mLst, mMeth, mSl, mPart, preL, seqM, M.bind, M.pure, M.lift, M.stuck, Out.andThen, mVar, Opn.pre, Opn.rd, rdM, rdLM, rdL, cellD, initC, initAt, outsOf, outAt, gNm, gTp, gNms, mNew, mFrz, mPar, mFld, mCallF, mCallK, mCallN, appF, rdA, setOuts, ownSlots, ownPos, mSeqI, mEnum, mRange1, itemsOf, g1, sLen, sGt, g2])]
    rw [mSeq_next (by rw [mFor_next (ds := enumD 0 (rows.map rowD)) (ρ1 := [.own (.rcd [] []), .dat (.int n), .dat (.lst (rows.map rowD)), .dat (.int t), .no, .no]) (by simp [mkFn, mSeq, mIfS, mDo, mRet, mRetN, mSkip, mExpr, mAsg, mAnd, mOr, mNot, mAndV, mOrV, mNotV, mB, mIf, mV, mNeg, mCall, mOp2, mTup, mLst, mMeth, mSl, mPart, preL, seqM, M.bind, M.pure, M.lift, M.stuck, Out.andThen, mVar, Opn.pre, Opn.rd, rdM, rdLM, rdL, cellD, initC, initAt, outsOf, outAt, gNm, gTp, gNms, mNew, mFrz, mPar, mFld, mCallF, mCallK, mCallN, appF, rdA, setOuts, ownSlots, ownPos, mSeqI, mEnum, mRange1, itemsOf])]; exact e1)]
    rw [mSeq_next (ρ' := [.own (.rcd [] []), .dat (.int n), .dat (.lst (rows.map rowD)), .dat (.int t), x, y]) (by simp [mkFn, mSeq, mIfS, mDo, mRet, mRetN, mSkip, mExpr, mAsg, mAnd, mOr, mNot, mAndV, mOrV, mNotV, mB, mIf, mV, mNeg, mCall, mOp2, mTup, mLst, mMeth, mSl, mPart, preL, seqM, M.bind, M.pure, M.lift, M.stuck, Out.andThen, mVar, Opn.pre, Opn.rd, rdM, rdLM, rdL, cellD, initC, initAt, outsOf, outAt, gNm, gTp, gNms, mNew, mFrz, mPar, mFld, mCallF, mCallK, mCallN, appF, rdA, setOuts, ownSlots, ownPos, mSeqI, mEnum, mRange1, itemsOf, e_is_from, h5, h6])]
    rw [mSeq_next (ρ' := [.own (.rcd ["many"] [.int n]), .dat (.int n), .dat (.lst (rows.map rowD)), .dat (.int t), x, y]) (by simp [mSetF, mkFn, mSeq, mIfS, mDo, mRet, mRetN, mSkip, mExpr, mAsg, mAnd, mOr, mNot, mAndV, mOrV, mNotV, mB, mIf, mV, mNeg, mCall, mOp2, mTup, mLst, mMeth, mSl, mPart, preL, seqM, M.bind, M.pure, M.lift, M.stuck, Out.andThen, mVar, Opn.pre, Opn.rd, rdM, rdLM, rdL, cellD, initC, initAt, outsOf, outAt, gNm, gTp, gNms, mNew, mFrz, mPar, mFld, mCallF, mCallK, mCallN, appF, rdA, setOuts, ownSlots, ownPos, mSeqI, mEnum, mRange1, itemsOf, ownAt])]
    have n1 : ¬ ("rows" : Str) = ("many" : Str) := by decide
    have n2 : ¬ ("most" : Str) = ("many" : Str) := by decide
    have n3 : ¬ ("most" : Str) = ("rows" : Str) := by decide
    rw [mSeq_next (ρ' := [.own (.rcd ["many", "rows"] [.int n, .tup (rows.map rowD)]), .dat (.int n), .dat (.lst (rows.map rowD)), .dat (.int t), x, y]) (by simp [mSetF, mkFn, mSeq, mIfS, mDo, mRet, mRetN, mSkip, mExpr, mAsg, mAnd, mOr, mNot, mAndV, mOrV, mNotV, mB, mIf, mV, mNeg, mCall, mOp2, mTup, mLst, mMeth, mSl, mPart, preL, seqM, M.bind, M.pure, M.lift, M.stuck, Out.andThen, mVar, Opn.pre, Opn.rd, rdM, rdLM, rdL, cellD, initC, initAt, outsOf, outAt, gNm, gTp, gNms, mNew, mFrz, mPar, mFld, mCallF, mCallK, mCallN, appF, rdA, setOuts, ownSlots, ownPos, mSeqI, mEnum, mRange1, itemsOf, ownAt, sTuple, n1])]
    simp [mSetF, mkFn, mSeq, mIfS, mDo, mRet, mRetN, mSkip, mExpr, mAsg, mAnd, mOr, mNot, mAndV, mOrV, mNotV, mB, mIf, mV, mNeg, mCall, mOp2, mTup, mLst, mMeth, mSl, mPart, preL, seqM, M.bind, M.pure, M.lift, M.stuck, Out.andThen, mVar, Opn.pre, Opn.rd, rdM, rdLM, rdL, cellD, initC, initAt, outsOf, outAt, gNm, gTp, gNms, mNew, mFrz, mPar, mFld, mCallF, mCallK, mCallN, appF, rdA, setOuts, ownSlots, ownPos, mSeqI, mEnum, mRange1, itemsOf, ownAt, n2, n3, farmD]
  unfold m_Farmdd_initdd
  rw [mkFn_next e3]
  rfl
structure FarmOk (n : Int) (rows : List (List Int)) : Prop where
  n1 : 1 ≤ n
  n2 : n ≤ 30
  len : rows.length ≤ 60
  row : ∀ r ∈ rows, RowOk n r
theorem atI_nat {α : Type} (l : List α) (s : Nat) : atI l (s : Int) = l[s]? := by
  unfold atI ixN
  rw [if_pos (Int.natCast_nonneg s)]
  by_cases h : s < l.length
  · rw [if_pos (by omega)]
    simp
  · rw [if_neg (by omega), List.getElem?_eq_none (by omega)]
    rfl
theorem idxF_ints (v : Int) : ∀ {r : List Int}, v ∈ r → idxF (.int v) (r.map .int) = some (r.idxOf v)
  | [], h => by cases h
  | a :: r, h => by
    rw [List.map_cons]
    unfold idxF
    by_cases e : a = v
    · subst e
      simp [eqF, List.idxOf_cons]
    · have hm : v ∈ r := by
        rcases List.mem_cons.mp h with z | z
        · exact absurd z.symm e
        · exact z
      have e2 : (a == v) = false := by simpa using e
      simp [eqF, e2, idxF_ints v hm, List.idxOf_cons]
theorem sTix_row {v : Int} {r : List Int} (h : v ∈ r) : sTix (rowD r) [.int v] = some (.int (r.idxOf v)) := by
  unfold sTix rowD sIndex
  simp [itemsOf, flatD, idxF_ints v h]
theorem cut_take (l : List D) (k : Nat) : cutD l none (some (k : Int)) = l.take k := by
  unfold cutD
  rw [HT.sIx_none, HT.sIx_nat, Nat.sub_zero, List.drop_zero]
  by_cases h : k ≤ l.length
  · rw [Nat.min_eq_left h]
  · rw [Nat.min_eq_right (by omega), List.take_length, List.take_of_length_le (by omega)]
def mvF (st : List Int) : Nat → List (Option Int) → List Int
  | _, [] => []
  | n, none :: p => mvF st (n + 1) p
  | n, some _ :: p => if (n : Int) ∈ st then mvF st (n + 1) p else (n : Int) :: mvF st (n + 1) p
theorem enum_mem {p : List (Option Int)} {e : D} (h : e ∈ enumD 0 (p.map optD)) : ∃ (i : Nat) (o : Option Int), p[i]? = some o ∧ e = .tup [.int i, optD o] := by
  obtain ⟨i, hi⟩ := List.mem_iff_getElem?.mp h
  obtain ⟨d, h1, rfl⟩ := enumD_inv 0 i _ _ hi
  rw [List.getElem?_map] at h1
  cases hp : p[i]? with
  | none => rw [hp] at h1; cases h1
  | some o =>
    rw [hp] at h1
    cases h1
    exact ⟨i, o, hp, by rw [Nat.zero_add]⟩
def wellD (a b d : Int) : D := .lst [.int a, .int b, .int d]
theorem ix0 {x y z : D} : sIx (.lst [x, y, z]) (.int 0) = some x := by rfl
theorem ix1 {x y z : D} : sIx (.lst [x, y, z]) (.int 1) = some y := by rfl
theorem ix2 {x y z : D} : sIx (.lst [x, y, z]) (.int 2) = some z := by rfl
theorem fmod_in {a n : Int} (h : 0 < n) : 0 ≤ a.fmod n ∧ a.fmod n < n := by
  rw [Int.fmod_eq_emod_of_nonneg _ (Int.le_of_lt h)]
  exact ⟨Int.emod_nonneg _ (by omega), Int.emod_lt_of_pos _ h⟩
theorem sMul_l {i j : Int} (h : inR i = true) : sMul (.int i) (.int j) = some (.int (i * j)) := by simp [sMul, h]
theorem sMul_r {i j : Int} (h : inR j = true) : sMul (.int i) (.int j) = some (.int (i * j)) := by simp [sMul, h]
theorem inR_fmod {a n : Int} (h : 0 < n) (h2 : n ≤ 2147483647) : inR (a.fmod n) = true := by
  have := fmod_in (a := a) h
  simp [inR]
  omega
theorem eraseIdx_map (l : List Int) (k : Nat) : (l.map D.int).eraseIdx k = (l.eraseIdx k).map D.int := erase_mapD l k
theorem mMethWR1 {sem : D → List D → Option (D × D)} {i : Nat} {f : M D} {ρ ρ1 : Cells} {x0 : List D} {d e : D} {r : D × D} (h0 : ρ[i]? = some (.own (.lst x0))) (h1 : f ρ = .ok e ρ1) (h2 : ρ1[i]? = some (.own d)) (h3 : sem d [e] = some r) : mMethWR sem i [f] ρ = .ok r.1 (ρ1.set i (.own r.2)) := by
  unfold mMethWR
  simp [ownAt, M.bind, M.pure, M.lift, Out.andThen, seqM, isLst, h0, h1, h2, h3, setOwn]
theorem cons_erase : ∀ {l : List Int} {i : Nat} {x : Int}, l[i]? = some x → (x :: l.eraseIdx i).Perm l
  | [], i, x, h => by simp at h
  | a :: l, 0, x, h => by
    simp at h
    subst h
    exact List.Perm.refl _
  | a :: l, i + 1, x, h => by
    rw [List.eraseIdx_cons_succ]
    exact (List.Perm.swap a x _).trans ((cons_erase (l := l) (by simpa using h)).cons a)
def rng (k : Nat) : List Int := (List.range k).map fun (i : Nat) => 0 + (i : Int)
theorem rng_D (k : Nat) : rangeD 0 k = (rng k).map .int := by
  unfold rangeD rng
  rw [List.map_map]
  rfl
theorem rng_len (k : Nat) : (rng k).length = k := by simp [rng]
theorem rng_nd (k : Nat) : (rng k).Nodup := by
  unfold rng
  rw [List.Nodup, List.pairwise_map]
  exact List.Pairwise.imp (fun h => by omega) List.nodup_range
theorem rng_mem {k : Nat} {v : Int} (h : v ∈ rng k) : 0 ≤ v ∧ v < k := by
  obtain ⟨i, hi, rfl⟩ := List.mem_map.mp h
  have := List.mem_range.mp hi
  omega
theorem cut_take' (l : List D) (k : Int) (hk : 0 ≤ k) : cutD l none (some k) = l.take k.toNat := by
  have := cut_take l k.toNat
  rwa [Int.toNat_of_nonneg hk] at this
def PlOk (rows : List (List Int)) (p : List (Option Int)) : Prop := ∀ (s : Nat) (v : Int), p[s]? = some (some v) → ∃ r, rows[s]? = some r ∧ v ∈ r
theorem mem_mvF {st : List Int} : ∀ {n : Nat} {p : List (Option Int)} {v : Int}, v ∈ mvF st n p ↔ ∃ (i : Nat) (x : Int), v = ((n + i : Nat) : Int) ∧ p[i]? = some (some x) ∧ v ∉ st
  | n, [], v => by simp [mvF]
  | n, none :: p, v => by
    unfold mvF
    rw [mem_mvF]
    constructor
    · rintro ⟨i, x, h1, h2, h3⟩
      exact ⟨i + 1, x, by omega, by simpa using h2, h3⟩
    · rintro ⟨i, x, h1, h2, h3⟩
      cases i with
      | zero => simp at h2
      | succ i => exact ⟨i, x, by omega, by simpa using h2, h3⟩
  | n, some y :: p, v => by
    unfold mvF
    split
    · rename_i hst
      rw [mem_mvF]
      constructor
      · rintro ⟨i, x, h1, h2, h3⟩
        exact ⟨i + 1, x, by omega, by simpa using h2, h3⟩
      · rintro ⟨i, x, h1, h2, h3⟩
        cases i with
        | zero => exact absurd (by rw [h1]; simpa using hst) h3
        | succ i => exact ⟨i, x, by omega, by simpa using h2, h3⟩
    · rename_i hst
      rw [List.mem_cons, mem_mvF]
      constructor
      · rintro (h | ⟨i, x, h1, h2, h3⟩)
        · exact ⟨0, y, by simpa using h, by simp, by rw [h]; exact hst⟩
        · exact ⟨i + 1, x, by omega, by simpa using h2, h3⟩
      · rintro ⟨i, x, h1, h2, h3⟩
        cases i with
        | zero => exact .inl (by simpa using h1)
        | succ i => exact .inr ⟨i, x, by omega, by simpa using h2, h3⟩
theorem len_mvF {st : List Int} : ∀ (n : Nat) (p : List (Option Int)), (mvF st n p).length ≤ p.length
  | n, [] => Nat.le_refl _
  | n, none :: p => by
    have := len_mvF (st := st) (n + 1) p
    unfold mvF
    rw [List.length_cons]
    omega
  | n, some y :: p => by
    have := len_mvF (st := st) (n + 1) p
    unfold mvF
    split <;> simp <;> omega
def rowAt (rows : List (List Int)) (s : Int) : List Int := rows.getD s.toNat []
def plAt (p : List (Option Int)) (s : Int) : Int := (p.getD s.toNat none).getD 0
def passI (rows : List (List Int)) (p : List (Option Int)) (s : Int) : List Int := (rowAt rows s).take ((rowAt rows s).idxOf (plAt p s))
def Pres (p : List (Option Int)) (s : Int) : Prop := ∃ (i : Nat) (x : Int), s = (i : Int) ∧ p[i]? = some (some x)
theorem Pres.at {rows : List (List Int)} {p : List (Option Int)} {s : Int} (h : Pres p s) (hok : PlOk rows p) : ∃ (i : Nat) (x : Int) (r : List Int), s = (i : Int) ∧ p[i]? = some (some x) ∧ rows[i]? = some r ∧ x ∈ r ∧ rowAt rows s = r ∧ plAt p s = x := by
  obtain ⟨i, x, rfl, h2⟩ := h
  obtain ⟨r, h3, h4⟩ := hok i x h2
  refine ⟨i, x, r, rfl, h2, h3, h4, ?_, ?_⟩
  · unfold rowAt
    rw [Int.toNat_natCast, List.getD_eq_getElem?_getD, h3]
    rfl
  · unfold plAt
    rw [Int.toNat_natCast, List.getD_eq_getElem?_getD, h2]
    rfl
def heldBy (rows : List (List Int)) (p : List (Option Int)) (st : List Int) (s : Int) : Bool := (st.filter fun o => decide (plAt p o ∈ passI rows p s)) ≠ []
theorem mOp2_dd {sem : D → D → Option D} {f g : M D} {ρ ρ1 ρ2 : Cells} {x y r : D} (h1 : f ρ = .ok x ρ1) (h2 : g ρ1 = .ok y ρ2) (h3 : sem x y = some r) : mOp2 sem (.dat f) (.dat g) ρ = .ok r ρ2 := by
  unfold mOp2 M.bind
  simp [Opn.pre, h1, h2, Out.andThen, rdM, Opn.rd, M.lift, h3]
theorem mB_ok {f : M D} {ρ ρ1 : Cells} {b : Bool} (h : f ρ = .ok (.bl b) ρ1) : mB f ρ = .ok b ρ1 := by
  unfold mB M.bind
  simp [h, Out.andThen, M.pure]
def idxI (rows : List (List Int)) (p : List (Option Int)) (s : Int) : Int := ((rowAt rows s).idxOf (plAt p s) : Nat)
def farQ (rows : List (List Int)) (p : List (Option Int)) (t s : Int) : Bool := decide (t < idxI rows p s)
end
section
theorem mLenF_ok {F : Fn} {fe : M D} {ρ ρ1 : Cells} {d : D} {k : Int} {o : List D} (h1 : fe ρ = .ok d ρ1) (h2 : isRcd d = true) (h3 : F [d] = .ret (.int k) o) (h4 : 0 ≤ k ∧ k < 2 ^ 63) : mLenF F fe ρ = .ok (.int k) ρ1 := by
  unfold mLenF M.bind
  rw [h1]
  show (if isRcd d = true then _ else _) = _
  rw [if_pos h2, h3]
  exact if_pos h4
theorem small63 {k : Nat} (h : k ≤ 1000) : (0 : Int) ≤ (k : Int) ∧ (k : Int) < 2 ^ 63 := by
  refine ⟨Int.natCast_nonneg k, ?_⟩
  have h2 : (k : Int) ≤ 1000 := by omega
  have h3 : (1000 : Int) < 2 ^ 63 := by decide
  exact Int.lt_of_le_of_lt h2 h3
theorem ix_row {rows : List (List Int)} {i : Nat} {r : List Int} (hr : rows[i]? = some r) : sIx (.tup (rows.map rowD)) (.int i) = some (rowD r) := by simp [sIx, atI_nat, hr]
theorem e_lenF {n t : Int} {rows : List (List Int)} (h : rows.length ≤ 1000) {ρ : Cells} (h0 : mVar 0 ρ = .ok (farmD n rows t) ρ) : mLenF m_Farmdd_lendd (mVar 0) ρ = .ok (.int rows.length) ρ := mLenF_ok h0 rfl (e_len n rows t) (small63 h)
theorem cp_body {n t : Int} {rows : List (List Int)} {p : List (Option Int)} (hok : PlOk rows p) (hrow : ∀ r ∈ rows, RowOk n r) {j : Nat} {o : Option Int} (hj : p[j]? = some o) :
    mIfS (mAnd (mB (mOp2 sNotN (.dat (mVar 3)) (.dat (M.pure .non)))) (mOr (mNot (mB (mCallF m_is_from [(.dat (mVar 3)), (.dat (M.pure (.int 0))), (.dat (mOp2 sSub (.dat (mFld (mVar 0) "many")) (.dat (M.pure (.int 1)))))]))) (mB (mOp2 sNin (.dat (mVar 3)) (.dat (mOp2 sIx (.dat (mFld (mVar 0) "rows")) (.dat (mVar 2)))))))) (mRaise 2 [(mVar 2)]) mSkip [.dat (farmD n rows t), .dat (plcD p), .dat (.int j), .dat (optD o)] = .next [.dat (farmD n rows t), .dat (plcD p), .dat (.int j), .dat (optD o)] := by
  cases o with
  | none => simp [mkFn, mSeq, mIfS, mDo, mRet, mRetN, mSkip, mExpr, mAsg, mAnd, mOr, mNot, mAndV, mOrV, mNotV, mB, mIf, mV, mNeg, mCall, mOp2, mTup, mLst, mMeth, mSl, mPart, preL, seqM, M.bind, M.pure, M.lift, M.stuck, Out.andThen, mVar, Opn.pre, Opn.rd, rdM, rdLM, rdL, cellD, initC, initAt, outsOf, outAt, gNm, gTp, gNms, mNew, mFrz, mPar, mFld, mCallF, mCallK, mCallN, appF, rdA, setOuts, ownSlots, ownPos, mSeqI, mEnum, mRange1, itemsOf, optD, sNotN, isNon]
  | some v =>
    obtain ⟨r, h1, h2⟩ := hok j v hj
    obtain ⟨k1, k2⟩ := (hrow r (List.mem_of_getElem? h1)).2.1 v h2
    have k3 : v ≤ n - 1 := by omega
    have z1 := ix_row h1
    have z2 : sNin (.int v) (rowD r) = some (.bl false) := by
      have := sNin_tup v r
      rwa [decide_eq_true h2] at this
    simp [mkFn, mSeq, mIfS, mDo, mRet, mRetN, mSkip, mExpr, mAsg, mAnd, mOr, mNot, mAndV, mOrV, mNotV, mB, mIf, mV, mNeg, mCall, mOp2, mTup, mLst, mMeth, mSl, mPart, preL, seqM, M.bind, M.pure, M.lift, M.stuck, Out.andThen, mVar, Opn.pre, Opn.rd, rdM, rdLM, rdL, cellD, initC, initAt, outsOf, outAt, gNm, gTp, gNms, mNew, mFrz, mPar, mFld, mCallF, mCallK, mCallN, appF, rdA, setOuts, ownSlots, ownPos, mSeqI, mEnum, mRange1, itemsOf, optD, sNotN, isNon, farmD, lk_many, lk_rows, sSub, e_is_from, k1, k3, z1, z2]
theorem cp_tup {p : List (Option Int)} : sIsi [plcD p, .raw (.ty "tuple")] = some (.bl true) := by simp [sIsi, plcD, tyName, kit_tt]
theorem cp_len {p : List (Option Int)} : sLen [plcD p] = some (.int p.length) := by simp [sLen, plcD]
theorem cp_head {F : M D} {n t : Int} {rows : List (List Int)} {p : List (Option Int)} (hlen : p.length = rows.length) (g4 : F [.dat (farmD n rows t), .dat (plcD p), .no, .no] = .ok (.int rows.length) [.dat (farmD n rows t), .dat (plcD p), .no, .no]) : (mIfS (mOr (mNot (mB (mCall sIsi [(.dat (mVar 1)), (.dat (M.pure (.raw (.ty "tuple"))))]))) (mB (mOp2 sNe (.dat (mCall sLen [(.dat (mVar 1))])) (.dat F)))) (mRaise 2 [(mNeg (M.pure (.int 1)))]) mSkip) [.dat (farmD n rows t), .dat (plcD p), .no, .no] = .next [.dat (farmD n rows t), .dat (plcD p), .no, .no] := by
  simp [mkFn, mSeq, mIfS, mDo, mRet, mRetN, mSkip, mExpr, mAsg, mAnd, mOr, mNot, mAndV, mOrV, mNotV, mB, mIf, mV, mNeg, mCall, mOp2, mTup, mLst, mMeth, mSl, mPart, preL, seqM, M.bind, M.pure, M.lift, M.stuck, Out.andThen, mVar, Opn.pre, Opn.rd, rdM, rdLM, rdL, cellD, initC, initAt, outsOf, outAt, gNm, gTp, gNms, mNew, mFrz, mPar, mFld, mCallF, mCallK, mCallN, appF, rdA, setOuts, ownSlots, ownPos, mSeqI, mEnum, mRange1, itemsOf, cp_tup, cp_len, g4, sNe_int, hlen]
theorem e_check_placement {n t : Int} {rows : List (List Int)} {p : List (Option Int)} (hlen : p.length = rows.length) (h1000 : rows.length ≤ 1000) (hok : PlOk rows p) (hrow : ∀ r ∈ rows, RowOk n r) :
    m_check_placement [farmD n rows t, plcD p] = .ret .non [] := by
  obtain ⟨ρ', e, x, y, hρ⟩ := loop_inv (g := gTp [2, 3]) (body := mIfS (mAnd (mB (mOp2 sNotN (.dat (mVar 3)) (.dat (M.pure .non)))) (mOr (mNot (mB (mCallF m_is_from [(.dat (mVar 3)), (.dat (M.pure (.int 0))), (.dat (mOp2 sSub (.dat (mFld (mVar 0) "many")) (.dat (M.pure (.int 1)))))]))) (mB (mOp2 sNin (.dat (mVar 3)) (.dat (mOp2 sIx (.dat (mFld (mVar 0) "rows")) (.dat (mVar 2)))))))) (mRaise 2 [(mVar 2)]) mSkip)
    (fun _ ρ => ∃ x y, ρ = [.dat (farmD n rows t), .dat (plcD p), x, y]) (enumD 0 (p.map optD)) 0 [.dat (farmD n rows t), .dat (plcD p), .no, .no] ⟨.no, .no, rfl⟩
    (fun i dd ρ hd ⟨x, y, hρ⟩ => by
      obtain ⟨j, o, hj, rfl⟩ := enum_mem (List.mem_of_getElem? hd)
      subst hρ
      exact ⟨[.dat (farmD n rows t), .dat (plcD p), .dat (.int j), .dat (optD o)], by simp [gTp, gNms], [.dat (farmD n rows t), .dat (plcD p), .dat (.int j), .dat (optD o)], cp_body hok hrow hj, _, _, rfl⟩)
  subst hρ
  unfold m_check_placement
  rw [mkFn_next (ρ := [.dat (farmD n rows t), .dat (plcD p), x, y]) (by
    show b_check_placement [.dat (farmD n rows t), .dat (plcD p), .no, .no] = _
    unfold b_check_placement
    rw [mSeq_next (cp_head hlen (e_lenF h1000 rfl))]
    rw [mFor_next (ds := enumD 0 (p.map optD)) (ρ1 := [.dat (farmD n rows t), .dat (plcD p), .no, .no]) (by simp [mkFn, mSeq, mIfS, mDo, mRet, mRetN, mSkip, mExpr, mAsg, mAnd, mOr, mNot, mAndV, mOrV, mNotV, mB, mIf, mV, mNeg, mCall, mOp2, mTup, mLst, mMeth, mSl, mPart, preL, seqM, M.bind, M.pure, M.lift, M.stuck, Out.andThen, mVar, Opn.pre, Opn.rd, rdM, rdLM, rdL, cellD, initC, initAt, outsOf, outAt, gNm, gTp, gNms, mNew, mFrz, mPar, mFld, mCallF, mCallK, mCallN, appF, rdA, setOuts, ownSlots, ownPos, mSeqI, mEnum, mRange1, itemsOf, plcD])]
    exact e)]
  rfl
theorem nd_take : ∀ {l : List Int} {i : Nat} {v : Int}, l.Nodup → l[i]? = some v → v ∉ l.take i
  | [], i, v, _, h => by simp at h
  | a :: l, 0, v, _, h => by simp
  | a :: l, i + 1, v, hn, h => by
    obtain ⟨h1, h2⟩ := List.nodup_cons.mp hn
    have h3 : l[i]? = some v := by simpa using h
    have h4 := List.mem_of_getElem? h3
    rw [List.take_succ_cons, List.mem_cons]
    rintro (z | z)
    · exact h1 (by rw [← z]; exact h4)
    · exact nd_take h2 h3 z
theorem mem_insI {a x : Int} : ∀ {l : List Int}, x ∈ insI a l ↔ x = a ∨ x ∈ l
  | [] => by simp [insI]
  | b :: l => by
    unfold insI
    split
    · simp
    · rw [List.mem_cons, mem_insI, List.mem_cons]
      constructor
      · rintro (h | h | h)
        · exact .inr (.inl h)
        · exact .inl h
        · exact .inr (.inr h)
      · rintro (h | h | h)
        · exact .inr (.inl h)
        · exact .inl h
        · exact .inr (.inr h)
def hQ (rows : List (List Int)) (p : List (Option Int)) (s o : Int) : Bool := decide (plAt p o ∈ passI rows p s)
end
section
def Ps (rows : List (List Int)) (p : List (Option Int)) (s o : Int) : Prop := plAt p o ∈ passI rows p s
end
section
variable {n t : Int} {rows : List (List Int)} {p : List (Option Int)} {st : List Int}
theorem mAsg_ok {f : M D} {g : TgM} {ρ ρ1 ρ2 : Cells} {d : D} (h : f ρ = .ok d ρ1) (h2 : g d ρ1 = some ρ2) : mAsg f g ρ = .next ρ2 := by
  unfold mAsg mDo
  rw [h]
  show (match g d ρ1 with | some ρ2 => OutS.next ρ2 | none => OutS.stuck) = _
  rw [h2]
theorem so_far : PyData.strOk "far" = true := by
  unfold PyData.strOk
  rw [← Array.all_toList]
  decide
theorem so_held : PyData.strOk "held" = true := by
  unfold PyData.strOk
  rw [← Array.all_toList]
  decide
theorem so_order : PyData.strOk "order" = true := by
  unfold PyData.strOk
  rw [← Array.all_toList]
  decide
theorem so_ring : PyData.strOk "ring" = true := by
  unfold PyData.strOk
  rw [← Array.all_toList]
  decide
theorem callF2 {F : Fn} {f g : M D} {ρ : Cells} {a b d : D} (h1 : f ρ = .ok a ρ) (h2 : g ρ = .ok b ρ) (h : F [a, b] = .ret d []) : mCallF F [.dat f, .dat g] ρ = .ok d ρ := by
  unfold mCallF
  simp [preL, M.bind, Opn.pre, h1, h2, Out.andThen, M.pure, rdA, Opn.rd, setOuts, ownSlots, h]
theorem exprF {f : M D} {ρ ρ1 : Cells} {d : D} (h : f ρ = .ok d ρ1) : mExpr f ρ = .next ρ1 := by
  unfold mExpr mDo
  rw [h]
def lastQ (rows : List (List Int)) (p : List (Option Int)) (u : List Int) (s : Int) : Bool := decide ((passI rows p s).filter (fun v => decide (v ∈ u)) = [])
theorem last_iff {l : List Int} {s : Int} : lastQ rows p (l.map (plAt p)) s = false ↔ ∃ o ∈ l, Ps rows p s o := by
  unfold lastQ Ps
  rw [decide_eq_false_iff_not]
  constructor
  · intro h
    obtain ⟨v, hv⟩ := List.exists_mem_of_ne_nil _ h
    obtain ⟨h1, h2⟩ := List.mem_filter.mp hv
    obtain ⟨o, ho, rfl⟩ := List.mem_map.mp (of_decide_eq_true h2)
    exact ⟨o, ho, h1⟩
  · rintro ⟨o, ho, h⟩
    exact List.ne_nil_of_mem (List.mem_filter.mpr ⟨h, decide_eq_true (List.mem_map.mpr ⟨o, ho, rfl⟩)⟩)
end
section
variable {n t : Int} {rows : List (List Int)} {p : List (Option Int)} {st : List Int}
end
section
variable {n t k a b d : Int} {rows : List (List Int)} {p : List (Option Int)} {st : List Int}
theorem callO2 {F : Fn} {f : M D} {W W1 W' a d : D} {ρ : Cells} (h1 : f (.own W :: ρ) = .ok a (.own W1 :: ρ)) (h : F [W1, a] = .ret d [W']) : mCallF F [.own 0, .dat f] (.own W :: ρ) = .ok d (.own W' :: ρ) := by
  unfold mCallF
  simp [preL, cellD, M.bind, Opn.pre, h1, Out.andThen, M.pure, rdA, Opn.rd, setOuts, ownSlots, h]
end
section
theorem pow18 : sPow (.int 10) (.int 18) = some (.int (10 ^ 18)) := by
  show (if (0 : Int) ≤ 18 ∧ (18 : Int) ≤ 1000000 ∧ (10 : Int).natAbs < 2 ^ 64 then some (D.int (10 ^ (18 : Int).toNat)) else none) = _
  rw [if_pos ⟨by decide, by decide, by decide⟩]
  rfl
theorem call1 {sem : List D → Option D} {f : M D} {ρ : Cells} {a d : D} (h1 : f ρ = .ok a ρ) (h : sem [a] = some d) : mCall sem [.dat f] ρ = .ok d ρ := by
  unfold mCall
  simp [preL, M.bind, Opn.pre, h1, Out.andThen, M.pure, rdLM, Opn.rd, rdL, rdM, M.lift, h]
end
section
variable {n t k f : Int} {rows : List (List Int)}
theorem range_ok {f : M D} {ρ : Cells} {j : Int} (h : f ρ = .ok (.int j) ρ) (h1 : -16777216 ≤ j) (h2 : j ≤ 16777216) : mRange1 f ρ = .ok ((rng j.toNat).map .int) ρ := by
  unfold mRange1 M.bind
  rw [h]
  show (if j ≤ 16777216 ∧ -16777216 ≤ j then M.pure (rangeD 0 j.toNat) else M.stuck) _ = _
  rw [if_pos ⟨h2, h1⟩, rng_D]
  rfl
end
section
variable {n t v : Int} {rows : List (List Int)}
end
section
variable {n t v : Int} {rows : List (List Int)}
theorem sl_ok {sem : D → Option Int → Option Int → Option D} {f g : M D} {ρ : Cells} {d e : D} {j : Int} (h1 : f ρ = .ok d ρ) (h2 : g ρ = .ok (.int j) ρ) (h3 : sem d none (some j) = some e) : mSl sem (.dat f) none (some g) ρ = .ok e ρ := by
  unfold mSl
  simp [M.bind, Opn.pre, h1, mPart, h2, Out.andThen, M.pure, rdM, Opn.rd, M.lift, h3]
theorem sNe_tup (l m : List Int) : sNe (.tup (l.map .int)) (.tup (m.map .int)) = some (.bl (!decide (l = m))) := by
  simp [sNe, plain, toPy, PyData.canLay0, lay_ints, PyData.depth, dep_ints, eqD, PyData.eqv, eqv_ints]
theorem meth1 {is : D → Bool} {sem : D → List D → Option D} {f g : M D} {ρ : Cells} {a b d : D} (h1 : f ρ = .ok a ρ) (h2 : is a = true) (h3 : g ρ = .ok b ρ) (h4 : sem a [b] = some d) : mMeth is sem (.dat f) [(.dat g)] ρ = .ok d ρ := by
  unfold mMeth
  simp [M.bind, Opn.pre, h1, Out.andThen, rdM, Opn.rd, M.pure, h2, preL, h3, rdLM, rdL, M.lift, h4]
end
section
variable {n k f : Int}
end
section
variable {n k f sz : Int}
theorem lcM_T {β : Type} {g : TgM} {tt : M Bool} {fe : M D} {vs : List Nat} {w : Cells} (em : β → D) (P : β → Bool) (f : β → D) : ∀ (xs : List β) (ρ : Cells), wipeC ρ vs = w →
    (∀ x ∈ xs, ∃ ρ1, g (em x) w = some ρ1 ∧ tt ρ1 = .ok (P x) ρ1 ∧ (P x = true → fe ρ1 = .ok (f x) ρ1) ∧ wipeC ρ1 vs = w) →
    ∃ ρ', lcM g tt fe vs (xs.map em) ρ = some ((xs.filter P).map f, ρ') ∧ wipeC ρ' vs = w
  | [], ρ, hw, _ => ⟨ρ, rfl, hw⟩
  | x :: xs, ρ, hw, h => by
    obtain ⟨ρ1, h1, h2, h3, h4⟩ := h x List.mem_cons_self
    obtain ⟨ρ', e, hw'⟩ := lcM_T (g := g) (tt := tt) (fe := fe) em P f xs ρ1 h4 fun y hy => h y (List.mem_cons_of_mem _ hy)
    refine ⟨ρ', ?_, hw'⟩
    rw [List.map_cons]
    unfold lcM
    rw [hw]
    simp only [h1, h2]
    cases hP : P x with
    | true => simp [hP, h3 hP, e]
    | false => simp [hP, e]
theorem mLc_T {β : Type} {fi : M (List D)} {g : TgM} {tt : M Bool} {fe : M D} {vs : List Nat} {ρ : Cells} (em : β → D) (P : β → Bool) (f : β → D) {xs : List β} (hi : fi ρ = .ok (xs.map em) ρ) (ho : vs.all (fun v => !isOwn ρ[v]?) = true)
    (h : ∀ x ∈ xs, ∃ ρ1, g (em x) (wipeC ρ vs) = some ρ1 ∧ tt ρ1 = .ok (P x) ρ1 ∧ (P x = true → fe ρ1 = .ok (f x) ρ1) ∧ wipeC ρ1 vs = wipeC ρ vs) :
    mLc fi g tt fe vs ρ = .ok (.lst ((xs.filter P).map f)) ρ := by
  obtain ⟨ρ', e, hw⟩ := lcM_T (g := g) (tt := tt) (fe := fe) em P f xs ρ rfl h
  unfold mLc M.bind
  rw [hi]
  show (if vs.all (fun v => !isOwn ρ[v]?) = true then _ else _) = _
  rw [if_pos ho, e]
  show Out.ok _ (unwipe ρ ρ' vs) = _
  rw [unwipe_same hw]
theorem filter_true {β : Type} (l : List β) : l.filter (fun _ => true) = l := List.filter_eq_self.mpr fun _ _ => rfl
end
section
variable {n k f : Int}
theorem seqI_ok {f : M D} {ρ ρ1 : Cells} {d : D} {ds : List D} (h : f ρ = .ok d ρ1) (h2 : itemsOf d = some ds) : mSeqI f ρ = .ok ds ρ1 := by
  unfold mSeqI M.bind
  rw [h]
  show M.lift (itemsOf d) ρ1 = _
  rw [h2]
  rfl
def cellO : Option D → Cell
  | none => .no
  | some d => .dat d
theorem cellO_no (o : Option D) : isOwn (some (cellO o)) = false := by cases o <;> rfl
end
section
end
end Fx
set_option Elab.async false
set_option linter.all false
set_option maxRecDepth 100000
set_option maxHeartbeats 1000000
namespace Fx
open PySem L2
section
variable {n t : Int} {rows : List (List Int)} {p : List (Option Int)} {st : List Int}
def Walk (R : Int → Int → Prop) (l : List Int) : Prop := ∀ (k : Nat) (a b : Int), l[k]? = some a → l[k + 1]? = some b → R a b
theorem Walk.snoc {R : Int → Int → Prop} {l : List Int} {x y : Int} (h : Walk R (l ++ [x])) (r : R x y) : Walk R (l ++ [x] ++ [y]) := by
  intro k a b h1 h2
  by_cases hk : k + 1 < (l ++ [x]).length
  · rw [List.getElem?_append_left hk] at h2
    rw [List.getElem?_append_left (by omega)] at h1
    exact h k a b h1 h2
  · have hl : (l ++ [x]).length = l.length + 1 := by simp
    have hk2 := (List.getElem?_eq_some_iff.mp h2).1
    have hl2 : (l ++ [x] ++ [y]).length = l.length + 2 := by simp
    have hk3 : k = l.length := by omega
    subst hk3
    have e1 : (l ++ [x] ++ [y])[l.length]? = some x := by simp
    have e2 : (l ++ [x] ++ [y])[l.length + 1]? = some y := by
      rw [List.getElem?_append_right (by omega), hl]
      simp
    rw [e1] at h1
    rw [e2] at h2
    cases h1
    cases h2
    exact r
structure RingOk (rows : List (List Int)) (p : List (Option Int)) (L ring : List Int) : Prop where
  ne : ring ≠ []
  nd : ring.Nodup
  sub : ∀ s ∈ ring, s ∈ L
  nxt : Walk (Ps rows p) ring
  cyc : ∀ a b, ring[ring.length - 1]? = some a → ring[0]? = some b → Ps rows p a b
end
end Fx
set_option Elab.async false
set_option linter.all false
set_option maxRecDepth 100000
set_option maxHeartbeats 1000000
namespace Fx
open PySem L2
section
variable {n t : Int} {rows : List (List Int)} {p : List (Option Int)} {st : List Int}
structure OrdOk (rows : List (List Int)) (p : List (Option Int)) (M os : List Int) : Prop where
  perm : os.Perm M
  ord : os.Pairwise fun o s => ¬ Ps rows p s o
/-- what order_of answers -/
inductive OrdRes (t : Int) (rows : List (List Int)) (p : List (Option Int)) (st : List Int) : D → Prop
  | far (s : Int) : (mvF st 0 p).find? (farQ rows p t) = some s → OrdRes t rows p st (.tup [.str "far", .int s])
  | held (s o : Int) : (mvF st 0 p).find? (farQ rows p t) = none → (mvF st 0 p).find? (heldBy rows p st) = some s → (sortI st).find? (hQ rows p s) = some o → OrdRes t rows p st (.tup [.str "held", .int s, .int o])
  | order (os : List Int) : (mvF st 0 p).find? (farQ rows p t) = none → (mvF st 0 p).find? (heldBy rows p st) = none → NoCore (Ps rows p) (mvF st 0 p) → OrdOk rows p (mvF st 0 p) os → OrdRes t rows p st (.tup [.str "order", .tup (os.map .int)])
  | ring (r : List Int) : (mvF st 0 p).find? (farQ rows p t) = none → (mvF st 0 p).find? (heldBy rows p st) = none → ¬ NoCore (Ps rows p) (mvF st 0 p) → RingOk rows p (mvF st 0 p) r → OrdRes t rows p st (.tup [.str "ring", .tup (r.map .int)])
/-- what is ordered, and what is left -/
structure OrdInv (rows : List (List Int)) (p : List (Option Int)) (M l os : List Int) : Prop where
  perm : (l ++ os).Perm M
  cross : ∀ s ∈ os, ∀ o ∈ l, ¬ Ps rows p s o
  ord : os.Pairwise fun o s => ¬ Ps rows p s o
theorem split_perm (f : Int → Bool) : ∀ l : List Int, (l.filter (fun s => !f s) ++ l.filter f).Perm l
  | [] => List.Perm.refl _
  | a :: l => by
    rw [List.filter_cons, List.filter_cons]
    have ih := split_perm f l
    cases h : f a with
    | true => simpa using List.perm_middle.trans (ih.cons a)
    | false => simpa using ih.cons a
theorem OrdInv.step {M l os : List Int} (h : OrdInv rows p M l os) : OrdInv rows p M (l.filter (fun s => !lastQ rows p (l.map (plAt p)) s)) (l.filter (lastQ rows p (l.map (plAt p))) ++ os) := by
  have hl : ∀ s ∈ l.filter (lastQ rows p (l.map (plAt p))), ∀ o ∈ l, ¬ Ps rows p s o := fun s hs o ho hr => by
    have := (List.mem_filter.mp hs).2
    have h2 := last_iff.mpr ⟨o, ho, hr⟩
    rw [this] at h2
    cases h2
  refine ⟨?_, fun s hs o ho => ?_, ?_⟩
  · rw [← List.append_assoc]
    exact ((split_perm _ l).append_right os).trans h.perm
  · have ho := (List.mem_filter.mp ho).1
    rcases List.mem_append.mp hs with z | z
    · exact hl s z o ho
    · exact h.cross s z o ho
  · rw [List.pairwise_append]
    refine ⟨?_, h.ord, fun o ho s hs => h.cross s hs o (List.mem_filter.mp ho).1⟩
    exact List.pairwise_of_forall_mem_list fun o ho s hs => hl s hs o (List.mem_filter.mp ho).1
end
end Fx
set_option Elab.async false
set_option linter.all false
set_option maxRecDepth 100000
set_option maxHeartbeats 1000000
namespace Fx
open PySem L2
theorem insI_comm (a b : Int) : ∀ l : List Int, insI a (insI b l) = insI b (insI a l)
  | [] => by
    unfold insI
    unfold insI
    by_cases h : a ≤ b <;> by_cases h2 : b ≤ a <;> simp [h, h2] <;> omega
  | c :: l => by
    have ih := insI_comm a b l
    by_cases hb : b ≤ c <;> by_cases ha : a ≤ c
    · by_cases h : a ≤ b <;> by_cases h2 : b ≤ a <;> simp [insI, ha, hb, h, h2] <;> omega
    · have h : ¬ a ≤ b := by omega
      simp [insI, ha, hb, h]
    · have h : ¬ b ≤ a := by omega
      simp [insI, ha, hb, h]
    · simp [insI, ha, hb, ih]
theorem sortI_eq {l m : List Int} (h : l.Perm m) : sortI l = sortI m := by
  induction h with
  | nil => rfl
  | cons a _ ih =>
    show insI a (sortI _) = insI a (sortI _)
    rw [ih]
  | swap a b l => exact insI_comm b a (sortI l)
  | trans _ _ h1 h2 => exact h1.trans h2
theorem sortI_asc : ∀ {l : List Int}, l.Pairwise (· < ·) → sortI l = l
  | [], _ => rfl
  | a :: l, h => by
    obtain ⟨h1, h2⟩ := List.pairwise_cons.mp h
    unfold sortI
    rw [sortI_asc h2]
    cases l with
    | nil => rfl
    | cons b l =>
      unfold insI
      rw [if_pos (Int.le_of_lt (h1 b List.mem_cons_self))]
section
variable {n t : Int} {rows : List (List Int)} {p : List (Option Int)} {st st' : List Int}
def partsD (n : Int) (rows : List (List Int)) (t : Int) : D := .tup [.int n, .lst (rows.map rowD), .int t]
theorem pass_idx {s : Int} (h : Pres p s) (hok : PlOk rows p) : ((passI rows p s).length : Int) = idxI rows p s := by
  obtain ⟨i, x, r, rfl, h2, h3, h4, h5, h6⟩ := h.at hok
  have := List.idxOf_lt_length_of_mem h4
  unfold passI idxI
  rw [h5, h6, List.length_take]
  omega
end
end Fx
set_option Elab.async false
set_option linter.all false
set_option maxRecDepth 100000
set_option maxHeartbeats 1000000
namespace Fx
open PySem L2
section
variable {n t : Int} {rows : List (List Int)} {p : List (Option Int)} {st : List Int}
end
end Fx
set_option Elab.async false
set_option linter.all false
set_option maxRecDepth 100000
set_option maxHeartbeats 1000000
namespace Fx
open PySem L2
theorem sNe_words {w : Str} (hw : PyData.strOk w = true) (l : List Int) : sNe (.tup (.str w :: l.map .int)) (.tup (.str w :: l.map .int)) = some (.bl false) := by
  simp [sNe, plain, toPy, toPys, PyData.canLay0, PyData.canLayAll0, hw, lay_ints, PyData.depth, PyData.depthAll, dep_ints, eqD, PyData.eqv, PyData.eqvAll, eqv_ints]
theorem sNe_wtup {w : Str} (hw : PyData.strOk w = true) (l : List Int) : sNe (.tup [.str w, .tup (l.map .int)]) (.tup [.str w, .tup (l.map .int)]) = some (.bl false) := by
  simp [sNe, plain, toPy, toPys, PyData.canLay0, PyData.canLayAll0, hw, lay_ints, PyData.depth, PyData.depthAll, dep_ints, eqD, PyData.eqv, PyData.eqvAll, eqv_ints]
section
variable {n t : Int} {rows : List (List Int)} {p : List (Option Int)} {st : List Int}
end
end Fx
set_option Elab.async false
set_option linter.all false
set_option maxRecDepth 100000
set_option maxHeartbeats 1000000
namespace Fx
open PySem L2
section
variable {mo ma n : Int}
end
end Fx
set_option Elab.async false
set_option linter.all false
set_option maxRecDepth 100000
set_option maxHeartbeats 1000000
namespace Fx
open PySem L2
structure SInv (t : Int) (rows : List (List Int)) (down : List Int) (sp : List (Option Int)) : Prop where
  len : sp.length = rows.length
  ok : PlOk rows sp
  dl : (down.length : Int) ≤ t
  up : ∀ (s : Nat) (v : Int), sp[s]? = some (some v) → v ∉ down
  far : ∀ (s : Nat) (v : Int) (r : List Int), sp[s]? = some (some v) → rows[s]? = some r → (r.idxOf v : Int) ≤ t
  ord : ∃ os : List Int, (∀ s, s ∈ os ↔ Pres sp s) ∧ os.Pairwise fun o s => ¬ Ps rows sp s o
/-- the first server that is up -/
def firstUp (rows : List (List Int)) (down : List Int) (s : Int) : Option Int := ((rowAt rows s).filter fun h => !decide (h ∈ down)).head?
theorem first_spec (down : List Int) : ∀ {r : List Int} {v : Int}, (r.filter fun h => !decide (h ∈ down)).head? = some v → v ∈ r ∧ v ∉ down ∧ ∀ x ∈ r.take (r.idxOf v), x ∈ down
  | [], v, h => by simp at h
  | a :: r, v, h => by
    rw [List.filter_cons] at h
    by_cases ha : a ∈ down
    · rw [if_neg (by simpa using ha)] at h
      obtain ⟨h1, h2, h3⟩ := first_spec down h
      have e : a ≠ v := fun z => h2 (z ▸ ha)
      have e2 : (a == v) = false := by simpa using e
      refine ⟨List.mem_cons_of_mem _ h1, h2, fun x hx => ?_⟩
      rw [List.idxOf_cons, e2] at hx
      simp only [cond_false, List.take_succ_cons] at hx
      rcases List.mem_cons.mp hx with z | z
      · rw [z]; exact ha
      · exact h3 x z
    · rw [if_pos (by simpa using ha)] at h
      have e : a = v := by simpa using h
      subst e
      refine ⟨List.mem_cons_self, ha, fun x hx => ?_⟩
      simp at hx
section
variable {t : Int} {rows : List (List Int)} {down : List Int} {sp : List (Option Int)}
theorem pl_at {i : Nat} {v : Int} (h : sp[i]? = some (some v)) : plAt sp (i : Int) = v := by
  unfold plAt
  rw [Int.toNat_natCast, List.getD_eq_getElem?_getD, h]
  rfl
theorem row_at {i : Nat} {r : List Int} (h : rows[i]? = some r) : rowAt rows (i : Int) = r := by
  unfold rowAt
  rw [Int.toNat_natCast, List.getD_eq_getElem?_getD, h]
  rfl
theorem pl_set_ne {sp : List (Option Int)} {i : Nat} {o : Option Int} {s : Int} (h : s.toNat ≠ i) : plAt (sp.set i o) s = plAt sp s := by
  unfold plAt
  rw [List.getD_eq_getElem?_getD, List.getD_eq_getElem?_getD, List.getElem?_set_ne (Ne.symm h)]
theorem ps_set_ne {sp : List (Option Int)} {i : Nat} {o : Option Int} {s x : Int} (h : s.toNat ≠ i) (h2 : x.toNat ≠ i) : Ps rows (sp.set i o) s x ↔ Ps rows sp s x := by
  unfold Ps passI
  rw [pl_set_ne h, pl_set_ne h2]
theorem set_none {sp : List (Option Int)} {i : Nat} (h : sp[i]? = some none) : sp.set i none = sp := by
  apply List.ext_getElem?
  intro j
  by_cases e : i = j
  · subst e
    rw [List.getElem?_set_self (List.getElem?_eq_some_iff.mp h).1, h]
  · rw [List.getElem?_set_ne e]
theorem get_set_some {sp : List (Option Int)} {i s : Nat} {o : Option Int} {v : Int} (h : (sp.set i o)[s]? = some (some v)) : (s = i ∧ o = some v) ∨ (s ≠ i ∧ sp[s]? = some (some v)) := by
  by_cases e : i = s
  · subst e
    have hl := (List.getElem?_eq_some_iff.mp h).1
    rw [List.length_set] at hl
    rw [List.getElem?_set_self hl] at h
    exact .inl ⟨rfl, Option.some.inj h⟩
  · rw [List.getElem?_set_ne e] at h
    exact .inr ⟨fun z => e z.symm, h⟩
theorem SInv.clear (h : SInv t rows down sp) (i : Nat) : SInv t rows down (sp.set i none) := by
  obtain ⟨os, o1, o2⟩ := h.ord
  refine ⟨by rw [List.length_set]; exact h.len, fun s v hs => ?_, h.dl, fun s v hs => ?_, fun s v r hs => ?_, os.filter (fun s => decide (s.toNat ≠ i)), fun s => ?_, ?_⟩
  · rcases get_set_some hs with ⟨_, z⟩ | ⟨_, z⟩
    · cases z
    · exact h.ok s v z
  · rcases get_set_some hs with ⟨_, z⟩ | ⟨_, z⟩
    · cases z
    · exact h.up s v z
  · rcases get_set_some hs with ⟨_, z⟩ | ⟨_, z⟩
    · cases z
    · exact h.far s v r z
  · rw [List.mem_filter, o1, decide_eq_true_iff]
    constructor
    · rintro ⟨⟨j, x, rfl, hx⟩, hj⟩
      rw [Int.toNat_natCast] at hj
      exact ⟨j, x, rfl, by rw [List.getElem?_set_ne (Ne.symm hj)]; exact hx⟩
    · rintro ⟨j, x, rfl, hx⟩
      rcases get_set_some hx with ⟨_, z⟩ | ⟨z1, z2⟩
      · cases z
      · exact ⟨⟨j, x, rfl, z2⟩, by rw [Int.toNat_natCast]; exact z1⟩
  · refine List.Pairwise.imp_of_mem (fun {a b} ha hb hab => ?_) (o2.filter _)
    have ha := of_decide_eq_true (List.mem_filter.mp ha).2
    have hb := of_decide_eq_true (List.mem_filter.mp hb).2
    rw [ps_set_ne hb ha]
    exact hab
theorem SInv.move (h : SInv t rows down sp) (hrow : ∀ r ∈ rows, r.Nodup) {i : Nat} (hi : sp[i]? = some none) : SInv t rows down (sp.set i (firstUp rows down (i : Int))) := by
  cases hf : firstUp rows down (i : Int) with
  | none => rw [set_none hi]; exact h
  | some v =>
    have hl := (List.getElem?_eq_some_iff.mp hi).1
    have hlr : i < rows.length := by rw [← h.len]; exact hl
    have hr : rows[i]? = some rows[i] := List.getElem?_eq_getElem hlr
    unfold firstUp at hf
    rw [row_at hr] at hf
    obtain ⟨f1, f2, f3⟩ := first_spec down hf
    have hnd := hrow _ (List.mem_of_getElem? hr)
    have hfar : ((rows[i]).idxOf v : Int) ≤ t := by
      have h1 := pigeon ((rows[i]).take ((rows[i]).idxOf v)) down (hnd.sublist (List.take_sublist _ _)) f3
      have h2 := List.idxOf_lt_length_of_mem f1
      rw [List.length_take] at h1
      have := h.dl
      omega
    obtain ⟨os, o1, o2⟩ := h.ord
    have hset : (sp.set i (some v))[i]? = some (some v) := List.getElem?_set_self hl
    have hos : ∀ s ∈ os, s.toNat ≠ i := fun s hs => by
      obtain ⟨j, x, rfl, hx⟩ := (o1 s).mp hs
      rw [Int.toNat_natCast]
      intro z
      subst z
      rw [hi] at hx
      cases hx
    refine ⟨by rw [List.length_set]; exact h.len, fun s x hs => ?_, h.dl, fun s x hs => ?_, fun s x r hs hr2 => ?_, os ++ [(i : Int)], fun s => ?_, ?_⟩
    · rcases get_set_some hs with ⟨z1, z2⟩ | ⟨_, z⟩
      · cases z2
        subst z1
        exact ⟨_, hr, f1⟩
      · exact h.ok s x z
    · rcases get_set_some hs with ⟨z1, z2⟩ | ⟨_, z⟩
      · cases z2
        exact f2
      · exact h.up s x z
    · rcases get_set_some hs with ⟨z1, z2⟩ | ⟨_, z⟩
      · cases z2
        subst z1
        rw [hr] at hr2
        cases hr2
        exact hfar
      · exact h.far s x r z hr2
    · rw [List.mem_append, o1]
      constructor
      · rintro (⟨j, x, rfl, hx⟩ | z)
        · refine ⟨j, x, rfl, ?_⟩
          have hj : i ≠ j := fun z => by
            subst z
            rw [hi] at hx
            cases hx
          rw [List.getElem?_set_ne hj]
          exact hx
        · have z : s = (i : Int) := by simpa using z
          subst z
          exact ⟨i, v, rfl, hset⟩
      · rintro ⟨j, x, rfl, hx⟩
        rcases get_set_some hx with ⟨z1, z2⟩ | ⟨_, z⟩
        · subst z1
          exact .inr (by simp)
        · exact .inl ⟨j, x, rfl, z⟩
    · rw [List.pairwise_append]
      refine ⟨List.Pairwise.imp_of_mem (fun {a b} ha hb hab => by rw [ps_set_ne (hos b hb) (hos a ha)]; exact hab) o2, by simp, fun o ho s hs => ?_⟩
      have hs : s = (i : Int) := by simpa using hs
      subst hs
      obtain ⟨j, x, rfl, hx⟩ := (o1 o).mp ho
      have hj := hos _ ho
      intro hps
      unfold Ps passI at hps
      rw [pl_set_ne hj, pl_at hset, row_at hr, pl_at hx] at hps
      exact h.up j x hx (f3 x hps)
theorem SInv.sub (h : SInv t rows down sp) {down' : List Int} (hs : ∀ x ∈ down', x ∈ down) (hl : down'.length ≤ down.length) : SInv t rows down' sp :=
  ⟨h.len, h.ok, by have := h.dl; omega, fun s v hv z => h.up s v hv (hs v z), h.far, h.ord⟩
end
end Fx
set_option Elab.async false
set_option linter.all false
set_option maxRecDepth 100000
set_option maxHeartbeats 1000000
namespace Fx
open PySem L2
def stD (down : List Int) (sp : List (Option Int)) : D := .tup [.tup (down.map .int), plcD sp]
theorem so_end : PyData.strOk "end" = true := by
  unfold PyData.strOk
  rw [← Array.all_toList]
  decide
theorem so_begin : PyData.strOk "begin" = true := by
  unfold PyData.strOk
  rw [← Array.all_toList]
  decide
theorem so_up : PyData.strOk "up" = true := by
  unfold PyData.strOk
  rw [← Array.all_toList]
  decide
theorem so_down : PyData.strOk "down" = true := by
  unfold PyData.strOk
  rw [← Array.all_toList]
  decide
theorem setIx_ok {i : Nat} {fj fe : M D} {ρ : Cells} {d : D} {ds : List D} {k : Int} (h1 : fe ρ = .ok d ρ) (h2 : ρ[i]? = some (.own (.lst ds))) (h3 : fj ρ = .ok (.int k) ρ) (k0 : 0 ≤ k) (k1 : k < ds.length) : mSetIx i fj fe ρ = .next (ρ.set i (.own (.lst (ds.set k.toNat d)))) := by
  have h4 : ixN ds.length k = some k.toNat := by
    unfold ixN
    rw [if_pos k0, if_pos k1]
  unfold mSetIx mDo
  simp only [h1, ownAt, h2, h3, h4]
section
variable {n t : Int} {rows : List (List Int)} {S E : D} {w : Str} {h : Int}
end
section
variable {n t : Int} {rows : List (List Int)}
end
end Fx
set_option Elab.async false
set_option linter.all false
set_option maxRecDepth 100000
set_option maxHeartbeats 1000000
namespace Fx
open PySem L2
section
variable {n t : Int} {rows : List (List Int)} {down : List Int} {sp : List (Option Int)}
end
end Fx
set_option Elab.async false
set_option linter.all false
set_option maxRecDepth 100000
set_option maxHeartbeats 1000000
namespace Fx
open PySem L2
theorem OrdRes.same {t : Int} {rows : List (List Int)} {p : List (Option Int)} {st : List Int} {r : D} (h : OrdRes t rows p st r) : sNe r r = some (.bl false) := by
  cases h with
  | far s _ => exact sNe_words so_far [s]
  | held s o _ _ _ => exact sNe_words so_held [s, o]
  | order os _ _ _ _ => exact sNe_wtup so_order os
  | ring q _ _ _ _ => exact sNe_wtup so_ring q
theorem mLc_got {fi : M (List D)} {g : TgM} {tt : M Bool} {fe : M D} {vs : List Nat} {ρ ρ' : Cells} {ds es : List D} (hi : fi ρ = .ok ds ρ) (ho : vs.all (fun v => !isOwn ρ[v]?) = true) (h : lcM g tt fe vs ds ρ = some (es, ρ')) : mLc fi g tt fe vs ρ = .ok (.lst es) (unwipe ρ ρ' vs) := by
  unfold mLc M.bind
  rw [hi]
  show (if vs.all (fun v => !isOwn ρ[v]?) = true then _ else _) = _
  rw [if_pos ho, h]
section
variable {n t z : Int} {rows : List (List Int)} {sp : List (Option Int)}
end
end Fx
set_option Elab.async false
set_option linter.all false
set_option maxRecDepth 100000
set_option maxHeartbeats 1000000
namespace Fx
open PySem L2
theorem nb_h {b : Bool} (h : b = true) : NB b true := h
theorem nb_hf {b : Bool} (h : b = false) : NB b false := h
theorem nb_hn {b : Bool} (h : b = false) : NB (!b) true := by unfold NB; rw [h]; rfl
theorem nb_hnf {b : Bool} (h : b = true) : NB (!b) false := by unfold NB; rw [h]; rfl
def Wl (ρ : Cells) (vs : List Nat) (w : Cells) : Prop := wipeC ρ vs = w
theorem wl_n {ρ : Cells} : Wl ρ [] ρ := rfl
theorem wl_c {ρ ρ1 ρ2 : Cells} {v : Nat} {vs : List Nat} (h : Wl ρ vs ρ1) (h2 : SetAt ρ1 v .no ρ2) : Wl ρ (v :: vs) ρ2 := by
  unfold Wl wipeC
  rw [show wipeC ρ vs = ρ1 from h]
  exact h2
def LcE (g : TgM) (tt : M Bool) (fe : M D) (vs : List Nat) (w : Cells) (d : D) (b : Bool) (e : D) : Prop := ∃ ρ1, g d w = some ρ1 ∧ tt ρ1 = .ok b ρ1 ∧ (b = true → fe ρ1 = .ok e ρ1) ∧ wipeC ρ1 vs = w
theorem lcE_i {g : TgM} {tt : M Bool} {fe : M D} {vs : List Nat} {w ρ1 : Cells} {d e : D} {b : Bool} (h1 : Tg g d w ρ1) (h2 : tt ρ1 = .ok b ρ1) (h3 : b = true → fe ρ1 = .ok e ρ1) (h4 : Wl ρ1 vs w) : LcE g tt fe vs w d b e := ⟨ρ1, h1, h2, h3, h4⟩
def Mp {β : Type} (ds : List D) (xs : List β) (em : β → D) : Prop := ds = xs.map em
theorem mp_r {β : Type} {xs : List β} {em : β → D} : Mp (xs.map em) xs em := rfl
def NoOwn (ρ : Cells) (vs : List Nat) : Prop := vs.all (fun v => !isOwn ρ[v]?) = true
/-- a cell that owns nothing -/
def Nw (x : Cell) : Prop := isOwn (some x) = false
theorem nw_d {d : D} : Nw (.dat d) := rfl
theorem nw_n : Nw .no := rfl
theorem nw_o {o : Option D} : Nw (cellO o) := cellO_no o
theorem no_n {ρ : Cells} : NoOwn ρ [] := rfl
theorem no_c {ρ : Cells} {v : Nat} {vs : List Nat} {x : Cell} (h : GetAt ρ v x) (h2 : Nw x) (h3 : NoOwn ρ vs) : NoOwn ρ (v :: vs) := by
  unfold NoOwn
  rw [List.all_cons, show ρ[v]? = some x from h, show isOwn (some x) = false from h2]
  exact h3
theorem x_lc {β : Type} {fi : M (List D)} {g : TgM} {tt : M Bool} {fe : M D} {vs : List Nat} {ρ ρ1 w : Cells} {em : β → D} {P : β → Bool} {f : β → D} {ds : List D} {xs : List β} (hi : fi ρ = .ok ds ρ1) (hm : Mp ds xs em) (ho : NoOwn ρ1 vs) (hw : Wl ρ1 vs w) (h : ∀ x ∈ xs, LcE g tt fe vs w (em x) (P x) (f x)) :
    mLc fi g tt fe vs ρ = .ok (.lst ((xs.filter P).map f)) ρ1 := by
  have e : mLc fi g tt fe vs ρ = mLc (M.pure ds) g tt fe vs ρ1 := by
    unfold mLc M.bind
    rw [hi]
    rfl
  rw [e]
  rw [show ds = xs.map em from hm]
  exact mLc_T (fi := M.pure (xs.map em)) em P f rfl ho fun x hx => by
    rw [show wipeC ρ1 vs = w from hw]
    exact h x hx
theorem x_lcU {β : Type} {fi : M (List D)} {g : TgM} {fe : M D} {vs : List Nat} {ρ ρ1 w : Cells} {em : β → D} {f : β → D} {ds : List D} {xs : List β} (hi : fi ρ = .ok ds ρ1) (hm : Mp ds xs em) (ho : NoOwn ρ1 vs) (hw : Wl ρ1 vs w) (h : ∀ x ∈ xs, LcE g (M.pure true) fe vs w (em x) true (f x)) :
    mLc fi g (M.pure true) fe vs ρ = .ok (.lst (xs.map f)) ρ1 := by
  have := x_lc (P := fun _ => true) hi hm ho hw h
  rwa [filter_true] at this
theorem i_rng {f : M D} {k : Int} {ρ ρ1 : Cells} (h : f ρ = .ok (.int k) ρ1) (h1 : k ≤ 16777216) (h2 : -16777216 ≤ k) : mRange1 f ρ = .ok ((rng k.toNat).map .int) ρ1 := by
  rw [← rng_D]; exact i_range h h1 h2
theorem x_lrn {f : M D} {k : Int} {ρ ρ1 : Cells} (h : f ρ = .ok (.int k) ρ1) (h1 : -(2 ^ 62) ≤ k) (h2 : k ≤ 16777216) : mListRg f ρ = .ok (.lst ((rng k.toNat).map .int)) ρ1 := by
  rw [← rng_D]; exact x_lrg h h1 h2
/-- the items of enumerate -/
def enumL {α : Type} (f : α → D) : Nat → List α → List (Nat × α)
  | _, [] => []
  | n, a :: l => (n, a) :: enumL f (n + 1) l
def enE {α : Type} (f : α → D) (q : Nat × α) : D := .tup [.int (q.1 : Int), f q.2]
theorem enum_map {α : Type} (f : α → D) : ∀ (n : Nat) (l : List α), enumD n (l.map f) = (enumL f n l).map (enE f)
  | _, [] => rfl
  | n, a :: l => by
    rw [List.map_cons]
    show D.tup [.int (n : Int), f a] :: enumD (n + 1) (l.map f) = _
    rw [enum_map f (n + 1) l]
    rfl
theorem mem_enumL {α : Type} {f : α → D} : ∀ {n : Nat} {l : List α} {q : Nat × α}, q ∈ enumL f n l → ∃ i, q.1 = n + i ∧ l[i]? = some q.2
  | _, [], _, h => nomatch h
  | n, a :: l, q, h => by
    rcases List.mem_cons.mp h with z | z
    · subst z
      exact ⟨0, rfl, rfl⟩
    · obtain ⟨i, h1, h2⟩ := mem_enumL z
      exact ⟨i + 1, by omega, by simpa using h2⟩
theorem i_en {α : Type} {fe : M D} {f : α → D} {l : List α} {d : D} {ds : List D} {ρ ρ1 : Cells} (h : fe ρ = .ok d ρ1) (h2 : itemsOf d = some ds) (h3 : Mp ds l f) : mEnum fe ρ = .ok ((enumL f 0 l).map (enE f)) ρ1 := by
  rw [i_enum h h2, show ds = l.map f from h3, enum_map]
theorem sEq_opt (a b : Option Int) : sEq (optD a) (optD b) = some (.bl (decide (a = b))) := by
  cases a <;> cases b
  · rfl
  · rfl
  · rfl
  · rename_i x y
    show sEq (.int x) (.int y) = _
    rw [sEq_int]
    simp
theorem sNe_opt (a b : Option Int) : sNe (optD a) (optD b) = some (.bl (!decide (a = b))) := by
  cases a <;> cases b
  · rfl
  · rfl
  · rfl
  · rename_i x y
    show sNe (.int x) (.int y) = _
    rw [sNe_int]
    simp
theorem sIsN_opt (o : Option Int) : sIsN (optD o) .non = some (.bl (decide (o = none))) := by cases o <;> rfl
theorem sNotN_opt (o : Option Int) : sNotN (optD o) .non = some (.bl (!decide (o = none))) := by cases o <;> rfl
theorem sIx_plc {p : List (Option Int)} {i : Nat} {o : Option Int} (h : p[i]? = some o) : sIx (plcD p) (.int (i : Int)) = some (optD o) := by
  show atI _ _ = _
  rw [atI_nat, List.getElem?_map, h]
  rfl
theorem sIx_rows {rows : List (List Int)} {i : Nat} {r : List Int} (h : rows[i]? = some r) : sIx (.tup (rows.map rowD)) (.int (i : Int)) = some (rowD r) := ix_row h
theorem sIx_rowsL {rows : List (List Int)} {i : Nat} {r : List Int} (h : rows[i]? = some r) : sIx (.lst (rows.map rowD)) (.int (i : Int)) = some (rowD r) := by
  show atI _ _ = _
  rw [atI_nat, List.getElem?_map, h]
  rfl
theorem sAdd_lst {l m : List D} (h : l.length + m.length ≤ 16777216) : sAdd (.lst l) (.lst m) = some (.lst (l ++ m)) := if_pos h
theorem wApp_ok {l : List D} {e : D} (h : l.length < 16777216) : wAppend (.lst l) [e] = some (.non, .lst (l ++ [e])) := if_pos h
theorem sLen_lst {l : List D} : sLen [.lst l] = some (.int (l.length : Nat)) := by simp [sLen]
theorem sLen_tup {l : List D} : sLen [.tup l] = some (.int (l.length : Nat)) := by simp [sLen]
theorem isTupD (ds : List D) : sIsi [.tup ds, .raw (.ty "tuple")] = some (.bl true) := by simp [sIsi, tyName, kit_tt]
theorem sIn_row (a : Int) (l : List Int) : sIn (.int a) (rowD l) = some (.bl (decide (a ∈ l))) := sIn_tup a l
theorem sNin_row (a : Int) (l : List Int) : sNin (.int a) (rowD l) = some (.bl (!decide (a ∈ l))) := sNin_tup a l
theorem sLen_row (r : List Int) : sLen [rowD r] = some (.int (r.length : Nat)) := by simp [sLen, rowD]
theorem sLen_plc (p : List (Option Int)) : sLen [plcD p] = some (.int (p.length : Nat)) := by simp [sLen, plcD]
theorem isTup_row (r : List Int) : sIsi [rowD r, .raw (.ty "tuple")] = some (.bl true) := isTupD _
theorem isTup_plc (p : List (Option Int)) : sIsi [plcD p, .raw (.ty "tuple")] = some (.bl true) := isTupD _
theorem sNotN_int (v : Int) : sNotN (.int v) .non = some (.bl true) := rfl
theorem sIsN_int (v : Int) : sIsN (.int v) .non = some (.bl false) := rfl
theorem sNotN_tup (v : List D) : sNotN (.tup v) .non = some (.bl true) := rfl
theorem sIsN_tup (v : List D) : sIsN (.tup v) .non = some (.bl false) := rfl
theorem sNotN_lst (v : List D) : sNotN (.lst v) .non = some (.bl true) := rfl
theorem sIsN_lst (v : List D) : sIsN (.lst v) .non = some (.bl false) := rfl
theorem sNotN_non : sNotN .non .non = some (.bl false) := rfl
theorem sIsN_non : sIsN .non .non = some (.bl true) := rfl
theorem sLen_ints (l : List Int) : sLen [.lst (l.map .int)] = some (.int (l.length : Nat)) := by simp [sLen]
theorem sLen_tints (l : List Int) : sLen [.tup (l.map .int)] = some (.int (l.length : Nat)) := by simp [sLen]
theorem sLen_rows (l : List (List Int)) : sLen [.lst (l.map rowD)] = some (.int (l.length : Nat)) := by simp [sLen]
theorem sLen_rowsT (l : List (List Int)) : sLen [.tup (l.map rowD)] = some (.int (l.length : Nat)) := by simp [sLen]
end Fx
set_option Elab.async false
set_option linter.all false
set_option maxRecDepth 100000
set_option maxHeartbeats 1000000
namespace Fx
open PySem L2
section
variable {ρ ρ1 ρ2 ρ3 ρ4 ρ5 : Cells} {d e a b a1 a2 a3 a4 a5 w w1 : D}
theorem vv_id {i : Nat} (h : mVar i ρ = .ok d ρ1) : mVar i ρ = .ok d ρ1 := h
theorem gg_id {i : Nat} {x : Cell} (h : GetAt ρ i x) : GetAt ρ i x := h
theorem ss_id {i : Nat} {x : Cell} (h : SetAt ρ i x ρ1) : SetAt ρ i x ρ1 := h
theorem vk0 {r : Cells} : mVar 0 (.dat d :: r) = .ok d (.dat d :: r) := rfl
theorem gk0 {x : Cell} {r : Cells} : GetAt (x :: r) 0 x := rfl
theorem sk0 {x y : Cell} {r : Cells} : SetAt (x :: r) 0 y (y :: r) := rfl
theorem vk1 {c0 : Cell} {r : Cells} : mVar 1 (c0 :: .dat d :: r) = .ok d (c0 :: .dat d :: r) := rfl
theorem gk1 {c0 : Cell} {x : Cell} {r : Cells} : GetAt (c0 :: x :: r) 1 x := rfl
theorem sk1 {c0 : Cell} {x y : Cell} {r : Cells} : SetAt (c0 :: x :: r) 1 y (c0 :: y :: r) := rfl
theorem vk2 {c0 c1 : Cell} {r : Cells} : mVar 2 (c0 :: c1 :: .dat d :: r) = .ok d (c0 :: c1 :: .dat d :: r) := rfl
theorem gk2 {c0 c1 : Cell} {x : Cell} {r : Cells} : GetAt (c0 :: c1 :: x :: r) 2 x := rfl
theorem sk2 {c0 c1 : Cell} {x y : Cell} {r : Cells} : SetAt (c0 :: c1 :: x :: r) 2 y (c0 :: c1 :: y :: r) := rfl
theorem vk3 {c0 c1 c2 : Cell} {r : Cells} : mVar 3 (c0 :: c1 :: c2 :: .dat d :: r) = .ok d (c0 :: c1 :: c2 :: .dat d :: r) := rfl
theorem gk3 {c0 c1 c2 : Cell} {x : Cell} {r : Cells} : GetAt (c0 :: c1 :: c2 :: x :: r) 3 x := rfl
theorem sk3 {c0 c1 c2 : Cell} {x y : Cell} {r : Cells} : SetAt (c0 :: c1 :: c2 :: x :: r) 3 y (c0 :: c1 :: c2 :: y :: r) := rfl
theorem vk4 {c0 c1 c2 c3 : Cell} {r : Cells} : mVar 4 (c0 :: c1 :: c2 :: c3 :: .dat d :: r) = .ok d (c0 :: c1 :: c2 :: c3 :: .dat d :: r) := rfl
theorem gk4 {c0 c1 c2 c3 : Cell} {x : Cell} {r : Cells} : GetAt (c0 :: c1 :: c2 :: c3 :: x :: r) 4 x := rfl
theorem sk4 {c0 c1 c2 c3 : Cell} {x y : Cell} {r : Cells} : SetAt (c0 :: c1 :: c2 :: c3 :: x :: r) 4 y (c0 :: c1 :: c2 :: c3 :: y :: r) := rfl
theorem vk5 {c0 c1 c2 c3 c4 : Cell} {r : Cells} : mVar 5 (c0 :: c1 :: c2 :: c3 :: c4 :: .dat d :: r) = .ok d (c0 :: c1 :: c2 :: c3 :: c4 :: .dat d :: r) := rfl
theorem gk5 {c0 c1 c2 c3 c4 : Cell} {x : Cell} {r : Cells} : GetAt (c0 :: c1 :: c2 :: c3 :: c4 :: x :: r) 5 x := rfl
theorem sk5 {c0 c1 c2 c3 c4 : Cell} {x y : Cell} {r : Cells} : SetAt (c0 :: c1 :: c2 :: c3 :: c4 :: x :: r) 5 y (c0 :: c1 :: c2 :: c3 :: c4 :: y :: r) := rfl
theorem vk6 {c0 c1 c2 c3 c4 c5 : Cell} {r : Cells} : mVar 6 (c0 :: c1 :: c2 :: c3 :: c4 :: c5 :: .dat d :: r) = .ok d (c0 :: c1 :: c2 :: c3 :: c4 :: c5 :: .dat d :: r) := rfl
theorem gk6 {c0 c1 c2 c3 c4 c5 : Cell} {x : Cell} {r : Cells} : GetAt (c0 :: c1 :: c2 :: c3 :: c4 :: c5 :: x :: r) 6 x := rfl
theorem sk6 {c0 c1 c2 c3 c4 c5 : Cell} {x y : Cell} {r : Cells} : SetAt (c0 :: c1 :: c2 :: c3 :: c4 :: c5 :: x :: r) 6 y (c0 :: c1 :: c2 :: c3 :: c4 :: c5 :: y :: r) := rfl
theorem vk7 {c0 c1 c2 c3 c4 c5 c6 : Cell} {r : Cells} : mVar 7 (c0 :: c1 :: c2 :: c3 :: c4 :: c5 :: c6 :: .dat d :: r) = .ok d (c0 :: c1 :: c2 :: c3 :: c4 :: c5 :: c6 :: .dat d :: r) := rfl
theorem gk7 {c0 c1 c2 c3 c4 c5 c6 : Cell} {x : Cell} {r : Cells} : GetAt (c0 :: c1 :: c2 :: c3 :: c4 :: c5 :: c6 :: x :: r) 7 x := rfl
theorem sk7 {c0 c1 c2 c3 c4 c5 c6 : Cell} {x y : Cell} {r : Cells} : SetAt (c0 :: c1 :: c2 :: c3 :: c4 :: c5 :: c6 :: x :: r) 7 y (c0 :: c1 :: c2 :: c3 :: c4 :: c5 :: c6 :: y :: r) := rfl
theorem vk8 {c0 c1 c2 c3 c4 c5 c6 c7 : Cell} {r : Cells} : mVar 8 (c0 :: c1 :: c2 :: c3 :: c4 :: c5 :: c6 :: c7 :: .dat d :: r) = .ok d (c0 :: c1 :: c2 :: c3 :: c4 :: c5 :: c6 :: c7 :: .dat d :: r) := rfl
theorem gk8 {c0 c1 c2 c3 c4 c5 c6 c7 : Cell} {x : Cell} {r : Cells} : GetAt (c0 :: c1 :: c2 :: c3 :: c4 :: c5 :: c6 :: c7 :: x :: r) 8 x := rfl
theorem sk8 {c0 c1 c2 c3 c4 c5 c6 c7 : Cell} {x y : Cell} {r : Cells} : SetAt (c0 :: c1 :: c2 :: c3 :: c4 :: c5 :: c6 :: c7 :: x :: r) 8 y (c0 :: c1 :: c2 :: c3 :: c4 :: c5 :: c6 :: c7 :: y :: r) := rfl
theorem vk9 {c0 c1 c2 c3 c4 c5 c6 c7 c8 : Cell} {r : Cells} : mVar 9 (c0 :: c1 :: c2 :: c3 :: c4 :: c5 :: c6 :: c7 :: c8 :: .dat d :: r) = .ok d (c0 :: c1 :: c2 :: c3 :: c4 :: c5 :: c6 :: c7 :: c8 :: .dat d :: r) := rfl
theorem gk9 {c0 c1 c2 c3 c4 c5 c6 c7 c8 : Cell} {x : Cell} {r : Cells} : GetAt (c0 :: c1 :: c2 :: c3 :: c4 :: c5 :: c6 :: c7 :: c8 :: x :: r) 9 x := rfl
theorem sk9 {c0 c1 c2 c3 c4 c5 c6 c7 c8 : Cell} {x y : Cell} {r : Cells} : SetAt (c0 :: c1 :: c2 :: c3 :: c4 :: c5 :: c6 :: c7 :: c8 :: x :: r) 9 y (c0 :: c1 :: c2 :: c3 :: c4 :: c5 :: c6 :: c7 :: c8 :: y :: r) := rfl
theorem vk10 {c0 c1 c2 c3 c4 c5 c6 c7 c8 c9 : Cell} {r : Cells} : mVar 10 (c0 :: c1 :: c2 :: c3 :: c4 :: c5 :: c6 :: c7 :: c8 :: c9 :: .dat d :: r) = .ok d (c0 :: c1 :: c2 :: c3 :: c4 :: c5 :: c6 :: c7 :: c8 :: c9 :: .dat d :: r) := rfl
theorem gk10 {c0 c1 c2 c3 c4 c5 c6 c7 c8 c9 : Cell} {x : Cell} {r : Cells} : GetAt (c0 :: c1 :: c2 :: c3 :: c4 :: c5 :: c6 :: c7 :: c8 :: c9 :: x :: r) 10 x := rfl
theorem sk10 {c0 c1 c2 c3 c4 c5 c6 c7 c8 c9 : Cell} {x y : Cell} {r : Cells} : SetAt (c0 :: c1 :: c2 :: c3 :: c4 :: c5 :: c6 :: c7 :: c8 :: c9 :: x :: r) 10 y (c0 :: c1 :: c2 :: c3 :: c4 :: c5 :: c6 :: c7 :: c8 :: c9 :: y :: r) := rfl
theorem vk11 {c0 c1 c2 c3 c4 c5 c6 c7 c8 c9 c10 : Cell} {r : Cells} : mVar 11 (c0 :: c1 :: c2 :: c3 :: c4 :: c5 :: c6 :: c7 :: c8 :: c9 :: c10 :: .dat d :: r) = .ok d (c0 :: c1 :: c2 :: c3 :: c4 :: c5 :: c6 :: c7 :: c8 :: c9 :: c10 :: .dat d :: r) := rfl
theorem gk11 {c0 c1 c2 c3 c4 c5 c6 c7 c8 c9 c10 : Cell} {x : Cell} {r : Cells} : GetAt (c0 :: c1 :: c2 :: c3 :: c4 :: c5 :: c6 :: c7 :: c8 :: c9 :: c10 :: x :: r) 11 x := rfl
theorem sk11 {c0 c1 c2 c3 c4 c5 c6 c7 c8 c9 c10 : Cell} {x y : Cell} {r : Cells} : SetAt (c0 :: c1 :: c2 :: c3 :: c4 :: c5 :: c6 :: c7 :: c8 :: c9 :: c10 :: x :: r) 11 y (c0 :: c1 :: c2 :: c3 :: c4 :: c5 :: c6 :: c7 :: c8 :: c9 :: c10 :: y :: r) := rfl
theorem vk12 {c0 c1 c2 c3 c4 c5 c6 c7 c8 c9 c10 c11 : Cell} {r : Cells} : mVar 12 (c0 :: c1 :: c2 :: c3 :: c4 :: c5 :: c6 :: c7 :: c8 :: c9 :: c10 :: c11 :: .dat d :: r) = .ok d (c0 :: c1 :: c2 :: c3 :: c4 :: c5 :: c6 :: c7 :: c8 :: c9 :: c10 :: c11 :: .dat d :: r) := rfl
theorem gk12 {c0 c1 c2 c3 c4 c5 c6 c7 c8 c9 c10 c11 : Cell} {x : Cell} {r : Cells} : GetAt (c0 :: c1 :: c2 :: c3 :: c4 :: c5 :: c6 :: c7 :: c8 :: c9 :: c10 :: c11 :: x :: r) 12 x := rfl
theorem sk12 {c0 c1 c2 c3 c4 c5 c6 c7 c8 c9 c10 c11 : Cell} {x y : Cell} {r : Cells} : SetAt (c0 :: c1 :: c2 :: c3 :: c4 :: c5 :: c6 :: c7 :: c8 :: c9 :: c10 :: c11 :: x :: r) 12 y (c0 :: c1 :: c2 :: c3 :: c4 :: c5 :: c6 :: c7 :: c8 :: c9 :: c10 :: c11 :: y :: r) := rfl
theorem vk13 {c0 c1 c2 c3 c4 c5 c6 c7 c8 c9 c10 c11 c12 : Cell} {r : Cells} : mVar 13 (c0 :: c1 :: c2 :: c3 :: c4 :: c5 :: c6 :: c7 :: c8 :: c9 :: c10 :: c11 :: c12 :: .dat d :: r) = .ok d (c0 :: c1 :: c2 :: c3 :: c4 :: c5 :: c6 :: c7 :: c8 :: c9 :: c10 :: c11 :: c12 :: .dat d :: r) := rfl
theorem gk13 {c0 c1 c2 c3 c4 c5 c6 c7 c8 c9 c10 c11 c12 : Cell} {x : Cell} {r : Cells} : GetAt (c0 :: c1 :: c2 :: c3 :: c4 :: c5 :: c6 :: c7 :: c8 :: c9 :: c10 :: c11 :: c12 :: x :: r) 13 x := rfl
theorem sk13 {c0 c1 c2 c3 c4 c5 c6 c7 c8 c9 c10 c11 c12 : Cell} {x y : Cell} {r : Cells} : SetAt (c0 :: c1 :: c2 :: c3 :: c4 :: c5 :: c6 :: c7 :: c8 :: c9 :: c10 :: c11 :: c12 :: x :: r) 13 y (c0 :: c1 :: c2 :: c3 :: c4 :: c5 :: c6 :: c7 :: c8 :: c9 :: c10 :: c11 :: c12 :: y :: r) := rfl
theorem vk14 {c0 c1 c2 c3 c4 c5 c6 c7 c8 c9 c10 c11 c12 c13 : Cell} {r : Cells} : mVar 14 (c0 :: c1 :: c2 :: c3 :: c4 :: c5 :: c6 :: c7 :: c8 :: c9 :: c10 :: c11 :: c12 :: c13 :: .dat d :: r) = .ok d (c0 :: c1 :: c2 :: c3 :: c4 :: c5 :: c6 :: c7 :: c8 :: c9 :: c10 :: c11 :: c12 :: c13 :: .dat d :: r) := rfl
theorem gk14 {c0 c1 c2 c3 c4 c5 c6 c7 c8 c9 c10 c11 c12 c13 : Cell} {x : Cell} {r : Cells} : GetAt (c0 :: c1 :: c2 :: c3 :: c4 :: c5 :: c6 :: c7 :: c8 :: c9 :: c10 :: c11 :: c12 :: c13 :: x :: r) 14 x := rfl
theorem sk14 {c0 c1 c2 c3 c4 c5 c6 c7 c8 c9 c10 c11 c12 c13 : Cell} {x y : Cell} {r : Cells} : SetAt (c0 :: c1 :: c2 :: c3 :: c4 :: c5 :: c6 :: c7 :: c8 :: c9 :: c10 :: c11 :: c12 :: c13 :: x :: r) 14 y (c0 :: c1 :: c2 :: c3 :: c4 :: c5 :: c6 :: c7 :: c8 :: c9 :: c10 :: c11 :: c12 :: c13 :: y :: r) := rfl
theorem vk15 {c0 c1 c2 c3 c4 c5 c6 c7 c8 c9 c10 c11 c12 c13 c14 : Cell} {r : Cells} : mVar 15 (c0 :: c1 :: c2 :: c3 :: c4 :: c5 :: c6 :: c7 :: c8 :: c9 :: c10 :: c11 :: c12 :: c13 :: c14 :: .dat d :: r) = .ok d (c0 :: c1 :: c2 :: c3 :: c4 :: c5 :: c6 :: c7 :: c8 :: c9 :: c10 :: c11 :: c12 :: c13 :: c14 :: .dat d :: r) := rfl
theorem gk15 {c0 c1 c2 c3 c4 c5 c6 c7 c8 c9 c10 c11 c12 c13 c14 : Cell} {x : Cell} {r : Cells} : GetAt (c0 :: c1 :: c2 :: c3 :: c4 :: c5 :: c6 :: c7 :: c8 :: c9 :: c10 :: c11 :: c12 :: c13 :: c14 :: x :: r) 15 x := rfl
theorem sk15 {c0 c1 c2 c3 c4 c5 c6 c7 c8 c9 c10 c11 c12 c13 c14 : Cell} {x y : Cell} {r : Cells} : SetAt (c0 :: c1 :: c2 :: c3 :: c4 :: c5 :: c6 :: c7 :: c8 :: c9 :: c10 :: c11 :: c12 :: c13 :: c14 :: x :: r) 15 y (c0 :: c1 :: c2 :: c3 :: c4 :: c5 :: c6 :: c7 :: c8 :: c9 :: c10 :: c11 :: c12 :: c13 :: c14 :: y :: r) := rfl
theorem vk16 {c0 c1 c2 c3 c4 c5 c6 c7 c8 c9 c10 c11 c12 c13 c14 c15 : Cell} {r : Cells} : mVar 16 (c0 :: c1 :: c2 :: c3 :: c4 :: c5 :: c6 :: c7 :: c8 :: c9 :: c10 :: c11 :: c12 :: c13 :: c14 :: c15 :: .dat d :: r) = .ok d (c0 :: c1 :: c2 :: c3 :: c4 :: c5 :: c6 :: c7 :: c8 :: c9 :: c10 :: c11 :: c12 :: c13 :: c14 :: c15 :: .dat d :: r) := rfl
theorem gk16 {c0 c1 c2 c3 c4 c5 c6 c7 c8 c9 c10 c11 c12 c13 c14 c15 : Cell} {x : Cell} {r : Cells} : GetAt (c0 :: c1 :: c2 :: c3 :: c4 :: c5 :: c6 :: c7 :: c8 :: c9 :: c10 :: c11 :: c12 :: c13 :: c14 :: c15 :: x :: r) 16 x := rfl
theorem sk16 {c0 c1 c2 c3 c4 c5 c6 c7 c8 c9 c10 c11 c12 c13 c14 c15 : Cell} {x y : Cell} {r : Cells} : SetAt (c0 :: c1 :: c2 :: c3 :: c4 :: c5 :: c6 :: c7 :: c8 :: c9 :: c10 :: c11 :: c12 :: c13 :: c14 :: c15 :: x :: r) 16 y (c0 :: c1 :: c2 :: c3 :: c4 :: c5 :: c6 :: c7 :: c8 :: c9 :: c10 :: c11 :: c12 :: c13 :: c14 :: c15 :: y :: r) := rfl
theorem y_op2 {sem : D → D → Option D} {f g : M D} (h1 : f ρ = .ok a ρ1) (h2 : g ρ1 = .ok b ρ2) (h5 : sem a b = some d) : mOp2 sem (.dat f) (.dat g) ρ = .ok d ρ2 := x_op2 (oa := .dat f) (ob := .dat g) h1 h2 rfl rfl h5
theorem y_call1 {sem : List D → Option D} {f : M D} (h1 : f ρ = .ok a ρ1) (h3 : sem [a] = some d) : mCall sem [.dat f] ρ = .ok d ρ1 := x_call (pl_c h1 pl_n) (rl_c rfl rl_n) h3
theorem y_call2 {sem : List D → Option D} {f g : M D} (h1 : f ρ = .ok a ρ1) (h2 : g ρ1 = .ok b ρ2) (h3 : sem [a, b] = some d) : mCall sem [.dat f, .dat g] ρ = .ok d ρ2 := x_call (pl_c h1 (pl_c h2 pl_n)) (rl_c rfl (rl_c rfl rl_n)) h3
theorem y_sl1 {sem : D → Option Int → Option Int → Option D} {f g : M D} {j : Int} (h1 : f ρ = .ok a ρ1) (h2 : g ρ1 = .ok (.int j) ρ2) (h5 : sem a none (some j) = some d) : mSl sem (.dat f) none (some g) ρ = .ok d ρ2 := x_sl (o := .dat f) h1 pt_n (pt_s h2) rfl h5
theorem y_sl2 {sem : D → Option Int → Option Int → Option D} {f g : M D} {j : Int} (h1 : f ρ = .ok a ρ1) (h2 : g ρ1 = .ok (.int j) ρ2) (h5 : sem a (some j) none = some d) : mSl sem (.dat f) (some g) none ρ = .ok d ρ2 := x_sl (o := .dat f) h1 (pt_s h2) pt_n rfl h5
theorem y_tup1 {f : M D} (h1 : f ρ = .ok a ρ1) : mTup [f] ρ = .ok (.tup [a]) ρ1 := x_tup (sq_c h1 sq_n)
theorem y_tup2 {f g : M D} (h1 : f ρ = .ok a ρ1) (h2 : g ρ1 = .ok b ρ2) : mTup [f, g] ρ = .ok (.tup [a, b]) ρ2 := x_tup (sq_c h1 (sq_c h2 sq_n))
theorem y_fn1 {F : Fn} {f1 : M D} {outs : List D} (h1 : f1 ρ = .ok a1 ρ1) (h : F [a1] = .ret d outs) : mCallF F [.dat f1] ρ = .ok d ρ1 := x_callF (pl_c h1 pl_n) (ra_d ra_n) h put_n
theorem y_fn2 {F : Fn} {f1 f2 : M D} {outs : List D} (h1 : f1 ρ = .ok a1 ρ1) (h2 : f2 ρ1 = .ok a2 ρ2) (h : F [a1, a2] = .ret d outs) : mCallF F [.dat f1, .dat f2] ρ = .ok d ρ2 := x_callF (pl_c h1 (pl_c h2 pl_n)) (ra_d (ra_d ra_n)) h put_n
theorem y_fn3 {F : Fn} {f1 f2 f3 : M D} {outs : List D} (h1 : f1 ρ = .ok a1 ρ1) (h2 : f2 ρ1 = .ok a2 ρ2) (h3 : f3 ρ2 = .ok a3 ρ3) (h : F [a1, a2, a3] = .ret d outs) : mCallF F [.dat f1, .dat f2, .dat f3] ρ = .ok d ρ3 := x_callF (pl_c h1 (pl_c h2 (pl_c h3 pl_n))) (ra_d (ra_d (ra_d ra_n))) h put_n
theorem y_fn4 {F : Fn} {f1 f2 f3 f4 : M D} {outs : List D} (h1 : f1 ρ = .ok a1 ρ1) (h2 : f2 ρ1 = .ok a2 ρ2) (h3 : f3 ρ2 = .ok a3 ρ3) (h4 : f4 ρ3 = .ok a4 ρ4) (h : F [a1, a2, a3, a4] = .ret d outs) : mCallF F [.dat f1, .dat f2, .dat f3, .dat f4] ρ = .ok d ρ4 := x_callF (pl_c h1 (pl_c h2 (pl_c h3 (pl_c h4 pl_n)))) (ra_d (ra_d (ra_d (ra_d ra_n)))) h put_n
theorem y_fn5 {F : Fn} {f1 f2 f3 f4 f5 : M D} {outs : List D} (h1 : f1 ρ = .ok a1 ρ1) (h2 : f2 ρ1 = .ok a2 ρ2) (h3 : f3 ρ2 = .ok a3 ρ3) (h4 : f4 ρ3 = .ok a4 ρ4) (h5 : f5 ρ4 = .ok a5 ρ5) (h : F [a1, a2, a3, a4, a5] = .ret d outs) : mCallF F [.dat f1, .dat f2, .dat f3, .dat f4, .dat f5] ρ = .ok d ρ5 := x_callF (pl_c h1 (pl_c h2 (pl_c h3 (pl_c h4 (pl_c h5 pl_n))))) (ra_d (ra_d (ra_d (ra_d (ra_d ra_n))))) h put_n
theorem y_fo0 {F : Fn} {i : Nat} (h0 : GetAt ρ i (.own e))  (hg : GetAt ρ i (.own w)) (h : F [w] = .ret d [w1]) (hs : SetAt ρ i (.own w1) ρ5) : mCallF F [.own i] ρ = .ok d ρ5 := x_callF (pl_c (p_own h0) pl_n) (ra_o hg ra_n) h (put_c hs put_n)
theorem y_fo1 {F : Fn} {i : Nat} {f1 : M D} (h0 : GetAt ρ i (.own e)) (h1 : f1 ρ = .ok a1 ρ1) (hg : GetAt ρ1 i (.own w)) (h : F [w, a1] = .ret d [w1]) (hs : SetAt ρ1 i (.own w1) ρ5) : mCallF F [.own i, .dat f1] ρ = .ok d ρ5 := x_callF (pl_c (p_own h0) (pl_c h1 pl_n)) (ra_o hg (ra_d ra_n)) h (put_c hs put_n)
theorem y_fo2 {F : Fn} {i : Nat} {f1 f2 : M D} (h0 : GetAt ρ i (.own e)) (h1 : f1 ρ = .ok a1 ρ1) (h2 : f2 ρ1 = .ok a2 ρ2) (hg : GetAt ρ2 i (.own w)) (h : F [w, a1, a2] = .ret d [w1]) (hs : SetAt ρ2 i (.own w1) ρ5) : mCallF F [.own i, .dat f1, .dat f2] ρ = .ok d ρ5 := x_callF (pl_c (p_own h0) (pl_c h1 (pl_c h2 pl_n))) (ra_o hg (ra_d (ra_d ra_n))) h (put_c hs put_n)
theorem y_fo3 {F : Fn} {i : Nat} {f1 f2 f3 : M D} (h0 : GetAt ρ i (.own e)) (h1 : f1 ρ = .ok a1 ρ1) (h2 : f2 ρ1 = .ok a2 ρ2) (h3 : f3 ρ2 = .ok a3 ρ3) (hg : GetAt ρ3 i (.own w)) (h : F [w, a1, a2, a3] = .ret d [w1]) (hs : SetAt ρ3 i (.own w1) ρ5) : mCallF F [.own i, .dat f1, .dat f2, .dat f3] ρ = .ok d ρ5 := x_callF (pl_c (p_own h0) (pl_c h1 (pl_c h2 (pl_c h3 pl_n)))) (ra_o hg (ra_d (ra_d (ra_d ra_n)))) h (put_c hs put_n)
end
end Fx
set_option Elab.async false
set_option linter.all false
set_option maxRecDepth 100000
set_option maxHeartbeats 1000000
namespace Fx
open PySem L2
theorem l_cons {g : TgM} {body : MS} {d : D} {ds : List D} {ρ ρ1 ρ2 : Cells} {o : OutS} (h1 : Tg g d ρ ρ1) (h2 : body ρ1 = .next ρ2) (h3 : loopM g body ds ρ2 = o) : loopM g body (d :: ds) ρ = o := by
  unfold loopM
  simp only [show g d ρ = some ρ1 from h1, h2]
  exact h3
inductive Pn : Nat → D → Prop
  | non {k : Nat} : Pn k .non
  | int {k : Nat} {i : Int} : Pn k (.int i)
  | str {k : Nat} {x : Str} (h : PyData.strOk x = true) : Pn k (.str x)
  | tup {k : Nat} {ds : List D} (h : ∀ d ∈ ds, Pn k d) : Pn (k + 1) (.tup ds)
  | lst {k : Nat} {ds : List D} (h : ∀ d ∈ ds, Pn k d) : Pn (k + 1) (.lst ds)
theorem pnAll {k : Nat} : ∀ {ds : List D}, (∀ d ∈ ds, (toPy d).canLay0 = true ∧ (toPy d).depth ≤ k) → PyData.canLayAll0 (toPys ds) = true ∧ PyData.depthAll (toPys ds) ≤ k
  | [], _ => ⟨by simp [toPys, PyData.canLayAll0], by simp [toPys, PyData.depthAll]⟩
  | d :: ds, h => by
    obtain ⟨h1, h2⟩ := h d List.mem_cons_self
    obtain ⟨h3, h4⟩ := pnAll fun x hx => h x (List.mem_cons_of_mem _ hx)
    refine ⟨by simp [toPys, PyData.canLayAll0, h1, h3], ?_⟩
    simp only [toPys, PyData.depthAll]
    omega
theorem Pn.lay {k : Nat} {d : D} (h : Pn k d) : (toPy d).canLay0 = true ∧ (toPy d).depth ≤ k := by
  induction h with
  | non => exact ⟨by simp [toPy, PyData.canLay0], by simp [toPy, PyData.depth]⟩
  | int => exact ⟨by simp [toPy, PyData.canLay0], by simp [toPy, PyData.depth]⟩
  | str h => exact ⟨by simp [toPy, PyData.canLay0, h], by simp [toPy, PyData.depth]⟩
  | tup h ih =>
    obtain ⟨h1, h2⟩ := pnAll ih
    exact ⟨by simp [toPy, PyData.canLay0, h1], by simp only [toPy, PyData.depth]; omega⟩
  | lst h ih =>
    obtain ⟨h1, h2⟩ := pnAll ih
    exact ⟨by simp [toPy, PyData.canLay0, h1], by simp only [toPy, PyData.depth]; omega⟩
theorem eqvAll_iff : ∀ {ds es : List D}, (∀ d ∈ ds, ∀ e ∈ es, (PyData.eqv (toPy d) (toPy e) = true ↔ d = e)) → (PyData.eqvAll (toPys ds) (toPys es) = true ↔ ds = es)
  | [], [], _ => by simp [toPys, PyData.eqvAll]
  | [], e :: es, _ => by simp [toPys, PyData.eqvAll]
  | d :: ds, [], _ => by simp [toPys, PyData.eqvAll]
  | d :: ds, e :: es, h => by
    have h1 := h d List.mem_cons_self e List.mem_cons_self
    have h2 := eqvAll_iff fun x hx y hy => h x (List.mem_cons_of_mem _ hx) y (List.mem_cons_of_mem _ hy)
    simp only [toPys, PyData.eqvAll, Bool.and_eq_true, h1, h2, List.cons.injEq]
theorem Pn.eq {k : Nat} {d : D} (h : Pn k d) : ∀ {j : Nat} {e : D}, Pn j e → (PyData.eqv (toPy d) (toPy e) = true ↔ d = e) := by
  induction h with
  | non => intro j e h2; cases h2 <;> simp [toPy, PyData.eqv]
  | int => intro j e h2; cases h2 <;> simp [toPy, PyData.eqv]
  | str h => intro j e h2; cases h2 <;> simp [toPy, PyData.eqv]
  | tup h ih =>
    intro j e h2
    cases h2 with
    | tup h2 =>
      simp only [toPy, PyData.eqv, D.tup.injEq]
      exact eqvAll_iff fun x hx y hy => ih x hx (h2 y hy)
    | _ => simp [toPy, PyData.eqv]
  | lst h ih =>
    intro j e h2
    cases h2 with
    | lst h2 =>
      simp only [toPy, PyData.eqv, D.lst.injEq]
      exact eqvAll_iff fun x hx y hy => ih x hx (h2 y hy)
    | _ => simp [toPy, PyData.eqv]
open Classical in
theorem sEq_pn {k j : Nat} {d e : D} (h : Pn k d) (h2 : Pn j e) (hk : k ≤ 63 := by decide) : sEq d e = some (.bl (decide (d = e))) := by
  unfold sEq plain
  rw [h.lay.1, h2.lay.1, decide_eq_true (by have := h.lay.2; omega : min (toPy d).depth (toPy e).depth ≤ 63)]
  have : eqD d e = decide (d = e) := by
    rw [Bool.eq_iff_iff, decide_eq_true_iff]
    exact h.eq h2
  rw [this]
  rfl
open Classical in
theorem sNe_pn {k j : Nat} {d e : D} (h : Pn k d) (h2 : Pn j e) (hk : k ≤ 63 := by decide) : sNe d e = some (.bl (!decide (d = e))) := by
  have q := sEq_pn h h2 hk
  unfold sEq at q
  unfold sNe
  split at q
  · rename_i z
    rw [if_pos z]
    rw [D.bl.inj (Option.some.inj q)]
  · cases q
theorem sNe_same {k : Nat} {d : D} (h : Pn k d) (hk : k ≤ 63 := by decide) : sNe d d = some (.bl false) := by rw [sNe_pn h h hk]; simp
theorem pnsAll {k : Nat} {ds : List D} (h : ∀ d ∈ ds, Pn k d) : PyData.canLayAll0 (toPys ds) = true ∧ PyData.depthAll (toPys ds) ≤ k := pnAll fun d hd => (h d hd).lay
open Classical in
theorem inD_pn {k j : Nat} {d : D} {ds : List D} (h : Pn k d) (h2 : ∀ e ∈ ds, Pn j e) : inD d ds = decide (d ∈ ds) := by
  unfold inD
  rw [Bool.eq_iff_iff, decide_eq_true_iff, List.any_eq_true]
  constructor
  · rintro ⟨x, hx, e⟩
    rw [← ((h2 x hx).eq h).mp e]
    exact hx
  · intro hd
    exact ⟨d, hd, ((h2 d hd).eq h).mpr rfl⟩
open Classical in
theorem sIn_pn {k j : Nat} {d e : D} {ds : List D} (he : itemsOf e = some ds) (h : Pn k d) (h2 : ∀ e ∈ ds, Pn j e) (hk : k ≤ 63 := by decide) : sIn d e = some (.bl (decide (d ∈ ds))) := by
  unfold sIn plain
  rw [he]
  show (if _ then _ else _) = _
  obtain ⟨h3, h4⟩ := pnsAll h2
  rw [h.lay.1, h3, decide_eq_true (by have := h.lay.2; omega : min (PyData.depthAll (toPys ds)) (toPy d).depth ≤ 63), inD_pn h h2]
  rfl
open Classical in
theorem sNin_pn {k j : Nat} {d e : D} {ds : List D} (he : itemsOf e = some ds) (h : Pn k d) (h2 : ∀ e ∈ ds, Pn j e) (hk : k ≤ 63 := by decide) : sNin d e = some (.bl (!decide (d ∈ ds))) := by
  unfold sNin plain
  rw [he]
  show (if _ then _ else _) = _
  obtain ⟨h3, h4⟩ := pnsAll h2
  rw [h.lay.1, h3, decide_eq_true (by have := h.lay.2; omega : min (PyData.depthAll (toPys ds)) (toPy d).depth ≤ 63), inD_pn h h2]
  rfl
theorem pn_opt {k : Nat} (o : Option Int) : Pn k (optD o) := by cases o <;> constructor
theorem pn_row (r : List Int) : Pn 1 (rowD r) := .tup fun d hd => by
  obtain ⟨i, _, rfl⟩ := List.mem_map.mp hd
  exact .int
theorem pn_plc (p : List (Option Int)) : Pn 1 (plcD p) := .tup fun d hd => by
  obtain ⟨i, _, rfl⟩ := List.mem_map.mp hd
  exact pn_opt i
theorem Pn.up {k : Nat} {d : D} (h : Pn k d) : Pn (k + 1) d := by
  induction h with
  | non => exact .non
  | int => exact .int
  | str h => exact .str h
  | tup _ ih => exact .tup ih
  | lst _ ih => exact .lst ih
end Fx
set_option Elab.async false
set_option linter.all false
set_option maxRecDepth 100000
set_option maxHeartbeats 1000000
namespace Fx
open PySem L2
theorem sMod_ok {i j : Int} (h : j ≠ 0) : sMod (.int i) (.int j) = some (.int (i.fmod j)) := by simp [sMod, h]
theorem e_draw (a b d : Int) {lim : Int} (h : 0 < lim) (h2 : lim < 1000000) : ∃ r a' b' d', m_law_take [wellD a b d, .int lim] = .ret (.int r) [wellD a' b' d'] ∧ 0 ≤ r ∧ r < lim := by
  have hl : lim ≠ 0 := by omega
  have hb : lim.natAbs < 1073741824 := by omega
  by_cases ha : 0 < a
  · refine ⟨a.fmod lim, a.fdiv lim, b, d, ?_, fmod_in h⟩
    unfold m_law_take
    rw [mkFn_ret (d := .int (a.fmod lim)) (ρ := [.own (wellD (a.fdiv lim) b d), .dat (.int lim), .dat (.int (a.fmod lim)), .no]) (by
      show b_law_take [.own (wellD a b d), .dat (.int lim), .no, .no] = _
      unfold b_law_take
      rw [mSeq_ret]
      rw [mIfS_t (ρ' := [.own (wellD a b d), .dat (.int lim), .no, .no]) (by simp [mkFn, mSeq, mIfS, mDo, mRet, mRetN, mSkip, mExpr, mAsg, mAnd, mOr, mNot, mAndV, mOrV, mNotV, mB, mIf, mV, mNeg, mCall, mOp2, mTup, mLst, mMeth, mSl, mPart, preL, seqM, M.bind, M.pure, M.lift, M.stuck, Out.andThen, mVar, Opn.pre, Opn.rd, rdM, rdLM, rdL, cellD, initC, initAt, outsOf, outAt, gNm, gTp, gNms, mNew, mFrz, mPar, mFld, mCallF, mCallK, mCallN, appF, rdA, setOuts, ownSlots, ownPos, mSeqI, mEnum, mRange1, itemsOf, wellD, ix0, sGt, ha])]
      simp [mkFn, mSeq, mIfS, mDo, mRet, mRetN, mSkip, mExpr, mAsg, mAnd, mOr, mNot, mAndV, mOrV, mNotV, mB, mIf, mV, mNeg, mCall, mOp2, mTup, mLst, mMeth, mSl, mPart, preL, seqM, M.bind, M.pure, M.lift, M.stuck, Out.andThen, mVar, Opn.pre, Opn.rd, rdM, rdLM, rdL, cellD, initC, initAt, outsOf, outAt, gNm, gTp, gNms, mNew, mFrz, mPar, mFld, mCallF, mCallK, mCallN, appF, rdA, setOuts, ownSlots, ownPos, mSeqI, mEnum, mRange1, itemsOf, wellD, ix0, sMod, sFdiv, hl, hb, mSetIx, ownAt, ixN])]
    rfl
  · let x0 := (b + 67867967 * (d + 1) + 17)
    let x1 := (x0 * 48271).fmod 2147483563
    let x2 := (x1 * (x1.fdiv 1033 + 69697)).fmod 2147483587
    let x3 := ((x2 * (x2.fdiv 2029 + 40759)).fmod 2147483629).fdiv 7
    refine ⟨x3.fmod lim, a, b, d + 1, ?_, fmod_in h⟩
    have r1 : inR x1 = true := inR_fmod (by omega) (by omega)
    have r2 : inR x2 = true := inR_fmod (by omega) (by omega)
    unfold m_law_take
    rw [mkFn_ret (d := .int (x3.fmod lim)) (ρ := [.own (wellD a b (d + 1)), .dat (.int lim), .no, .dat (.int x2)]) (by
      show b_law_take [.own (wellD a b d), .dat (.int lim), .no, .no] = _
      unfold b_law_take
      rw [mSeq_next (ρ' := [.own (wellD a b d), .dat (.int lim), .no, .no]) (by
        rw [mIfS_f (ρ' := [.own (wellD a b d), .dat (.int lim), .no, .no]) (by simp [mkFn, mSeq, mIfS, mDo, mRet, mRetN, mSkip, mExpr, mAsg, mAnd, mOr, mNot, mAndV, mOrV, mNotV, mB, mIf, mV, mNeg, mCall, mOp2, mTup, mLst, mMeth, mSl, mPart, preL, seqM, M.bind, M.pure, M.lift, M.stuck, Out.andThen, mVar, Opn.pre, Opn.rd, rdM, rdLM, rdL, cellD, initC, initAt, outsOf, outAt, gNm, gTp, gNms, mNew, mFrz, mPar, mFld, mCallF, mCallK, mCallN, appF, rdA, setOuts, ownSlots, ownPos, mSeqI, mEnum, mRange1, itemsOf, wellD, ix0, sGt, ha])]
        simp [mkFn, mSeq, mIfS, mDo, mRet, mRetN, mSkip, mExpr, mAsg, mAnd, mOr, mNot, mAndV, mOrV, mNotV, mB, mIf, mV, mNeg, mCall, mOp2, mTup, mLst, mMeth, mSl, mPart, preL, seqM, M.bind, M.pure, M.lift, M.stuck, Out.andThen, mVar, Opn.pre, Opn.rd, rdM, rdLM, rdL, cellD, initC, initAt, outsOf, outAt, gNm, gTp, gNms, mNew, mFrz, mPar, mFld, mCallF, mCallK, mCallN, appF, rdA, setOuts, ownSlots, ownPos, mSeqI, mEnum, mRange1, itemsOf])]
      rw [mSeq_next (ρ' := [.own (wellD a b (d + 1)), .dat (.int lim), .no, .no]) (by simp [mkFn, mSeq, mIfS, mDo, mRet, mRetN, mSkip, mExpr, mAsg, mAnd, mOr, mNot, mAndV, mOrV, mNotV, mB, mIf, mV, mNeg, mCall, mOp2, mTup, mLst, mMeth, mSl, mPart, preL, seqM, M.bind, M.pure, M.lift, M.stuck, Out.andThen, mVar, Opn.pre, Opn.rd, rdM, rdLM, rdL, cellD, initC, initAt, outsOf, outAt, gNm, gTp, gNms, mNew, mFrz, mPar, mFld, mCallF, mCallK, mCallN, appF, rdA, setOuts, ownSlots, ownPos, mSeqI, mEnum, mRange1, itemsOf, wellD, ix2, sAdd, mSetIx, ownAt, ixN])]
      have k1 : sMul (.int 67867967) (.int (d + 1)) = some (.int (67867967 * (d + 1))) := sMul_l (by decide)
      have k2 : sMul (.int x0) (.int 48271) = some (.int (x0 * 48271)) := sMul_r (by decide)
      rw [mSeq_next (ρ' := [.own (wellD a b (d + 1)), .dat (.int lim), .no, .dat (.int x1)]) (by simp [mkFn, mSeq, mIfS, mDo, mRet, mRetN, mSkip, mExpr, mAsg, mAnd, mOr, mNot, mAndV, mOrV, mNotV, mB, mIf, mV, mNeg, mCall, mOp2, mTup, mLst, mMeth, mSl, mPart, preL, seqM, M.bind, M.pure, M.lift, M.stuck, Out.andThen, mVar, Opn.pre, Opn.rd, rdM, rdLM, rdL, cellD, initC, initAt, outsOf, outAt, gNm, gTp, gNms, mNew, mFrz, mPar, mFld, mCallF, mCallK, mCallN, appF, rdA, setOuts, ownSlots, ownPos, mSeqI, mEnum, mRange1, itemsOf, wellD, ix1, ix2, sAdd, sMod, k1]; simp [x0] at k2; simp [k2, x1, x0, sMod])]
      have k3 : sMul (.int x1) (.int (x1.fdiv 1033 + 69697)) = some (.int (x1 * (x1.fdiv 1033 + 69697))) := sMul_l r1
      rw [mSeq_next (ρ' := [.own (wellD a b (d + 1)), .dat (.int lim), .no, .dat (.int x2)]) (by simp [mkFn, mSeq, mIfS, mDo, mRet, mRetN, mSkip, mExpr, mAsg, mAnd, mOr, mNot, mAndV, mOrV, mNotV, mB, mIf, mV, mNeg, mCall, mOp2, mTup, mLst, mMeth, mSl, mPart, preL, seqM, M.bind, M.pure, M.lift, M.stuck, Out.andThen, mVar, Opn.pre, Opn.rd, rdM, rdLM, rdL, cellD, initC, initAt, outsOf, outAt, gNm, gTp, gNms, mNew, mFrz, mPar, mFld, mCallF, mCallK, mCallN, appF, rdA, setOuts, ownSlots, ownPos, mSeqI, mEnum, mRange1, itemsOf, sAdd, sMod, sFdiv, k3]; rfl)]
      have k4 : sMul (.int x2) (.int (x2.fdiv 2029 + 40759)) = some (.int (x2 * (x2.fdiv 2029 + 40759))) := sMul_l r2
      simp [mkFn, mSeq, mIfS, mDo, mRet, mRetN, mSkip, mExpr, mAsg, mAnd, mOr, mNot, mAndV, mOrV, mNotV, mB, mIf, mV, mNeg, mCall, mOp2, mTup, mLst, mMeth, mSl, mPart, preL, seqM, M.bind, M.pure, M.lift, M.stuck, Out.andThen, mVar, Opn.pre, Opn.rd, rdM, rdLM, rdL, cellD, initC, initAt, outsOf, outAt, gNm, gTp, gNms, mNew, mFrz, mPar, mFld, mCallF, mCallK, mCallN, appF, rdA, setOuts, ownSlots, ownPos, mSeqI, mEnum, mRange1, itemsOf, sAdd, sMod, sFdiv, k4, hl]
      rfl)]
    rfl
theorem sh_body (a b d : Int) (it : D) (l m : List Int) (h : l ≠ []) (hl : l.length < 4000) (hm : m.length < 4000) : ∃ a' b' d' k x, l[k]? = some x ∧
    mExpr (mMethWR wAppend 3 [(mMethWR wPopAt 2 [(mCallF m_law_take [(.own 0), (.dat (mCall sLen [(.own 2)]))])])]) [.own (wellD a b d), .dat it, .own (.lst (l.map .int)), .own (.lst (m.map .int))] =
      .next [.own (wellD a' b' d'), .dat it, .own (.lst ((l.eraseIdx k).map .int)), .own (.lst ((m ++ [x]).map .int))] := by
  have hp : 0 < l.length := List.length_pos_iff.mpr h
  obtain ⟨r, a', b', d', e, h1, h2⟩ := e_draw a b d (lim := (l.length : Int)) (by omega) (by omega)
  have hk : r.toNat < l.length := by omega
  refine ⟨a', b', d', r.toNat, l[r.toNat], List.getElem?_eq_getElem hk, ?_⟩
  have e1 : mCallF m_law_take [(.own 0), (.dat (mCall sLen [(.own 2)]))] [.own (wellD a b d), .dat it, .own (.lst (l.map .int)), .own (.lst (m.map .int))] = .ok (.int r) [.own (wellD a' b' d'), .dat it, .own (.lst (l.map .int)), .own (.lst (m.map .int))] := by
    simp [mkFn, mSeq, mIfS, mDo, mRet, mRetN, mSkip, mExpr, mAsg, mAnd, mOr, mNot, mAndV, mOrV, mNotV, mB, mIf, mV, mNeg, mCall, mOp2, mTup, mLst, mMeth, mSl, mPart, preL, seqM, M.bind, M.pure, M.lift, M.stuck, Out.andThen, mVar, Opn.pre, Opn.rd, rdM, rdLM, rdL, cellD, initC, initAt, outsOf, outAt, gNm, gTp, gNms, mNew, mFrz, mPar, mFld, mCallF, mCallK, mCallN, appF, rdA, setOuts, ownSlots, ownPos, mSeqI, mEnum, mRange1, itemsOf, sLen, e]
  have e2 : wPopAt (.lst (l.map .int)) [.int r] = some (.int l[r.toNat], .lst ((l.eraseIdx r.toNat).map .int)) := by
    have q : seqIndex? r (l.map D.int).length = some r.toNat := PySem.StrLaws.seqIndex_nonneg h1 (by rw [List.length_map]; exact h2)
    show (if -(2 ^ 62) ≤ r ∧ r < 2 ^ 62 then (seqIndex? r (l.map D.int).length).bind fun k => ((l.map D.int)[k]?).map fun y => (y, D.lst ((l.map D.int).eraseIdx k)) else none) = _
    rw [if_pos (by omega), q]
    simp [hk, eraseIdx_map]
  have e3 : mMethWR wPopAt 2 [(mCallF m_law_take [(.own 0), (.dat (mCall sLen [(.own 2)]))])] [.own (wellD a b d), .dat it, .own (.lst (l.map .int)), .own (.lst (m.map .int))] = .ok (.int l[r.toNat]) [.own (wellD a' b' d'), .dat it, .own (.lst ((l.eraseIdx r.toNat).map .int)), .own (.lst (m.map .int))] := by
    exact mMethWR1 (x0 := l.map .int) rfl e1 rfl e2
  have e4 : wAppend (.lst (m.map .int)) [.int l[r.toNat]] = some (.non, .lst ((m ++ [l[r.toNat]]).map .int)) := by
    have q : m.length < 16777216 := by omega
    simp [wAppend, q]
  have e5 := mMethWR1 (sem := wAppend) (i := 3) (x0 := m.map .int) (ρ := [.own (wellD a b d), .dat it, .own (.lst (l.map .int)), .own (.lst (m.map .int))]) rfl e3 rfl e4
  unfold mExpr mDo
  rw [e5]
  rfl
/-- some ints in any order; it is a list of them or a tuple -/
theorem e_mixed (a b d : Int) (it : D) (l : List Int) (hi : sList [it] = some (.lst (l.map .int))) (hl : l.length < 4000) : ∃ (a' b' d' : Int) (m : List Int), m_law_mixed [wellD a b d, it] = .ret (.lst (m.map .int)) [wellD a' b' d'] ∧ m.Perm l := by
  obtain ⟨ρ', e1, a', b', d', m, hm, he⟩ := while_inv (t := mB (mOp2 sNe (.own 2) (.dat (mLst [])))) (body := mExpr (mMethWR wAppend 3 [(mMethWR wPopAt 2 [(mCallF m_law_take [(.own 0), (.dat (mCall sLen [(.own 2)]))])])]))
    (fun k ρ => ∃ (a b d : Int) (l2 m2 : List Int), ρ = [.own (wellD a b d), .dat it, .own (.lst (l2.map .int)), .own (.lst (m2.map .int))] ∧ l2.length = k ∧ (l2 ++ m2).Perm l)
    (fun ρ => ∃ (a b d : Int) (m2 : List Int), List.Perm m2 l ∧ ρ = [.own (wellD a b d), .dat it, .own (.lst []), .own (.lst (m2.map .int))])
    (fun k ρ ⟨a, b, d, l2, m2, e, hk, hp⟩ => by
      subst e
      have q := sNe_lst l2 []
      refine ⟨!decide (l2 = []), [.own (wellD a b d), .dat it, .own (.lst (l2.map .int)), .own (.lst (m2.map .int))], ?_, fun hb => ?_, fun hb => ?_⟩
      · simp only [List.map_nil] at q
        simp [mkFn, mSeq, mIfS, mDo, mRet, mRetN, mSkip, mExpr, mAsg, mAnd, mOr, mNot, mAndV, mOrV, mNotV, mB, mIf, mV, mNeg, mCall, mOp2, mTup, mLst, mMeth, mSl, mPart, preL, seqM, M.bind, M.pure, M.lift, M.stuck, Out.andThen, mVar, Opn.pre, Opn.rd, rdM, rdLM, rdL, cellD, initC, initAt, outsOf, outAt, gNm, gTp, gNms, mNew, mFrz, mPar, mFld, mCallF, mCallK, mCallN, appF, rdA, setOuts, ownSlots, ownPos, mSeqI, mEnum, mRange1, itemsOf, q]
      · have z : l2 = [] := by simpa using hb
        subst z
        exact ⟨a, b, d, m2, by simpa using hp, rfl⟩
      · have z : l2 ≠ [] := by simpa using hb
        have hpl := hp.length_eq
        rw [List.length_append] at hpl
        obtain ⟨a', b', d', i, x, hx, e⟩ := sh_body a b d it l2 m2 z (by omega) (by omega)
        have hi := (List.getElem?_eq_some_iff.mp hx).1
        refine ⟨_, l2.length - 1, e, by omega, a', b', d', _, _, rfl, by rw [List.length_eraseIdx_of_lt hi], ?_⟩
        have p1 : (x :: l2.eraseIdx i).Perm l2 := cons_erase hx
        have p2 : (l2.eraseIdx i ++ (m2 ++ [x])).Perm (x :: l2.eraseIdx i ++ m2) := by
          rw [← List.append_assoc]
          exact List.perm_append_comm
        exact p2.trans ((p1.append_right m2).trans hp)) 4096 l.length _ (by omega) ⟨a, b, d, l, [], rfl, rfl, by simp⟩
  refine ⟨a', b', d', m, ?_, hm⟩
  subst he
  unfold m_law_mixed
  rw [mkFn_ret (d := .lst (m.map .int)) (ρ := [.own (wellD a' b' d'), .dat it, .own (.lst []), .dat (.lst (m.map .int))]) (by
    show b_law_mixed [.own (wellD a b d), .dat it, .no, .no] = _
    unfold b_law_mixed
    rw [mSeq_next (ρ' := [.own (wellD a b d), .dat it, .own (.lst (l.map .int)), .no]) (by simp [mkFn, mSeq, mIfS, mDo, mRet, mRetN, mSkip, mExpr, mAsg, mAnd, mOr, mNot, mAndV, mOrV, mNotV, mB, mIf, mV, mNeg, mCall, mOp2, mTup, mLst, mMeth, mSl, mPart, preL, seqM, M.bind, M.pure, M.lift, M.stuck, Out.andThen, mVar, Opn.pre, Opn.rd, rdM, rdLM, rdL, cellD, initC, initAt, outsOf, outAt, gNm, gTp, gNms, mNew, mFrz, mPar, mFld, mCallF, mCallK, mCallN, appF, rdA, setOuts, ownSlots, ownPos, mSeqI, mEnum, mRange1, itemsOf, hi])]
    rw [mSeq_next (ρ' := [.own (wellD a b d), .dat it, .own (.lst (l.map .int)), .own (.lst (([] : List Int).map .int))]) (by simp [mkFn, mSeq, mIfS, mDo, mRet, mRetN, mSkip, mExpr, mAsg, mAnd, mOr, mNot, mAndV, mOrV, mNotV, mB, mIf, mV, mNeg, mCall, mOp2, mTup, mLst, mMeth, mSl, mPart, preL, seqM, M.bind, M.pure, M.lift, M.stuck, Out.andThen, mVar, Opn.pre, Opn.rd, rdM, rdLM, rdL, cellD, initC, initAt, outsOf, outAt, gNm, gTp, gNms, mNew, mFrz, mPar, mFld, mCallF, mCallK, mCallN, appF, rdA, setOuts, ownSlots, ownPos, mSeqI, mEnum, mRange1, itemsOf])]
    rw [mSeq_next e1]
    simp [mkFn, mSeq, mIfS, mDo, mRet, mRetN, mSkip, mExpr, mAsg, mAnd, mOr, mNot, mAndV, mOrV, mNotV, mB, mIf, mV, mNeg, mCall, mOp2, mTup, mLst, mMeth, mSl, mPart, preL, seqM, M.bind, M.pure, M.lift, M.stuck, Out.andThen, mVar, Opn.pre, Opn.rd, rdM, rdLM, rdL, cellD, initC, initAt, outsOf, outAt, gNm, gTp, gNms, mNew, mFrz, mPar, mFld, mCallF, mCallK, mCallN, appF, rdA, setOuts, ownSlots, ownPos, mSeqI, mEnum, mRange1, itemsOf])]
  rfl
theorem sList_ints (l : List Int) : sList [.lst (l.map .int)] = some (.lst (l.map .int)) := rfl
section
variable {n t : Int} {rows : List (List Int)} {p : List (Option Int)} {st : List Int}
/-- the first server of a row that is up, by the law -/
theorem e_lfirst (r : List Int) (E : D) (down : List Int) (hE : ∀ x : Int, sNin (.int x) E = some (.bl (!decide (x ∈ down)))) (hl : r.length ≤ 4000) : m_law_first [rowD r, E] = .ret (optD ((r.filter fun h => !decide (h ∈ down)).head?)) [] := by
  have h1 : mLc (mSeqI (mVar 0)) (gNm 2) (mB (mOp2 sNin (.dat (mVar 2)) (.dat (mVar 1)))) (mVar 2) [2] [.dat (rowD r), .dat E, .no] = .ok (.lst ((r.filter fun x => !decide (x ∈ down)).map .int)) [.dat (rowD r), .dat E, .no] :=
    mLc_T (xs := r) D.int (fun x => !decide (x ∈ down)) D.int (seqI_ok rfl rfl) (by simp [isOwn]) fun x hx => ⟨[.dat (rowD r), .dat E, .dat (.int x)], by simp [gNm, wipeC], mB_ok (mOp2_dd (x := .int x) (y := E) rfl rfl (hE x)), fun _ => rfl, by simp [wipeC]⟩
  have hfl : (r.filter fun x => !decide (x ∈ down)).length ≤ 4000 := Nat.le_trans (List.length_filter_le _ _) hl
  have fin : b_law_first [.dat (rowD r), .dat E, .no] = .ret (optD ((r.filter fun h => !decide (h ∈ down)).head?)) [.dat (rowD r), .dat E, .no] := by
    unfold b_law_first
    generalize r.filter (fun x => !decide (x ∈ down)) = F at h1 hfl ⊢
    have g1 : sAdd (.lst (F.map .int)) (.lst [.non]) = some (.lst (F.map .int ++ [.non])) := if_pos (by rw [List.length_map, List.length_singleton]; omega)
    have g2 : sIx (.lst (F.map .int ++ [.non])) (.int 0) = some (optD F.head?) := by
      cases F with
      | nil => exact atI_nat [D.non] 0
      | cons a F => exact atI_nat ((a :: F).map D.int ++ [.non]) 0
    have g3 := mOp2_dd (mOp2_dd h1 (y := .lst [.non]) (g := mLst [(M.pure .non)]) rfl g1) (y := .int 0) (g := M.pure (.int 0)) rfl g2
    unfold mRet mDo
    rw [g3]
  have h' : b_law_first (initC 3 [] [rowD r, E]) = .ret (optD ((r.filter fun h => !decide (h ∈ down)).head?)) [.dat (rowD r), .dat E, .no] := fin
  unfold m_law_first
  rw [mkFn_ret h']
  rfl
theorem e_lover {s : Int} (h : Pres p s) (hok : PlOk rows p) : m_law_over [.lst (rows.map rowD), plcD p, .int s] = .ret (rowD (passI rows p s)) [] := by
  obtain ⟨i, x, r, rfl, h2, h3, h4, h5, h6⟩ := h.at hok
  have q1 : sIx (.lst (rows.map rowD)) (.int (i : Int)) = some (rowD r) := by
    show atI _ _ = _
    rw [atI_nat, List.getElem?_map, h3]
    rfl
  have q2 : sIx (plcD p) (.int (i : Int)) = some (.int x) := by
    show atI _ _ = _
    rw [atI_nat, List.getElem?_map, h2]
    rfl
  have q3 := sTix_row h4
  have q4 := cut_take (r.map D.int) (r.idxOf x)
  unfold passI
  rw [h5, h6]
  have q5 : sCut (rowD r) none (some ((r.idxOf x : Nat) : Int)) = some (rowD (r.take (r.idxOf x))) := by
    show some (D.tup (cutD _ none (some ((r.idxOf x : Nat) : Int)))) = _
    rw [q4, ← List.map_take]
    rfl
  have fin : b_law_over [.dat (.lst (rows.map rowD)), .dat (plcD p), .dat (.int (i : Int))] = .ret (rowD (r.take (r.idxOf x))) [.dat (.lst (rows.map rowD)), .dat (plcD p), .dat (.int (i : Int))] := by
    unfold b_law_over mRet mDo
    have g1 : mOp2 sIx (.dat (mVar 0)) (.dat (mVar 2)) [.dat (.lst (rows.map rowD)), .dat (plcD p), .dat (.int (i : Int))] = .ok (rowD r) [.dat (.lst (rows.map rowD)), .dat (plcD p), .dat (.int (i : Int))] := mOp2_dd rfl rfl q1
    have g2 : mOp2 sIx (.dat (mVar 1)) (.dat (mVar 2)) [.dat (.lst (rows.map rowD)), .dat (plcD p), .dat (.int (i : Int))] = .ok (.int x) [.dat (.lst (rows.map rowD)), .dat (plcD p), .dat (.int (i : Int))] := mOp2_dd rfl rfl q2
    rw [sl_ok g1 (meth1 g1 rfl g2 q3) q5]
  have h' : b_law_over (initC 3 [] [.lst (rows.map rowD), plcD p, .int (i : Int)]) = .ret (rowD (r.take (r.idxOf x))) [.dat (.lst (rows.map rowD)), .dat (plcD p), .dat (.int (i : Int))] := fin
  unfold m_law_over
  rw [mkFn_ret h']
  rfl
end
end Fx
set_option Elab.async false
set_option linter.all false
set_option maxRecDepth 100000
set_option maxHeartbeats 1000000
namespace Fx
open PySem L2
theorem lst3' {f g k : M D} {ρ ρ1 ρ2 ρ3 : Cells} {a b d : D} (h1 : f ρ = .ok a ρ1) (h2 : g ρ1 = .ok b ρ2) (h3 : k ρ2 = .ok d ρ3) : mLst [f, g, k] ρ = .ok (.lst [a, b, d]) ρ3 := by
  unfold mLst M.bind
  simp only [seqM, M.bind, h1, h2, h3, Out.andThen, M.pure]
theorem lst2' {f g : M D} {ρ ρ1 ρ2 : Cells} {a b : D} (h1 : f ρ = .ok a ρ1) (h2 : g ρ1 = .ok b ρ2) : mLst [f, g] ρ = .ok (.lst [a, b]) ρ2 := by
  unfold mLst M.bind
  simp only [seqM, M.bind, h1, h2, Out.andThen, M.pure]
theorem call1' {sem : List D → Option D} {f : M D} {ρ ρ1 : Cells} {a d : D} (h1 : f ρ = .ok a ρ1) (h2 : sem [a] = some d) : mCall sem [.dat f] ρ = .ok d ρ1 := by
  unfold mCall M.bind
  simp [preL, M.bind, Opn.pre, h1, Out.andThen, M.pure, rdLM, rdL, Opn.rd, M.lift, h2]
theorem call2' {sem : List D → Option D} {f g : M D} {ρ ρ1 ρ2 : Cells} {a b d : D} (h1 : f ρ = .ok a ρ1) (h2 : g ρ1 = .ok b ρ2) (h3 : sem [a, b] = some d) : mCall sem [.dat f, .dat g] ρ = .ok d ρ2 := by
  unfold mCall M.bind
  simp [preL, M.bind, Opn.pre, h1, h2, Out.andThen, M.pure, rdLM, rdL, Opn.rd, M.lift, h3]
theorem tup3x {f g j : M D} {ρ ρ1 ρ2 ρ3 : Cells} {a b d : D} (h1 : f ρ = .ok a ρ1) (h2 : g ρ1 = .ok b ρ2) (h3 : j ρ2 = .ok d ρ3) : mTup [f, g, j] ρ = .ok (.tup [a, b, d]) ρ3 := by
  unfold mTup M.bind
  simp only [seqM, M.bind, h1, h2, h3, Out.andThen, M.pure]
theorem rev_l {f : M D} {ρ ρ1 : Cells} {l : List Int} (h : f ρ = .ok (D.lst (List.map D.int l)) ρ1) : mRev sRev (.dat f) ρ = .ok (D.lst (List.map D.int l.reverse)) ρ1 := by
  have q : sRev (D.lst (List.map D.int l)) = some (D.lst (List.map D.int l.reverse)) := by
    show some (D.lst (l.map D.int).reverse) = _
    rw [List.map_reverse]
  unfold mRev M.bind
  simp only [Opn.pre, h, Out.andThen, rdM, Opn.rd, M.lift, q]
theorem cutLo (l : List Int) {k : Int} (h0 : 0 ≤ k) (h1 : k ≤ l.length) : sCut (D.lst (List.map D.int l)) (some k) none = some (D.lst (List.map D.int (l.drop k.toNat))) := by
  have e : cutD (l.map D.int) (some k) none = (l.drop k.toNat).map D.int := by
    unfold cutD
    have z2 : HT.sIx (l.map D.int).length 0 (some k) = k.toNat := by
      have := HT.sIx_nat (n := (l.map D.int).length) (d := 0) k.toNat
      rw [Int.toNat_of_nonneg h0] at this
      rw [this, List.length_map]
      omega
    rw [HT.sIx_none, z2, ← List.map_drop, List.take_of_length_le (by rw [List.length_map, List.length_map, List.length_drop]; omega)]
  show some (D.lst _) = _
  rw [e]
theorem cutHi (l : List Int) {k : Int} (h0 : 0 ≤ k) : sCut (D.lst (List.map D.int l)) none (some k) = some (D.lst (List.map D.int (l.take k.toNat))) := by
  show some (D.lst _) = _
  rw [cut_take' _ _ h0, ← List.map_take]
theorem slLo {f g : M D} {ρ : Cells} {d e : D} {j : Int} (h1 : f ρ = .ok d ρ) (h2 : g ρ = .ok (.int j) ρ) (h3 : sCut d (some j) none = some e) : mSl sCut (.dat f) (some g) none ρ = .ok e ρ := by
  unfold mSl M.bind
  simp [Opn.pre, h1, Out.andThen, mPart, M.bind, h2, M.pure, rdM, Opn.rd, M.lift, h3]
theorem slHi {f g : M D} {ρ ρ1 ρ2 : Cells} {d e : D} {j : Int} (h1 : f ρ = .ok d ρ1) (h2 : g ρ1 = .ok (.int j) ρ2) (h3 : sCut d none (some j) = some e) : mSl sCut (.dat f) none (some g) ρ = .ok e ρ2 := by
  unfold mSl M.bind
  simp [Opn.pre, h1, Out.andThen, mPart, M.bind, h2, M.pure, rdM, Opn.rd, M.lift, h3]
theorem sAdd_ll (l m : List Int) (h : l.length + m.length ≤ 1000) : sAdd (D.lst (List.map D.int l)) (D.lst (List.map D.int m)) = some (D.lst (List.map D.int (l ++ m))) := by
  have q : (l.map D.int).length + (m.map D.int).length ≤ 16777216 := by rw [List.length_map, List.length_map]; omega
  show (if (l.map D.int).length + (m.map D.int).length ≤ 16777216 then some (D.lst (l.map D.int ++ m.map D.int)) else none) = _
  rw [if_pos q, List.map_append]
theorem rowK {n k : Int} {m : List Int} (hn : 1 ≤ n) (hn2 : n ≤ 30) (hm : m.Perm (rng n.toNat)) (h0 : 1 ≤ k) : RowOk n (m.take k.toNat) := by
  have hl : m.length = n.toNat := by rw [hm.length_eq, rng_len]
  refine ⟨fun z => ?_, fun v hv => ?_, (hm.nodup_iff.mpr (rng_nd _)).sublist (List.take_sublist _ _), ?_⟩
  · have := congrArg List.length z
    rw [List.length_take, List.length_nil, hl] at this
    omega
  · have := rng_mem (hm.mem_iff.mp (List.mem_of_mem_take hv))
    omega
  · rw [List.length_take, hl]
    omega
section
variable {n t mo ma dp : Int} {base : List Int}
theorem fb_body (n1 : 1 ≤ n) (n2 : n ≤ 30) (hb : base.Perm (rng n.toNat)) (a b d : Int) (R : List (List Int)) (hR : R.length ≤ 1000) (c7 c8 c9 : Cell) : ∃ a' b' d' r c8' c9', (mSeq (mAsg (mOp2 sIx (.dat (mLst [(mCall sList [(.dat (mVar 5))]), (mRev sRev (.dat (mVar 5))), (mCallF m_law_mixed [(.own 0), (.dat (mVar 5))])])) (.dat (mCallF m_law_take [(.own 0), (.dat (M.pure (.int 3)))]))) (gNm 8)) (mSeq (mAsg (mCallF m_law_take [(.own 0), (.dat (mVar 4))]) (gNm 9)) (mSeq (mAsg (mOp2 sIx (.dat (mLst [(mVar 8), (mOp2 sAdd (.dat (mSl sCut (.dat (mVar 8)) (some (mVar 9)) none)) (.dat (mSl sCut (.dat (mVar 8)) none (some (mVar 9)))))])) (.dat (mCallF m_law_take [(.own 0), (.dat (M.pure (.int 2)))]))) (gNm 8)) (mExpr (mMethWR wAppend 6 [(mCall sTuple [(.dat (mSl sCut (.dat (mVar 8)) none (some (mOp2 sIx (.dat (mLst [(mVar 4), (mOp2 sAdd (.dat (M.pure (.int 1))) (.dat (mCallF m_law_take [(.own 0), (.dat (mVar 4))])))])) (.dat (mCallF m_law_take [(.own 0), (.dat (M.pure (.int 2)))]))))))])]))))) [.own (wellD a b d), .dat (.int mo), .dat (.int ma), .dat (.int dp), .dat (.int n), .dat (D.lst (List.map D.int base)), .own (.lst (List.map rowD R)), c7, c8, c9] = .next [.own (wellD a' b' d'), .dat (.int mo), .dat (.int ma), .dat (.int dp), .dat (.int n), .dat (D.lst (List.map D.int base)), .own (.lst (List.map rowD (R ++ [r]))), c7, c8', c9'] ∧ RowOk n r := by
  have hbl : base.length = n.toNat := by rw [hb.length_eq, rng_len]
  obtain ⟨a1, b1, d1, m, e1, p1⟩ := e_mixed a b d (D.lst (List.map D.int base)) base (sList_ints base) (by omega)
  obtain ⟨i2, a2, b2, d2, e2, l2, u2⟩ := e_draw a1 b1 d1 (lim := 3) (by omega) (by omega)
  obtain ⟨i3, a3, b3, d3, e3, l3, u3⟩ := e_draw a2 b2 d2 (lim := n) (by omega) (by omega)
  obtain ⟨i4, a4, b4, d4, e4, l4, u4⟩ := e_draw a3 b3 d3 (lim := 2) (by omega) (by omega)
  obtain ⟨i5, a5, b5, d5, e5, l5, u5⟩ := e_draw a4 b4 d4 (lim := n) (by omega) (by omega)
  obtain ⟨i6, a6, b6, d6, e6, l6, u6⟩ := e_draw a5 b5 d5 (lim := 2) (by omega) (by omega)
  have g1 : mLst [(mCall sList [(.dat (mVar 5))]), (mRev sRev (.dat (mVar 5))), (mCallF m_law_mixed [(.own 0), (.dat (mVar 5))])] [.own (wellD a b d), .dat (.int mo), .dat (.int ma), .dat (.int dp), .dat (.int n), .dat (D.lst (List.map D.int base)), .own (.lst (List.map rowD R)), c7, c8, c9] = .ok (.lst [(D.lst (List.map D.int base)), (D.lst (List.map D.int base.reverse)), (D.lst (List.map D.int m))]) [.own (wellD a1 b1 d1), .dat (.int mo), .dat (.int ma), .dat (.int dp), .dat (.int n), .dat (D.lst (List.map D.int base)), .own (.lst (List.map rowD R)), c7, c8, c9] := lst3' (call1 (f := mVar 5) rfl (sList_ints base)) (rev_l (f := mVar 5) rfl) (callO2 rfl e1)
  obtain ⟨X, hX, pX⟩ : ∃ X : List Int, sIx (.lst [(D.lst (List.map D.int base)), (D.lst (List.map D.int base.reverse)), (D.lst (List.map D.int m))]) (.int i2) = some (D.lst (List.map D.int X)) ∧ X.Perm base := by
    have : i2 = 0 ∨ i2 = 1 ∨ i2 = 2 := by omega
    rcases this with rfl | rfl | rfl
    · exact ⟨base, rfl, List.Perm.refl _⟩
    · exact ⟨base.reverse, rfl, List.reverse_perm _⟩
    · exact ⟨m, rfl, p1⟩
  have s1 : mAsg (mOp2 sIx (.dat (mLst [(mCall sList [(.dat (mVar 5))]), (mRev sRev (.dat (mVar 5))), (mCallF m_law_mixed [(.own 0), (.dat (mVar 5))])])) (.dat (mCallF m_law_take [(.own 0), (.dat (M.pure (.int 3)))]))) (gNm 8) [.own (wellD a b d), .dat (.int mo), .dat (.int ma), .dat (.int dp), .dat (.int n), .dat (D.lst (List.map D.int base)), .own (.lst (List.map rowD R)), c7, c8, c9] = .next [.own (wellD a2 b2 d2), .dat (.int mo), .dat (.int ma), .dat (.int dp), .dat (.int n), .dat (D.lst (List.map D.int base)), .own (.lst (List.map rowD R)), c7, .dat (D.lst (List.map D.int X)), c9] := mAsg_ok (mOp2_dd g1 (callO2 (f := M.pure (.int 3)) rfl e2) hX) rfl
  have s2 : mAsg (mCallF m_law_take [(.own 0), (.dat (mVar 4))]) (gNm 9) [.own (wellD a2 b2 d2), .dat (.int mo), .dat (.int ma), .dat (.int dp), .dat (.int n), .dat (D.lst (List.map D.int base)), .own (.lst (List.map rowD R)), c7, .dat (D.lst (List.map D.int X)), c9] = .next [.own (wellD a3 b3 d3), .dat (.int mo), .dat (.int ma), .dat (.int dp), .dat (.int n), .dat (D.lst (List.map D.int base)), .own (.lst (List.map rowD R)), c7, .dat (D.lst (List.map D.int X)), .dat (.int i3)] := mAsg_ok (callO2 (f := mVar 4) rfl e3) rfl
  have hXl : X.length = n.toNat := by rw [pX.length_eq, hbl]
  have q1 := cutLo X (k := i3) l3 (by omega)
  have q2 := cutHi X (k := i3) l3
  have q3 := sAdd_ll (X.drop i3.toNat) (X.take i3.toNat) (by rw [List.length_drop, List.length_take]; omega)
  have pR : (X.drop i3.toNat ++ X.take i3.toNat).Perm X := List.perm_append_comm.trans (by rw [List.take_append_drop])
  generalize X.drop i3.toNat ++ X.take i3.toNat = Y at q3 pR
  have g2 : mLst [(mVar 8), (mOp2 sAdd (.dat (mSl sCut (.dat (mVar 8)) (some (mVar 9)) none)) (.dat (mSl sCut (.dat (mVar 8)) none (some (mVar 9)))))] [.own (wellD a3 b3 d3), .dat (.int mo), .dat (.int ma), .dat (.int dp), .dat (.int n), .dat (D.lst (List.map D.int base)), .own (.lst (List.map rowD R)), c7, .dat (D.lst (List.map D.int X)), .dat (.int i3)] = .ok (.lst [(D.lst (List.map D.int X)), (D.lst (List.map D.int Y))]) [.own (wellD a3 b3 d3), .dat (.int mo), .dat (.int ma), .dat (.int dp), .dat (.int n), .dat (D.lst (List.map D.int base)), .own (.lst (List.map rowD R)), c7, .dat (D.lst (List.map D.int X)), .dat (.int i3)] :=
    lst2' rfl (mOp2_dd (slLo (f := mVar 8) (g := mVar 9) rfl rfl q1) (slHi (f := mVar 8) (g := mVar 9) rfl rfl q2) q3)
  obtain ⟨V, hV, pV⟩ : ∃ V : List Int, sIx (.lst [(D.lst (List.map D.int X)), (D.lst (List.map D.int Y))]) (.int i4) = some (D.lst (List.map D.int V)) ∧ V.Perm X := by
    have : i4 = 0 ∨ i4 = 1 := by omega
    rcases this with rfl | rfl
    · exact ⟨X, rfl, List.Perm.refl _⟩
    · exact ⟨Y, rfl, pR⟩
  have s3 : mAsg (mOp2 sIx (.dat (mLst [(mVar 8), (mOp2 sAdd (.dat (mSl sCut (.dat (mVar 8)) (some (mVar 9)) none)) (.dat (mSl sCut (.dat (mVar 8)) none (some (mVar 9)))))])) (.dat (mCallF m_law_take [(.own 0), (.dat (M.pure (.int 2)))]))) (gNm 8) [.own (wellD a3 b3 d3), .dat (.int mo), .dat (.int ma), .dat (.int dp), .dat (.int n), .dat (D.lst (List.map D.int base)), .own (.lst (List.map rowD R)), c7, .dat (D.lst (List.map D.int X)), .dat (.int i3)] = .next [.own (wellD a4 b4 d4), .dat (.int mo), .dat (.int ma), .dat (.int dp), .dat (.int n), .dat (D.lst (List.map D.int base)), .own (.lst (List.map rowD R)), c7, .dat (D.lst (List.map D.int V)), .dat (.int i3)] := mAsg_ok (mOp2_dd g2 (callO2 (f := M.pure (.int 2)) rfl e4) hV) rfl
  have g3 : mLst [(mVar 4), (mOp2 sAdd (.dat (M.pure (.int 1))) (.dat (mCallF m_law_take [(.own 0), (.dat (mVar 4))])))] [.own (wellD a4 b4 d4), .dat (.int mo), .dat (.int ma), .dat (.int dp), .dat (.int n), .dat (D.lst (List.map D.int base)), .own (.lst (List.map rowD R)), c7, .dat (D.lst (List.map D.int V)), .dat (.int i3)] = .ok (.lst [.int n, .int (1 + i5)]) [.own (wellD a5 b5 d5), .dat (.int mo), .dat (.int ma), .dat (.int dp), .dat (.int n), .dat (D.lst (List.map D.int base)), .own (.lst (List.map rowD R)), c7, .dat (D.lst (List.map D.int V)), .dat (.int i3)] := lst2' rfl (mOp2_dd (x := .int 1) rfl (callO2 (f := mVar 4) rfl e5) rfl)
  obtain ⟨k, hk, k1⟩ : ∃ k : Int, sIx (.lst [.int n, .int (1 + i5)]) (.int i6) = some (.int k) ∧ 1 ≤ k := by
    have : i6 = 0 ∨ i6 = 1 := by omega
    rcases this with rfl | rfl
    · exact ⟨n, rfl, n1⟩
    · exact ⟨1 + i5, rfl, by omega⟩
  have g4 : (mOp2 sIx (.dat (mLst [(mVar 4), (mOp2 sAdd (.dat (M.pure (.int 1))) (.dat (mCallF m_law_take [(.own 0), (.dat (mVar 4))])))])) (.dat (mCallF m_law_take [(.own 0), (.dat (M.pure (.int 2)))]))) [.own (wellD a4 b4 d4), .dat (.int mo), .dat (.int ma), .dat (.int dp), .dat (.int n), .dat (D.lst (List.map D.int base)), .own (.lst (List.map rowD R)), c7, .dat (D.lst (List.map D.int V)), .dat (.int i3)] = .ok (.int k) [.own (wellD a6 b6 d6), .dat (.int mo), .dat (.int ma), .dat (.int dp), .dat (.int n), .dat (D.lst (List.map D.int base)), .own (.lst (List.map rowD R)), c7, .dat (D.lst (List.map D.int V)), .dat (.int i3)] := mOp2_dd g3 (callO2 (f := M.pure (.int 2)) rfl e6) hk
  have g5 := slHi (f := mVar 8) (ρ := [.own (wellD a4 b4 d4), .dat (.int mo), .dat (.int ma), .dat (.int dp), .dat (.int n), .dat (D.lst (List.map D.int base)), .own (.lst (List.map rowD R)), c7, .dat (D.lst (List.map D.int V)), .dat (.int i3)]) rfl g4 (cutHi V (k := k) (by omega))
  have g6 : mCall sTuple [(.dat (mSl sCut (.dat (mVar 8)) none (some (mOp2 sIx (.dat (mLst [(mVar 4), (mOp2 sAdd (.dat (M.pure (.int 1))) (.dat (mCallF m_law_take [(.own 0), (.dat (mVar 4))])))])) (.dat (mCallF m_law_take [(.own 0), (.dat (M.pure (.int 2)))]))))))] [.own (wellD a4 b4 d4), .dat (.int mo), .dat (.int ma), .dat (.int dp), .dat (.int n), .dat (D.lst (List.map D.int base)), .own (.lst (List.map rowD R)), c7, .dat (D.lst (List.map D.int V)), .dat (.int i3)] = .ok (rowD (V.take k.toNat)) [.own (wellD a6 b6 d6), .dat (.int mo), .dat (.int ma), .dat (.int dp), .dat (.int n), .dat (D.lst (List.map D.int base)), .own (.lst (List.map rowD R)), c7, .dat (D.lst (List.map D.int V)), .dat (.int i3)] := call1' g5 rfl
  refine ⟨a6, b6, d6, V.take k.toNat, .dat (D.lst (List.map D.int V)), .dat (.int i3), ?_, rowK n1 n2 ((pV.trans pX).trans hb) k1⟩
  rw [mSeq_next s1, mSeq_next s2, mSeq_next s3]
  have q : wAppend (.lst (R.map rowD)) [rowD (V.take k.toNat)] = some (.non, .lst ((R ++ [V.take k.toNat]).map rowD)) := by
    show (if (R.map rowD).length < 16777216 then some (D.non, D.lst (R.map rowD ++ [rowD (V.take k.toNat)])) else none) = _
    rw [if_pos (by rw [List.length_map]; omega), List.map_append]
    rfl
  have g7 := mMethWR1 (sem := wAppend) (i := 6) (x0 := R.map rowD) (ρ := [.own (wellD a4 b4 d4), .dat (.int mo), .dat (.int ma), .dat (.int dp), .dat (.int n), .dat (D.lst (List.map D.int base)), .own (.lst (List.map rowD R)), c7, .dat (D.lst (List.map D.int V)), .dat (.int i3)]) rfl g6 rfl q
  exact exprF g7
theorem e_lfarm3 (a b d : Int) {mo ma dp : Int} (m1 : 1 ≤ mo) (m2 : mo ≤ 30) (k1 : 0 ≤ ma) (k2 : ma ≤ 60) (p1 : 0 ≤ dp) (p2 : dp ≤ 100) : ∃ a' b' d' n rows t, m_law_farm [wellD a b d, .int mo, .int ma, .int dp] = .ret (partsD n rows t) [wellD a' b' d'] ∧ FarmOk n rows ∧ 0 ≤ t ∧ t ≤ n ∧ n ≤ mo ∧ ((rows.length : Nat) : Int) ≤ ma := by
  obtain ⟨i1, a1, b1, d1, e1, l1, u1⟩ := e_draw a b d (lim := mo) (by omega) (by omega)
  generalize hn : 1 + i1 = n
  have n1 : 1 ≤ n := by omega
  have n2 : n ≤ 30 := by omega
  obtain ⟨a2, b2, d2, base, e2, hb⟩ := e_mixed a1 b1 d1 (D.lst (List.map D.int (rng n.toNat))) (rng n.toNat) (sList_ints _) (by rw [rng_len]; omega)
  obtain ⟨i3, a3, b3, d3, e3, l3, u3⟩ := e_draw a2 b2 d2 (lim := ma + 1) (by omega) (by omega)
  obtain ⟨ρ', e4, a4, b4, d4, R, c7, c8, c9, hρ, hRl, hR⟩ := loop_inv (g := gNm 7) (body := (mSeq (mAsg (mOp2 sIx (.dat (mLst [(mCall sList [(.dat (mVar 5))]), (mRev sRev (.dat (mVar 5))), (mCallF m_law_mixed [(.own 0), (.dat (mVar 5))])])) (.dat (mCallF m_law_take [(.own 0), (.dat (M.pure (.int 3)))]))) (gNm 8)) (mSeq (mAsg (mCallF m_law_take [(.own 0), (.dat (mVar 4))]) (gNm 9)) (mSeq (mAsg (mOp2 sIx (.dat (mLst [(mVar 8), (mOp2 sAdd (.dat (mSl sCut (.dat (mVar 8)) (some (mVar 9)) none)) (.dat (mSl sCut (.dat (mVar 8)) none (some (mVar 9)))))])) (.dat (mCallF m_law_take [(.own 0), (.dat (M.pure (.int 2)))]))) (gNm 8)) (mExpr (mMethWR wAppend 6 [(mCall sTuple [(.dat (mSl sCut (.dat (mVar 8)) none (some (mOp2 sIx (.dat (mLst [(mVar 4), (mOp2 sAdd (.dat (M.pure (.int 1))) (.dat (mCallF m_law_take [(.own 0), (.dat (mVar 4))])))])) (.dat (mCallF m_law_take [(.own 0), (.dat (M.pure (.int 2)))]))))))])])))))) (fun k ρ => ∃ (a b d : Int) (R : List (List Int)) (c7 c8 c9 : Cell), ρ = [.own (wellD a b d), .dat (.int mo), .dat (.int ma), .dat (.int dp), .dat (.int n), .dat (D.lst (List.map D.int base)), .own (.lst (List.map rowD R)), c7, c8, c9] ∧ R.length = k ∧ ∀ r ∈ R, RowOk n r) ((rng i3.toNat).map .int) 0 [.own (wellD a3 b3 d3), .dat (.int mo), .dat (.int ma), .dat (.int dp), .dat (.int n), .dat (D.lst (List.map D.int base)), .own (.lst (List.map rowD ([] : List (List Int)))), .no, .no, .no] ⟨a3, b3, d3, [], .no, .no, .no, rfl, rfl, fun r h => nomatch h⟩
    (fun i dd ρ hd ⟨a, b, d, R, c7, c8, c9, hρ, hRl, hR⟩ => by
      subst hρ
      have hi := (List.getElem?_eq_some_iff.mp hd).1
      rw [List.length_map, rng_len] at hi
      obtain ⟨a', b', d', r, c8', c9', e, hr⟩ := fb_body (mo := mo) (ma := ma) (dp := dp) n1 n2 hb a b d R (by omega) (.dat dd) c8 c9
      refine ⟨[.own (wellD a b d), .dat (.int mo), .dat (.int ma), .dat (.int dp), .dat (.int n), .dat (D.lst (List.map D.int base)), .own (.lst (List.map rowD R)), .dat dd, c8, c9], rfl, _, e, a', b', d', R ++ [r], .dat dd, c8', c9', rfl, by rw [List.length_append, List.length_singleton, hRl], fun x hx => ?_⟩
      rcases List.mem_append.mp hx with z | z
      · exact hR x z
      · have : x = r := by simpa using z
        rw [this]; exact hr)
  subst hρ
  rw [List.length_map, rng_len] at hRl
  obtain ⟨i5, a5, b5, d5, e5, l5, u5⟩ := e_draw a4 b4 d4 (lim := dp + 1) (by omega) (by omega)
  refine ⟨a5, b5, d5, n, R, (if i5 < n then i5 else n), ?_, ⟨n1, n2, by omega, hR⟩, by split <;> omega, by split <;> omega, by omega, by omega⟩
  have s1 : mAsg (mOp2 sAdd (.dat (M.pure (.int 1))) (.dat (mCallF m_law_take [(.own 0), (.dat (mVar 1))]))) (gNm 4) [.own (wellD a b d), .dat (.int mo), .dat (.int ma), .dat (.int dp), .no, .no, .no, .no, .no, .no] = .next [.own (wellD a1 b1 d1), .dat (.int mo), .dat (.int ma), .dat (.int dp), .dat (.int n), .no, .no, .no, .no, .no] := by
    rw [← hn]
    exact mAsg_ok (mOp2_dd (x := .int 1) rfl (callO2 (f := mVar 1) rfl e1) rfl) rfl
  have s2 : mAsg (mCallF m_law_mixed [(.own 0), (.dat (mListRg (mVar 4)))]) (gNm 5) [.own (wellD a1 b1 d1), .dat (.int mo), .dat (.int ma), .dat (.int dp), .dat (.int n), .no, .no, .no, .no, .no] = .next [.own (wellD a2 b2 d2), .dat (.int mo), .dat (.int ma), .dat (.int dp), .dat (.int n), .dat (D.lst (List.map D.int base)), .no, .no, .no, .no] := by
    have g : mListRg (mVar 4) [.own (wellD a1 b1 d1), .dat (.int mo), .dat (.int ma), .dat (.int dp), .dat (.int n), .no, .no, .no, .no, .no] = .ok (D.lst (List.map D.int (rng n.toNat))) [.own (wellD a1 b1 d1), .dat (.int mo), .dat (.int ma), .dat (.int dp), .dat (.int n), .no, .no, .no, .no, .no] := by
      unfold mListRg M.bind
      show (if -(2 ^ 62) ≤ n ∧ n ≤ 16777216 then M.pure (D.lst (rangeD 0 n.toNat)) else M.stuck) _ = _
      rw [if_pos ⟨by omega, by omega⟩, rng_D]
      rfl
    exact mAsg_ok (callO2 g e2) rfl
  have s3 : mRange1 (mCallF m_law_take [(.own 0), (.dat (mOp2 sAdd (.dat (mVar 2)) (.dat (M.pure (.int 1)))))]) [.own (wellD a2 b2 d2), .dat (.int mo), .dat (.int ma), .dat (.int dp), .dat (.int n), .dat (D.lst (List.map D.int base)), .own (.lst (List.map rowD ([] : List (List Int)))), .no, .no, .no] = .ok ((rng i3.toNat).map .int) [.own (wellD a3 b3 d3), .dat (.int mo), .dat (.int ma), .dat (.int dp), .dat (.int n), .dat (D.lst (List.map D.int base)), .own (.lst (List.map rowD ([] : List (List Int)))), .no, .no, .no] := by
    unfold mRange1 M.bind
    rw [callO2 (mOp2_dd (f := mVar 2) (g := M.pure (.int 1)) (x := .int ma) (y := .int 1) rfl rfl rfl) e3]
    show (if i3 ≤ 16777216 ∧ -16777216 ≤ i3 then M.pure (rangeD 0 i3.toNat) else M.stuck) _ = _
    rw [if_pos ⟨by omega, by omega⟩, rng_D]
    rfl
  have s5 : mTup [(mVar 4), (mVar 6), (mCall sMin [(.dat (mVar 4)), (.dat (mCallF m_law_take [(.own 0), (.dat (mOp2 sAdd (.dat (mVar 3)) (.dat (M.pure (.int 1)))))]))])] [.own (wellD a4 b4 d4), .dat (.int mo), .dat (.int ma), .dat (.int dp), .dat (.int n), .dat (D.lst (List.map D.int base)), .dat (.lst (R.map rowD)), c7, c8, c9] = .ok (partsD n R (if i5 < n then i5 else n)) [.own (wellD a5 b5 d5), .dat (.int mo), .dat (.int ma), .dat (.int dp), .dat (.int n), .dat (D.lst (List.map D.int base)), .dat (.lst (R.map rowD)), c7, c8, c9] := by
    have g : mCall sMin [(.dat (mVar 4)), (.dat (mCallF m_law_take [(.own 0), (.dat (mOp2 sAdd (.dat (mVar 3)) (.dat (M.pure (.int 1)))))]))] [.own (wellD a4 b4 d4), .dat (.int mo), .dat (.int ma), .dat (.int dp), .dat (.int n), .dat (D.lst (List.map D.int base)), .dat (.lst (R.map rowD)), c7, c8, c9] = .ok (.int (if i5 < n then i5 else n)) [.own (wellD a5 b5 d5), .dat (.int mo), .dat (.int ma), .dat (.int dp), .dat (.int n), .dat (D.lst (List.map D.int base)), .dat (.lst (R.map rowD)), c7, c8, c9] := by
      have g0 := callO2 (F := m_law_take) (f := mOp2 sAdd (.dat (mVar 3)) (.dat (M.pure (.int 1)))) (ρ := [.dat (.int mo), .dat (.int ma), .dat (.int dp), .dat (.int n), .dat (D.lst (List.map D.int base)), .dat (.lst (R.map rowD)), c7, c8, c9]) (W := wellD a4 b4 d4) (mOp2_dd (f := mVar 3) (g := M.pure (.int 1)) (x := .int dp) (y := .int 1) rfl rfl rfl) e5
      exact call2' (f := mVar 4) (a := .int n) rfl g0 rfl
    exact tup3x (f := mVar 4) (g := mVar 6) (a := .int n) (b := .lst (R.map rowD)) rfl rfl g
  have fin : b_law_farm [.own (wellD a b d), .dat (.int mo), .dat (.int ma), .dat (.int dp), .no, .no, .no, .no, .no, .no] = .ret (partsD n R (if i5 < n then i5 else n)) [.own (wellD a5 b5 d5), .dat (.int mo), .dat (.int ma), .dat (.int dp), .dat (.int n), .dat (D.lst (List.map D.int base)), .dat (.lst (R.map rowD)), c7, c8, c9] := by
    unfold b_law_farm
    rw [mSeq_next s1, mSeq_next s2]
    rw [mSeq_next (ρ' := [.own (wellD a2 b2 d2), .dat (.int mo), .dat (.int ma), .dat (.int dp), .dat (.int n), .dat (D.lst (List.map D.int base)), .own (.lst (List.map rowD ([] : List (List Int)))), .no, .no, .no]) (by rfl)]
    rw [mSeq_next (by rw [mFor_next s3]; exact e4)]
    unfold mFrz
    show mRet _ [.own (wellD a4 b4 d4), .dat (.int mo), .dat (.int ma), .dat (.int dp), .dat (.int n), .dat (D.lst (List.map D.int base)), .dat (.lst (R.map rowD)), c7, c8, c9] = _
    unfold mRet mDo
    rw [s5]
  have h' : b_law_farm (initC 10 [0] [wellD a b d, .int mo, .int ma, .int dp]) = .ret (partsD n R (if i5 < n then i5 else n)) [.own (wellD a5 b5 d5), .dat (.int mo), .dat (.int ma), .dat (.int dp), .dat (.int n), .dat (D.lst (List.map D.int base)), .dat (.lst (R.map rowD)), c7, c8, c9] := by
    rw [show initC 10 [0] [wellD a b d, .int mo, .int ma, .int dp] = [.own (wellD a b d), .dat (.int mo), .dat (.int ma), .dat (.int dp), .no, .no, .no, .no, .no, .no] from rfl]
    exact fin
  unfold m_law_farm
  rw [mkFn_ret h']
  rfl
end
end Fx
set_option Elab.async false
set_option linter.all false
set_option maxRecDepth 100000
set_option maxHeartbeats 1000000
namespace Fx
open PySem L2
theorem lay_opts : ∀ l : List (Option Int), PyData.canLayAll0 (toPys (l.map optD)) = true
  | [] => by simp [toPys, PyData.canLayAll0]
  | none :: l => by simp [toPys, toPy, optD, PyData.canLayAll0, PyData.canLay0, lay_opts l]
  | some a :: l => by simp [toPys, toPy, optD, PyData.canLayAll0, PyData.canLay0, lay_opts l]
theorem dep_opts : ∀ l : List (Option Int), PyData.depthAll (toPys (l.map optD)) = 0
  | [] => by simp [toPys, PyData.depthAll]
  | none :: l => by simp [toPys, toPy, optD, PyData.depthAll, PyData.depth, dep_opts l]
  | some a :: l => by simp [toPys, toPy, optD, PyData.depthAll, PyData.depth, dep_opts l]
theorem inD_opts (a : Int) : ∀ l : List (Option Int), inD (.int a) (l.map optD) = decide (some a ∈ l)
  | [] => by simp [inD]
  | none :: l => by
    have h := inD_opts a l
    simp only [inD, List.map_cons, List.any_cons] at h ⊢
    rw [h]
    have e : eqD (optD none) (.int a) = false := by rfl
    rw [e]
    simp
  | some b :: l => by
    have h := inD_opts a l
    simp only [inD, List.map_cons, List.any_cons] at h ⊢
    rw [h, show optD (some b) = D.int b from rfl, eqD_int]
    by_cases e : b = a
    · simp [e]
    · have e2 : ¬ a = b := fun z => e z.symm
      simp [e, e2]
theorem sNin_opts (a : Int) (l : List (Option Int)) : sNin (.int a) (D.lst (List.map optD l)) = some (.bl (!decide (some a ∈ l))) := by
  simp [sNin, itemsOf, plain, toPy, PyData.canLay0, lay_opts, dep_opts, PyData.depth, inD_opts]
theorem mOp2_do {sem : D → D → Option D} {f : M D} {i : Nat} {ρ ρ1 : Cells} {x y r : D} (h1 : f ρ = .ok x ρ1) (h2 : ρ1[i]? = some (.own y)) (h3 : sem x y = some r) : mOp2 sem (.dat f) (.own i) ρ = .ok r ρ1 := by
  unfold mOp2 M.bind
  simp [Opn.pre, h1, Out.andThen, M.bind, h2, cellD, rdM, Opn.rd, M.lift, h3]
theorem mulL_non (k : Nat) (h : k ≤ 1000) : sMulL (.lst [.non]) (.int (k : Int)) = some (.lst (List.replicate k D.non)) := by
  unfold sMulL
  dsimp only
  rw [if_pos, Int.toNat_natCast, List.flatten_replicate_singleton]
  refine ⟨by omega, by omega, ?_⟩
  rw [Int.toNat_natCast, List.length_singleton]
  omega
theorem listRg_ok {f : M D} {ρ ρ1 : Cells} {k : Int} (h : f ρ = .ok (.int k) ρ1) (h1 : -(2 ^ 62) ≤ k) (h2 : k ≤ 16777216) : mListRg f ρ = .ok (D.lst (List.map D.int (rng k.toNat))) ρ1 := by
  unfold mListRg M.bind
  rw [h]
  show (if -(2 ^ 62) ≤ k ∧ k ≤ 16777216 then M.pure (D.lst (rangeD 0 k.toNat)) else M.stuck) _ = _
  rw [if_pos ⟨h1, h2⟩, rng_D]
  rfl
section
variable {n t : Int} {rows : List (List Int)} {sp : List (Option Int)}
theorem SInv.downs (h : SInv t rows [] sp) {dn : List Int} (h1 : ∀ x ∈ dn, some x ∉ sp) (h2 : (dn.length : Int) ≤ t) : SInv t rows dn sp :=
  ⟨h.len, h.ok, h2, fun s v hv z => h1 v z (List.mem_of_getElem? hv), h.far, h.ord⟩
theorem d_body (hF : FarmOk n rows) (t0 : 0 ≤ t) (t1 : t ≤ n) (hI : SInv t rows [] sp) {i : Nat} (hi : sp[i]? = some none) (a b d : Int) (c7 c9 : Cell) :
    ∃ a' b' d' sp' c7' c9', (mSeq (mAsg (mLc (mRange1 (mVar 2)) (gNm 8) (mB (mOp2 sNin (.dat (mVar 8)) (.own 5))) (mVar 8) [8]) (gNm 7)) (mSeq (mAsg (mSl sCut (.dat (mCallF m_law_mixed [(.own 0), (.dat (mVar 7))])) none (some (mCallF m_law_take [(.own 0), (.dat (mOp2 sAdd (.dat (mVar 4)) (.dat (M.pure (.int 1)))))]))) (gNm 9)) (mSeq (mIfS (mB (mOp2 sGt (.dat (mCallF m_law_take [(.own 0), (.dat (M.pure (.int 4)))])) (.dat (M.pure (.int 0))))) (mAsg (mSl sCut (.dat (mLc (mSeqI (mOp2 sIx (.dat (mVar 3)) (.dat (mVar 6)))) (gNm 8) (mB (mOp2 sIn (.dat (mVar 8)) (.dat (mVar 7)))) (mVar 8) [8])) none (some (mCallF m_law_take [(.own 0), (.dat (mOp2 sAdd (.dat (mVar 4)) (.dat (M.pure (.int 1)))))]))) (gNm 9)) mSkip) (mSeq (mSetIx 5 (mVar 6) (mCallF m_law_first [(.dat (mOp2 sIx (.dat (mVar 3)) (.dat (mVar 6)))), (.dat (mVar 9))])) (mIfS (mB (mOp2 sEq (.dat (mCallF m_law_take [(.own 0), (.dat (M.pure (.int 9)))])) (.dat (M.pure (.int 0))))) (mSetIx 5 (mVar 6) (M.pure .non)) mSkip))))) [.own (wellD a b d), .dat (partsD n rows t), .dat (.int n), .dat (.lst (rows.map rowD)), .dat (.int t), .own (D.lst (List.map optD sp)), .dat (.int (i : Int)), c7, .no, c9] = .next [.own (wellD a' b' d'), .dat (partsD n rows t), .dat (.int n), .dat (.lst (rows.map rowD)), .dat (.int t), .own (D.lst (List.map optD sp')), .dat (.int (i : Int)), c7', .no, c9'] ∧ SInv t rows [] sp' ∧ ∀ j : Nat, j ≠ i → sp'[j]? = sp[j]? := by
  have n2 := hF.n2
  have n1 := hF.n1
  have hlen := hI.len
  have hil := (List.getElem?_eq_some_iff.mp hi).1
  have hr : rows[i]? = some rows[i] := List.getElem?_eq_getElem (by omega)
  have hrow := hF.row _ (List.mem_of_getElem? hr)
  generalize rows[i] = r at hr hrow
  have q0 : sIx (.lst (rows.map rowD)) (.int (i : Int)) = some (rowD r) := by
    show atI _ _ = _
    rw [atI_nat, List.getElem?_map, hr]
    rfl
  have g1 : (mLc (mRange1 (mVar 2)) (gNm 8) (mB (mOp2 sNin (.dat (mVar 8)) (.own 5))) (mVar 8) [8]) [.own (wellD a b d), .dat (partsD n rows t), .dat (.int n), .dat (.lst (rows.map rowD)), .dat (.int t), .own (D.lst (List.map optD sp)), .dat (.int (i : Int)), c7, .no, c9] = .ok (D.lst (List.map D.int ((rng n.toNat).filter fun x => !decide (some x ∈ sp)))) [.own (wellD a b d), .dat (partsD n rows t), .dat (.int n), .dat (.lst (rows.map rowD)), .dat (.int t), .own (D.lst (List.map optD sp)), .dat (.int (i : Int)), c7, .no, c9] := by
    exact mLc_T (xs := rng n.toNat) D.int (fun x => !decide (some x ∈ sp)) D.int (range_ok rfl (by omega) (by omega)) (by rfl) fun x hx =>
      ⟨[.own (wellD a b d), .dat (partsD n rows t), .dat (.int n), .dat (.lst (rows.map rowD)), .dat (.int t), .own (D.lst (List.map optD sp)), .dat (.int (i : Int)), c7, .dat (.int x), c9], by simp [gNm, wipeC], mB_ok (mOp2_do (f := mVar 8) rfl rfl (sNin_opts x sp)), fun _ => rfl, by simp [wipeC]⟩
  generalize hE : (rng n.toNat).filter (fun x => !decide (some x ∈ sp)) = E at g1
  have hEm : ∀ x ∈ E, some x ∉ sp := fun x hx => by
    rw [← hE, List.mem_filter] at hx
    simpa using hx.2
  have hEl : E.length ≤ 30 := by
    rw [← hE]
    exact Nat.le_trans (List.length_filter_le _ _) (by rw [rng_len]; omega)
  have s1 : mAsg (mLc (mRange1 (mVar 2)) (gNm 8) (mB (mOp2 sNin (.dat (mVar 8)) (.own 5))) (mVar 8) [8]) (gNm 7) [.own (wellD a b d), .dat (partsD n rows t), .dat (.int n), .dat (.lst (rows.map rowD)), .dat (.int t), .own (D.lst (List.map optD sp)), .dat (.int (i : Int)), c7, .no, c9] = .next [.own (wellD a b d), .dat (partsD n rows t), .dat (.int n), .dat (.lst (rows.map rowD)), .dat (.int t), .own (D.lst (List.map optD sp)), .dat (.int (i : Int)), .dat (D.lst (List.map D.int E)), .no, c9] := mAsg_ok g1 rfl
  obtain ⟨a1, b1, d1, m, e1, p1⟩ := e_mixed a b d (D.lst (List.map D.int E)) E (sList_ints E) (by omega)
  obtain ⟨k2, a2, b2, d2, e2, l2, u2⟩ := e_draw a1 b1 d1 (lim := t + 1) (by omega) (by omega)
  have s2 : mAsg (mSl sCut (.dat (mCallF m_law_mixed [(.own 0), (.dat (mVar 7))])) none (some (mCallF m_law_take [(.own 0), (.dat (mOp2 sAdd (.dat (mVar 4)) (.dat (M.pure (.int 1)))))]))) (gNm 9) [.own (wellD a b d), .dat (partsD n rows t), .dat (.int n), .dat (.lst (rows.map rowD)), .dat (.int t), .own (D.lst (List.map optD sp)), .dat (.int (i : Int)), .dat (D.lst (List.map D.int E)), .no, c9] = .next [.own (wellD a2 b2 d2), .dat (partsD n rows t), .dat (.int n), .dat (.lst (rows.map rowD)), .dat (.int t), .own (D.lst (List.map optD sp)), .dat (.int (i : Int)), .dat (D.lst (List.map D.int E)), .no, .dat (D.lst (List.map D.int (m.take k2.toNat)))] :=
    mAsg_ok (slHi (callO2 (f := mVar 7) rfl e1) (callO2 (mOp2_dd (f := mVar 4) (g := M.pure (.int 1)) (x := .int t) (y := .int 1) rfl rfl rfl) e2) (cutHi m l2)) rfl
  obtain ⟨k3, a3, b3, d3, e3, l3, u3⟩ := e_draw a2 b2 d2 (lim := 4) (by omega) (by omega)
  have t3 : mB (mOp2 sGt (.dat (mCallF m_law_take [(.own 0), (.dat (M.pure (.int 4)))])) (.dat (M.pure (.int 0)))) [.own (wellD a2 b2 d2), .dat (partsD n rows t), .dat (.int n), .dat (.lst (rows.map rowD)), .dat (.int t), .own (D.lst (List.map optD sp)), .dat (.int (i : Int)), .dat (D.lst (List.map D.int E)), .no, .dat (D.lst (List.map D.int (m.take k2.toNat)))] = .ok (decide (0 < k3)) [.own (wellD a3 b3 d3), .dat (partsD n rows t), .dat (.int n), .dat (.lst (rows.map rowD)), .dat (.int t), .own (D.lst (List.map optD sp)), .dat (.int (i : Int)), .dat (D.lst (List.map D.int E)), .no, .dat (D.lst (List.map D.int (m.take k2.toNat)))] :=
    mB_ok (mOp2_dd (callO2 (f := M.pure (.int 4)) rfl e3) (y := .int 0) rfl rfl)
  obtain ⟨a4, b4, d4, dn, s3, hd1, hd2⟩ : ∃ a4 b4 d4 dn, (mIfS (mB (mOp2 sGt (.dat (mCallF m_law_take [(.own 0), (.dat (M.pure (.int 4)))])) (.dat (M.pure (.int 0))))) (mAsg (mSl sCut (.dat (mLc (mSeqI (mOp2 sIx (.dat (mVar 3)) (.dat (mVar 6)))) (gNm 8) (mB (mOp2 sIn (.dat (mVar 8)) (.dat (mVar 7)))) (mVar 8) [8])) none (some (mCallF m_law_take [(.own 0), (.dat (mOp2 sAdd (.dat (mVar 4)) (.dat (M.pure (.int 1)))))]))) (gNm 9)) mSkip) [.own (wellD a2 b2 d2), .dat (partsD n rows t), .dat (.int n), .dat (.lst (rows.map rowD)), .dat (.int t), .own (D.lst (List.map optD sp)), .dat (.int (i : Int)), .dat (D.lst (List.map D.int E)), .no, .dat (D.lst (List.map D.int (m.take k2.toNat)))] = .next [.own (wellD a4 b4 d4), .dat (partsD n rows t), .dat (.int n), .dat (.lst (rows.map rowD)), .dat (.int t), .own (D.lst (List.map optD sp)), .dat (.int (i : Int)), .dat (D.lst (List.map D.int E)), .no, .dat (D.lst (List.map D.int dn))] ∧ (∀ x ∈ dn, some x ∉ sp) ∧ (dn.length : Int) ≤ t := by
    by_cases hk : 0 < k3
    · rw [decide_eq_true hk] at t3
      obtain ⟨k4, a4, b4, d4, e4, l4, u4⟩ := e_draw a3 b3 d3 (lim := t + 1) (by omega) (by omega)
      refine ⟨a4, b4, d4, (r.filter fun x => decide (x ∈ E)).take k4.toNat, ?_, fun x hx => ?_, by rw [List.length_take]; omega⟩
      · rw [mIfS_t t3]
        have g2 : mLc (mSeqI (mOp2 sIx (.dat (mVar 3)) (.dat (mVar 6)))) (gNm 8) (mB (mOp2 sIn (.dat (mVar 8)) (.dat (mVar 7)))) (mVar 8) [8] [.own (wellD a3 b3 d3), .dat (partsD n rows t), .dat (.int n), .dat (.lst (rows.map rowD)), .dat (.int t), .own (D.lst (List.map optD sp)), .dat (.int (i : Int)), .dat (D.lst (List.map D.int E)), .no, .dat (D.lst (List.map D.int (m.take k2.toNat)))] = .ok (D.lst (List.map D.int (r.filter fun x => decide (x ∈ E)))) [.own (wellD a3 b3 d3), .dat (partsD n rows t), .dat (.int n), .dat (.lst (rows.map rowD)), .dat (.int t), .own (D.lst (List.map optD sp)), .dat (.int (i : Int)), .dat (D.lst (List.map D.int E)), .no, .dat (D.lst (List.map D.int (m.take k2.toNat)))] := by
          exact mLc_T (xs := r) D.int (fun x => decide (x ∈ E)) D.int (seqI_ok (mOp2_dd (f := mVar 3) (g := mVar 6) rfl rfl q0) rfl) (by rfl) fun x hx =>
            ⟨[.own (wellD a3 b3 d3), .dat (partsD n rows t), .dat (.int n), .dat (.lst (rows.map rowD)), .dat (.int t), .own (D.lst (List.map optD sp)), .dat (.int (i : Int)), .dat (D.lst (List.map D.int E)), .dat (.int x), .dat (D.lst (List.map D.int (m.take k2.toNat)))], by simp [gNm, wipeC], mB_ok (mOp2_dd (f := mVar 8) (g := mVar 7) rfl rfl (sIn_lst x E)), fun _ => rfl, by simp [wipeC]⟩
        exact mAsg_ok (slHi g2 (callO2 (mOp2_dd (f := mVar 4) (g := M.pure (.int 1)) (x := .int t) (y := .int 1) rfl rfl rfl) e4) (cutHi _ l4)) rfl
      · have := (List.mem_filter.mp (List.mem_of_mem_take hx)).2
        exact hEm x (by simpa using this)
    · rw [decide_eq_false hk] at t3
      refine ⟨a3, b3, d3, m.take k2.toNat, ?_, fun x hx => hEm x (p1.mem_iff.mp (List.mem_of_mem_take hx)), by rw [List.length_take]; omega⟩
      rw [mIfS_f t3]
      rfl
  have hf := e_lfirst r (D.lst (List.map D.int dn)) dn (fun x => sNin_lst x dn) hrow.2.2.2
  have hfu : (r.filter fun h => !decide (h ∈ dn)).head? = firstUp rows dn (i : Int) := by
    unfold firstUp
    rw [row_at hr]
  rw [hfu] at hf
  have s4 : (mSetIx 5 (mVar 6) (mCallF m_law_first [(.dat (mOp2 sIx (.dat (mVar 3)) (.dat (mVar 6)))), (.dat (mVar 9))])) [.own (wellD a4 b4 d4), .dat (partsD n rows t), .dat (.int n), .dat (.lst (rows.map rowD)), .dat (.int t), .own (D.lst (List.map optD sp)), .dat (.int (i : Int)), .dat (D.lst (List.map D.int E)), .no, .dat (D.lst (List.map D.int dn))] = .next [.own (wellD a4 b4 d4), .dat (partsD n rows t), .dat (.int n), .dat (.lst (rows.map rowD)), .dat (.int t), .own (D.lst (List.map optD (sp.set i (firstUp rows dn (i : Int))))), .dat (.int (i : Int)), .dat (D.lst (List.map D.int E)), .no, .dat (D.lst (List.map D.int dn))] := by
    rw [setIx_ok (i := 5) (fj := mVar 6) (ds := sp.map optD) (k := (i : Int)) (callF2 (g := mVar 9) (mOp2_dd (f := mVar 3) (g := mVar 6) rfl rfl q0) (b := (D.lst (List.map D.int dn))) rfl hf) rfl rfl (by omega) (by rw [List.length_map]; omega), Int.toNat_natCast, ← List.map_set]
    rfl
  have hI1 : SInv t rows [] (sp.set i (firstUp rows dn (i : Int))) := ((hI.downs hd1 hd2).move (fun r hr => (hF.row r hr).2.2.1) hi).sub (fun x hx => nomatch hx) (by simp)
  obtain ⟨k5, a5, b5, d5, e5, l5, u5⟩ := e_draw a4 b4 d4 (lim := 9) (by omega) (by omega)
  have t5 : mB (mOp2 sEq (.dat (mCallF m_law_take [(.own 0), (.dat (M.pure (.int 9)))])) (.dat (M.pure (.int 0)))) [.own (wellD a4 b4 d4), .dat (partsD n rows t), .dat (.int n), .dat (.lst (rows.map rowD)), .dat (.int t), .own (D.lst (List.map optD (sp.set i (firstUp rows dn (i : Int))))), .dat (.int (i : Int)), .dat (D.lst (List.map D.int E)), .no, .dat (D.lst (List.map D.int dn))] = .ok (decide (k5 = 0)) [.own (wellD a5 b5 d5), .dat (partsD n rows t), .dat (.int n), .dat (.lst (rows.map rowD)), .dat (.int t), .own (D.lst (List.map optD (sp.set i (firstUp rows dn (i : Int))))), .dat (.int (i : Int)), .dat (D.lst (List.map D.int E)), .no, .dat (D.lst (List.map D.int dn))] :=
    mB_ok (mOp2_dd (callO2 (f := M.pure (.int 9)) rfl e5) (y := .int 0) rfl (sEq_int _ _))
  by_cases h5 : k5 = 0
  · rw [decide_eq_true h5] at t5
    refine ⟨a5, b5, d5, sp.set i none, .dat (D.lst (List.map D.int E)), .dat (D.lst (List.map D.int dn)), ?_, hI.clear i, fun j hj => List.getElem?_set_ne (Ne.symm hj)⟩
    rw [mSeq_next s1, mSeq_next s2, mSeq_next s3, mSeq_next s4, mIfS_t t5]
    rw [setIx_ok (i := 5) (fj := mVar 6) (fe := M.pure .non) (d := .non) (ds := (sp.set i (firstUp rows dn (i : Int))).map optD) (k := (i : Int)) rfl rfl rfl (by omega) (by rw [List.length_map, List.length_set]; omega), Int.toNat_natCast, show D.non = optD none from rfl, ← List.map_set, List.set_set]
    rfl
  · rw [decide_eq_false h5] at t5
    refine ⟨a5, b5, d5, sp.set i (firstUp rows dn (i : Int)), .dat (D.lst (List.map D.int E)), .dat (D.lst (List.map D.int dn)), ?_, hI1, fun j hj => List.getElem?_set_ne (Ne.symm hj)⟩
    rw [mSeq_next s1, mSeq_next s2, mSeq_next s3, mSeq_next s4, mIfS_f t5]
    rfl
theorem start_inv (t0 : 0 ≤ t) : SInv t rows [] (List.replicate rows.length none) := by
  have hn : ∀ (s : Nat) (v : Int), (List.replicate rows.length (none : Option Int))[s]? ≠ some (some v) := fun s v h => by
    have := List.mem_of_getElem? h
    rw [List.mem_replicate] at this
    cases this.2
  refine ⟨by simp, fun s v h => absurd h (hn s v), by simpa using t0, fun s v h => absurd h (hn s v), fun s v r h => absurd h (hn s v), [], fun s => ?_, List.Pairwise.nil⟩
  constructor
  · intro h
    exact nomatch h
  · rintro ⟨i, x, _, h⟩
    exact absurd h (hn i x)
theorem newM {f : M D} {i : Nat} {ρ ρ1 : Cells} {d : D} (h : f ρ = .ok d ρ1) : mNew f i ρ = .next (ρ1.set i (.own d)) := by
  unfold mNew mDo
  rw [h]
theorem map_non : ∀ k : Nat, List.replicate k D.non = (List.replicate k (none : Option Int)).map optD
  | 0 => rfl
  | k + 1 => by rw [List.replicate_succ, List.replicate_succ, List.map_cons, map_non k]; rfl
theorem mulL_opt {k : Nat} (h : k ≤ 1000) : sMulL (.lst [.non]) (.int (k : Int)) = some (D.lst (List.map optD (List.replicate k none))) := by rw [mulL_non k h, map_non k]
theorem dr_g (w : D) : mCall sLen [(.dat (mVar 3))] [.own w, .dat (partsD n rows t), .dat (.int n), .dat (.lst (rows.map rowD)), .dat (.int t), .no, .no, .no, .no, .no] = .ok (.int (rows.length : Nat)) [.own w, .dat (partsD n rows t), .dat (.int n), .dat (.lst (rows.map rowD)), .dat (.int t), .no, .no, .no, .no, .no] := call1 (f := mVar 3) (a := (.lst (rows.map rowD))) rfl (by simp [sLen])
theorem dr_m (w : D) {X : D} (h : sMulL (.lst [.non]) (.int (rows.length : Nat)) = some X) : mOp2 sMulL (.dat (mLst [(M.pure .non)])) (.dat (mCall sLen [(.dat (mVar 3))])) [.own w, .dat (partsD n rows t), .dat (.int n), .dat (.lst (rows.map rowD)), .dat (.int t), .no, .no, .no, .no, .no] = .ok X [.own w, .dat (partsD n rows t), .dat (.int n), .dat (.lst (rows.map rowD)), .dat (.int t), .no, .no, .no, .no, .no] :=
  mOp2_dd (sem := sMulL) (x := .lst [.non]) (y := .int (rows.length : Nat)) (show mLst [(M.pure .non)] _ = _ from rfl) (dr_g w) h
theorem dr_new (h60 : rows.length ≤ 60) (w : D) : mNew (mOp2 sMulL (.dat (mLst [(M.pure .non)])) (.dat (mCall sLen [(.dat (mVar 3))]))) 5 [.own w, .dat (partsD n rows t), .dat (.int n), .dat (.lst (rows.map rowD)), .dat (.int t), .no, .no, .no, .no, .no] = .next [.own w, .dat (partsD n rows t), .dat (.int n), .dat (.lst (rows.map rowD)), .dat (.int t), .own (D.lst (List.map optD (List.replicate rows.length none))), .no, .no, .no, .no] := newM (dr_m w (mulL_opt (by omega)))
theorem dr_mix (h60 : rows.length ≤ 60) {w w1 : D} {os : List Int} (e1 : m_law_mixed [w, (D.lst (List.map D.int (rng rows.length)))] = .ret (D.lst (List.map D.int os)) [w1]) (sp : List (Option Int)) : mSeqI (mCallF m_law_mixed [(.own 0), (.dat (mListRg (mCall sLen [(.dat (mVar 3))])))]) [.own w, .dat (partsD n rows t), .dat (.int n), .dat (.lst (rows.map rowD)), .dat (.int t), .own (D.lst (List.map optD sp)), .no, .no, .no, .no] = .ok (os.map .int) [.own w1, .dat (partsD n rows t), .dat (.int n), .dat (.lst (rows.map rowD)), .dat (.int t), .own (D.lst (List.map optD sp)), .no, .no, .no, .no] := by
  have g : mListRg (mCall sLen [(.dat (mVar 3))]) [.own w, .dat (partsD n rows t), .dat (.int n), .dat (.lst (rows.map rowD)), .dat (.int t), .own (D.lst (List.map optD sp)), .no, .no, .no, .no] = .ok (D.lst (List.map D.int (rng rows.length))) [.own w, .dat (partsD n rows t), .dat (.int n), .dat (.lst (rows.map rowD)), .dat (.int t), .own (D.lst (List.map optD sp)), .no, .no, .no, .no] := by
    have h := listRg_ok (f := mCall sLen [(.dat (mVar 3))]) (ρ := [.own w, .dat (partsD n rows t), .dat (.int n), .dat (.lst (rows.map rowD)), .dat (.int t), .own (D.lst (List.map optD sp)), .no, .no, .no, .no]) (k := (rows.length : Nat)) (call1 (f := mVar 3) (a := (.lst (rows.map rowD))) rfl (by simp [sLen])) (by omega) (by omega)
    rwa [Int.toNat_natCast] at h
  exact seqI_ok (d := (D.lst (List.map D.int os))) (callO2 g e1) rfl
theorem dr_loop (hF : FarmOk n rows) (t0 : 0 ≤ t) (t1 : t ≤ n) {os : List Int} (p1 : os.Perm (rng rows.length)) (a1 b1 d1 : Int) : ∃ (a2 b2 d2 : Int) (sp : List (Option Int)) (c6 c7 c9 : Cell), loopM (gNm 6) (mSeq (mAsg (mLc (mRange1 (mVar 2)) (gNm 8) (mB (mOp2 sNin (.dat (mVar 8)) (.own 5))) (mVar 8) [8]) (gNm 7)) (mSeq (mAsg (mSl sCut (.dat (mCallF m_law_mixed [(.own 0), (.dat (mVar 7))])) none (some (mCallF m_law_take [(.own 0), (.dat (mOp2 sAdd (.dat (mVar 4)) (.dat (M.pure (.int 1)))))]))) (gNm 9)) (mSeq (mIfS (mB (mOp2 sGt (.dat (mCallF m_law_take [(.own 0), (.dat (M.pure (.int 4)))])) (.dat (M.pure (.int 0))))) (mAsg (mSl sCut (.dat (mLc (mSeqI (mOp2 sIx (.dat (mVar 3)) (.dat (mVar 6)))) (gNm 8) (mB (mOp2 sIn (.dat (mVar 8)) (.dat (mVar 7)))) (mVar 8) [8])) none (some (mCallF m_law_take [(.own 0), (.dat (mOp2 sAdd (.dat (mVar 4)) (.dat (M.pure (.int 1)))))]))) (gNm 9)) mSkip) (mSeq (mSetIx 5 (mVar 6) (mCallF m_law_first [(.dat (mOp2 sIx (.dat (mVar 3)) (.dat (mVar 6)))), (.dat (mVar 9))])) (mIfS (mB (mOp2 sEq (.dat (mCallF m_law_take [(.own 0), (.dat (M.pure (.int 9)))])) (.dat (M.pure (.int 0))))) (mSetIx 5 (mVar 6) (M.pure .non)) mSkip))))) (os.map .int) [.own (wellD a1 b1 d1), .dat (partsD n rows t), .dat (.int n), .dat (.lst (rows.map rowD)), .dat (.int t), .own (D.lst (List.map optD (List.replicate rows.length none))), .no, .no, .no, .no] = .next [.own (wellD a2 b2 d2), .dat (partsD n rows t), .dat (.int n), .dat (.lst (rows.map rowD)), .dat (.int t), .own (D.lst (List.map optD sp)), c6, c7, .no, c9] ∧ SInv t rows [] sp := by
  have h60 := hF.len
  have hol : os.length = rows.length := by rw [p1.length_eq, rng_len]
  obtain ⟨ρ', e2, a2, b2, d2, sp, c6, c7, c9, hρ, hI, hN⟩ := loop_inv (g := gNm 6) (body := (mSeq (mAsg (mLc (mRange1 (mVar 2)) (gNm 8) (mB (mOp2 sNin (.dat (mVar 8)) (.own 5))) (mVar 8) [8]) (gNm 7)) (mSeq (mAsg (mSl sCut (.dat (mCallF m_law_mixed [(.own 0), (.dat (mVar 7))])) none (some (mCallF m_law_take [(.own 0), (.dat (mOp2 sAdd (.dat (mVar 4)) (.dat (M.pure (.int 1)))))]))) (gNm 9)) (mSeq (mIfS (mB (mOp2 sGt (.dat (mCallF m_law_take [(.own 0), (.dat (M.pure (.int 4)))])) (.dat (M.pure (.int 0))))) (mAsg (mSl sCut (.dat (mLc (mSeqI (mOp2 sIx (.dat (mVar 3)) (.dat (mVar 6)))) (gNm 8) (mB (mOp2 sIn (.dat (mVar 8)) (.dat (mVar 7)))) (mVar 8) [8])) none (some (mCallF m_law_take [(.own 0), (.dat (mOp2 sAdd (.dat (mVar 4)) (.dat (M.pure (.int 1)))))]))) (gNm 9)) mSkip) (mSeq (mSetIx 5 (mVar 6) (mCallF m_law_first [(.dat (mOp2 sIx (.dat (mVar 3)) (.dat (mVar 6)))), (.dat (mVar 9))])) (mIfS (mB (mOp2 sEq (.dat (mCallF m_law_take [(.own 0), (.dat (M.pure (.int 9)))])) (.dat (M.pure (.int 0))))) (mSetIx 5 (mVar 6) (M.pure .non)) mSkip)))))) (fun k ρ => ∃ (a b d : Int) (sp : List (Option Int)) (c6 c7 c9 : Cell), ρ = [.own (wellD a b d), .dat (partsD n rows t), .dat (.int n), .dat (.lst (rows.map rowD)), .dat (.int t), .own (D.lst (List.map optD sp)), c6, c7, .no, c9] ∧ SInv t rows [] sp ∧ ∀ (j : Nat) (s : Int), k ≤ j → os[j]? = some s → sp[s.toNat]? = some none) (os.map .int) 0 [.own (wellD a1 b1 d1), .dat (partsD n rows t), .dat (.int n), .dat (.lst (rows.map rowD)), .dat (.int t), .own (D.lst (List.map optD (List.replicate rows.length none))), .no, .no, .no, .no]
    ⟨a1, b1, d1, _, .no, .no, .no, rfl, start_inv t0, fun j s _ hj => by
      have := rng_mem (p1.mem_iff.mp (List.mem_of_getElem? hj))
      rw [List.getElem?_replicate, if_pos (by omega)]⟩
    (fun i dd ρ hd ⟨a, b, d, sp, c6, c7, c9, hρ, hI, hN⟩ => by
      subst hρ
      rw [List.getElem?_map] at hd
      cases ho : os[i]? with
      | none => rw [ho] at hd; cases hd
      | some s =>
        rw [ho] at hd
        cases hd
        have hs := rng_mem (p1.mem_iff.mp (List.mem_of_getElem? ho))
        obtain ⟨x, rfl⟩ : ∃ x : Nat, s = (x : Int) := ⟨s.toNat, by omega⟩
        have hx := hN i _ (by omega) ho
        rw [Int.toNat_natCast] at hx
        obtain ⟨a', b', d', sp', c7', c9', e, hI', hk⟩ := d_body hF t0 t1 hI hx a b d c7 c9
        refine ⟨[.own (wellD a b d), .dat (partsD n rows t), .dat (.int n), .dat (.lst (rows.map rowD)), .dat (.int t), .own (D.lst (List.map optD sp)), .dat (.int (x : Int)), c7, .no, c9], rfl, _, e, a', b', d', sp', .dat (.int (x : Int)), c7', c9', rfl, hI', fun j y hj hy => ?_⟩
        have hnd : os.Nodup := p1.nodup_iff.mpr (rng_nd _)
        have hne : y.toNat ≠ x := fun z => by
          have hy2 := rng_mem (p1.mem_iff.mp (List.mem_of_getElem? hy))
          have hyx : y = (x : Int) := by omega
          subst hyx
          refine nd_take hnd hy (List.mem_of_getElem? (i := i) ?_)
          rw [List.getElem?_take, if_pos (by omega)]
          exact ho
        rw [hk _ hne]
        exact hN j y (by omega) hy)
  subst hρ
  exact ⟨a2, b2, d2, sp, c6, c7, c9, e2, hI⟩
theorem dr_fin {w w1 w2 : D} {os : List Int} {c6 c7 c9 : Cell} (h60 : rows.length ≤ 60) (e1 : m_law_mixed [w, (D.lst (List.map D.int (rng rows.length)))] = .ret (D.lst (List.map D.int os)) [w1]) (e2 : loopM (gNm 6) (mSeq (mAsg (mLc (mRange1 (mVar 2)) (gNm 8) (mB (mOp2 sNin (.dat (mVar 8)) (.own 5))) (mVar 8) [8]) (gNm 7)) (mSeq (mAsg (mSl sCut (.dat (mCallF m_law_mixed [(.own 0), (.dat (mVar 7))])) none (some (mCallF m_law_take [(.own 0), (.dat (mOp2 sAdd (.dat (mVar 4)) (.dat (M.pure (.int 1)))))]))) (gNm 9)) (mSeq (mIfS (mB (mOp2 sGt (.dat (mCallF m_law_take [(.own 0), (.dat (M.pure (.int 4)))])) (.dat (M.pure (.int 0))))) (mAsg (mSl sCut (.dat (mLc (mSeqI (mOp2 sIx (.dat (mVar 3)) (.dat (mVar 6)))) (gNm 8) (mB (mOp2 sIn (.dat (mVar 8)) (.dat (mVar 7)))) (mVar 8) [8])) none (some (mCallF m_law_take [(.own 0), (.dat (mOp2 sAdd (.dat (mVar 4)) (.dat (M.pure (.int 1)))))]))) (gNm 9)) mSkip) (mSeq (mSetIx 5 (mVar 6) (mCallF m_law_first [(.dat (mOp2 sIx (.dat (mVar 3)) (.dat (mVar 6)))), (.dat (mVar 9))])) (mIfS (mB (mOp2 sEq (.dat (mCallF m_law_take [(.own 0), (.dat (M.pure (.int 9)))])) (.dat (M.pure (.int 0))))) (mSetIx 5 (mVar 6) (M.pure .non)) mSkip))))) (os.map .int) [.own w1, .dat (partsD n rows t), .dat (.int n), .dat (.lst (rows.map rowD)), .dat (.int t), .own (D.lst (List.map optD (List.replicate rows.length none))), .no, .no, .no, .no] = .next [.own w2, .dat (partsD n rows t), .dat (.int n), .dat (.lst (rows.map rowD)), .dat (.int t), .own (D.lst (List.map optD sp)), c6, c7, .no, c9]) : b_law_drawn [.own w, .dat (partsD n rows t), .no, .no, .no, .no, .no, .no, .no, .no] = .ret (plcD sp) [.own w2, .dat (partsD n rows t), .dat (.int n), .dat (.lst (rows.map rowD)), .dat (.int t), .own (D.lst (List.map optD sp)), c6, c7, .no, c9] := by
  have s0 : mAsg (mVar 1) (gTp [2, 3, 4]) [.own w, .dat (partsD n rows t), .no, .no, .no, .no, .no, .no, .no, .no] = .next [.own w, .dat (partsD n rows t), .dat (.int n), .dat (.lst (rows.map rowD)), .dat (.int t), .no, .no, .no, .no, .no] := rfl
  have s3 : mRet (mCall sTuple [(.own 5)]) [.own w2, .dat (partsD n rows t), .dat (.int n), .dat (.lst (rows.map rowD)), .dat (.int t), .own (D.lst (List.map optD sp)), c6, c7, .no, c9] = .ret (plcD sp) [.own w2, .dat (partsD n rows t), .dat (.int n), .dat (.lst (rows.map rowD)), .dat (.int t), .own (D.lst (List.map optD sp)), c6, c7, .no, c9] := rfl
  unfold b_law_drawn
  rw [mSeq_next s0, mSeq_next (dr_new h60 w), mSeq_next (by rw [mFor_next (dr_mix h60 e1 _)]; exact e2)]
  exact s3
theorem e_drawn (hF : FarmOk n rows) (t0 : 0 ≤ t) (t1 : t ≤ n) (a b d : Int) : ∃ a' b' d' sp, m_law_drawn [wellD a b d, partsD n rows t] = .ret (plcD sp) [wellD a' b' d'] ∧ SInv t rows [] sp := by
  have h60 := hF.len
  obtain ⟨a1, b1, d1, os, e1, p1⟩ := e_mixed a b d (D.lst (List.map D.int (rng rows.length))) (rng rows.length) (sList_ints _) (by rw [rng_len]; omega)
  obtain ⟨a2, b2, d2, sp, c6, c7, c9, e2, hI⟩ := dr_loop hF t0 t1 p1 a1 b1 d1
  refine ⟨a2, b2, d2, sp, ?_, hI⟩
  have h' : b_law_drawn (initC 10 [0] [wellD a b d, partsD n rows t]) = .ret (plcD sp) [.own (wellD a2 b2 d2), .dat (partsD n rows t), .dat (.int n), .dat (.lst (rows.map rowD)), .dat (.int t), .own (D.lst (List.map optD sp)), c6, c7, .no, c9] := by
    rw [show initC 10 [0] [wellD a b d, partsD n rows t] = [.own (wellD a b d), .dat (partsD n rows t), .no, .no, .no, .no, .no, .no, .no, .no] from rfl]
    exact dr_fin h60 e1 e2
  unfold m_law_drawn
  rw [mkFn_ret h']
  rfl
end
end Fx
set_option Elab.async false
set_option linter.all false
set_option maxRecDepth 100000
set_option maxHeartbeats 1000000
namespace Fx
open PySem L2
theorem sCutT_hi (l : List D) {k : Nat} : sCut (.tup l) none (some (k : Int)) = some (.tup (l.take k)) := by
  show some (D.tup (cutD _ none (some (k : Int)))) = _
  rw [cut_take]
theorem cut_drop (l : List D) {k : Nat} (h : k ≤ l.length) : cutD l (some (k : Int)) none = l.drop k := by
  unfold cutD
  rw [HT.sIx_none, HT.sIx_nat, Nat.min_eq_left h, List.take_of_length_le (by rw [List.length_drop]; omega)]
theorem set_parts {α : Type} (l : List α) (i : Nat) (x : α) (h : i < l.length) : l.take i ++ [x] ++ l.drop (i + 1) = l.set i x := by
  rw [List.set_eq_take_append_cons_drop, if_pos h, List.append_assoc]
  rfl
inductive Step (n t : Int) (rows : List (List Int)) : List Int → List (Option Int) → D → List Int → List (Option Int) → Prop
  | beg (dn sp) (i : Nat) : sp[i]? = some none → Step n t rows dn sp (D.tup [.str "begin", .int (i : Int)]) dn (sp.set i (firstUp rows dn (i : Int)))
  | fin (dn sp) (i : Nat) (v : Int) : sp[i]? = some (some v) → Step n t rows dn sp (D.tup [.str "end", .int (i : Int)]) dn (sp.set i none)
  | up (dn sp) (x : Int) : 0 ≤ x → x < n → x ∈ dn → Step n t rows dn sp (D.tup [.str "up", .int x]) (dn.filter fun y => !decide (y = x)) sp
  | down (dn sp) (x : Int) : 0 ≤ x → x < n → x ∉ dn → some x ∉ sp → (dn.length : Int) < t → Step n t rows dn sp (D.tup [.str "down", .int x]) (sortI (dn ++ [x])) sp
section
variable {n t : Int} {rows : List (List Int)} {dn : List Int} {sp : List (Option Int)} {w : Str} {x : Int}
end
end Fx
set_option Elab.async false
set_option linter.all false
set_option maxRecDepth 100000
set_option maxHeartbeats 1000000
namespace Fx
open PySem L2
section
variable {n t : Int} {rows : List (List Int)} {dn : List Int} {sp : List (Option Int)}
end
end Fx
set_option Elab.async false
set_option linter.all false
set_option maxRecDepth 100000
set_option maxHeartbeats 1000000
namespace Fx
open PySem L2
inductive Run (n t : Int) (rows : List (List Int)) (ok : List (Option Int) → Prop) : List Int → List (Option Int) → List D → List Int → List (Option Int) → Prop
  | nil (dn : List Int) (sp : List (Option Int)) : Run n t rows ok dn sp [] dn sp
  | cons {dn : List Int} {sp : List (Option Int)} {e : D} {dn1 : List Int} {sp1 : List (Option Int)} {es : List D} {dn2 : List Int} {sp2 : List (Option Int)} : Step n t rows dn sp e dn1 sp1 → ok sp1 → Run n t rows ok dn1 sp1 es dn2 sp2 → Run n t rows ok dn sp (e :: es) dn2 sp2
section
variable {n t : Int} {rows : List (List Int)} {ok : List (Option Int) → Prop} {dn dn1 dn2 : List Int} {sp sp1 sp2 : List (Option Int)}
theorem Run.append {es fs : List D} (h : Run n t rows ok dn sp es dn1 sp1) (k : Run n t rows ok dn1 sp1 fs dn2 sp2) : Run n t rows ok dn sp (es ++ fs) dn2 sp2 := by
  induction h with
  | nil => exact k
  | cons s o r ih => exact .cons s o (ih k)
theorem Step.len {e : D} (h : Step n t rows dn sp e dn1 sp1) : sp1.length = sp.length := by
  cases h <;> simp
theorem Step.dnl {e : D} (h : Step n t rows dn sp e dn1 sp1) (hd : (dn.length : Int) ≤ t) : (dn1.length : Int) ≤ t := by
  cases h with
  | beg i hi => exact hd
  | fin i v hi => exact hd
  | up x x0 x1 hx =>
    have := List.length_filter_le (fun y => !decide (y = x)) dn
    omega
  | down x x0 x1 hx hs hl =>
    have := (sortI_perm (dn ++ [x])).length_eq
    rw [List.length_append, List.length_singleton] at this
    omega
def Keps (kp : List Int) (be sp : List (Option Int)) : Prop := ∀ s ∈ kp, ∃ (i : Nat) (o : Option Int), s = (i : Int) ∧ sp[i]? = some o ∧ be[i]? = some o
end
end Fx
set_option Elab.async false
set_option linter.all false
set_option maxRecDepth 100000
set_option maxHeartbeats 1000000
namespace Fx
open PySem L2
def evsOf (rows : List (List Int)) (p : List (Option Int)) (s : Int) : List D := (passI rows p s).map (fun x => (D.tup [.str "down", .int x])) ++ [(D.tup [.str "begin", .int s])] ++ (passI rows p s).map (fun x => (D.tup [.str "up", .int x]))
section
variable {n t : Int} {rows : List (List Int)} {ok : List (Option Int) → Prop} {sp p : List (Option Int)}
theorem run_downs (ho : ok sp) : ∀ (xs dn : List Int), xs.Nodup → (∀ x ∈ xs, 0 ≤ x ∧ x < n ∧ x ∉ dn ∧ some x ∉ sp) → ((dn.length + xs.length : Nat) : Int) ≤ t → ∃ dn', Run n t rows ok dn sp (xs.map fun x => (D.tup [.str "down", .int x])) dn' sp ∧ dn'.Perm (dn ++ xs)
  | [], dn, _, _, _ => ⟨dn, .nil _ _, by rw [List.append_nil]⟩
  | x :: xs, dn, hn, h, hl => by
    obtain ⟨n1, n2⟩ := List.nodup_cons.mp hn
    obtain ⟨x0, x1, x2, x3⟩ := h x List.mem_cons_self
    rw [List.length_cons] at hl
    have pm := sortI_perm (dn ++ [x])
    obtain ⟨dn', r, q⟩ := run_downs ho xs (sortI (dn ++ [x])) n2 (fun y hy => by
      obtain ⟨y0, y1, y2, y3⟩ := h y (List.mem_cons_of_mem _ hy)
      refine ⟨y0, y1, fun z => ?_, y3⟩
      rcases List.mem_append.mp (pm.mem_iff.mp z) with z | z
      · exact y2 z
      · have : y = x := by simpa using z
        exact n1 (this ▸ hy)) (by rw [pm.length_eq, List.length_append, List.length_singleton]; omega)
    refine ⟨dn', .cons (.down _ _ x x0 x1 x2 x3 (by omega)) ho r, q.trans ?_⟩
    have := pm.append_right xs
    rw [List.append_assoc] at this
    exact this
theorem run_ups (ho : ok sp) : ∀ (xs dn : List Int), dn.Perm xs → xs.Nodup → (∀ x ∈ xs, 0 ≤ x ∧ x < n) → Run n t rows ok dn sp (xs.map fun x => (D.tup [.str "up", .int x])) [] sp
  | [], dn, hp, _, _ => by
    have : dn = [] := List.Perm.eq_nil hp
    subst this
    exact .nil _ _
  | x :: xs, dn, hp, hn, h => by
    obtain ⟨n1, n2⟩ := List.nodup_cons.mp hn
    obtain ⟨x0, x1⟩ := h x List.mem_cons_self
    refine .cons (.up _ _ x x0 x1 (hp.mem_iff.mpr List.mem_cons_self)) ho (run_ups ho xs _ ?_ n2 fun y hy => h y (List.mem_cons_of_mem _ hy))
    have q := hp.filter (fun y => !decide (y = x))
    rw [List.filter_cons, if_neg (by simp)] at q
    have q2 : xs.filter (fun y => !decide (y = x)) = xs := List.filter_eq_self.mpr (fun y hy => by
      have : y ≠ x := fun z => n1 (z ▸ hy)
      simpa using this)
    rw [q2] at q
    exact q
theorem head_take (dn : List Int) : ∀ (r : List Int) (v : Int), r.Nodup → v ∈ r → (∀ y ∈ r, y ∈ dn ↔ y ∈ r.take (r.idxOf v)) → (r.filter fun h => !decide (h ∈ dn)).head? = some v
  | [], v, _, hv, _ => nomatch hv
  | a :: r, v, hn, hv, h => by
    obtain ⟨n1, n2⟩ := List.nodup_cons.mp hn
    have ha := h a List.mem_cons_self
    by_cases e : a = v
    · subst e
      rw [List.idxOf_cons, show (a == a) = true by simp, cond_true, List.take_zero] at ha
      rw [List.filter_cons, if_pos (by simpa using ha)]
      rfl
    · have e2 : (a == v) = false := by simpa using e
      have hv2 : v ∈ r := by
        rcases List.mem_cons.mp hv with z | z
        · exact absurd z.symm e
        · exact z
      have had : a ∈ dn := ha.mpr (by
        rw [List.idxOf_cons, e2, cond_false, List.take_succ_cons]
        exact List.mem_cons_self)
      rw [List.filter_cons, if_neg (by simpa using had)]
      refine head_take dn r v n2 hv2 fun y hy => ?_
      have := h y (List.mem_cons_of_mem _ hy)
      rw [List.idxOf_cons, e2, cond_false, List.take_succ_cons, List.mem_cons] at this
      rw [this]
      constructor
      · rintro (z | z)
        · exact absurd (z ▸ hy) n1
        · exact z
      · exact .inr
theorem run_one {i : Nat} {v : Int} {r : List Int} (hs : sp[i]? = some none) (hp : p[i]? = some (some v)) (hr : rows[i]? = some r) (hv : v ∈ r) (hrow : RowOk n r) (hun : ∀ x ∈ r.take (r.idxOf v), some x ∉ sp) (hfar : (r.idxOf v : Int) ≤ t) (ho : ok sp) (ho2 : ok (sp.set i (some v))) :
    Run n t rows ok [] sp (evsOf rows p (i : Int)) [] (sp.set i (some v)) := by
  have hps : passI rows p (i : Int) = r.take (r.idxOf v) := by
    unfold passI
    rw [row_at hr, pl_at hp]
  have hnd := hrow.2.2.1
  have hnt : (r.take (r.idxOf v)).Nodup := hnd.sublist (List.take_sublist _ _)
  have hrg : ∀ x ∈ r.take (r.idxOf v), 0 ≤ x ∧ x < n := fun x hx => hrow.2.1 x (List.mem_of_mem_take hx)
  obtain ⟨dn, r1, pm⟩ := run_downs (n := n) (t := t) (rows := rows) ho (r.take (r.idxOf v)) [] hnt (fun x hx => ⟨(hrg x hx).1, (hrg x hx).2, fun z => (nomatch z), hun x hx⟩) (by
    rw [List.length_nil, List.length_take]
    omega)
  rw [List.nil_append] at pm
  have hf : firstUp rows dn (i : Int) = some v := by
    unfold firstUp
    rw [row_at hr]
    exact head_take dn r v hnd hv fun y _ => pm.mem_iff
  have st : Step n t rows dn sp (D.tup [.str "begin", .int (i : Int)]) dn (sp.set i (some v)) := by
    have := Step.beg (n := n) (t := t) (rows := rows) (dn := dn) (sp := sp) i hs
    rwa [hf] at this
  unfold evsOf
  rw [hps]
  exact (r1.append (.cons st ho2 (.nil _ _))).append (run_ups ho2 _ _ pm hnt hrg)
theorem run_order {kp : List Int} {be : List (Option Int)} (hokp : PlOk rows p) (hrow : ∀ r ∈ rows, RowOk n r) : ∀ (os : List Int) (sp : List (Option Int)), os.Nodup → (∀ s ∈ os, s ∉ kp) → (∀ s ∈ os, farQ rows p t s = false) → os.Pairwise (fun o s => ¬ Ps rows p s o) →
    (∀ s ∈ os, ∃ (i : Nat) (v : Int), s = (i : Int) ∧ sp[i]? = some none ∧ p[i]? = some (some v)) → (∀ (j : Nat) (v : Int), sp[j]? = some (some v) → p[j]? = some (some v) ∧ ∀ s ∈ os, ¬ Ps rows p s (j : Int)) → Keps kp be sp →
    ∃ sp', Run n t rows (Keps kp be) [] sp (os.flatMap (evsOf rows p)) [] sp' ∧ sp'.length = sp.length ∧ ∀ j : Nat, sp'[j]? = if (j : Int) ∈ os then p[j]? else sp[j]?
  | [], sp, _, _, _, _, _, _, _ => ⟨sp, .nil _ _, rfl, fun j => by simp⟩
  | s :: os, sp, hn, hk, hf, ho, ha, hsp, hks => by
    obtain ⟨n1, n2⟩ := List.nodup_cons.mp hn
    obtain ⟨o1, o2⟩ := List.pairwise_cons.mp ho
    obtain ⟨i, v, rfl, hs, hp⟩ := ha s List.mem_cons_self
    obtain ⟨r, hr, hv⟩ := hokp i v hp
    have hi := (List.getElem?_eq_some_iff.mp hs).1
    have hfar := hf _ List.mem_cons_self
    have hfar : (r.idxOf v : Int) ≤ t := by
      unfold farQ idxI at hfar
      rw [row_at hr, pl_at hp] at hfar
      have := of_decide_eq_false hfar
      omega
    have hks2 : Keps kp be (sp.set i (some v)) := fun x hx => by
      obtain ⟨j, o, rfl, h1, h2⟩ := hks x hx
      have : i ≠ j := fun z => hk _ List.mem_cons_self (by rw [z]; exact hx)
      exact ⟨j, o, rfl, by rw [List.getElem?_set_ne this]; exact h1, h2⟩
    have r1 := run_one (n := n) (t := t) (ok := Keps kp be) hs hp hr hv (hrow r (List.mem_of_getElem? hr)) (fun x hx hm => by
      obtain ⟨j, hj⟩ := List.getElem?_of_mem hm
      obtain ⟨q1, q2⟩ := hsp j x hj
      refine q2 _ List.mem_cons_self ?_
      unfold Ps passI
      rw [row_at hr, pl_at hp, pl_at q1]
      exact hx) hfar hks hks2
    obtain ⟨sp', r2, l2, e2⟩ := run_order hokp hrow os (sp.set i (some v)) n2 (fun x hx => hk x (List.mem_cons_of_mem _ hx)) (fun x hx => hf x (List.mem_cons_of_mem _ hx)) o2 (fun x hx => by
      obtain ⟨j, w, rfl, h1, h2⟩ := ha x (List.mem_cons_of_mem _ hx)
      have : i ≠ j := fun z => n1 (by rw [z]; exact hx)
      exact ⟨j, w, rfl, by rw [List.getElem?_set_ne this]; exact h1, h2⟩) (fun j w hj => by
      rcases get_set_some hj with ⟨z1, z2⟩ | ⟨_, z⟩
      · cases z2
        subst z1
        exact ⟨hp, fun x hx => o1 x hx⟩
      · obtain ⟨q1, q2⟩ := hsp j w z
        exact ⟨q1, fun x hx => q2 x (List.mem_cons_of_mem _ hx)⟩) hks2
    refine ⟨sp', ?_, by rw [l2, List.length_set], fun j => ?_⟩
    · rw [List.flatMap_cons]
      exact r1.append r2
    · rw [e2 j]
      by_cases hj : (j : Int) ∈ os
      · rw [if_pos hj, if_pos (List.mem_cons_of_mem _ hj)]
      · rw [if_neg hj]
        by_cases e : i = j
        · subst e
          rw [if_pos List.mem_cons_self, List.getElem?_set_self hi, hp]
        · rw [List.getElem?_set_ne e, if_neg]
          intro z
          rcases List.mem_cons.mp z with z | z
          · omega
          · exact hj z
end
end Fx
set_option Elab.async false
set_option linter.all false
set_option maxRecDepth 100000
set_option maxHeartbeats 1000000
namespace Fx
open PySem L2
section
variable {n t : Int} {rows : List (List Int)} {p be : List (Option Int)} {st : List Int}
end
end Fx
set_option Elab.async false
set_option linter.all false
set_option maxRecDepth 100000
set_option maxHeartbeats 1000000
namespace Fx
open PySem L2
theorem asc_rng (k : Nat) : (rng k).Pairwise (· < ·) := by
  unfold rng
  rw [List.pairwise_map]
  exact List.pairwise_lt_range.imp fun h => by omega
theorem rng_in {k i : Nat} (h : i < k) : (i : Int) ∈ rng k := by
  unfold rng
  exact List.mem_map.mpr ⟨i, List.mem_range.mpr h, by omega⟩
def oAt (p : List (Option Int)) (s : Int) : Option Int := p.getD s.toNat none
theorem oAt_of {p : List (Option Int)} {i : Nat} {o : Option Int} (h : p[i]? = some o) : oAt p (i : Int) = o := by
  unfold oAt
  rw [Int.toNat_natCast, List.getD_eq_getElem?_getD, h]
  rfl
theorem mem_mv0 {p : List (Option Int)} {s : Int} : s ∈ mvF [] 0 p ↔ Pres p s := by
  rw [mem_mvF]
  constructor
  · rintro ⟨i, x, h1, h2, _⟩
    exact ⟨i, x, by rw [h1, Nat.zero_add], h2⟩
  · rintro ⟨i, x, h1, h2⟩
    exact ⟨i, x, by rw [h1, Nat.zero_add], h2, List.not_mem_nil⟩
section
variable {n t : Int} {rows : List (List Int)} {p be : List (Option Int)}
end
end Fx
set_option Elab.async false
set_option linter.all false
set_option maxRecDepth 100000
set_option maxHeartbeats 1000000
namespace Fx
open PySem L2
section
variable {n t : Int} {rows : List (List Int)} {p be : List (Option Int)}
theorem sIx_oAt {s : Int} (h0 : 0 ≤ s) (h1 : s < p.length) : sIx (plcD p) (.int s) = some (optD (oAt p s)) := by
  obtain ⟨i, rfl⟩ : ∃ i : Nat, s = (i : Int) := ⟨s.toNat, by omega⟩
  have g1 : p[i]? = some p[i] := List.getElem?_eq_getElem (by omega)
  rw [oAt_of g1]
  exact sIx_plc g1
end
end Fx
set_option Elab.async false
set_option linter.all false
set_option maxRecDepth 100000
set_option maxHeartbeats 1000000
namespace Fx
open PySem L2
section
variable {n t : Int} {rows : List (List Int)} {p be : List (Option Int)} {st : List Int}
theorem NoCore.sub {R : Int → Int → Prop} {l m : List Int} (h : NoCore R m) (hs : ∀ s ∈ l, s ∈ m) : NoCore R l := fun S h1 h2 => h S (fun s hx => hs s (h1 s hx)) h2
end
end Fx
set_option Elab.async false
set_option linter.all false
set_option maxRecDepth 100000
set_option maxHeartbeats 1000000
namespace Fx
open PySem L2
/-- who was at x goes to its first server that is up -/
def mvd (rows : List (List Int)) (dn : List Int) (x : Int) : Nat → List (Option Int) → List (Option Int)
  | _, [] => []
  | i, o :: sp => (if o = some x then firstUp rows dn (i : Int) else o) :: mvd rows dn x (i + 1) sp
theorem mvd_len {rows : List (List Int)} {dn : List Int} {x : Int} : ∀ (i : Nat) (sp : List (Option Int)), (mvd rows dn x i sp).length = sp.length
  | _, [] => rfl
  | i, o :: sp => by unfold mvd; rw [List.length_cons, List.length_cons, mvd_len]
theorem mvd_get {rows : List (List Int)} {dn : List Int} {x : Int} : ∀ (k : Nat) (sp : List (Option Int)) (j : Nat), (mvd rows dn x k sp)[j]? = (sp[j]?).map fun o => if o = some x then firstUp rows dn ((k + j : Nat) : Int) else o
  | _, [], _ => rfl
  | k, o :: sp, 0 => rfl
  | k, o :: sp, j + 1 => by
    unfold mvd
    rw [List.getElem?_cons_succ, List.getElem?_cons_succ, mvd_get (k + 1) sp j, show k + 1 + j = k + (j + 1) by omega]
theorem mvd_map {rows : List (List Int)} {dn : List Int} {x : Int} : ∀ (k : Nat) (sp : List (Option Int)), (enumL optD k sp).map (fun q => optD (if q.2 = some x then firstUp rows dn (q.1 : Int) else q.2)) = (mvd rows dn x k sp).map optD
  | _, [] => rfl
  | k, o :: sp => by
    unfold mvd enumL
    rw [List.map_cons, List.map_cons, mvd_map (k + 1) sp]
/-- any possible event, and what it does -/
inductive Ev (n t : Int) (rows : List (List Int)) : List Int → List (Option Int) → D → List Int → List (Option Int) → Prop
  | beg (dn sp) (i : Nat) : sp[i]? = some none → Ev n t rows dn sp (D.tup [.str "begin", .int (i : Int)]) dn (sp.set i (firstUp rows dn (i : Int)))
  | fin (dn sp) (i : Nat) (v : Int) : sp[i]? = some (some v) → Ev n t rows dn sp (D.tup [.str "end", .int (i : Int)]) dn (sp.set i none)
  | up (dn sp) (x : Int) : 0 ≤ x → x < n → x ∈ dn → Ev n t rows dn sp (D.tup [.str "up", .int x]) (dn.filter fun y => !decide (y = x)) sp
  | down (dn sp) (x : Int) : 0 ≤ x → x < n → x ∉ dn → (dn.length : Int) < t → Ev n t rows dn sp (D.tup [.str "down", .int x]) (sortI (dn ++ [x])) (mvd rows (sortI (dn ++ [x])) x 0 sp)
inductive RunE (n t : Int) (rows : List (List Int)) : List Int → List (Option Int) → List D → List Int → List (Option Int) → Prop
  | nil (dn sp) : RunE n t rows dn sp [] dn sp
  | cons {dn sp e dn1 sp1 es dn2 sp2} : Ev n t rows dn sp e dn1 sp1 → RunE n t rows dn1 sp1 es dn2 sp2 → RunE n t rows dn sp (e :: es) dn2 sp2
section
variable {n t x : Int} {rows : List (List Int)} {dn dn1 dn2 : List Int} {sp sp1 sp2 : List (Option Int)}
theorem RunE.snoc {es : List D} {e : D} (h : RunE n t rows dn sp es dn1 sp1) (k : Ev n t rows dn1 sp1 e dn2 sp2) : RunE n t rows dn sp (es ++ [e]) dn2 sp2 := by
  induction h with
  | nil => exact .cons k (.nil _ _)
  | cons h1 _ ih => exact .cons h1 (ih k)
theorem Ev.len {e : D} (h : Ev n t rows dn sp e dn1 sp1) : sp1.length = sp.length := by
  cases h with
  | beg => exact List.length_set
  | fin => exact List.length_set
  | up => rfl
  | down => exact mvd_len _ _
theorem Ev.dnl {e : D} (h : Ev n t rows dn sp e dn1 sp1) (hd : (dn.length : Int) ≤ t) : (dn1.length : Int) ≤ t := by
  cases h with
  | beg => exact hd
  | fin => exact hd
  | up x _ _ _ =>
    have := List.length_filter_le (fun y => !decide (y = x)) dn
    omega
  | down x _ _ _ h =>
    rw [(sortI_perm _).length_eq, List.length_append, List.length_singleton]
    omega
theorem Ev.pn {e : D} (h : Ev n t rows dn sp e dn1 sp1) : Pn 1 e := by
  cases h <;> exact .tup fun d hd => by
    simp only [List.mem_cons, List.not_mem_nil, or_false] at hd
    rcases hd with rfl | rfl
    · first | exact .str so_begin | exact .str so_end | exact .str so_down | exact .str so_up
    · exact .int
end
end Fx
set_option Elab.async false
set_option linter.all false
set_option maxRecDepth 100000
set_option maxHeartbeats 1000000
namespace Fx
open PySem L2
/-- what the walks keep of a state -/
structure EI (n t : Int) (rows : List (List Int)) (dn : List Int) (sp : List (Option Int)) : Prop where
  len : sp.length = rows.length
  nd : dn.Nodup
  rg : ∀ x ∈ dn, 0 ≤ x ∧ x < n
  dl : (dn.length : Int) ≤ t
section
variable {n t : Int} {rows : List (List Int)} {dn dn1 : List Int} {sp sp1 : List (Option Int)}
theorem EI.next (h : EI n t rows dn sp) {e : D} (k : Ev n t rows dn sp e dn1 sp1) : EI n t rows dn1 sp1 := by
  refine ⟨k.len.trans h.len, ?_, ?_, k.dnl h.dl⟩
  · cases k with
    | beg => exact h.nd
    | fin => exact h.nd
    | up => exact h.nd.sublist List.filter_sublist
    | down x x0 x1 hx _ =>
      rw [(sortI_perm _).nodup_iff, List.nodup_append]
      refine ⟨h.nd, by simp, fun a ha b hb z => ?_⟩
      have : b = x := by simpa using hb
      subst this
      subst z
      exact hx ha
  · cases k with
    | beg => exact h.rg
    | fin => exact h.rg
    | up => exact fun x hx => h.rg x (List.mem_filter.mp hx).1
    | down x x0 x1 hx _ =>
      intro y hy
      rcases List.mem_append.mp ((sortI_perm _).mem_iff.mp hy) with z | z
      · exact h.rg y z
      · have : y = x := by simpa using z
        subst this
        exact ⟨x0, x1⟩
end
end Fx
set_option Elab.async false
set_option linter.all false
set_option maxRecDepth 100000
set_option maxHeartbeats 1000000
namespace Fx
open PySem L2
section
variable {n t : Int} {rows : List (List Int)} {q : List (Option Int)}
end
end Fx
set_option Elab.async false
set_option linter.all false
set_option maxRecDepth 100000
set_option maxHeartbeats 1000000
namespace Fx
open PySem L2
section
variable {n t : Int} {rows : List (List Int)} {p q r : List (Option Int)}
structure SV (n t : Int) (rows : List (List Int)) (dn : List Int) (sp : List (Option Int)) : Prop where
  len : sp.length = rows.length
  ok : PlOk rows sp
  asc : dn.Pairwise (· < ·)
  rg : ∀ x ∈ dn, 0 ≤ x ∧ x < n
  dl : (dn.length : Int) ≤ t
  up : ∀ x ∈ dn, some x ∉ sp
theorem asc_insI {a : Int} : ∀ {l : List Int}, l.Pairwise (· < ·) → a ∉ l → (insI a l).Pairwise (· < ·)
  | [], _, _ => by simp [insI]
  | b :: l, h, ha => by
    obtain ⟨h1, h2⟩ := List.pairwise_cons.mp h
    unfold insI
    split
    · rename_i z
      refine List.pairwise_cons.mpr ⟨fun x hx => ?_, h⟩
      have hab : a < b := by
        have : a ≠ b := fun e => ha (e ▸ List.mem_cons_self)
        omega
      rcases List.mem_cons.mp hx with e | e
      · rw [e]; exact hab
      · have := h1 x e; omega
    · rename_i z
      refine List.pairwise_cons.mpr ⟨fun x hx => ?_, asc_insI h2 fun e => ha (List.mem_cons_of_mem _ e)⟩
      rcases mem_insI.mp hx with e | e
      · rw [e]
        have : a ≠ b := fun e => ha (e ▸ List.mem_cons_self)
        omega
      · exact h1 x e
theorem asc_down {dn : List Int} {x : Int} (h : dn.Pairwise (· < ·)) (hx : x ∉ dn) : (sortI (dn ++ [x])).Pairwise (· < ·) := by
  have e : sortI (dn ++ [x]) = insI x (sortI dn) := by
    rw [sortI_eq (List.perm_append_comm : (dn ++ [x]).Perm ([x] ++ dn))]
    rfl
  rw [e, sortI_asc h]
  exact asc_insI h hx
theorem Step.sv (hrow : ∀ r ∈ rows, RowOk n r) {dn dn' : List Int} {sp sp' : List (Option Int)} {e : D} (h : SV n t rows dn sp) (k : Step n t rows dn sp e dn' sp') : SV n t rows dn' sp' := by
  cases k with
  | beg i hi =>
    have hil := (List.getElem?_eq_some_iff.mp hi).1
    have hrl : i < rows.length := by have := h.len; omega
    have hr : rows[i]? = some rows[i] := List.getElem?_eq_getElem hrl
    cases hf : firstUp rows dn (i : Int) with
    | none =>
      have : sp.set i none = sp := by
        apply List.ext_getElem?
        intro j
        by_cases z : j = i
        · subst z; rw [List.getElem?_set_self hil, hi]
        · rw [List.getElem?_set_ne (Ne.symm z)]
      rw [this]
      exact h
    | some v =>
      have hf2 := hf
      unfold firstUp at hf2
      rw [row_at hr] at hf2
      obtain ⟨f1, f2, _⟩ := first_spec dn hf2
      refine ⟨by rw [List.length_set]; exact h.len, fun s w hs => ?_, h.asc, h.rg, h.dl, fun x hx hm => ?_⟩
      · rcases get_set_some hs with ⟨z1, z2⟩ | ⟨_, z⟩
        · cases z1
          cases z2
          exact ⟨_, hr, f1⟩
        · exact h.ok s w z
      · obtain ⟨j, hj⟩ := List.getElem?_of_mem hm
        rcases get_set_some hj with ⟨_, z2⟩ | ⟨_, z⟩
        · cases z2
          exact f2 hx
        · exact h.up x hx (List.mem_of_getElem? z)
  | fin i v hi =>
    refine ⟨by rw [List.length_set]; exact h.len, fun s w hs => ?_, h.asc, h.rg, h.dl, fun x hx hm => ?_⟩
    · rcases get_set_some hs with ⟨_, z2⟩ | ⟨_, z⟩
      · cases z2
      · exact h.ok s w z
    · obtain ⟨j, hj⟩ := List.getElem?_of_mem hm
      rcases get_set_some hj with ⟨_, z2⟩ | ⟨_, z⟩
      · cases z2
      · exact h.up x hx (List.mem_of_getElem? z)
  | up x x0 x1 hx =>
    refine ⟨h.len, h.ok, h.asc.sublist List.filter_sublist, fun y hy => h.rg y (List.mem_filter.mp hy).1, ?_, fun y hy => h.up y (List.mem_filter.mp hy).1⟩
    have := List.length_filter_le (fun y => !decide (y = x)) dn
    have := h.dl
    omega
  | down x x0 x1 hx hs hl =>
    have pm := sortI_perm (dn ++ [x])
    refine ⟨h.len, h.ok, asc_down h.asc hx, fun y hy => ?_, ?_, fun y hy => ?_⟩
    · rcases List.mem_append.mp (pm.mem_iff.mp hy) with z | z
      · exact h.rg y z
      · have : y = x := by simpa using z
        subst this
        exact ⟨x0, x1⟩
    · rw [pm.length_eq, List.length_append, List.length_singleton]
      omega
    · rcases List.mem_append.mp (pm.mem_iff.mp hy) with z | z
      · exact h.up y z
      · have : y = x := by simpa using z
        subst this
        exact hs
theorem SV.start (hlen : p.length = rows.length) (hok : PlOk rows p) (t0 : 0 ≤ t) : SV n t rows [] p := ⟨hlen, hok, List.Pairwise.nil, fun x h => (nomatch h), by simpa using t0, fun x h => (nomatch h)⟩
end
end Fx
set_option Elab.async false
set_option linter.all false
set_option maxRecDepth 100000
set_option maxHeartbeats 1000000
namespace Fx
open PySem L2
section
variable {n t : Int} {rows : List (List Int)} {ok : List (Option Int) → Prop} {dn dn2 : List Int} {sp sp2 be : List (Option Int)}
end
end Fx
set_option Elab.async false
set_option linter.all false
set_option maxRecDepth 100000
set_option maxHeartbeats 1000000
namespace Fx
open PySem L2
def lastI (r : List Int) : Int := r.getLastD 0
theorem lastI_snoc (w : List Int) (x : Int) : lastI (w ++ [x]) = x := by
  unfold lastI
  rw [List.getLastD_eq_getLast?, List.getLast?_append, List.getLast?_singleton]
  rfl
/-- a row that shows that its last one must reconnect -/
structure Sh (rows : List (List Int)) (be p : List (Option Int)) (r : List Int) : Prop where
  ne : r ≠ []
  nd : r.Nodup
  pr : ∀ y ∈ r, Pres p y
  hd : ∀ h, r[0]? = some h → oAt be h ≠ oAt p h
  wk : Walk (Ps rows p) r
theorem Sh.last {rows : List (List Int)} {be p : List (Option Int)} {r : List Int} (h : Sh rows be p r) : ∃ w x, r = w ++ [x] ∧ lastI r = x ∧ x ∈ r := by
  have e := List.dropLast_concat_getLast h.ne
  refine ⟨r.dropLast, r.getLast h.ne, e.symm, ?_, List.getLast_mem h.ne⟩
  conv => lhs; rw [← e]
  exact lastI_snoc _ _
structure RI (rows : List (List Int)) (be p : List (Option Int)) (rs : List (List Int)) : Prop where
  sh : ∀ r ∈ rs, Sh rows be p r
  cl : ∀ r ∈ rs, ∀ x ∈ r, x ∈ rs.map lastI
  nd : (rs.map lastI).Nodup
  ini : ∀ s, Pres p s → oAt be s ≠ oAt p s → s ∈ rs.map lastI
theorem RI.len {rows : List (List Int)} {be p : List (Option Int)} {rs : List (List Int)} (h : RI rows be p rs) (h60 : p.length ≤ 60) : rs.length ≤ 60 := by
  have := pigeon (rs.map lastI) (mvF [] 0 p) h.nd fun x hx => by
    obtain ⟨r, hr, rfl⟩ := List.mem_map.mp hx
    obtain ⟨w, y, _, e, hy⟩ := (h.sh r hr).last
    rw [e]
    exact mem_mv0.mpr ((h.sh r hr).pr y hy)
  rw [List.length_map] at this
  exact Nat.le_trans this (Nat.le_trans (len_mvF 0 p) h60)
section
variable {n t s : Int} {rows : List (List Int)} {p be : List (Option Int)}
end
end Fx
set_option Elab.async false
set_option linter.all false
set_option maxRecDepth 100000
set_option maxHeartbeats 1000000
namespace Fx
open PySem L2
section
variable {n t s : Int} {rows : List (List Int)} {p be : List (Option Int)}
end
end Fx
set_option Elab.async false
set_option linter.all false
set_option maxRecDepth 100000
set_option maxHeartbeats 1000000
namespace Fx
open PySem L2
/-- so many steps behind a changed session, or fewer -/
def Nr (rows : List (List Int)) (be p : List (Option Int)) : Nat → Int → Prop
  | 0, s => Pres p s ∧ oAt be s ≠ oAt p s
  | k + 1, s => Nr rows be p k s ∨ (Pres p s ∧ ∃ l, Nr rows be p k l ∧ Ps rows p l s)
def Dst (rows : List (List Int)) (be p : List (Option Int)) (k : Nat) (s : Int) : Prop := Nr rows be p k s ∧ ∀ j, j < k → ¬ Nr rows be p j s
section
variable {rows : List (List Int)} {be p : List (Option Int)} {s : Int}
theorem Nr.up : ∀ {j k : Nat}, j ≤ k → Nr rows be p j s → Nr rows be p k s
  | j, 0, h, a => by
    have : j = 0 := by omega
    subst this; exact a
  | j, k + 1, h, a => by
    by_cases z : j = k + 1
    · subst z; exact a
    · exact .inl (Nr.up (j := j) (k := k) (by omega) a)
theorem Dst.le {j k : Nat} (h : Dst rows be p k s) (h2 : Nr rows be p j s) : k ≤ j := by
  by_cases z : j < k
  · exact absurd h2 (h.2 j z)
  · omega
/-- the rows by their lengths -/
structure RL (rows : List (List Int)) (be p : List (Option Int)) (rs : List (List Int)) (k : Nat) : Prop where
  ds : ∀ q ∈ rs, ∃ j, q.length = j + 1 ∧ Dst rows be p j (lastI q)
  so : ∀ (i j : Nat) (q q' : List Int), i ≤ j → rs[i]? = some q → rs[j]? = some q' → q.length ≤ q'.length
  up : ∀ (i j : Nat) (q q' : List Int), k ≤ i → rs[i]? = some q → rs[j]? = some q' → q'.length ≤ q.length + 1
theorem RL.near {rs : List (List Int)} {k : Nat} (h : RL rows be p rs k) (hR : RI rows be p rs) {r : List Int} (hk : rs[k]? = some r) (hc : ∀ (j : Nat) (q : List Int), j < k → rs[j]? = some q → ∀ o, Pres p o → Ps rows p (lastI q) o → o ∈ rs.map lastI) : ∀ (j : Nat) (s : Int), j + 1 ≤ r.length → Nr rows be p j s → s ∈ rs.map lastI
  | 0, s, _, hs => hR.ini s hs.1 hs.2
  | j + 1, s, hj, .inl hs => h.near hR hk hc j s (by omega) hs
  | j + 1, s, hj, .inr ⟨h1, l, h2, h3⟩ => by
    obtain ⟨q, hq, rfl⟩ := List.mem_map.mp (h.near hR hk hc j l (by omega) h2)
    obtain ⟨i, hi⟩ := List.getElem?_of_mem hq
    obtain ⟨m, h4, h5⟩ := h.ds q hq
    have := h5.le h2
    by_cases z : i < k
    · exact hc i q z hi s h1 h3
    · have := h.so k i r q (by omega) hk hi
      omega
theorem RL.step {rs rs' : List (List Int)} {k : Nat} (h : RL rows be p rs k) (hR' : RI rows be p rs') {r : List Int} (hk : rs[k]? = some r) (hnear : ∀ (j : Nat) (s : Int), j + 1 ≤ r.length → Nr rows be p j s → s ∈ rs.map lastI)
    (h2 : ∀ (j : Nat) (q : List Int), rs[j]? = some q → rs'[j]? = some q) (h2d : (∀ q ∈ rs', q ∈ rs ∨ ∃ o : Int, q = r ++ [o] ∧ Pres p o ∧ Ps rows p (lastI r) o)) : RL rows be p rs' (k + 1) := by
  obtain ⟨m, hm, hd⟩ := h.ds r (List.mem_of_getElem? hk)
  -- a new one stands behind the old ones
  have new : ∀ (j : Nat) (q : List Int), rs'[j]? = some q → (rs[j]? = some q) ∨ (rs.length ≤ j ∧ ∃ o : Int, q = r ++ [o] ∧ Pres p o ∧ Ps rows p (lastI r) o ∧ o ∉ rs.map lastI) := fun j q hj => by
    by_cases z : j < rs.length
    · have hg : rs[j]? = some rs[j] := List.getElem?_eq_getElem z
      have := h2 j _ hg
      rw [hj] at this
      cases this
      exact .inl hg
    · have dup : ∀ q2 ∈ rs, lastI q2 = lastI q → False := fun q2 hq2 e => by
        obtain ⟨i, hi⟩ := List.getElem?_of_mem hq2
        have hil := (List.getElem?_eq_some_iff.mp hi).1
        have hi' := h2 i q2 hi
        have nd := hR'.nd
        have hlen : j < (rs'.map lastI).length := by rw [List.length_map]; exact (List.getElem?_eq_some_iff.mp hj).1
        have g1 : (rs'.map lastI)[i]? = some (lastI q2) := by rw [List.getElem?_map, hi']; rfl
        have g2 : (rs'.map lastI)[j]? = some (lastI q) := by rw [List.getElem?_map, hj]; rfl
        have := (List.getElem?_inj (by omega : i < (rs'.map lastI).length) nd).mp (g1.trans ((congrArg some e).trans g2.symm))
        omega
      rcases h2d q (List.mem_of_getElem? hj) with y | ⟨o, rfl, y1, y2⟩
      · exact absurd rfl (fun e => dup q y e)
      · refine .inr ⟨by omega, o, rfl, y1, y2, fun w => ?_⟩
        obtain ⟨q2, hq2, e⟩ := List.mem_map.mp w
        exact dup q2 hq2 (by rw [e, lastI_snoc])
  have old : ∀ (j : Nat) (q : List Int), rs[j]? = some q → q.length ≤ r.length + 1 := fun j q hj => h.up k j r q (Nat.le_refl _) hk hj
  have kl := (List.getElem?_eq_some_iff.mp hk).1
  refine ⟨fun q hq => ?_, fun i j q q' hij hi hj => ?_, fun i j q q' hki hi hj => ?_⟩
  · obtain ⟨j, hj⟩ := List.getElem?_of_mem hq
    rcases new j q hj with z | ⟨_, o, rfl, z1, z2, z3⟩
    · exact h.ds q (List.mem_of_getElem? z)
    · refine ⟨m + 1, by rw [List.length_append, hm]; rfl, ?_⟩
      rw [lastI_snoc]
      exact ⟨.inr ⟨z1, _, hd.1, z2⟩, fun i hi w => z3 (hnear i o (by omega) w)⟩
  · rcases new i q hi with z | ⟨zl, o, rfl, _⟩
    · rcases new j q' hj with y | ⟨yl, o, rfl, _⟩
      · exact h.so i j q q' hij z y
      · rw [List.length_append]
        exact old i q z
    · rcases new j q' hj with y | ⟨yl, o', rfl, _⟩
      · have := (List.getElem?_eq_some_iff.mp y).1
        omega
      · rw [List.length_append, List.length_append]
        exact Nat.le_refl _
  · have a : r.length ≤ q.length := by
      rcases new i q hi with z | ⟨zl, o, rfl, _⟩
      · exact h.so k i r q (by omega) hk z
      · rw [List.length_append]; omega
    rcases new j q' hj with y | ⟨yl, o', rfl, _⟩
    · have := old j q' y
      omega
    · rw [List.length_append]
      show r.length + 1 ≤ _
      omega
end
section
variable {n t s : Int} {rows : List (List Int)} {p be : List (Option Int)}
end
end Fx
set_option Elab.async false
set_option linter.all false
set_option maxRecDepth 100000
set_option maxHeartbeats 1000000
namespace Fx
open PySem L2
section
variable {n t s : Int} {rows : List (List Int)} {p be : List (Option Int)}
end
end Fx
set_option Elab.async false
set_option linter.all false
set_option maxRecDepth 100000
set_option maxHeartbeats 1000000
namespace Fx
open PySem L2
local macro_rules
  | `(tactic| trivial) => `(tactic| (repeat (first | with_reducible assumption | ((with_reducible apply vv_id); apply_rules (transparency := .reducible) (maxDepth := 1) (symm := false) (exfalso := false) only [vk0, vk1, vk2, vk3, vk4, vk5, vk6, vk7, vk8, vk9, vk10, vk11, vk12, vk13, vk14, vk15, vk16]) | ((with_reducible apply gg_id); first | apply_rules (transparency := .reducible) (maxDepth := 1) (symm := false) (exfalso := false) only [gk0, gk1, gk2, gk3, gk4, gk5, gk6, gk7, gk8, gk9, gk10, gk11, gk12, gk13, gk14, gk15, gk16] | apply_rules (transparency := .reducible) (maxDepth := 1) (symm := false) (exfalso := false) only [getAt_z, getAt_s]) | ((with_reducible apply ss_id); first | apply_rules (transparency := .reducible) (maxDepth := 1) (symm := false) (exfalso := false) only [sk0, sk1, sk2, sk3, sk4, sk5, sk6, sk7, sk8, sk9, sk10, sk11, sk12, sk13, sk14, sk15, sk16] | apply_rules (transparency := .reducible) (maxDepth := 1) (symm := false) (exfalso := false) only [setAt_z, setAt_s]) | ((with_reducible apply g_seq); first | (with_reducible refine s_step (by with_reducible assumption) ?_) | (with_reducible refine s_retS (by with_reducible assumption)) | apply_rules (transparency := .reducible) (maxDepth := 1) (symm := false) (exfalso := false) only [s_assoc, s_skip, s_asg, s_new, s_expr, s_ret, s_retN, s_t, s_f, s_if, s_par, s_par3, s_new2, s_setIx, s_augV, s_setS, s_raise] | ((with_reducible apply s_frz); apply_rules (transparency := .reducible) (maxDepth := 1) (symm := false) (exfalso := false) only [gk0, gk1, gk2, gk3, gk4, gk5, gk6, gk7, gk8, gk9, gk10, gk11, gk12, gk13, gk14, gk15, gk16]) | ((with_reducible apply s_frzD); apply_rules (transparency := .reducible) (maxDepth := 1) (symm := false) (exfalso := false) only [gk0, gk1, gk2, gk3, gk4, gk5, gk6, gk7, gk8, gk9, gk10, gk11, gk12, gk13, gk14, gk15, gk16]) | (with_reducible refine s_for ?_ (by with_reducible assumption) ?_) | (with_reducible refine s_forR ?_ (by with_reducible assumption)) | (with_reducible refine s_while (by with_reducible assumption) ?_) | (with_reducible refine s_whileR (by with_reducible assumption)) | (with_reducible refine s_for (?_) (by assumption) ?_)) | apply_rules (transparency := .reducible) (maxDepth := 1) (symm := false) (exfalso := false) only [v_pure, x_callD, y_op2, y_call1, y_call2, y_sl1, y_sl2, y_tup2, y_tup1, y_fo1, y_fo2, y_fo0, y_fo3, y_fn1, y_fn2, y_fn3, y_fn4, y_fn5, x_op2, p_dat, p_own, v_var, x_callD, x_callF, x_callK, x_callW, x_callN, x_make, x_call, x_tup, x_lst, x_neg, x_meth, x_methWR, x_methWD, x_methW, x_sl, x_rev, x_fld, x_chain, x_lenF, x_lenset, x_methF, x_isF, x_eqF, x_kd, x_neF, x_makeK, x_methK, x_cmp, x_lrn, pt_s, pt_n, i_seq, i_en, i_rng, i_zip, b_b, b_not, b_and, b_or, x_if, x_andV, x_orV, x_notV, andK_t, andK_f, orK_f, orK_t, chK_t, chK_f, ifK_t, ifK_f, x_lcU, x_lc, s_end, pk_n, pk_c, at_z, at_s, put_n, put_c, wl_n, wl_c, mp_r, tg_nm, tg_tp, tgs_n, tgs_c, pl_n, pl_c, rl_n, rl_c, ra_n, ra_d, ra_o, sq_n, sq_c, app_n, app_c, r_dat, r_own, lcE_i, no_n, no_c, nw_d, nw_n, nw_o, nb_lt, nb_lf, nb_ltn, nb_lfn] | ((with_reducible apply nb_id); first | with_reducible exact nb_nf rfl | with_reducible exact nb_t rfl | exact nb_h (by with_reducible assumption) | exact nb_hf (by with_reducible assumption) | exact nb_hn (by with_reducible assumption) | exact nb_hnf (by with_reducible assumption) | exact nb_t (by with_reducible assumption) | exact nb_f (by with_reducible assumption) | exact nb_nt (by with_reducible assumption) | exact nb_nf (by with_reducible assumption) | exact nb_t (by omega) | exact nb_f (by omega) | exact nb_nt (by omega) | exact nb_nf (by omega) | exact nb_t (by decide) | exact nb_f (by decide) | exact nb_nt (by decide) | exact nb_nf (by decide)) | apply_rules (transparency := .reducible) (maxDepth := 1) (symm := false) (exfalso := false) only [sEq_int, sNe_int, sEq_opt, sNe_opt, sIsN_opt, sNotN_opt, sNotN_int, sIsN_int, sNotN_tup, sIsN_tup, sNotN_lst, sIsN_lst, sNotN_non, sIsN_non, sIn_tup, sNin_tup, sIn_lst, sNin_lst, sEq_tup, sEq_lst, sNe_lst, sNe_tup, sIx_plc, sIx_rows, sIx_rowsL, sIn_row, sNin_row, sLen_row, sLen_plc, isTup_row, isTup_plc, sLen_ints, sLen_tints, sLen_rows, sLen_rowsT, sLen_lst, sLen_tup, isTupD] | ((with_reducible apply is_id); exact is_r) | ((with_reducible apply f_od); exact rfl) | ((with_reducible apply f_ol); exact rfl) | ((with_reducible apply f_op); exact rfl) | ((with_reducible apply f_bt); exact rfl) | ((with_reducible apply f_on); exact rfl) | ((with_reducible apply f_ld); exact rfl) | intro x hx | intro hb | omega | with_reducible apply s_one)))
inductive Fin where
  | ret (d : D) | exc (x : Exc)
def Ends : Fin → OutS → Prop
  | .ret d, o => ∃ ρ, o = .ret d ρ
  | .exc x, o => ∃ ρ, o = .exc x ρ
theorem cutT (T : List D) (k : Nat) : sCut (.tup T) none (some (k : Int)) = some (.tup (T.take k)) := by
  show some (D.tup (cutD _ none (some _))) = _
  rw [cut_take' _ _ (by omega), Int.toNat_natCast]
end Fx
set_option Elab.async false
set_option linter.all false
set_option maxRecDepth 100000
set_option maxHeartbeats 1000000
namespace Fx
open PySem L2
theorem if_f {t : M Bool} {a b : MS} {ρ ρ1 : Cells} {o : OutS} (h : t ρ = .ok false ρ1) (h2 : b ρ1 = o) : mIfS t a b ρ = o := by
  rw [← h2]
  unfold mIfS mDo
  rw [h]
  rfl
theorem for_o {fi : M (List D)} {g : TgM} {m : MS} {ds : List D} {ρ ρ1 : Cells} (h : fi ρ = .ok ds ρ1) : mFor fi g m ρ = loopM g m ds ρ1 := by
  unfold mFor mDo
  rw [h]
section
variable {n t : Int} {rows : List (List Int)} {p be : List (Option Int)} {T : List D}
end
end Fx
set_option Elab.async false
set_option linter.all false
set_option maxRecDepth 100000
set_option maxHeartbeats 1000000
namespace Fx
open PySem L2
section
variable {n t : Int} {rows : List (List Int)} {p be : List (Option Int)} {ys : List Int}
end
end Fx
set_option Elab.async false
set_option linter.all false
set_option maxRecDepth 100000
set_option maxHeartbeats 1000000
namespace Fx
open PySem L2
local macro_rules
  | `(tactic| trivial) => `(tactic| (repeat (first | with_reducible assumption | ((with_reducible apply vv_id); apply_rules (transparency := .reducible) (maxDepth := 1) (symm := false) (exfalso := false) only [vk0, vk1, vk2, vk3, vk4, vk5, vk6, vk7, vk8, vk9, vk10, vk11, vk12, vk13, vk14, vk15, vk16]) | ((with_reducible apply gg_id); first | apply_rules (transparency := .reducible) (maxDepth := 1) (symm := false) (exfalso := false) only [gk0, gk1, gk2, gk3, gk4, gk5, gk6, gk7, gk8, gk9, gk10, gk11, gk12, gk13, gk14, gk15, gk16] | apply_rules (transparency := .reducible) (maxDepth := 1) (symm := false) (exfalso := false) only [getAt_z, getAt_s]) | ((with_reducible apply ss_id); first | apply_rules (transparency := .reducible) (maxDepth := 1) (symm := false) (exfalso := false) only [sk0, sk1, sk2, sk3, sk4, sk5, sk6, sk7, sk8, sk9, sk10, sk11, sk12, sk13, sk14, sk15, sk16] | apply_rules (transparency := .reducible) (maxDepth := 1) (symm := false) (exfalso := false) only [setAt_z, setAt_s]) | ((with_reducible apply g_seq); first | (with_reducible refine s_step (by with_reducible assumption) ?_) | (with_reducible refine s_retS (by with_reducible assumption)) | apply_rules (transparency := .reducible) (maxDepth := 1) (symm := false) (exfalso := false) only [s_assoc, s_skip, s_asg, s_new, s_expr, s_ret, s_retN, s_t, s_f, s_if, s_par, s_par3, s_new2, s_setIx, s_augV, s_setS, s_raise] | ((with_reducible apply s_frz); apply_rules (transparency := .reducible) (maxDepth := 1) (symm := false) (exfalso := false) only [gk0, gk1, gk2, gk3, gk4, gk5, gk6, gk7, gk8, gk9, gk10, gk11, gk12, gk13, gk14, gk15, gk16]) | ((with_reducible apply s_frzD); apply_rules (transparency := .reducible) (maxDepth := 1) (symm := false) (exfalso := false) only [gk0, gk1, gk2, gk3, gk4, gk5, gk6, gk7, gk8, gk9, gk10, gk11, gk12, gk13, gk14, gk15, gk16]) | (with_reducible refine s_for ?_ (by with_reducible assumption) ?_) | (with_reducible refine s_forR ?_ (by with_reducible assumption)) | (with_reducible refine s_while (by with_reducible assumption) ?_) | (with_reducible refine s_whileR (by with_reducible assumption)) | (with_reducible refine s_for (?_) (by assumption) ?_)) | apply_rules (transparency := .reducible) (maxDepth := 1) (symm := false) (exfalso := false) only [v_pure, x_callD, y_op2, y_call1, y_call2, y_sl1, y_sl2, y_tup2, y_tup1, y_fo1, y_fo2, y_fo0, y_fo3, y_fn1, y_fn2, y_fn3, y_fn4, y_fn5, x_op2, p_dat, p_own, v_var, x_callD, x_callF, x_callK, x_callW, x_callN, x_make, x_call, x_tup, x_lst, x_neg, x_meth, x_methWR, x_methWD, x_methW, x_sl, x_rev, x_fld, x_chain, x_lenF, x_lenset, x_methF, x_isF, x_eqF, x_kd, x_neF, x_makeK, x_methK, x_cmp, x_lrn, pt_s, pt_n, i_seq, i_en, i_rng, i_zip, b_b, b_not, b_and, b_or, x_if, x_andV, x_orV, x_notV, andK_t, andK_f, orK_f, orK_t, chK_t, chK_f, ifK_t, ifK_f, x_lcU, x_lc, s_end, pk_n, pk_c, at_z, at_s, put_n, put_c, wl_n, wl_c, mp_r, tg_nm, tg_tp, tgs_n, tgs_c, pl_n, pl_c, rl_n, rl_c, ra_n, ra_d, ra_o, sq_n, sq_c, app_n, app_c, r_dat, r_own, lcE_i, no_n, no_c, nw_d, nw_n, nw_o, nb_lt, nb_lf, nb_ltn, nb_lfn] | ((with_reducible apply nb_id); first | with_reducible exact nb_nf rfl | with_reducible exact nb_t rfl | exact nb_h (by with_reducible assumption) | exact nb_hf (by with_reducible assumption) | exact nb_hn (by with_reducible assumption) | exact nb_hnf (by with_reducible assumption) | exact nb_t (by with_reducible assumption) | exact nb_f (by with_reducible assumption) | exact nb_nt (by with_reducible assumption) | exact nb_nf (by with_reducible assumption) | exact nb_t (by omega) | exact nb_f (by omega) | exact nb_nt (by omega) | exact nb_nf (by omega) | exact nb_t (by decide) | exact nb_f (by decide) | exact nb_nt (by decide) | exact nb_nf (by decide)) | apply_rules (transparency := .reducible) (maxDepth := 1) (symm := false) (exfalso := false) only [sEq_int, sNe_int, sEq_opt, sNe_opt, sIsN_opt, sNotN_opt, sNotN_int, sIsN_int, sNotN_tup, sIsN_tup, sNotN_lst, sIsN_lst, sNotN_non, sIsN_non, sIn_tup, sNin_tup, sIn_lst, sNin_lst, sEq_tup, sEq_lst, sNe_lst, sNe_tup, sIx_plc, sIx_rows, sIx_rowsL, sIn_row, sNin_row, sLen_row, sLen_plc, isTup_row, isTup_plc, sLen_ints, sLen_tints, sLen_rows, sLen_rowsT, sLen_lst, sLen_tup, isTupD] | ((with_reducible apply is_id); exact is_r) | ((with_reducible apply f_od); exact rfl) | ((with_reducible apply f_ol); exact rfl) | ((with_reducible apply f_op); exact rfl) | ((with_reducible apply f_bt); exact rfl) | ((with_reducible apply f_on); exact rfl) | ((with_reducible apply f_ld); exact rfl) | intro x hx | intro hb | omega | with_reducible apply s_one)))
section
variable {n t : Int} {rows : List (List Int)} {p be : List (Option Int)}
theorem ret1 {f : M D} {d : D} {ρ ρ1 : Cells} (h : f ρ = .ok d ρ1) : mRet f ρ = .ret d ρ1 := by
  simp [mRet, mDo, h]
end
end Fx
set_option Elab.async false
set_option linter.all false
set_option maxRecDepth 100000
set_option maxHeartbeats 1000000
namespace Fx
open PySem L2
section
variable {n t : Int} {rows : List (List Int)} {p be : List (Option Int)}
end
def itemOk (d : D) : Bool := okE d && (pyE d).showable && (pyE d).leavesShort 13 && decide ((pyE d).weight ≤ 100) && decide ((pyE d).depth ≤ 2) && PyData.strOk (pyE d).shown
theorem item_int {v : Int} (h0 : -1 ≤ v) (h1 : v ≤ 60) : itemOk (.int v) = true := by
  have h : ∀ k : _root_.Fin 62, itemOk (.int ((k.val : Int) - 1)) = true := by decide +kernel
  have := h ⟨(v + 1).toNat, by omega⟩
  rw [show (((⟨(v + 1).toNat, by omega⟩ : _root_.Fin 62).val : Nat) : Int) - 1 = v by show ((v + 1).toNat : Int) - 1 = v; omega] at this
  exact this
def rOk (d : D) : Prop := reprOk d = true ∧ PyData.strOk (pyE d).shown = true
theorem repr_int {v : Int} (h0 : -1 ≤ v) (h1 : v ≤ 60) : rOk (.int v) := by
  have h := item_int h0 h1
  simp only [itemOk, Bool.and_eq_true, decide_eq_true_eq] at h
  obtain ⟨⟨⟨⟨⟨a1, a2⟩, a3⟩, a4⟩, a5⟩, a6⟩ := h
  refine ⟨?_, a6⟩
  unfold reprOk
  simp only [Bool.and_eq_true, decide_eq_true_eq]
  exact ⟨⟨⟨⟨⟨a1, a2⟩, rfl⟩, a3⟩, by omega⟩, by omega⟩
theorem repr_e {d : D} (h : rOk d) : sRepr [d] = some (.str (pyE d).shown) := if_pos h.1
end Fx
set_option Elab.async false
set_option linter.all false
set_option maxRecDepth 100000
set_option maxHeartbeats 1000000
namespace Fx
open PySem L2
section
variable {n t : Int} {rows : List (List Int)} {dn dn1 : List Int} {sp sp1 : List (Option Int)}
theorem SV.ei (h : SV n t rows dn sp) : EI n t rows dn sp := ⟨h.len, h.asc.imp fun h => by omega, h.rg, h.dl⟩
theorem Ev.sv (hrow : ∀ r ∈ rows, RowOk n r) (h : SV n t rows dn sp) {e : D} (k : Ev n t rows dn sp e dn1 sp1) : SV n t rows dn1 sp1 := by
  cases k with
  | beg i hi => exact Step.sv hrow h (.beg dn sp i hi)
  | fin i v hi => exact Step.sv hrow h (.fin dn sp i v hi)
  | up x x0 x1 hx => exact Step.sv hrow h (.up dn sp x x0 x1 hx)
  | down x x0 x1 hx hl =>
    have pm := sortI_perm (dn ++ [x])
    have hm : ∀ y, y ∈ sortI (dn ++ [x]) ↔ y ∈ dn ∨ y = x := fun y => by
      rw [pm.mem_iff, List.mem_append, List.mem_singleton]
    have hget : ∀ (j : Nat) (v : Int), (mvd rows (sortI (dn ++ [x])) x 0 sp)[j]? = some (some v) → (firstUp rows (sortI (dn ++ [x])) (j : Int) = some v) ∨ (sp[j]? = some (some v) ∧ v ≠ x) := fun j v hj => by
      rw [mvd_get] at hj
      cases ho : sp[j]? with
      | none => rw [ho] at hj; cases hj
      | some o =>
        rw [ho] at hj
        have hj : (if o = some x then firstUp rows (sortI (dn ++ [x])) ((0 + j : Nat) : Int) else o) = some v := Option.some.inj hj
        split at hj
        · rw [Nat.zero_add] at hj
          exact .inl hj
        · rename_i z
          subst hj
          exact .inr ⟨rfl, fun e => z (by rw [e])⟩
    have hup : ∀ (j : Nat) (v : Int), j < sp.length → firstUp rows (sortI (dn ++ [x])) (j : Int) = some v → ∃ r, rows[j]? = some r ∧ v ∈ r ∧ v ∉ sortI (dn ++ [x]) := fun j v hj hf => by
      have hrl : j < rows.length := by have := h.len; omega
      have hr : rows[j]? = some rows[j] := List.getElem?_eq_getElem hrl
      unfold firstUp at hf
      rw [row_at hr] at hf
      obtain ⟨f1, f2, _⟩ := first_spec _ hf
      exact ⟨_, hr, f1, f2⟩
    have hlt : ∀ (j : Nat) (v : Int), (mvd rows (sortI (dn ++ [x])) x 0 sp)[j]? = some (some v) → j < sp.length := fun j v hj => by
      have := (List.getElem?_eq_some_iff.mp hj).1
      rwa [mvd_len] at this
    refine ⟨(mvd_len _ _).trans h.len, fun s w hs => ?_, asc_down h.asc hx, fun y hy => ?_, ?_, fun y hy hm2 => ?_⟩
    · rcases hget s w hs with z | ⟨z, _⟩
      · obtain ⟨r, h1, h2, _⟩ := hup s w (hlt s w hs) z
        exact ⟨r, h1, h2⟩
      · exact h.ok s w z
    · rcases (hm y).mp hy with z | rfl
      · exact h.rg y z
      · exact ⟨x0, x1⟩
    · rw [pm.length_eq, List.length_append, List.length_singleton]
      omega
    · obtain ⟨j, hj⟩ := List.getElem?_of_mem hm2
      rcases hget j y hj with z | ⟨z, z2⟩
      · obtain ⟨r, _, _, h3⟩ := hup j y (hlt j y hj) z
        exact h3 hy
      · rcases (hm y).mp hy with q | q
        · exact h.up y q (List.mem_of_getElem? z)
        · exact z2 q
end
def ItW (w k : Nat) (d : D) : Prop := okE d = true ∧ (pyE d).showable = true ∧ (pyE d).leavesShort 13 = true ∧ (pyE d).weight ≤ w ∧ (pyE d).depth ≤ k ∧ PyData.strOk (pyE d).shown = true
theorem ItW.mono {w k w' k' : Nat} {d : D} (h : ItW w k d) (h1 : w ≤ w') (h2 : k ≤ k') : ItW w' k' d := ⟨h.1, h.2.1, h.2.2.1, Nat.le_trans h.2.2.2.1 h1, Nat.le_trans h.2.2.2.2.1 h2, h.2.2.2.2.2⟩
end Fx
set_option Elab.async false
set_option linter.all false
set_option maxRecDepth 100000
set_option maxHeartbeats 1000000
namespace Fx
open PySem L2
section
variable {n t : Int} {rows : List (List Int)} {st : List Int} {be : List (Option Int)}
/-- what can come, the staying sessions left where they are -/
inductive Rc (n t : Int) (rows : List (List Int)) (st : List Int) (be : List (Option Int)) : List Int → List (Option Int) → Prop
  | base : Rc n t rows st be [] be
  | step {dn sp e dn1 sp1} : Rc n t rows st be dn sp → Ev n t rows dn sp e dn1 sp1 → Keps st be sp1 → Rc n t rows st be dn1 sp1
/-- what holds of it: a time of each placing -/
structure Jv (t : Int) (rows : List (List Int)) (st : List Int) (be : List (Option Int)) (dn : List Int) (sp : List (Option Int)) (τ : Int → Nat) (N : Nat) : Prop where
  up : ∀ (i : Nat) (v : Int), sp[i]? = some (some v) → v ∉ dn
  ok : ∀ (i : Nat) (v : Int), sp[i]? = some (some v) → (i : Int) ∉ st → ∃ r, rows[i]? = some r ∧ v ∈ r ∧ (r.idxOf v : Int) ≤ t
  le : ∀ s, τ s ≤ N
  lt : ∀ (i : Nat) (v : Int) (r : List Int) (j : Nat) (w : Int), sp[i]? = some (some v) → (i : Int) ∉ st → rows[i]? = some r → sp[j]? = some (some w) → w ∈ r.take (r.idxOf v) → (j : Int) ∉ st ∧ τ (i : Int) < τ (j : Int)
  kp : Keps st be sp
/-- the staying sessions alone -/
structure Bs (st : List Int) (be : List (Option Int)) : Prop where
  on : ∀ (i : Nat) (v : Int), be[i]? = some (some v) → (i : Int) ∈ st
  at_ : ∀ s ∈ st, ∃ (i : Nat) (v : Int), s = (i : Int) ∧ be[i]? = some (some v)
theorem keps_get {sp : List (Option Int)} (h : Keps st be sp) {i : Nat} (hi : (i : Int) ∈ st) : sp[i]? = be[i]? := by
  obtain ⟨j, o, e, h1, h2⟩ := h _ hi
  have : i = j := by omega
  subst this
  rw [h1, h2]
theorem row_ex {sp : List (Option Int)} {i : Nat} (h : i < sp.length) (hl : sp.length = rows.length) : ∃ r, rows[i]? = some r := ⟨rows[i]'(by omega), List.getElem?_eq_getElem _⟩
theorem pre_le {r : List Int} {v : Int} {dn : List Int} (hn : r.Nodup) (hv : v ∈ r) (h : ∀ x ∈ r.take (r.idxOf v), x ∈ dn) : r.idxOf v ≤ dn.length := by
  have := pigeon (r.take (r.idxOf v)) dn (hn.sublist (List.take_sublist _ _)) h
  have h2 := List.idxOf_lt_length_of_mem hv
  rwa [List.length_take, Nat.min_eq_left (by omega)] at this
theorem gs {sp : List (Option Int)} {i j : Nat} {o : Option Int} {v : Int} (h : (sp.set i o)[j]? = some (some v)) : (j = i ∧ o = some v) ∨ (j ≠ i ∧ sp[j]? = some (some v)) := by
  by_cases e : j = i
  · subst e
    rw [List.getElem?_set_self'] at h
    cases hs : sp[j]? with
    | none => rw [hs] at h; cases h
    | some x => rw [hs] at h; exact .inl ⟨rfl, Option.some.inj h⟩
  · rw [List.getElem?_set_ne (fun z => e z.symm)] at h
    exact .inr ⟨e, h⟩
theorem gm {dn : List Int} {sp : List (Option Int)} {x v : Int} {j : Nat} (h : (mvd rows dn x 0 sp)[j]? = some (some v)) : (sp[j]? = some (some x) ∧ firstUp rows dn (j : Int) = some v) ∨ (sp[j]? = some (some v) ∧ v ≠ x) := by
  rw [mvd_get, Nat.zero_add] at h
  cases hs : sp[j]? with
  | none => rw [hs] at h; cases h
  | some o =>
    rw [hs] at h
    have h : (if o = some x then firstUp rows dn (j : Int) else o) = some v := Option.some.inj h
    by_cases e : o = some x
    · rw [if_pos e] at h
      exact .inl ⟨by rw [e], h⟩
    · rw [if_neg e] at h
      refine .inr ⟨by rw [h], fun z => e (by rw [h, z])⟩
theorem fu_spec {dn : List Int} {i : Nat} {v : Int} {r : List Int} (hr : rows[i]? = some r) (h : firstUp rows dn (i : Int) = some v) : v ∈ r ∧ v ∉ dn ∧ ∀ x ∈ r.take (r.idxOf v), x ∈ dn := by
  unfold firstUp at h
  rw [row_at hr] at h
  exact first_spec dn h
theorem rc_inv (hlen : be.length = rows.length) (hrow : ∀ r ∈ rows, RowOk n r) (hb : Bs st be) (t0 : 0 ≤ t) {dn : List Int} {sp : List (Option Int)} (h : Rc n t rows st be dn sp) : EI n t rows dn sp ∧ ∃ τ N, Jv t rows st be dn sp τ N := by
  induction h with
  | base =>
    refine ⟨⟨hlen, List.nodup_nil, fun x hx => (nomatch hx), by simpa using t0⟩, fun _ => 0, 0, ⟨fun i v _ hv => (nomatch hv), fun i v h hn => absurd (hb.on i v h) hn, fun _ => Nat.le_refl _, fun i v r j w h hn => absurd (hb.on i v h) hn, fun s hs => ?_⟩⟩
    obtain ⟨i, v, e, h⟩ := hb.at_ s hs
    exact ⟨i, _, e, h, h⟩
  | @step dn sp e dn1 sp1 h1 h2 h3 ih =>
    obtain ⟨hI, τ, N, J⟩ := ih
    refine ⟨hI.next h2, ?_⟩
    cases h2 with
    | beg i hi =>
      have hil := (List.getElem?_eq_some_iff.mp hi).1
      obtain ⟨r, hr⟩ := row_ex hil hI.len
      have hns : (i : Int) ∉ st := fun z => by
        obtain ⟨j, v, e, h⟩ := hb.at_ _ z
        have : i = j := by omega
        subst this
        have := keps_get J.kp z
        rw [hi, h] at this
        cases this
      refine ⟨fun s => if s = (i : Int) then N + 1 else τ s, N + 1, fun j v h => ?_, fun j v h hn => ?_, fun s => ?_, fun a v ra j w ha hna hra hj hw => ?_, h3⟩
      · rcases gs h with ⟨rfl, z⟩ | ⟨_, z⟩
        · exact (fu_spec hr z).2.1
        · exact J.up j v z
      · rcases gs h with ⟨rfl, z⟩ | ⟨_, z⟩
        · obtain ⟨q1, q2, q3⟩ := fu_spec hr z
          have := pre_le (hrow r (List.mem_of_getElem? hr)).2.2.1 q1 q3
          have := hI.dl
          exact ⟨r, hr, q1, by omega⟩
        · exact J.ok j v z hn
      · show (if s = (i : Int) then N + 1 else τ s) ≤ N + 1
        split
        · exact Nat.le_refl _
        · exact Nat.le_succ_of_le (J.le s)
      · show _ ∧ (if (a : Int) = (i : Int) then N + 1 else τ a) < (if (j : Int) = (i : Int) then N + 1 else τ j)
        rcases gs ha with ⟨rfl, z⟩ | ⟨na, z⟩
        · rw [hr] at hra
          cases hra
          obtain ⟨q1, q2, q3⟩ := fu_spec hr z
          have hwd := q3 w hw
          rcases gs hj with ⟨rfl, y⟩ | ⟨_, y⟩
          · rw [z] at y
            cases y
            exact absurd hwd q2
          · exact absurd hwd (J.up j w y)
        · rw [if_neg (by omega)]
          rcases gs hj with ⟨rfl, y⟩ | ⟨nj, y⟩
          · rw [if_pos rfl]
            exact ⟨hns, Nat.lt_succ_of_le (J.le _)⟩
          · rw [if_neg (by omega)]
            exact J.lt a v ra j w z hna hra y hw
    | fin i v hi =>
      have g : ∀ {j : Nat} {w : Int}, (sp.set i none)[j]? = some (some w) → sp[j]? = some (some w) := fun h => by
        rcases gs h with ⟨_, z⟩ | ⟨_, z⟩
        · cases z
        · exact z
      exact ⟨τ, N, fun j w h => J.up j w (g h), fun j w h => J.ok j w (g h), J.le, fun a v ra j w ha hna hra hj hw => J.lt a v ra j w (g ha) hna hra (g hj) hw, h3⟩
    | up x x0 x1 hx => exact ⟨τ, N, fun j w h z => J.up j w h (List.mem_filter.mp z).1, J.ok, J.le, J.lt, h3⟩
    | down x x0 x1 hx hd =>
      have md : ∀ y, y ∈ sortI (dn ++ [x]) ↔ y ∈ dn ∨ y = x := fun y => by
        rw [(sortI_perm _).mem_iff, List.mem_append, List.mem_singleton]
      have hup : ∀ (j : Nat) (w : Int), (mvd rows (sortI (dn ++ [x])) x 0 sp)[j]? = some (some w) → w ∉ sortI (dn ++ [x]) := fun j w h => by
        rcases gm h with ⟨z, y⟩ | ⟨z, y⟩
        · have hjl := (List.getElem?_eq_some_iff.mp z).1
          obtain ⟨r, hr⟩ := row_ex hjl hI.len
          exact (fu_spec hr y).2.1
        · rw [md]
          exact fun q => q.elim (J.up j w z) y
      refine ⟨fun s => if sp[s.toNat]? = some (some x) then N + 1 else τ s, N + 1, hup, fun j v h hn => ?_, fun s => ?_, fun a v ra j w ha hna hra hj hw => ?_, h3⟩
      · rcases gm h with ⟨z, y⟩ | ⟨z, y⟩
        · have hjl := (List.getElem?_eq_some_iff.mp z).1
          obtain ⟨r, hr⟩ := row_ex hjl hI.len
          obtain ⟨q1, q2, q3⟩ := fu_spec hr y
          have h4 := pre_le (hrow r (List.mem_of_getElem? hr)).2.2.1 q1 q3
          rw [(sortI_perm _).length_eq, List.length_append, List.length_singleton] at h4
          exact ⟨r, hr, q1, by omega⟩
        · exact J.ok j v z hn
      · show (if sp[s.toNat]? = some (some x) then N + 1 else τ s) ≤ N + 1
        split
        · exact Nat.le_refl _
        · exact Nat.le_succ_of_le (J.le s)
      · show _ ∧ (if sp[(a : Int).toNat]? = some (some x) then N + 1 else τ a) < (if sp[(j : Int).toNat]? = some (some x) then N + 1 else τ j)
        rw [Int.toNat_natCast, Int.toNat_natCast]
        have hwu := hup j w hj
        rcases gm ha with ⟨z, y⟩ | ⟨z, y⟩
        · exact absurd ((fu_spec hra y).2.2 w hw) hwu
        · rw [if_neg (fun q => by rw [z] at q; cases q; exact y rfl)]
          rcases gm hj with ⟨z2, y2⟩ | ⟨z2, y2⟩
          · rw [if_pos z2]
            refine ⟨fun hs => ?_, Nat.lt_succ_of_le (J.le _)⟩
            have e1 := keps_get J.kp hs
            have e2 := keps_get h3 hs
            rw [hj, ← e1, z2] at e2
            cases e2
            exact hwu ((md x).mpr (.inr rfl))
          · rw [if_neg (fun q => by rw [z2] at q; cases q; exact y2 rfl)]
            exact J.lt a v ra j w z hna hra z2 hw
end
end Fx
set_option Elab.async false
set_option linter.all false
set_option maxRecDepth 100000
set_option maxHeartbeats 1000000
namespace Fx
open PySem L2
theorem pigeonG {α : Type} [DecidableEq α] : ∀ (l m : List α), l.Nodup → (∀ x ∈ l, x ∈ m) → l.length ≤ m.length
  | [], m, _, _ => Nat.zero_le _
  | a :: l, m, hn, h => by
    obtain ⟨n1, n2⟩ := List.nodup_cons.mp hn
    have ha := h a List.mem_cons_self
    have := pigeonG l (m.erase a) n2 fun x hx => (List.mem_erase_of_ne (fun z => n1 (by rw [← z]; exact hx))).mpr (h x (List.mem_cons_of_mem _ hx))
    rw [List.length_erase_of_mem ha] at this
    have := List.length_pos_of_mem ha
    rw [List.length_cons]
    omega
def subsI : List Int → List (List Int)
  | [] => [[]]
  | a :: l => subsI l ++ (subsI l).map (a :: ·)
theorem subs_len : ∀ l : List Int, (subsI l).length = 2 ^ l.length
  | [] => rfl
  | a :: l => by
    unfold subsI
    rw [List.length_append, List.length_map, subs_len l, List.length_cons, Nat.pow_succ]
    omega
theorem mem_subs : ∀ (R l : List Int), R.Pairwise (· < ·) → l.Pairwise (· < ·) → (∀ x ∈ l, x ∈ R) → l ∈ subsI R
  | [], l, _, _, h => by
    cases l with
    | nil => exact List.mem_singleton.mpr rfl
    | cons a l => exact nomatch h a List.mem_cons_self
  | a :: R, l, hR, hl, h => by
    obtain ⟨r1, r2⟩ := List.pairwise_cons.mp hR
    unfold subsI
    by_cases z : ∀ x ∈ l, x ∈ R
    · exact List.mem_append_left _ (mem_subs R l r2 hl z)
    · cases l with
      | nil => exact absurd (fun x hx => nomatch hx) z
      | cons b l =>
        obtain ⟨l1, l2⟩ := List.pairwise_cons.mp hl
        have hb : b = a := Classical.byContradiction fun ne => z fun x hx => by
          have hbR : b ∈ R := (List.mem_cons.mp (h b List.mem_cons_self)).resolve_left ne
          rcases List.mem_cons.mp hx with rfl | hx
          · exact hbR
          · have := r1 b hbR
            have := l1 x hx
            exact (List.mem_cons.mp (h x (List.mem_cons_of_mem _ hx))).resolve_left (by omega)
        subst hb
        refine List.mem_append_right _ (List.mem_map.mpr ⟨l, mem_subs R l r2 l2 fun x hx => ?_, rfl⟩)
        have := l1 x hx
        exact (List.mem_cons.mp (h x (List.mem_cons_of_mem _ hx))).resolve_left (by omega)
def vecs (o : List (Option Int)) : Nat → List (List (Option Int))
  | 0 => [[]]
  | k + 1 => o.flatMap fun x => (vecs o k).map (x :: ·)
theorem flat_len {α β : Type} (f : α → List β) (c : Nat) : ∀ l : List α, (∀ x ∈ l, (f x).length = c) → (l.flatMap f).length = l.length * c
  | [], _ => by simp
  | a :: l, h => by
    rw [List.flatMap_cons, List.length_append, h a List.mem_cons_self, flat_len f c l (fun x hx => h x (List.mem_cons_of_mem _ hx)), List.length_cons, Nat.succ_mul]
    omega
theorem vecs_len (o : List (Option Int)) : ∀ k : Nat, (vecs o k).length = o.length ^ k
  | 0 => rfl
  | k + 1 => by
    unfold vecs
    rw [flat_len _ (o.length ^ k) _ (fun x _ => by rw [List.length_map, vecs_len o k]), Nat.pow_succ, Nat.mul_comm]
theorem mem_vecs (o : List (Option Int)) : ∀ (k : Nat) (l : List (Option Int)), l.length = k → (∀ x ∈ l, x ∈ o) → l ∈ vecs o k
  | 0, l, h, _ => by
    rw [List.length_eq_zero_iff.mp h]
    exact List.mem_singleton.mpr rfl
  | k + 1, [], h, _ => by cases h
  | k + 1, x :: l, h, hx => List.mem_flatMap.mpr ⟨x, hx x List.mem_cons_self, List.mem_map.mpr ⟨l, mem_vecs o k l (by simpa using h) (fun y hy => hx y (List.mem_cons_of_mem _ hy)), rfl⟩⟩
abbrev St2 := List Int × List (Option Int)
def allS (n k : Nat) : List St2 := (subsI (rng n)).flatMap fun dn => (vecs (none :: (rng n).map some) k).map fun sp => (dn, sp)
theorem allS_len (n k : Nat) : (allS n k).length = 2 ^ n * (n + 1) ^ k := by
  unfold allS
  rw [flat_len _ ((n + 1) ^ k) _ (fun x _ => by rw [List.length_map, vecs_len, List.length_cons, List.length_map, rng_len]), subs_len, rng_len]
theorem small : ∀ m : Nat, m < 5 → ∀ k : Nat, k < 5 → (m < 4 ∨ k < 4) → 2 ^ m * (m + 1) ^ k ≤ 2048 := by decide
section
variable {n t : Int} {rows : List (List Int)} {st : List Int} {be : List (Option Int)}
end
end Fx
set_option Elab.async false
set_option linter.all false
set_option maxRecDepth 100000
set_option maxHeartbeats 1000000
namespace Fx
open PySem L2
def nkO : Option Int → NestedKey
  | none => .none
  | some v => .num v
def nkS (q : St2) : NestedKey := .tup [.tup (q.1.map .num), .tup (q.2.map nkO)]
def stP (q : St2) : D := stD q.1 q.2
theorem nkL_ints : ∀ l : List Int, nkL (l.map D.int) = some (l.map .num)
  | [] => rfl
  | a :: l => by rw [List.map_cons, nkL, nkL_ints l]; rfl
theorem nkL_opts : ∀ l : List (Option Int), nkL (l.map optD) = some (l.map nkO)
  | [] => rfl
  | none :: l => by rw [List.map_cons, nkL, nkL_opts l]; rfl
  | some v :: l => by rw [List.map_cons, nkL, nkL_opts l]; rfl
theorem nk_st (q : St2) : nk (stP q) = some (nkS q) := by
  show nk (.tup [.tup (q.1.map .int), .tup (q.2.map optD)]) = _
  rw [nk, nkL, nkL, nkL, nk, nk, nkL_ints, nkL_opts]
  rfl
theorem dep_nums : ∀ l : List Int, NestedKey.depthAll (l.map .num) = 0
  | [] => rfl
  | a :: l => by rw [List.map_cons, NestedKey.depthAll, dep_nums l]; rfl
theorem dep_nkO : ∀ l : List (Option Int), NestedKey.depthAll (l.map nkO) = 0
  | [] => rfl
  | none :: l => by rw [List.map_cons, NestedKey.depthAll, dep_nkO l]; rfl
  | some v :: l => by rw [List.map_cons, NestedKey.depthAll, dep_nkO l]; rfl
theorem depS (q : St2) : (nkS q).depth ≤ 8 := by
  unfold nkS
  rw [NestedKey.depth, NestedKey.depthAll, NestedKey.depthAll, NestedKey.depthAll, NestedKey.depth, NestedKey.depth, dep_nums, dep_nkO]
  decide
theorem map_inj' {α β : Type} {f : α → β} (hf : ∀ x y, f x = f y → x = y) : ∀ {l m : List α}, l.map f = m.map f → l = m
  | [], [], _ => rfl
  | [], _ :: _, h => by cases h
  | _ :: _, [], h => by cases h
  | a :: l, b :: m, h => by
    rw [List.map_cons, List.map_cons] at h
    obtain ⟨h1, h2⟩ := List.cons.inj h
    rw [hf _ _ h1, map_inj' hf h2]
theorem nkS_inj {q r : St2} (h : nkS q = nkS r) : q = r := by
  obtain ⟨a, b⟩ := q
  obtain ⟨c, d⟩ := r
  unfold nkS at h
  have h := NestedKey.tup.inj h
  obtain ⟨h1, h2⟩ := List.cons.inj h
  obtain ⟨h2, _⟩ := List.cons.inj h2
  have e1 : a = c := map_inj' (fun x y z => NestedKey.num.inj z) (NestedKey.tup.inj h1)
  have e2 : b = d := map_inj' (fun x y z => by
    cases x <;> cases y <;> first | rfl | (cases z; done) | skip
    · cases z; rfl) (NestedKey.tup.inj h2)
  rw [e1, e2]
theorem nkL_sts : ∀ L : List St2, nkL (L.map stP) = some (L.map nkS)
  | [] => rfl
  | q :: L => by rw [List.map_cons, nkL, nk_st, nkL_sts L]; rfl
theorem mem_nk {q : St2} {L : List St2} : nkS q ∈ L.map nkS ↔ q ∈ L := by
  rw [List.mem_map]
  constructor
  · rintro ⟨r, h, e⟩
    rw [← nkS_inj e]
    exact h
  · exact fun h => ⟨q, h, rfl⟩
theorem sInS_st (q : St2) (L : List St2) : sInS (stP q) (.exc 0 (L.map stP)) = some (.bl (decide (q ∈ L))) := by
  have h1 := nk_st q
  have h2 := nkL_sts L
  have h3 := depS q
  unfold sInS
  unfold nkS at h1 h3
  simp only [h1, h2, if_pos h3]
  refine congrArg (fun b => some (D.bl b)) ?_
  exact decide_eq_decide.mpr mem_nk
theorem sNinS_st (q : St2) (L : List St2) : sNinS (stP q) (.exc 0 (L.map stP)) = some (.bl (!decide (q ∈ L))) := by
  unfold sNinS
  rw [sInS_st]
theorem putS_st {q : St2} {L : List St2} (hn : q ∉ L) (hl : L.length < 16777216) : putS (.exc 0 (L.map stP)) (stP q) = some (.exc 0 ((L ++ [q]).map stP)) := by
  have h1 := nk_st q
  have h2 := nkL_sts L
  have h3 := depS q
  unfold putS
  have h4 : nkS q ∉ L.map nkS := fun z => hn (mem_nk.mp z)
  unfold nkS at h1 h3
  simp only [h1, h2]
  rw [if_pos ⟨h3, h4, by rw [List.length_map]; exact hl⟩, List.map_append]
  rfl
theorem newS_st (q : St2) : newS (stP q) = some (.exc 0 ([q].map stP)) := by
  have h1 := nk_st q
  have h3 := depS q
  unfold newS
  unfold nkS at h1 h3
  simp only [h1, if_pos h3]
  rfl
section
variable {n t : Int} {rows : List (List Int)} {dn dn1 : List Int} {sp sp1 : List (Option Int)}
end
end Fx
set_option Elab.async false
set_option linter.all false
set_option maxRecDepth 100000
set_option maxHeartbeats 1000000
namespace Fx
open PySem L2
theorem sAdd_tup {l m : List D} (h : l.length + m.length ≤ 16777216) : sAdd (.tup l) (.tup m) = some (.tup (l ++ m)) := if_pos h
section
variable {n t : Int} {rows : List (List Int)} {dn dn1 : List Int} {sp sp1 : List (Option Int)}
end
section
variable {n t : Int} {rows : List (List Int)} {be p : List (Option Int)} {s : Int}
/-- the states on ways on which s stays -/
inductive Rch (n t : Int) (rows : List (List Int)) (be : List (Option Int)) (s : Int) : List Int → List (Option Int) → Prop
  | start : Rch n t rows be s [] be
  | step {dn sp e dn1 sp1} : Rch n t rows be s dn sp → Ev n t rows dn sp e dn1 sp1 → oAt sp1 s = oAt be s → Rch n t rows be s dn1 sp1
theorem Rch.keep {dn : List Int} {sp : List (Option Int)} (h : Rch n t rows be s dn sp) : oAt sp s = oAt be s := by
  cases h with
  | start => rfl
  | step _ _ h => exact h
theorem Rch.sv (hrow : ∀ r ∈ rows, RowOk n r) (h0 : SV n t rows [] be) {dn : List Int} {sp : List (Option Int)} (h : Rch n t rows be s dn sp) : SV n t rows dn sp := by
  induction h with
  | start => exact h0
  | step _ k _ ih => exact k.sv hrow ih
theorem step_ev {dn dn1 : List Int} {sp sp1 : List (Option Int)} {e : D} (h : Step n t rows dn sp e dn1 sp1) : Ev n t rows dn sp e dn1 sp1 := by
  cases h with
  | beg i h => exact .beg dn sp i h
  | fin i v h => exact .fin dn sp i v h
  | up x a b c => exact .up dn sp x a b c
  | down x a b c h1 h2 =>
    have : mvd rows (sortI (dn ++ [x])) x 0 sp = sp := by
      apply List.ext_getElem?
      intro i
      rw [mvd_get]
      cases ho : sp[i]? with
      | none => rfl
      | some o =>
        rw [Option.map_some, if_neg]
        intro z
        subst z
        exact h1 (List.mem_of_getElem? ho)
    have k := Ev.down (n := n) (t := t) (rows := rows) dn sp x a b c h2
    rw [this] at k
    exact k
end
end Fx
set_option Elab.async false
set_option linter.all false
set_option maxRecDepth 100000
set_option maxHeartbeats 1000000
namespace Fx
open PySem L2
local macro_rules
  | `(tactic| trivial) => `(tactic| (repeat (first | with_reducible assumption | ((with_reducible apply vv_id); apply_rules (transparency := .reducible) (maxDepth := 1) (symm := false) (exfalso := false) only [vk0, vk1, vk2, vk3, vk4, vk5, vk6, vk7, vk8, vk9, vk10, vk11, vk12, vk13, vk14, vk15, vk16]) | ((with_reducible apply gg_id); first | apply_rules (transparency := .reducible) (maxDepth := 1) (symm := false) (exfalso := false) only [gk0, gk1, gk2, gk3, gk4, gk5, gk6, gk7, gk8, gk9, gk10, gk11, gk12, gk13, gk14, gk15, gk16] | apply_rules (transparency := .reducible) (maxDepth := 1) (symm := false) (exfalso := false) only [getAt_z, getAt_s]) | ((with_reducible apply ss_id); first | apply_rules (transparency := .reducible) (maxDepth := 1) (symm := false) (exfalso := false) only [sk0, sk1, sk2, sk3, sk4, sk5, sk6, sk7, sk8, sk9, sk10, sk11, sk12, sk13, sk14, sk15, sk16] | apply_rules (transparency := .reducible) (maxDepth := 1) (symm := false) (exfalso := false) only [setAt_z, setAt_s]) | ((with_reducible apply g_seq); first | (with_reducible refine s_step (by with_reducible assumption) ?_) | (with_reducible refine s_retS (by with_reducible assumption)) | apply_rules (transparency := .reducible) (maxDepth := 1) (symm := false) (exfalso := false) only [s_assoc, s_skip, s_asg, s_new, s_expr, s_ret, s_retN, s_t, s_f, s_if, s_par, s_par3, s_new2, s_setIx, s_augV, s_setS, s_raise] | ((with_reducible apply s_frz); apply_rules (transparency := .reducible) (maxDepth := 1) (symm := false) (exfalso := false) only [gk0, gk1, gk2, gk3, gk4, gk5, gk6, gk7, gk8, gk9, gk10, gk11, gk12, gk13, gk14, gk15, gk16]) | ((with_reducible apply s_frzD); apply_rules (transparency := .reducible) (maxDepth := 1) (symm := false) (exfalso := false) only [gk0, gk1, gk2, gk3, gk4, gk5, gk6, gk7, gk8, gk9, gk10, gk11, gk12, gk13, gk14, gk15, gk16]) | (with_reducible refine s_for ?_ (by with_reducible assumption) ?_) | (with_reducible refine s_forR ?_ (by with_reducible assumption)) | (with_reducible refine s_while (by with_reducible assumption) ?_) | (with_reducible refine s_whileR (by with_reducible assumption)) | (with_reducible refine s_for (?_) (by assumption) ?_)) | apply_rules (transparency := .reducible) (maxDepth := 1) (symm := false) (exfalso := false) only [v_pure, x_callD, y_op2, y_call1, y_call2, y_sl1, y_sl2, y_tup2, y_tup1, y_fo1, y_fo2, y_fo0, y_fo3, y_fn1, y_fn2, y_fn3, y_fn4, y_fn5, x_op2, p_dat, p_own, v_var, x_callD, x_callF, x_callK, x_callW, x_callN, x_make, x_call, x_tup, x_lst, x_neg, x_meth, x_methWR, x_methWD, x_methW, x_sl, x_rev, x_fld, x_chain, x_lenF, x_lenset, x_methF, x_isF, x_eqF, x_kd, x_neF, x_makeK, x_methK, x_cmp, x_lrn, pt_s, pt_n, i_seq, i_en, i_rng, i_zip, b_b, b_not, b_and, b_or, x_if, x_andV, x_orV, x_notV, andK_t, andK_f, orK_f, orK_t, chK_t, chK_f, ifK_t, ifK_f, x_lcU, x_lc, s_end, pk_n, pk_c, at_z, at_s, put_n, put_c, wl_n, wl_c, mp_r, tg_nm, tg_tp, tgs_n, tgs_c, pl_n, pl_c, rl_n, rl_c, ra_n, ra_d, ra_o, sq_n, sq_c, app_n, app_c, r_dat, r_own, lcE_i, no_n, no_c, nw_d, nw_n, nw_o, nb_lt, nb_lf, nb_ltn, nb_lfn] | ((with_reducible apply nb_id); first | with_reducible exact nb_nf rfl | with_reducible exact nb_t rfl | exact nb_h (by with_reducible assumption) | exact nb_hf (by with_reducible assumption) | exact nb_hn (by with_reducible assumption) | exact nb_hnf (by with_reducible assumption) | exact nb_t (by with_reducible assumption) | exact nb_f (by with_reducible assumption) | exact nb_nt (by with_reducible assumption) | exact nb_nf (by with_reducible assumption) | exact nb_t (by omega) | exact nb_f (by omega) | exact nb_nt (by omega) | exact nb_nf (by omega) | exact nb_t (by decide) | exact nb_f (by decide) | exact nb_nt (by decide) | exact nb_nf (by decide)) | apply_rules (transparency := .reducible) (maxDepth := 1) (symm := false) (exfalso := false) only [sEq_int, sNe_int, sEq_opt, sNe_opt, sIsN_opt, sNotN_opt, sNotN_int, sIsN_int, sNotN_tup, sIsN_tup, sNotN_lst, sIsN_lst, sNotN_non, sIsN_non, sIn_tup, sNin_tup, sIn_lst, sNin_lst, sEq_tup, sEq_lst, sNe_lst, sNe_tup, sIx_plc, sIx_rows, sIx_rowsL, sIn_row, sNin_row, sLen_row, sLen_plc, isTup_row, isTup_plc, sLen_ints, sLen_tints, sLen_rows, sLen_rowsT, sLen_lst, sLen_tup, isTupD] | ((with_reducible apply is_id); exact is_r) | ((with_reducible apply f_od); exact rfl) | ((with_reducible apply f_ol); exact rfl) | ((with_reducible apply f_op); exact rfl) | ((with_reducible apply f_bt); exact rfl) | ((with_reducible apply f_on); exact rfl) | ((with_reducible apply f_ld); exact rfl) | intro x hx | intro hb | omega | with_reducible apply s_one)))
/-- an event with the state behind it -/
def prD (e : D) (dn : List Int) (sp : List (Option Int)) : D := .tup [e, stD dn sp]
section
variable {n t : Int} {rows : List (List Int)} {dn : List Int} {sp : List (Option Int)}
/-- only possible events -/
def Snd (n t : Int) (rows : List (List Int)) (dn : List Int) (sp : List (Option Int)) (L : List D) : Prop := ∀ x ∈ L, ∃ e dn1 sp1, x = prD e dn1 sp1 ∧ Ev n t rows dn sp e dn1 sp1
theorem Snd.snoc {L : List D} (h : Snd n t rows dn sp L) {e : D} {dn1 : List Int} {sp1 : List (Option Int)} (k : Ev n t rows dn sp e dn1 sp1) : Snd n t rows dn sp (L ++ [prD e dn1 sp1]) := fun x hx => by
  rcases List.mem_append.mp hx with z | z
  · exact h x z
  · exact ⟨e, dn1, sp1, List.mem_singleton.mp z, k⟩
theorem set_facts {i : Nat} (hi : i < sp.length) (hl : sp.length ≤ 1000) (o : Option Int) : ∃ A B C : D, sCut (plcD sp) none (some (i : Int)) = some A ∧ sAdd A (.tup [optD o]) = some B ∧ sCut (plcD sp) (some ((i : Int) + 1)) none = some C ∧ sAdd B C = some (plcD (sp.set i o)) := by
  have hml : (sp.map optD).length = sp.length := List.length_map ..
  refine ⟨.tup ((sp.map optD).take i), .tup ((sp.map optD).take i ++ [optD o]), .tup ((sp.map optD).drop (i + 1)), cutT _ i, ?_, ?_, ?_⟩
  · refine if_pos ?_
    rw [List.length_take, List.length_singleton]
    omega
  · show some (D.tup (cutD _ (some ((i : Int) + 1)) none)) = _
    rw [show ((i : Int) + 1) = ((i + 1 : Nat) : Int) by omega, cut_drop _ (by omega)]
  · have : plcD (sp.set i o) = .tup ((sp.map optD).take i ++ [optD o] ++ (sp.map optD).drop (i + 1)) := by
      unfold plcD
      rw [List.map_set, ← set_parts _ _ _ (by omega)]
    rw [this]
    refine if_pos ?_
    rw [List.length_append, List.length_take, List.length_singleton, List.length_drop]
    omega
def wdO (o : Option Int) : Str := if o = none then "begin" else "end"
def ltO (rows : List (List Int)) (dn : List Int) (i : Nat) (o : Option Int) : Option Int := if o = none then firstUp rows dn (i : Int) else none
theorem ev_ses {i : Nat} {o : Option Int} (h : sp[i]? = some o) : Ev n t rows dn sp (D.tup [.str (wdO o), .int (i : Int)]) dn (sp.set i (ltO rows dn i o)) := by
  cases o with
  | none => exact .beg dn sp i h
  | some v => exact .fin dn sp i v h
theorem nx_ses (hl : sp.length = rows.length) (h60 : rows.length ≤ 60) (hrow : ∀ r ∈ rows, RowOk n r) {i : Nat} {r : List Int} {o : Option Int} (hr : rows[i]? = some r) (ho : sp[i]? = some o) {L : List D} (hL : L.length ≤ 1000) (c10 c11 : Cell) : ∃ a b, (mSeq (mAsg (mIf (mB (mOp2 sNotN (.dat (mOp2 sIx (.dat (mVar 6)) (.dat (mVar 8)))) (.dat (M.pure .non)))) (mTup [(M.pure (.str "end")), (M.pure .non)]) (mTup [(M.pure (.str "begin")), (mCallF m_law_first [(.dat (mVar 9)), (.dat (mVar 5))])])) (gTp [10, 11])) (mExpr (mMethWR wAppend 7 [(mTup [(mTup [(mVar 10), (mVar 8)]), (mTup [(mVar 5), (mOp2 sAdd (.dat (mOp2 sAdd (.dat (mSl sCut (.dat (mVar 6)) none (some (mVar 8)))) (.dat (mTup [(mVar 11)])))) (.dat (mSl sCut (.dat (mVar 6)) (some (mOp2 sAdd (.dat (mVar 8)) (.dat (M.pure (.int 1))))) none)))])])]))) [.dat (partsD n rows t), .dat (stD dn sp), .dat (.int n), .dat (D.lst (rows.map rowD)), .dat (.int t), .dat (D.tup (List.map D.int dn)), .dat (plcD sp), .own (.lst (L)), .dat (.int (i : Int)), .dat (rowD r), c10, c11, .no, .no, .no, .no, .no, .no] = .next [.dat (partsD n rows t), .dat (stD dn sp), .dat (.int n), .dat (D.lst (rows.map rowD)), .dat (.int t), .dat (D.tup (List.map D.int dn)), .dat (plcD sp), .own (.lst (L ++ [prD (D.tup [.str (wdO o), .int (i : Int)]) dn (sp.set i (ltO rows dn i o))])), .dat (.int (i : Int)), .dat (rowD r), a, b, .no, .no, .no, .no, .no, .no] := by
  have hf := e_lfirst r (D.tup (List.map D.int dn)) dn (fun x => sNin_tup x dn) (hrow _ (List.mem_of_getElem? hr)).2.2.2
  have hfu : (r.filter fun h => !decide (h ∈ dn)).head? = firstUp rows dn (i : Int) := by
    unfold firstUp
    rw [row_at hr]
  rw [hfu] at hf
  have hi := (List.getElem?_eq_some_iff.mp ho).1
  obtain ⟨A, B, C, q1, q2, q3, q4⟩ := set_facts hi (by omega) (ltO rows dn i o)
  have q0 : sIx (plcD sp) (.int (i : Int)) = some (optD o) := by simp [sIx, plcD, atI_nat, ho]
  have q5 : wAppend (.lst L) [prD (D.tup [.str (wdO o), .int (i : Int)]) dn (sp.set i (ltO rows dn i o))] = some (.non, .lst (L ++ [prD (D.tup [.str (wdO o), .int (i : Int)]) dn (sp.set i (ltO rows dn i o))])) := wApp_ok (by omega)
  unfold prD stD at q5 ⊢
  generalize hz : plcD (sp.set i (ltO rows dn i o)) = pl2 at *
  refine ⟨.dat (.str (wdO o)), .dat (optD (ltO rows dn i o)), ?_⟩
  cases o with
  | none =>
    have k1 : sNotN (optD none) .non = some (.bl false) := rfl
    have k2 : wdO none = "begin" := rfl
    have q2 : sAdd A (.tup [optD (firstUp rows dn (i : Int))]) = some B := q2
    have q5 : wAppend (.lst L) [.tup [(D.tup [.str "begin", .int (i : Int)]), .tup [(D.tup (List.map D.int dn)), pl2]]] = some (.non, .lst (L ++ [.tup [(D.tup [.str "begin", .int (i : Int)]), .tup [(D.tup (List.map D.int dn)), pl2]]])) := q5
    show (mSeq (mAsg (mIf (mB (mOp2 sNotN (.dat (mOp2 sIx (.dat (mVar 6)) (.dat (mVar 8)))) (.dat (M.pure .non)))) (mTup [(M.pure (.str "end")), (M.pure .non)]) (mTup [(M.pure (.str "begin")), (mCallF m_law_first [(.dat (mVar 9)), (.dat (mVar 5))])])) (gTp [10, 11])) (mExpr (mMethWR wAppend 7 [(mTup [(mTup [(mVar 10), (mVar 8)]), (mTup [(mVar 5), (mOp2 sAdd (.dat (mOp2 sAdd (.dat (mSl sCut (.dat (mVar 6)) none (some (mVar 8)))) (.dat (mTup [(mVar 11)])))) (.dat (mSl sCut (.dat (mVar 6)) (some (mOp2 sAdd (.dat (mVar 8)) (.dat (M.pure (.int 1))))) none)))])])]))) [.dat (partsD n rows t), .dat (stD dn sp), .dat (.int n), .dat (D.lst (rows.map rowD)), .dat (.int t), .dat (D.tup (List.map D.int dn)), .dat (plcD sp), .own (.lst (L)), .dat (.int (i : Int)), .dat (rowD r), c10, c11, .no, .no, .no, .no, .no, .no] = .next [.dat (partsD n rows t), .dat (stD dn sp), .dat (.int n), .dat (D.lst (rows.map rowD)), .dat (.int t), .dat (D.tup (List.map D.int dn)), .dat (plcD sp), .own (.lst (L ++ [.tup [(D.tup [.str "begin", .int (i : Int)]), .tup [(D.tup (List.map D.int dn)), pl2]]])), .dat (.int (i : Int)), .dat (rowD r), .dat (.str "begin"), .dat (optD (firstUp rows dn (i : Int))), .no, .no, .no, .no, .no, .no]
    trivial
  | some v =>
    have k1 : sNotN (optD (some v)) .non = some (.bl true) := rfl
    have k2 : wdO (some v) = "end" := rfl
    have q2 : sAdd A (.tup [.non]) = some B := q2
    have q5 : wAppend (.lst L) [.tup [(D.tup [.str "end", .int (i : Int)]), .tup [(D.tup (List.map D.int dn)), pl2]]] = some (.non, .lst (L ++ [.tup [(D.tup [.str "end", .int (i : Int)]), .tup [(D.tup (List.map D.int dn)), pl2]]])) := q5
    show (mSeq (mAsg (mIf (mB (mOp2 sNotN (.dat (mOp2 sIx (.dat (mVar 6)) (.dat (mVar 8)))) (.dat (M.pure .non)))) (mTup [(M.pure (.str "end")), (M.pure .non)]) (mTup [(M.pure (.str "begin")), (mCallF m_law_first [(.dat (mVar 9)), (.dat (mVar 5))])])) (gTp [10, 11])) (mExpr (mMethWR wAppend 7 [(mTup [(mTup [(mVar 10), (mVar 8)]), (mTup [(mVar 5), (mOp2 sAdd (.dat (mOp2 sAdd (.dat (mSl sCut (.dat (mVar 6)) none (some (mVar 8)))) (.dat (mTup [(mVar 11)])))) (.dat (mSl sCut (.dat (mVar 6)) (some (mOp2 sAdd (.dat (mVar 8)) (.dat (M.pure (.int 1))))) none)))])])]))) [.dat (partsD n rows t), .dat (stD dn sp), .dat (.int n), .dat (D.lst (rows.map rowD)), .dat (.int t), .dat (D.tup (List.map D.int dn)), .dat (plcD sp), .own (.lst (L)), .dat (.int (i : Int)), .dat (rowD r), c10, c11, .no, .no, .no, .no, .no, .no] = .next [.dat (partsD n rows t), .dat (stD dn sp), .dat (.int n), .dat (D.lst (rows.map rowD)), .dat (.int t), .dat (D.tup (List.map D.int dn)), .dat (plcD sp), .own (.lst (L ++ [.tup [(D.tup [.str "end", .int (i : Int)]), .tup [(D.tup (List.map D.int dn)), pl2]]])), .dat (.int (i : Int)), .dat (rowD r), .dat (.str "end"), .dat .non, .no, .no, .no, .no, .no, .no]
    trivial
theorem nx_srv (hl : sp.length = rows.length) (h60 : rows.length ≤ 60) (hrow : ∀ r ∈ rows, RowOk n r) (hd : dn.length ≤ 1000) {h : Int} (h0 : 0 ≤ h) (h1 : h < n) {L : List D} (hL : L.length ≤ 1000) (c8 c9 c10 c11 c14 c15 : Cell) : ∃ a b L', (mIfS (mB (mOp2 sIn (.dat (mVar 12)) (.dat (mVar 5)))) (mExpr (mMethWR wAppend 7 [(mTup [(mTup [(M.pure (.str "up")), (mVar 12)]), (mTup [(mCall sTuple [(.dat (mLc (mSeqI (mVar 5)) (gNm 13) (mB (mOp2 sNe (.dat (mVar 13)) (.dat (mVar 12)))) (mVar 13) [13]))]), (mVar 6)])])])) (mIfS (mB (mOp2 sLt (.dat (mCall sLen [(.dat (mVar 5))])) (.dat (mVar 4)))) (mSeq (mAsg (mCall sTuple [(.dat (mCall sSorted [(.dat (mOp2 sAdd (.dat (mVar 5)) (.dat (mTup [(mVar 12)]))))]))]) (gNm 14)) (mSeq (mAsg (mLc (mEnum (mVar 6)) (gTp [16, 17]) (M.pure true) (mIf (mB (mOp2 sEq (.dat (mVar 17)) (.dat (mVar 12)))) (mCallF m_law_first [(.dat (mOp2 sIx (.dat (mVar 3)) (.dat (mVar 16)))), (.dat (mVar 14))]) (mVar 17)) [16, 17]) (gNm 15)) (mExpr (mMethWR wAppend 7 [(mTup [(mTup [(M.pure (.str "down")), (mVar 12)]), (mTup [(mVar 14), (mCall sTuple [(.dat (mVar 15))])])])])))) mSkip)) [.dat (partsD n rows t), .dat (stD dn sp), .dat (.int n), .dat (D.lst (rows.map rowD)), .dat (.int t), .dat (D.tup (List.map D.int dn)), .dat (plcD sp), .own (.lst (L)), c8, c9, c10, c11, .dat (.int h), .no, c14, c15, .no, .no] = .next [.dat (partsD n rows t), .dat (stD dn sp), .dat (.int n), .dat (D.lst (rows.map rowD)), .dat (.int t), .dat (D.tup (List.map D.int dn)), .dat (plcD sp), .own (.lst (L')), c8, c9, c10, c11, .dat (.int h), .no, a, b, .no, .no] ∧ L'.length ≤ L.length + 1 ∧ (∀ x ∈ L, x ∈ L') ∧ (Snd n t rows dn sp L → Snd n t rows dn sp L') ∧ (h ∈ dn → prD (D.tup [.str "up", .int h]) (dn.filter fun y => !decide (y = h)) sp ∈ L') ∧ (h ∉ dn → (dn.length : Int) < t → prD (D.tup [.str "down", .int h]) (sortI (dn ++ [h])) (mvd rows (sortI (dn ++ [h])) h 0 sp) ∈ L') := by
  have q1 := sIn_tup h dn
  have app : ∀ x : D, (L ++ [x]).length ≤ L.length + 1 ∧ (∀ y ∈ L, y ∈ L ++ [x]) ∧ x ∈ L ++ [x] := fun x => ⟨by rw [List.length_append, List.length_singleton]; omega, fun y hy => List.mem_append_left _ hy, List.mem_append_right _ (List.mem_singleton.mpr rfl)⟩
  by_cases hm : h ∈ dn
  · rw [decide_eq_true hm] at q1
    obtain ⟨a1, a2, a3⟩ := app (prD (D.tup [.str "up", .int h]) (dn.filter fun y => !decide (y = h)) sp)
    have q5 : wAppend (.lst L) [prD (D.tup [.str "up", .int h]) (dn.filter fun y => !decide (y = h)) sp] = some (.non, .lst (L ++ [prD (D.tup [.str "up", .int h]) (dn.filter fun y => !decide (y = h)) sp])) := wApp_ok (by omega)
    refine ⟨c14, c15, L ++ [prD (D.tup [.str "up", .int h]) (dn.filter fun y => !decide (y = h)) sp], ?_, a1, a2, fun k => k.snoc (.up dn sp h h0 h1 hm), fun _ => a3, fun k => absurd hm k⟩
    have g : (mLc (mSeqI (mVar 5)) (gNm 13) (mB (mOp2 sNe (.dat (mVar 13)) (.dat (mVar 12)))) (mVar 13) [13]) [.dat (partsD n rows t), .dat (stD dn sp), .dat (.int n), .dat (D.lst (rows.map rowD)), .dat (.int t), .dat (D.tup (List.map D.int dn)), .dat (plcD sp), .own (.lst (L)), c8, c9, c10, c11, .dat (.int h), .no, c14, c15, .no, .no] = .ok (D.lst (List.map D.int (dn.filter fun y => !decide (y = h)))) [.dat (partsD n rows t), .dat (stD dn sp), .dat (.int n), .dat (D.lst (rows.map rowD)), .dat (.int t), .dat (D.tup (List.map D.int dn)), .dat (plcD sp), .own (.lst (L)), c8, c9, c10, c11, .dat (.int h), .no, c14, c15, .no, .no] := by
      refine x_lc (vs := [13]) (em := D.int) (P := fun y => !decide (y = h)) (f := D.int) (ρ1 := [.dat (partsD n rows t), .dat (stD dn sp), .dat (.int n), .dat (D.lst (rows.map rowD)), .dat (.int t), .dat (D.tup (List.map D.int dn)), .dat (plcD sp), .own (.lst (L)), c8, c9, c10, c11, .dat (.int h), .no, c14, c15, .no, .no]) (w := [.dat (partsD n rows t), .dat (stD dn sp), .dat (.int n), .dat (D.lst (rows.map rowD)), .dat (.int t), .dat (D.tup (List.map D.int dn)), .dat (plcD sp), .own (.lst (L)), c8, c9, c10, c11, .dat (.int h), .no, c14, c15, .no, .no]) (i_seq rfl rfl) mp_r rfl rfl fun y hy => ?_
      have k1 : sNe (.int y) (.int h) = some (.bl (!decide (y = h))) := sNe_int y h
      trivial
    have q2 : sTuple [(D.lst (List.map D.int (dn.filter fun y => !decide (y = h))))] = some (D.tup (List.map D.int (dn.filter fun y => !decide (y = h)))) := rfl
    unfold prD at q5 ⊢
    show (mIfS (mB (mOp2 sIn (.dat (mVar 12)) (.dat (mVar 5)))) (mExpr (mMethWR wAppend 7 [(mTup [(mTup [(M.pure (.str "up")), (mVar 12)]), (mTup [(mCall sTuple [(.dat (mLc (mSeqI (mVar 5)) (gNm 13) (mB (mOp2 sNe (.dat (mVar 13)) (.dat (mVar 12)))) (mVar 13) [13]))]), (mVar 6)])])])) (mIfS (mB (mOp2 sLt (.dat (mCall sLen [(.dat (mVar 5))])) (.dat (mVar 4)))) (mSeq (mAsg (mCall sTuple [(.dat (mCall sSorted [(.dat (mOp2 sAdd (.dat (mVar 5)) (.dat (mTup [(mVar 12)]))))]))]) (gNm 14)) (mSeq (mAsg (mLc (mEnum (mVar 6)) (gTp [16, 17]) (M.pure true) (mIf (mB (mOp2 sEq (.dat (mVar 17)) (.dat (mVar 12)))) (mCallF m_law_first [(.dat (mOp2 sIx (.dat (mVar 3)) (.dat (mVar 16)))), (.dat (mVar 14))]) (mVar 17)) [16, 17]) (gNm 15)) (mExpr (mMethWR wAppend 7 [(mTup [(mTup [(M.pure (.str "down")), (mVar 12)]), (mTup [(mVar 14), (mCall sTuple [(.dat (mVar 15))])])])])))) mSkip)) [.dat (partsD n rows t), .dat (stD dn sp), .dat (.int n), .dat (D.lst (rows.map rowD)), .dat (.int t), .dat (D.tup (List.map D.int dn)), .dat (plcD sp), .own (.lst (L)), c8, c9, c10, c11, .dat (.int h), .no, c14, c15, .no, .no] = .next [.dat (partsD n rows t), .dat (stD dn sp), .dat (.int n), .dat (D.lst (rows.map rowD)), .dat (.int t), .dat (D.tup (List.map D.int dn)), .dat (plcD sp), .own (.lst (L ++ [.tup [(D.tup [.str "up", .int h]), .tup [(D.tup (List.map D.int (dn.filter fun y => !decide (y = h)))), plcD sp]]])), c8, c9, c10, c11, .dat (.int h), .no, c14, c15, .no, .no]
    have q5 : wAppend (.lst L) [.tup [(D.tup [.str "up", .int h]), .tup [(D.tup (List.map D.int (dn.filter fun y => !decide (y = h)))), plcD sp]]] = some (.non, .lst (L ++ [.tup [(D.tup [.str "up", .int h]), .tup [(D.tup (List.map D.int (dn.filter fun y => !decide (y = h)))), plcD sp]]])) := q5
    generalize (dn.filter fun y => !decide (y = h)) = fl at *
    trivial
  · rw [decide_eq_false hm] at q1
    have q3 := sLen_tints dn
    by_cases ht : ((dn.length : Nat) : Int) < t
    · have q4 : sLt (.int ((dn.length : Nat) : Int)) (.int t) = some (.bl true) := by
        show some (D.bl (decide _)) = _
        rw [decide_eq_true ht]
      obtain ⟨ls, hls⟩ : ∃ ls, ls = sortI (dn ++ [h]) := ⟨_, rfl⟩
      have g1 : sAdd (D.tup (List.map D.int dn)) (.tup [.int h]) = some (D.tup (List.map D.int (dn ++ [h]))) := by
        rw [List.map_append]
        exact sAdd_tup (by rw [List.length_map, List.length_singleton]; omega)
      have g2 : sSorted [(D.tup (List.map D.int (dn ++ [h])))] = some (D.lst (List.map D.int ls)) := by rw [hls]; simp only [sSorted, itemsOf, Option.bind_some, intsOf_map, Option.map_some]
      have g3 : sTuple [(D.lst (List.map D.int ls))] = some (D.tup (List.map D.int ls)) := rfl
      have g4 : (mLc (mEnum (mVar 6)) (gTp [16, 17]) (M.pure true) (mIf (mB (mOp2 sEq (.dat (mVar 17)) (.dat (mVar 12)))) (mCallF m_law_first [(.dat (mOp2 sIx (.dat (mVar 3)) (.dat (mVar 16)))), (.dat (mVar 14))]) (mVar 17)) [16, 17]) [.dat (partsD n rows t), .dat (stD dn sp), .dat (.int n), .dat (D.lst (rows.map rowD)), .dat (.int t), .dat (D.tup (List.map D.int dn)), .dat (plcD sp), .own (.lst (L)), c8, c9, c10, c11, .dat (.int h), .no, .dat (D.tup (List.map D.int ls)), c15, .no, .no] = .ok (.lst ((mvd rows ls h 0 sp).map optD)) [.dat (partsD n rows t), .dat (stD dn sp), .dat (.int n), .dat (D.lst (rows.map rowD)), .dat (.int t), .dat (D.tup (List.map D.int dn)), .dat (plcD sp), .own (.lst (L)), c8, c9, c10, c11, .dat (.int h), .no, .dat (D.tup (List.map D.int ls)), c15, .no, .no] := by
        rw [← mvd_map]
        refine x_lcU (vs := [16, 17]) (em := enE optD) (f := fun q => optD (if q.2 = some h then firstUp rows ls (q.1 : Int) else q.2)) (xs := enumL optD 0 sp) (ds := (enumL optD 0 sp).map (enE optD)) (ρ1 := [.dat (partsD n rows t), .dat (stD dn sp), .dat (.int n), .dat (D.lst (rows.map rowD)), .dat (.int t), .dat (D.tup (List.map D.int dn)), .dat (plcD sp), .own (.lst (L)), c8, c9, c10, c11, .dat (.int h), .no, .dat (D.tup (List.map D.int ls)), c15, .no, .no]) (w := [.dat (partsD n rows t), .dat (stD dn sp), .dat (.int n), .dat (D.lst (rows.map rowD)), .dat (.int t), .dat (D.tup (List.map D.int dn)), .dat (plcD sp), .own (.lst (L)), c8, c9, c10, c11, .dat (.int h), .no, .dat (D.tup (List.map D.int ls)), c15, .no, .no]) ?_ mp_r rfl rfl fun q hq => ?_
        · trivial
        · obtain ⟨j, o⟩ := q
          obtain ⟨i, z1, z2⟩ := mem_enumL hq
          simp only [Nat.zero_add] at z1 z2
          subst z1
          have hj := (List.getElem?_eq_some_iff.mp z2).1
          have hr : rows[j]? = some rows[j] := List.getElem?_eq_getElem (by omega)
          have hf := e_lfirst rows[j] (D.tup (List.map D.int ls)) ls (fun x => sNin_tup x ls) (hrow _ (List.mem_of_getElem? hr)).2.2.2
          have hfu : (rows[j].filter fun h => !decide (h ∈ ls)).head? = firstUp rows ls (j : Int) := by
            unfold firstUp
            rw [row_at hr]
          rw [hfu] at hf
          have k2 : sIx (D.lst (rows.map rowD)) (.int (j : Int)) = some (rowD rows[j]) := by
            show atI _ _ = _
            rw [atI_nat, List.getElem?_map, hr]
            rfl
          have k1 : sEq (optD o) (.int h) = some (.bl (decide (o = some h))) := sEq_opt o (some h)
          by_cases hoo : o = some h
          · rw [decide_eq_true hoo] at k1
            simp only [if_pos hoo]
            show LcE _ _ _ _ _ (.tup [.int (j : Int), optD o]) _ _
            trivial
          · rw [decide_eq_false hoo] at k1
            simp only [if_neg hoo]
            show LcE _ _ _ _ _ (.tup [.int (j : Int), optD o]) _ _
            trivial
      have g5 : sTuple [.lst ((mvd rows ls h 0 sp).map optD)] = some (plcD (mvd rows ls h 0 sp)) := rfl
      obtain ⟨a1, a2, a3⟩ := app (.tup [(D.tup [.str "down", .int h]), .tup [(D.tup (List.map D.int ls)), plcD (mvd rows ls h 0 sp)]])
      have q5 : wAppend (.lst L) [.tup [(D.tup [.str "down", .int h]), .tup [(D.tup (List.map D.int ls)), plcD (mvd rows ls h 0 sp)]]] = some (.non, .lst (L ++ [.tup [(D.tup [.str "down", .int h]), .tup [(D.tup (List.map D.int ls)), plcD (mvd rows ls h 0 sp)]]])) := wApp_ok (by omega)
      have hev : Ev n t rows dn sp (D.tup [.str "down", .int h]) ls (mvd rows ls h 0 sp) := by
        rw [hls]
        exact .down dn sp h h0 h1 hm ht
      refine ⟨.dat (D.tup (List.map D.int ls)), .dat (.lst ((mvd rows ls h 0 sp).map optD)), L ++ [.tup [(D.tup [.str "down", .int h]), .tup [(D.tup (List.map D.int ls)), plcD (mvd rows ls h 0 sp)]]], ?_, a1, a2, fun k => k.snoc hev, fun k => absurd k hm, fun _ _ => by rw [← hls]; exact a3⟩
      generalize mvd rows ls h 0 sp = mv at *
      trivial
    · have q4 : sLt (.int ((dn.length : Nat) : Int)) (.int t) = some (.bl false) := by
        show some (D.bl (decide _)) = _
        rw [decide_eq_false ht]
      refine ⟨c14, c15, L, ?_, by omega, fun x hx => hx, id, fun k => absurd k hm, fun _ k => absurd k ht⟩
      trivial
theorem rng_at {k i : Nat} {x : Int} (h : (rng k)[i]? = some x) : x = (i : Int) ∧ i < k := by
  have hi := (List.getElem?_eq_some_iff.mp h).1
  rw [rng_len] at hi
  unfold rng at h
  rw [List.getElem?_map, List.getElem?_range hi] at h
  have h2 : (0 : Int) + (i : Int) = x := Option.some.inj h
  exact ⟨by omega, hi⟩
theorem e_next (hl : sp.length = rows.length) (h60 : rows.length ≤ 60) (hrow : ∀ r ∈ rows, RowOk n r) (hd : dn.length ≤ 1000) (n0 : 0 ≤ n) (n2 : n ≤ 30) : ∃ L : List D, m_law_next [partsD n rows t, stD dn sp] = .ret (.lst L) [] ∧ Snd n t rows dn sp L ∧ ∀ e dn1 sp1, Ev n t rows dn sp e dn1 sp1 → prD e dn1 sp1 ∈ L := by
  obtain ⟨ρ', e1, L, c8, c9, c10, c11, hρ, hS, hLl, hC⟩ := loop_inv (g := (gTp [8, 9])) (body := (mSeq (mAsg (mIf (mB (mOp2 sNotN (.dat (mOp2 sIx (.dat (mVar 6)) (.dat (mVar 8)))) (.dat (M.pure .non)))) (mTup [(M.pure (.str "end")), (M.pure .non)]) (mTup [(M.pure (.str "begin")), (mCallF m_law_first [(.dat (mVar 9)), (.dat (mVar 5))])])) (gTp [10, 11])) (mExpr (mMethWR wAppend 7 [(mTup [(mTup [(mVar 10), (mVar 8)]), (mTup [(mVar 5), (mOp2 sAdd (.dat (mOp2 sAdd (.dat (mSl sCut (.dat (mVar 6)) none (some (mVar 8)))) (.dat (mTup [(mVar 11)])))) (.dat (mSl sCut (.dat (mVar 6)) (some (mOp2 sAdd (.dat (mVar 8)) (.dat (M.pure (.int 1))))) none)))])])])))) (fun i ρ => ∃ (L : List D) (c8 c9 c10 c11 : Cell), ρ = [.dat (partsD n rows t), .dat (stD dn sp), .dat (.int n), .dat (D.lst (rows.map rowD)), .dat (.int t), .dat (D.tup (List.map D.int dn)), .dat (plcD sp), .own (.lst (L)), c8, c9, c10, c11, .no, .no, .no, .no, .no, .no] ∧ Snd n t rows dn sp L ∧ L.length ≤ i ∧ ∀ (j : Nat) (o : Option Int), j < i → sp[j]? = some o → prD (D.tup [.str (wdO o), .int (j : Int)]) dn (sp.set j (ltO rows dn j o)) ∈ L) (enumD 0 (rows.map rowD)) 0 [.dat (partsD n rows t), .dat (stD dn sp), .dat (.int n), .dat (D.lst (rows.map rowD)), .dat (.int t), .dat (D.tup (List.map D.int dn)), .dat (plcD sp), .own (.lst ([])), .no, .no, .no, .no, .no, .no, .no, .no, .no, .no] ⟨[], .no, .no, .no, .no, rfl, (fun x hx => nomatch hx), Nat.le_refl _, fun j o hj => absurd hj (by omega)⟩
    (fun i dd ρ hdd ⟨L, c8, c9, c10, c11, hρ, hS, hLl, hC⟩ => by
      subst hρ
      obtain ⟨d', h7, rfl⟩ := enumD_inv 0 i _ _ hdd
      rw [List.getElem?_map] at h7
      cases hr : rows[i]? with
      | none => rw [hr] at h7; cases h7
      | some r =>
        rw [hr] at h7
        cases h7
        simp only [Nat.zero_add] at hLl hC ⊢
        have hi := (List.getElem?_eq_some_iff.mp hr).1
        have ho : sp[i]? = some sp[i] := List.getElem?_eq_getElem (by omega)
        obtain ⟨a, b, e⟩ := nx_ses (n := n) (t := t) (dn := dn) hl h60 hrow hr ho (L := L) (by omega) c10 c11
        refine ⟨[.dat (partsD n rows t), .dat (stD dn sp), .dat (.int n), .dat (D.lst (rows.map rowD)), .dat (.int t), .dat (D.tup (List.map D.int dn)), .dat (plcD sp), .own (.lst (L)), .dat (.int (i : Int)), .dat (rowD r), c10, c11, .no, .no, .no, .no, .no, .no], rfl, _, e, _, _, _, _, _, rfl, hS.snoc (ev_ses ho), by rw [List.length_append, List.length_singleton]; omega, fun j o hj hjo => ?_⟩
        by_cases z : j = i
        · subst z
          rw [ho] at hjo
          cases hjo
          exact List.mem_append_right _ (List.mem_singleton.mpr rfl)
        · exact List.mem_append_left _ (hC j o (by omega) hjo))
  subst hρ
  rw [Nat.zero_add, enumD_len, List.length_map] at hLl hC
  obtain ⟨ρ2, e2, L2, c12, c14, c15, hρ, hS2, hL2, hC2, hU, hD⟩ := loop_inv (g := (gNm 12)) (body := (mIfS (mB (mOp2 sIn (.dat (mVar 12)) (.dat (mVar 5)))) (mExpr (mMethWR wAppend 7 [(mTup [(mTup [(M.pure (.str "up")), (mVar 12)]), (mTup [(mCall sTuple [(.dat (mLc (mSeqI (mVar 5)) (gNm 13) (mB (mOp2 sNe (.dat (mVar 13)) (.dat (mVar 12)))) (mVar 13) [13]))]), (mVar 6)])])])) (mIfS (mB (mOp2 sLt (.dat (mCall sLen [(.dat (mVar 5))])) (.dat (mVar 4)))) (mSeq (mAsg (mCall sTuple [(.dat (mCall sSorted [(.dat (mOp2 sAdd (.dat (mVar 5)) (.dat (mTup [(mVar 12)]))))]))]) (gNm 14)) (mSeq (mAsg (mLc (mEnum (mVar 6)) (gTp [16, 17]) (M.pure true) (mIf (mB (mOp2 sEq (.dat (mVar 17)) (.dat (mVar 12)))) (mCallF m_law_first [(.dat (mOp2 sIx (.dat (mVar 3)) (.dat (mVar 16)))), (.dat (mVar 14))]) (mVar 17)) [16, 17]) (gNm 15)) (mExpr (mMethWR wAppend 7 [(mTup [(mTup [(M.pure (.str "down")), (mVar 12)]), (mTup [(mVar 14), (mCall sTuple [(.dat (mVar 15))])])])])))) mSkip))) (fun i ρ => ∃ (L2 : List D) (c12 c14 c15 : Cell), ρ = [.dat (partsD n rows t), .dat (stD dn sp), .dat (.int n), .dat (D.lst (rows.map rowD)), .dat (.int t), .dat (D.tup (List.map D.int dn)), .dat (plcD sp), .own (.lst (L2)), c8, c9, c10, c11, c12, .no, c14, c15, .no, .no] ∧ Snd n t rows dn sp L2 ∧ L2.length ≤ 60 + i ∧ (∀ x ∈ L, x ∈ L2) ∧ (∀ h : Int, 0 ≤ h → h < i → h ∈ dn → prD (D.tup [.str "up", .int h]) (dn.filter fun y => !decide (y = h)) sp ∈ L2) ∧ (∀ h : Int, 0 ≤ h → h < i → h ∉ dn → (dn.length : Int) < t → prD (D.tup [.str "down", .int h]) (sortI (dn ++ [h])) (mvd rows (sortI (dn ++ [h])) h 0 sp) ∈ L2)) ((rng n.toNat).map .int) 0 [.dat (partsD n rows t), .dat (stD dn sp), .dat (.int n), .dat (D.lst (rows.map rowD)), .dat (.int t), .dat (D.tup (List.map D.int dn)), .dat (plcD sp), .own (.lst (L)), c8, c9, c10, c11, .no, .no, .no, .no, .no, .no] ⟨L, .no, .no, .no, rfl, hS, by omega, fun x hx => hx, fun h h0 h1 => by omega, fun h h0 h1 => by omega⟩
    (fun i dd ρ hdd ⟨L2, c12, c14, c15, hρ, hS2, hL2, hC2, hU, hD⟩ => by
      subst hρ
      rw [List.getElem?_map] at hdd
      cases hx : (rng n.toNat)[i]? with
      | none => rw [hx] at hdd; cases hdd
      | some x =>
        rw [hx] at hdd
        cases hdd
        obtain ⟨rfl, hin⟩ := rng_at hx
        simp only [Nat.zero_add] at hL2 hU hD ⊢
        obtain ⟨a, b, L', e, k1, k2, k3, k4, k5⟩ := nx_srv (t := t) hl h60 hrow hd (h := (i : Int)) (by omega) (by omega) (L := L2) (by omega) c8 c9 c10 c11 c14 c15
        refine ⟨[.dat (partsD n rows t), .dat (stD dn sp), .dat (.int n), .dat (D.lst (rows.map rowD)), .dat (.int t), .dat (D.tup (List.map D.int dn)), .dat (plcD sp), .own (.lst (L2)), c8, c9, c10, c11, .dat (.int (i : Int)), .no, c14, c15, .no, .no], rfl, _, e, L', _, _, _, rfl, k3 hS2, by omega, fun x hx => k2 x (hC2 x hx), fun h h0 h1 hm => ?_, fun h h0 h1 hm ht => ?_⟩
        · by_cases z : h = (i : Int)
          · subst z; exact k4 hm
          · exact k2 _ (hU h h0 (by omega) hm)
        · by_cases z : h = (i : Int)
          · subst z; exact k5 hm ht
          · exact k2 _ (hD h h0 (by omega) hm ht))
  subst hρ
  rw [Nat.zero_add, List.length_map, rng_len] at hU hD
  have f1 : mEnum (mVar 3) [.dat (partsD n rows t), .dat (stD dn sp), .dat (.int n), .dat (D.lst (rows.map rowD)), .dat (.int t), .dat (D.tup (List.map D.int dn)), .dat (plcD sp), .own (.lst ([])), .no, .no, .no, .no, .no, .no, .no, .no, .no, .no] = .ok (enumD 0 (rows.map rowD)) [.dat (partsD n rows t), .dat (stD dn sp), .dat (.int n), .dat (D.lst (rows.map rowD)), .dat (.int t), .dat (D.tup (List.map D.int dn)), .dat (plcD sp), .own (.lst ([])), .no, .no, .no, .no, .no, .no, .no, .no, .no, .no] := rfl
  have f2 : mRange1 (mVar 2) [.dat (partsD n rows t), .dat (stD dn sp), .dat (.int n), .dat (D.lst (rows.map rowD)), .dat (.int t), .dat (D.tup (List.map D.int dn)), .dat (plcD sp), .own (.lst (L)), c8, c9, c10, c11, .no, .no, .no, .no, .no, .no] = .ok ((rng n.toNat).map .int) [.dat (partsD n rows t), .dat (stD dn sp), .dat (.int n), .dat (D.lst (rows.map rowD)), .dat (.int t), .dat (D.tup (List.map D.int dn)), .dat (plcD sp), .own (.lst (L)), c8, c9, c10, c11, .no, .no, .no, .no, .no, .no] := range_ok rfl (by omega) (by omega)
  refine ⟨L2, ?_, hS2, fun e dn1 sp1 k => ?_⟩
  · (unfold m_law_next; apply s_run (ρ0 := [.dat (partsD n rows t), .dat (stD dn sp), .no, .no, .no, .no, .no, .no, .no, .no, .no, .no, .no, .no, .no, .no, .no, .no]) rfl; unfold b_law_next)
    · exact s_step (ρ1 := [.dat (partsD n rows t), .dat (stD dn sp), .dat (.int n), .dat (D.lst (rows.map rowD)), .dat (.int t), .no, .no, .no, .no, .no, .no, .no, .no, .no, .no, .no, .no, .no]) rfl (s_step (ρ1 := [.dat (partsD n rows t), .dat (stD dn sp), .dat (.int n), .dat (D.lst (rows.map rowD)), .dat (.int t), .dat (D.tup (List.map D.int dn)), .dat (plcD sp), .no, .no, .no, .no, .no, .no, .no, .no, .no, .no, .no]) rfl (s_step (ρ1 := [.dat (partsD n rows t), .dat (stD dn sp), .dat (.int n), .dat (D.lst (rows.map rowD)), .dat (.int t), .dat (D.tup (List.map D.int dn)), .dat (plcD sp), .own (.lst ([])), .no, .no, .no, .no, .no, .no, .no, .no, .no, .no]) rfl (s_step ((for_o f1).trans e1) (s_step ((for_o f2).trans e2) rfl))))
    · rfl
  · cases k with
    | beg i h =>
      have := (List.getElem?_eq_some_iff.mp h).1
      exact hC2 _ (hC i none (by omega) h)
    | fin i v h =>
      have := (List.getElem?_eq_some_iff.mp h).1
      exact hC2 _ (hC i (some v) (by omega) h)
    | up x x0 x1 hx => exact hU x x0 (by omega) hx
    | down x x0 x1 hx ht => exact hD x x0 (by omega) hx ht
end
end Fx
set_option Elab.async false
set_option linter.all false
set_option maxRecDepth 100000
set_option maxHeartbeats 1000000
namespace Fx
open PySem L2
local macro_rules
  | `(tactic| trivial) => `(tactic| (repeat (first | with_reducible assumption | ((with_reducible apply vv_id); apply_rules (transparency := .reducible) (maxDepth := 1) (symm := false) (exfalso := false) only [vk0, vk1, vk2, vk3, vk4, vk5, vk6, vk7, vk8, vk9, vk10, vk11, vk12, vk13, vk14, vk15, vk16]) | ((with_reducible apply gg_id); first | apply_rules (transparency := .reducible) (maxDepth := 1) (symm := false) (exfalso := false) only [gk0, gk1, gk2, gk3, gk4, gk5, gk6, gk7, gk8, gk9, gk10, gk11, gk12, gk13, gk14, gk15, gk16] | apply_rules (transparency := .reducible) (maxDepth := 1) (symm := false) (exfalso := false) only [getAt_z, getAt_s]) | ((with_reducible apply ss_id); first | apply_rules (transparency := .reducible) (maxDepth := 1) (symm := false) (exfalso := false) only [sk0, sk1, sk2, sk3, sk4, sk5, sk6, sk7, sk8, sk9, sk10, sk11, sk12, sk13, sk14, sk15, sk16] | apply_rules (transparency := .reducible) (maxDepth := 1) (symm := false) (exfalso := false) only [setAt_z, setAt_s]) | ((with_reducible apply g_seq); first | (with_reducible refine s_step (by with_reducible assumption) ?_) | (with_reducible refine s_retS (by with_reducible assumption)) | apply_rules (transparency := .reducible) (maxDepth := 1) (symm := false) (exfalso := false) only [s_assoc, s_skip, s_asg, s_new, s_expr, s_ret, s_retN, s_t, s_f, s_if, s_par, s_par3, s_new2, s_setIx, s_augV, s_setS, s_raise] | ((with_reducible apply s_frz); apply_rules (transparency := .reducible) (maxDepth := 1) (symm := false) (exfalso := false) only [gk0, gk1, gk2, gk3, gk4, gk5, gk6, gk7, gk8, gk9, gk10, gk11, gk12, gk13, gk14, gk15, gk16]) | ((with_reducible apply s_frzD); apply_rules (transparency := .reducible) (maxDepth := 1) (symm := false) (exfalso := false) only [gk0, gk1, gk2, gk3, gk4, gk5, gk6, gk7, gk8, gk9, gk10, gk11, gk12, gk13, gk14, gk15, gk16]) | (with_reducible refine s_for ?_ (by with_reducible assumption) ?_) | (with_reducible refine s_forR ?_ (by with_reducible assumption)) | (with_reducible refine s_while (by with_reducible assumption) ?_) | (with_reducible refine s_whileR (by with_reducible assumption)) | (with_reducible refine s_for (?_) (by assumption) ?_)) | apply_rules (transparency := .reducible) (maxDepth := 1) (symm := false) (exfalso := false) only [v_pure, x_callD, y_op2, y_call1, y_call2, y_sl1, y_sl2, y_tup2, y_tup1, y_fo1, y_fo2, y_fo0, y_fo3, y_fn1, y_fn2, y_fn3, y_fn4, y_fn5, x_op2, p_dat, p_own, v_var, x_callD, x_callF, x_callK, x_callW, x_callN, x_make, x_call, x_tup, x_lst, x_neg, x_meth, x_methWR, x_methWD, x_methW, x_sl, x_rev, x_fld, x_chain, x_lenF, x_lenset, x_methF, x_isF, x_eqF, x_kd, x_neF, x_makeK, x_methK, x_cmp, x_lrn, pt_s, pt_n, i_seq, i_en, i_rng, i_zip, b_b, b_not, b_and, b_or, x_if, x_andV, x_orV, x_notV, andK_t, andK_f, orK_f, orK_t, chK_t, chK_f, ifK_t, ifK_f, x_lcU, x_lc, s_end, pk_n, pk_c, at_z, at_s, put_n, put_c, wl_n, wl_c, mp_r, tg_nm, tg_tp, tgs_n, tgs_c, pl_n, pl_c, rl_n, rl_c, ra_n, ra_d, ra_o, sq_n, sq_c, app_n, app_c, r_dat, r_own, lcE_i, no_n, no_c, nw_d, nw_n, nw_o, nb_lt, nb_lf, nb_ltn, nb_lfn] | ((with_reducible apply nb_id); first | with_reducible exact nb_nf rfl | with_reducible exact nb_t rfl | exact nb_h (by with_reducible assumption) | exact nb_hf (by with_reducible assumption) | exact nb_hn (by with_reducible assumption) | exact nb_hnf (by with_reducible assumption) | exact nb_t (by with_reducible assumption) | exact nb_f (by with_reducible assumption) | exact nb_nt (by with_reducible assumption) | exact nb_nf (by with_reducible assumption) | exact nb_t (by omega) | exact nb_f (by omega) | exact nb_nt (by omega) | exact nb_nf (by omega) | exact nb_t (by decide) | exact nb_f (by decide) | exact nb_nt (by decide) | exact nb_nf (by decide)) | apply_rules (transparency := .reducible) (maxDepth := 1) (symm := false) (exfalso := false) only [sEq_int, sNe_int, sEq_opt, sNe_opt, sIsN_opt, sNotN_opt, sNotN_int, sIsN_int, sNotN_tup, sIsN_tup, sNotN_lst, sIsN_lst, sNotN_non, sIsN_non, sIn_tup, sNin_tup, sIn_lst, sNin_lst, sEq_tup, sEq_lst, sNe_lst, sNe_tup, sIx_plc, sIx_rows, sIx_rowsL, sIn_row, sNin_row, sLen_row, sLen_plc, isTup_row, isTup_plc, sLen_ints, sLen_tints, sLen_rows, sLen_rowsT, sLen_lst, sLen_tup, isTupD] | ((with_reducible apply is_id); exact is_r) | ((with_reducible apply f_od); exact rfl) | ((with_reducible apply f_ol); exact rfl) | ((with_reducible apply f_op); exact rfl) | ((with_reducible apply f_bt); exact rfl) | ((with_reducible apply f_on); exact rfl) | ((with_reducible apply f_ld); exact rfl) | intro x hx | intro hb | omega | with_reducible apply s_one)))
theorem s_runF {m : MS} {len : Nat} {bs : List Nat} {ds outs : List D} {ρ0 ρ1 : Cells} {d : D} (h0 : initC len bs ds = ρ0) (h : m ρ0 = .ret d ρ1) (h2 : outsOf bs ρ1 = outs) : mkFr len bs m ds = .ret d outs := by
  unfold mkFr
  rw [h0, h]
  simp only [h2]
theorem seqF_step {S R : MS} {ρ ρ1 : Cells} {o : OutS} (h : S ρ = .next ρ1) (h2 : R ρ1 = o) : mSeqF S R ρ = o := by
  unfold mSeqF
  rw [h]
  exact h2
theorem asg_ok20 {f : M D} {g : TgM} {ρ ρ1 ρ2 : Cells} {d : D} (h : f ρ = .ok d ρ1) (h2 : g d ρ1 = some ρ2) : mAsg f g ρ = .next ρ2 := by
  simp [mAsg, mDo, h, h2]
section
variable {n t : Int} {rows : List (List Int)} {p : List (Option Int)} {S : List Int}
/-- the near servers of a row -/
def nearR (t : Int) (r : List Int) : List Int := r.take (t + 1).toNat
theorem cut_near (r : List Int) (ht : 0 ≤ t) : sCut (rowD r) none (some (t + 1)) = some (rowD (nearR t r)) := by
  have h : (t + 1) = (((t + 1).toNat : Nat) : Int) := by omega
  rw [h]
  unfold rowD nearR
  rw [sCutT_hi, List.map_take]
theorem e_near {i : Nat} {r : List Int} (hr : rows[i]? = some r) (ht : 0 ≤ t) : m_near [farmD n rows t, .int (i : Int)] = .ret (rowD (nearR t r)) [] := by
  have q1 : sAdd (.int t) (.int 1) = some (.int (t + 1)) := rfl
  have q2 := sIx_rows hr
  have q3 := cut_near r ht
  (unfold m_near; apply s_run (ρ0 := [.dat (farmD n rows t), .dat (.int (i : Int))]) rfl; unfold b_near)
  · trivial
  · rfl
theorem e_law_near {i : Nat} {r : List Int} (hr : rows[i]? = some r) (ht : 0 ≤ t) : m_law_near [partsD n rows t, .int (i : Int)] = .ret (rowD (nearR t r)) [] := by
  have q0 : sIx (partsD n rows t) (.int 1) = some (D.lst (rows.map rowD)) := rfl
  have q4 : sIx (partsD n rows t) (.int 2) = some (.int t) := rfl
  have q1 : sAdd (.int t) (.int 1) = some (.int (t + 1)) := rfl
  have q2 := sIx_rowsL hr
  have q3 := cut_near r ht
  (unfold m_law_near; apply s_run (ρ0 := [.dat (partsD n rows t), .dat (.int (i : Int))]) rfl; unfold b_law_near)
  · trivial
  · rfl
def cntP (p : List (Option Int)) (v : Int) : Nat := (p.map optD).countP fun z => eqF z (.int v)
theorem flat_opts (p : List (Option Int)) : (p.map optD).all flatD = true := by
  rw [List.all_eq_true]
  intro x hx
  obtain ⟨o, _, rfl⟩ := List.mem_map.mp hx
  cases o <;> rfl
theorem cnt_plc (p : List (Option Int)) (v : Int) : sTcount (plcD p) [.int v] = some (.int (cntP p v : Nat)) := by
  show sCount (.tup (p.map optD)) [.int v] = _
  simp only [sCount, itemsOf, Option.bind_some]
  rw [if_pos]
  · rfl
  · rw [flat_opts]
    rfl
def cntL (n : Int) (p : List (Option Int)) : D := .lst ((rng n.toNat).map fun v => .int (cntP p v : Nat))
theorem e_loads (hF : FarmOk n rows) (hl : p.length = rows.length) (hok : PlOk rows p) : m_loads [farmD n rows t, plcD p] = .ret (cntL n p) [] ∧ mf_loads [farmD n rows t, plcD p] = .ret (cntL n p) [] := by
  have n1 := hF.n1
  have n2 := hF.n2
  have h60 := hF.len
  have q1 : m_check_placement [farmD n rows t, plcD p] = .ret .non [] := e_check_placement hl (by omega) hok hF.row
  have q2 : ∀ v : Int, sTcount (plcD p) [.int v] = some (.int (cntP p v : Nat)) := cnt_plc p
  have e : ∀ c : Cell, (mLc (mRange1 (mFld (mVar 0) "many")) (gNm 2) (M.pure true) (mMeth isTup sTcount (.dat (mVar 1)) [(.dat (mVar 2))]) [2]) [.dat (farmD n rows t), .dat (plcD p), .no] = .ok (cntL n p) [.dat (farmD n rows t), .dat (plcD p), .no] := fun _ => by
    unfold cntL
    (repeat (first | with_reducible assumption | ((with_reducible apply vv_id); apply_rules (transparency := .reducible) (maxDepth := 1) (symm := false) (exfalso := false) only [vk0, vk1, vk2, vk3, vk4, vk5, vk6, vk7, vk8, vk9, vk10, vk11, vk12, vk13, vk14, vk15, vk16]) | ((with_reducible apply gg_id); first | apply_rules (transparency := .reducible) (maxDepth := 1) (symm := false) (exfalso := false) only [gk0, gk1, gk2, gk3, gk4, gk5, gk6, gk7, gk8, gk9, gk10, gk11, gk12, gk13, gk14, gk15, gk16] | apply_rules (transparency := .reducible) (maxDepth := 1) (symm := false) (exfalso := false) only [getAt_z, getAt_s]) | ((with_reducible apply ss_id); first | apply_rules (transparency := .reducible) (maxDepth := 1) (symm := false) (exfalso := false) only [sk0, sk1, sk2, sk3, sk4, sk5, sk6, sk7, sk8, sk9, sk10, sk11, sk12, sk13, sk14, sk15, sk16] | apply_rules (transparency := .reducible) (maxDepth := 1) (symm := false) (exfalso := false) only [setAt_z, setAt_s]) | ((with_reducible apply g_seq); first | (with_reducible refine s_step (by with_reducible assumption) ?_) | (with_reducible refine s_retS (by with_reducible assumption)) | apply_rules (transparency := .reducible) (maxDepth := 1) (symm := false) (exfalso := false) only [s_assoc, s_skip, s_asg, s_new, s_expr, s_ret, s_retN, s_t, s_f, s_if, s_par, s_par3, s_new2, s_setIx, s_augV, s_setS, s_raise] | ((with_reducible apply s_frz); apply_rules (transparency := .reducible) (maxDepth := 1) (symm := false) (exfalso := false) only [gk0, gk1, gk2, gk3, gk4, gk5, gk6, gk7, gk8, gk9, gk10, gk11, gk12, gk13, gk14, gk15, gk16]) | ((with_reducible apply s_frzD); apply_rules (transparency := .reducible) (maxDepth := 1) (symm := false) (exfalso := false) only [gk0, gk1, gk2, gk3, gk4, gk5, gk6, gk7, gk8, gk9, gk10, gk11, gk12, gk13, gk14, gk15, gk16]) | (with_reducible refine s_for ?_ (by with_reducible assumption) ?_) | (with_reducible refine s_forR ?_ (by with_reducible assumption)) | (with_reducible refine s_while (by with_reducible assumption) ?_) | (with_reducible refine s_whileR (by with_reducible assumption)) | (with_reducible refine s_for (?_) (by assumption) ?_)) | apply_rules (transparency := .reducible) (maxDepth := 1) (symm := false) (exfalso := false) only [v_pure, x_callD, y_op2, y_call1, y_call2, y_sl1, y_sl2, y_tup2, y_tup1, y_fo1, y_fo2, y_fo0, y_fo3, y_fn1, y_fn2, y_fn3, y_fn4, y_fn5, x_op2, p_dat, p_own, v_var, x_callD, x_callF, x_callK, x_callW, x_callN, x_make, x_call, x_tup, x_lst, x_neg, x_meth, x_methWR, x_methWD, x_methW, x_sl, x_rev, x_fld, x_chain, x_lenF, x_lenset, x_methF, x_isF, x_eqF, x_kd, x_neF, x_makeK, x_methK, x_cmp, x_lrn, pt_s, pt_n, i_seq, i_en, i_rng, i_zip, b_b, b_not, b_and, b_or, x_if, x_andV, x_orV, x_notV, andK_t, andK_f, orK_f, orK_t, chK_t, chK_f, ifK_t, ifK_f, x_lcU, x_lc, s_end, pk_n, pk_c, at_z, at_s, put_n, put_c, wl_n, wl_c, mp_r, tg_nm, tg_tp, tgs_n, tgs_c, pl_n, pl_c, rl_n, rl_c, ra_n, ra_d, ra_o, sq_n, sq_c, app_n, app_c, r_dat, r_own, lcE_i, no_n, no_c, nw_d, nw_n, nw_o, nb_lt, nb_lf, nb_ltn, nb_lfn] | ((with_reducible apply nb_id); first | with_reducible exact nb_nf rfl | with_reducible exact nb_t rfl | exact nb_h (by with_reducible assumption) | exact nb_hf (by with_reducible assumption) | exact nb_hn (by with_reducible assumption) | exact nb_hnf (by with_reducible assumption) | exact nb_t (by with_reducible assumption) | exact nb_f (by with_reducible assumption) | exact nb_nt (by with_reducible assumption) | exact nb_nf (by with_reducible assumption) | exact nb_t (by omega) | exact nb_f (by omega) | exact nb_nt (by omega) | exact nb_nf (by omega) | exact nb_t (by decide) | exact nb_f (by decide) | exact nb_nt (by decide) | exact nb_nf (by decide)) | with_reducible exact q2 _ | apply_rules (transparency := .reducible) (maxDepth := 1) (symm := false) (exfalso := false) only [sEq_int, sNe_int, sEq_opt, sNe_opt, sIsN_opt, sNotN_opt, sNotN_int, sIsN_int, sNotN_tup, sIsN_tup, sNotN_lst, sIsN_lst, sNotN_non, sIsN_non, sIn_tup, sNin_tup, sIn_lst, sNin_lst, sEq_tup, sEq_lst, sNe_lst, sNe_tup, sIx_plc, sIx_rows, sIx_rowsL, sIn_row, sNin_row, sLen_row, sLen_plc, isTup_row, isTup_plc, sLen_ints, sLen_tints, sLen_rows, sLen_rowsT, sLen_lst, sLen_tup, isTupD] | ((with_reducible apply is_id); exact is_r) | ((with_reducible apply f_od); exact rfl) | ((with_reducible apply f_ol); exact rfl) | ((with_reducible apply f_op); exact rfl) | ((with_reducible apply f_bt); exact rfl) | ((with_reducible apply f_on); exact rfl) | ((with_reducible apply f_ld); exact rfl) | intro x hx | intro hb | omega | with_reducible apply s_one))
  constructor
  · (unfold m_loads; apply s_run (ρ0 := [.dat (farmD n rows t), .dat (plcD p), .no]) rfl; unfold b_loads)
    · have e := e .no
      trivial
    · rfl
  · unfold mf_loads
    apply s_runF (ρ0 := [.dat (farmD n rows t), .dat (plcD p), .no]) rfl
    · refine seqF_step (ρ1 := [.dat (farmD n rows t), .dat (plcD p), .no]) ?_ (ret1 (e .no))
      trivial
    · rfl
theorem e_fbs (hS : ∀ x ∈ S, 0 ≤ x ∧ x < n) (hn : S.Nodup) (hl : S.length ≤ 1000) : m_first_bad_server [farmD n rows t, (D.tup (List.map D.int S))] = .ret .non [] := by
  obtain ⟨ρ', e1, c2, c3, hρ⟩ := loop_inv (g := (gTp [2, 3])) (body := (mIfS (mOr (mNot (mB (mCallF m_is_from [(.dat (mVar 3)), (.dat (M.pure (.int 0))), (.dat (mOp2 sSub (.dat (mFld (mVar 0) "many")) (.dat (M.pure (.int 1)))))]))) (mB (mOp2 sIn (.dat (mVar 3)) (.dat (mSl sCut (.dat (mVar 1)) none (some (mVar 2))))))) (mRet (mVar 2)) mSkip)) (fun i ρ => ∃ c2 c3 : Cell, ρ = [.dat (farmD n rows t), .dat (D.tup (List.map D.int S)), c2, c3]) (enumD 0 (S.map .int)) 0 [.dat (farmD n rows t), .dat (D.tup (List.map D.int S)), .no, .no] ⟨.no, .no, rfl⟩
    (fun i dd ρ hdd ⟨c2, c3, hρ⟩ => by
      subst hρ
      obtain ⟨d', h7, rfl⟩ := enumD_inv 0 i _ _ hdd
      rw [List.getElem?_map] at h7
      cases hv : S[i]? with
      | none => rw [hv] at h7; cases h7
      | some v =>
        rw [hv] at h7
        cases h7
        simp only [Nat.zero_add]
        obtain ⟨v0, v1⟩ := hS v (List.mem_of_getElem? hv)
        have q1 : m_is_from [.int v, .int 0, .int (n - 1)] = .ret (.bl true) [] := by
          rw [e_is_from, decide_eq_true v0, decide_eq_true (show v ≤ n - 1 by omega)]
          rfl
        have q2 : sSub (.int n) (.int 1) = some (.int (n - 1)) := rfl
        have q3 : sCut (D.tup (List.map D.int S)) none (some (i : Int)) = some (D.tup (List.map D.int (S.take i))) := by rw [sCutT_hi, List.map_take]
        have q4 : sIn (.int v) (D.tup (List.map D.int (S.take i))) = some (.bl false) := by
          rw [sIn_tup, decide_eq_false]
          intro hm
          obtain ⟨j, hj⟩ := List.getElem?_of_mem hm
          rw [List.getElem?_take] at hj
          split at hj
          · rename_i hji
            have h1 := (List.getElem?_eq_some_iff.mp hj)
            have h2 := (List.getElem?_eq_some_iff.mp hv)
            obtain ⟨a1, a2⟩ := h1
            obtain ⟨b1, b2⟩ := h2
            exact (List.pairwise_iff_getElem.mp hn) j i a1 b1 hji (a2.trans b2.symm)
          · cases hj
        refine ⟨[.dat (farmD n rows t), .dat (D.tup (List.map D.int S)), .dat (.int (i : Int)), .dat (.int v)], rfl, [.dat (farmD n rows t), .dat (D.tup (List.map D.int S)), .dat (.int (i : Int)), .dat (.int v)], ?_, _, _, rfl⟩
        trivial)
  subst hρ
  (unfold m_first_bad_server; apply s_run (ρ0 := [.dat (farmD n rows t), .dat ((D.tup (List.map D.int S))), .no, .no]) rfl; unfold b_first_bad_server)
  · refine s_step ((for_o (i_enum (d := (D.tup (List.map D.int S))) rfl rfl)).trans e1) (ret1 rfl)
  · rfl
def fltR (t : Int) (S r : List Int) : List Int := (nearR t r).filter fun x => decide (x ∈ S)
def gotO (t : Int) (S r : List Int) : Option Int := (fltR t S r).head?
def gots (rows : List (List Int)) (t : Int) (S : List Int) : List (Option Int) := rows.map (gotO t S)
def dueN (rows : List (List Int)) (t : Int) (S : List Int) : Nat := ((gots rows t S).filter fun o => !decide (o = none)).length
theorem flt_len (r : List Int) : (fltR t S r).length ≤ r.length := Nat.le_trans (List.length_filter_le _ _) (by unfold nearR; rw [List.length_take]; exact Nat.min_le_right _ _)
theorem gl_body (hF : FarmOk n rows) (ht : 0 ≤ t) {i : Nat} {r : List Int} (hr : rows[i]? = some r) {L : List (Option Int)} (hL : L.length ≤ 1000) (c5 : Cell) : (mExpr (mMethWR wAppend 3 [(mOp2 sIx (.dat (mOp2 sAdd (.dat (mLc (mSeqI (mCallF m_near [(.dat (mVar 0)), (.dat (mVar 4))])) (gNm 5) (mB (mOp2 sIn (.dat (mVar 5)) (.dat (mVar 1)))) (mVar 5) [5])) (.dat (mLst [(M.pure .non)])))) (.dat (M.pure (.int 0))))])) [.dat (farmD n rows t), .dat (D.tup (List.map D.int S)), .dat .non, .own (.lst (L.map optD)), .dat (.int (i : Int)), .no] = .next [.dat (farmD n rows t), .dat (D.tup (List.map D.int S)), .dat .non, .own (.lst ((L ++ [gotO t S r]).map optD)), .dat (.int (i : Int)), .no] := by
  have q1 := e_near (n := n) hr ht
  have hR := hF.row r (List.mem_of_getElem? hr)
  have hfl := flt_len (t := t) (S := S) r
  have q2 : (mLc (mSeqI (mCallF m_near [(.dat (mVar 0)), (.dat (mVar 4))])) (gNm 5) (mB (mOp2 sIn (.dat (mVar 5)) (.dat (mVar 1)))) (mVar 5) [5]) [.dat (farmD n rows t), .dat (D.tup (List.map D.int S)), .dat .non, .own (.lst (L.map optD)), .dat (.int (i : Int)), .no] = .ok (D.lst (List.map D.int (fltR t S r))) [.dat (farmD n rows t), .dat (D.tup (List.map D.int S)), .dat .non, .own (.lst (L.map optD)), .dat (.int (i : Int)), .no] := by
    unfold fltR
    unfold rowD at q1
    generalize L.map optD = LX
    trivial
  unfold gotO
  generalize fltR t S r = F at q2 hfl ⊢
  have q3 : sAdd (D.lst (List.map D.int F)) (.lst [.non]) = some (.lst (F.map .int ++ [.non])) := if_pos (by rw [List.length_map, List.length_singleton]; have := hR.2.2.2; omega)
  have q4 : sIx (.lst (F.map .int ++ [.non])) (.int 0) = some (optD F.head?) := by
    cases F with
    | nil => exact atI_nat [D.non] 0
    | cons a F => exact atI_nat ((a :: F).map D.int ++ [.non]) 0
  have q5 : wAppend (.lst (L.map optD)) [optD F.head?] = some (.non, .lst ((L ++ [F.head?]).map optD)) := by
    rw [wApp_ok (by rw [List.length_map]; omega), List.map_append]
    rfl
  generalize (L ++ [F.head?]).map optD = LY at *
  generalize L.map optD = LX at *
  trivial
theorem e_greatest (hF : FarmOk n rows) (ht : 0 ≤ t) (hS : ∀ x ∈ S, 0 ≤ x ∧ x < n) (hn : S.Nodup) (hSl : S.length ≤ 1000) : m_greatest_load [farmD n rows t, (D.tup (List.map D.int S))] = .ret (.tup [.int (dueN rows t S : Nat), plcD (gots rows t S)]) [] := by
  have h60 := hF.len
  obtain ⟨ρ', e1, c4, hρ⟩ := loop_inv (g := (gNm 4)) (body := (mExpr (mMethWR wAppend 3 [(mOp2 sIx (.dat (mOp2 sAdd (.dat (mLc (mSeqI (mCallF m_near [(.dat (mVar 0)), (.dat (mVar 4))])) (gNm 5) (mB (mOp2 sIn (.dat (mVar 5)) (.dat (mVar 1)))) (mVar 5) [5])) (.dat (mLst [(M.pure .non)])))) (.dat (M.pure (.int 0))))]))) (fun i ρ => ∃ c4 : Cell, ρ = [.dat (farmD n rows t), .dat (D.tup (List.map D.int S)), .dat .non, .own (.lst (((rows.take i).map (gotO t S)).map optD)), c4, .no]) ((rng rows.length).map .int) 0 [.dat (farmD n rows t), .dat (D.tup (List.map D.int S)), .dat .non, .own (.lst ([])), .no, .no] ⟨.no, rfl⟩
    (fun i dd ρ hdd ⟨c4, hρ⟩ => by
      subst hρ
      rw [List.getElem?_map] at hdd
      cases hv : (rng rows.length)[i]? with
      | none => rw [hv] at hdd; cases hdd
      | some v =>
        rw [hv] at hdd
        cases hdd
        obtain ⟨rfl, hi⟩ := rng_at hv
        simp only [Nat.zero_add]
        have hr : rows[i]? = some rows[i] := List.getElem?_eq_getElem hi
        have e := gl_body (n := n) (t := t) (S := S) hF ht hr (L := (rows.take i).map (gotO t S)) (by rw [List.length_map, List.length_take]; omega) .no
        refine ⟨[.dat (farmD n rows t), .dat (D.tup (List.map D.int S)), .dat .non, .own (.lst (((rows.take i).map (gotO t S)).map optD)), .dat (.int (i : Int)), .no], rfl, _, e, .dat (.int (i : Int)), ?_⟩
        rw [List.take_add_one, hr, List.map_append (f := gotO t S)]
        rfl)
  subst hρ
  rw [List.length_map, rng_len, Nat.zero_add, List.take_length] at e1
  have q1 := e_fbs (n := n) (t := t) (rows := rows) hS hn hSl
  have q2 := isTupD (S.map D.int)
  have q3 : mRange1 (mLenF m_Farmdd_lendd (mVar 0)) [.dat (farmD n rows t), .dat (D.tup (List.map D.int S)), .dat .non, .own (.lst ([])), .no, .no] = .ok ((rng rows.length).map .int) [.dat (farmD n rows t), .dat (D.tup (List.map D.int S)), .dat .non, .own (.lst ([])), .no, .no] := by
    have := i_rng (f := mLenF m_Farmdd_lendd (mVar 0)) (ρ := [.dat (farmD n rows t), .dat (D.tup (List.map D.int S)), .dat .non, .own (.lst ([])), .no, .no]) (k := (rows.length : Int)) (e_lenF (n := n) (t := t) (by omega) rfl) (by omega) (by omega)
    rwa [Int.toNat_natCast] at this
  have e2 := (for_o q3).trans e1
  have q5 : (mLc (mSeqI (mVar 3)) (gNm 5) (mB (mOp2 sNotN (.dat (mVar 5)) (.dat (M.pure .non)))) (mVar 5) [5]) [.dat (farmD n rows t), .dat (D.tup (List.map D.int S)), .dat .non, .dat (.lst ((gots rows t S).map optD)), c4, .no] = .ok (.lst (((gots rows t S).filter fun o => !decide (o = none)).map optD)) [.dat (farmD n rows t), .dat (D.tup (List.map D.int S)), .dat .non, .dat (.lst ((gots rows t S).map optD)), c4, .no] := by
    trivial
  have q6 : sLen [.lst (((gots rows t S).filter fun o => !decide (o = none)).map optD)] = some (.int (dueN rows t S : Nat)) := by
    rw [sLen_lst, List.length_map]
    rfl
  have q7 : sTuple [.lst ((gots rows t S).map optD)] = some (plcD (gots rows t S)) := rfl
  have e2 : mFor (mRange1 (mLenF m_Farmdd_lendd (mVar 0))) (gNm 4) (mExpr (mMethWR wAppend 3 [(mOp2 sIx (.dat (mOp2 sAdd (.dat (mLc (mSeqI (mCallF m_near [(.dat (mVar 0)), (.dat (mVar 4))])) (gNm 5) (mB (mOp2 sIn (.dat (mVar 5)) (.dat (mVar 1)))) (mVar 5) [5])) (.dat (mLst [(M.pure .non)])))) (.dat (M.pure (.int 0))))])) [.dat (farmD n rows t), .dat (D.tup (List.map D.int S)), .dat .non, .own (.lst ([])), .no, .no] = .next [.dat (farmD n rows t), .dat (D.tup (List.map D.int S)), .dat .non, .own (.lst ((gots rows t S).map optD)), c4, .no] := e2
  have e3 : mFrz 3 (mRet (mTup [(mCall sLen [(.dat (mLc (mSeqI (mVar 3)) (gNm 5) (mB (mOp2 sNotN (.dat (mVar 5)) (.dat (M.pure .non)))) (mVar 5) [5]))]), (mCall sTuple [(.dat (mVar 3))])])) [.dat (farmD n rows t), .dat (D.tup (List.map D.int S)), .dat .non, .own (.lst ((gots rows t S).map optD)), c4, .no] = .ret (.tup [.int (dueN rows t S : Nat), plcD (gots rows t S)]) [.dat (farmD n rows t), .dat (D.tup (List.map D.int S)), .dat .non, .dat (.lst ((gots rows t S).map optD)), c4, .no] := by
    generalize plcD (gots rows t S) = PX at *
    generalize dueN rows t S = N at *
    generalize (((gots rows t S).filter fun o => !decide (o = none)).map optD) = LY at *
    generalize (gots rows t S).map optD = LX at *
    refine s_one ?_
    trivial
  (unfold m_greatest_load; apply s_run (ρ0 := [.dat (farmD n rows t), .dat ((D.tup (List.map D.int S))), .no, .no, .no, .no]) rfl; unfold b_greatest_load)
  · refine s_step (ρ1 := [.dat (farmD n rows t), .dat (D.tup (List.map D.int S)), .no, .no, .no, .no]) ?_ (s_step (ρ1 := [.dat (farmD n rows t), .dat (D.tup (List.map D.int S)), .dat .non, .no, .no, .no]) ?_ (s_step (ρ1 := [.dat (farmD n rows t), .dat (D.tup (List.map D.int S)), .dat .non, .no, .no, .no]) ?_ (s_step (ρ1 := [.dat (farmD n rows t), .dat (D.tup (List.map D.int S)), .dat .non, .own (.lst ([])), .no, .no]) rfl (s_step e2 ?_))))
    · trivial
    · trivial
    · trivial
    · exact e3
  · rfl
end
end Fx
set_option Elab.async false
set_option linter.all false
set_option maxRecDepth 100000
set_option maxHeartbeats 1000000
namespace Fx
open PySem L2
local macro_rules
  | `(tactic| trivial) => `(tactic| (repeat (first | with_reducible assumption | ((with_reducible apply vv_id); apply_rules (transparency := .reducible) (maxDepth := 1) (symm := false) (exfalso := false) only [vk0, vk1, vk2, vk3, vk4, vk5, vk6, vk7, vk8, vk9, vk10, vk11, vk12, vk13, vk14, vk15, vk16]) | ((with_reducible apply gg_id); first | apply_rules (transparency := .reducible) (maxDepth := 1) (symm := false) (exfalso := false) only [gk0, gk1, gk2, gk3, gk4, gk5, gk6, gk7, gk8, gk9, gk10, gk11, gk12, gk13, gk14, gk15, gk16] | apply_rules (transparency := .reducible) (maxDepth := 1) (symm := false) (exfalso := false) only [getAt_z, getAt_s]) | ((with_reducible apply ss_id); first | apply_rules (transparency := .reducible) (maxDepth := 1) (symm := false) (exfalso := false) only [sk0, sk1, sk2, sk3, sk4, sk5, sk6, sk7, sk8, sk9, sk10, sk11, sk12, sk13, sk14, sk15, sk16] | apply_rules (transparency := .reducible) (maxDepth := 1) (symm := false) (exfalso := false) only [setAt_z, setAt_s]) | ((with_reducible apply g_seq); first | (with_reducible refine s_step (by with_reducible assumption) ?_) | (with_reducible refine s_retS (by with_reducible assumption)) | apply_rules (transparency := .reducible) (maxDepth := 1) (symm := false) (exfalso := false) only [s_assoc, s_skip, s_asg, s_new, s_expr, s_ret, s_retN, s_t, s_f, s_if, s_par, s_par3, s_new2, s_setIx, s_augV, s_setS, s_raise] | ((with_reducible apply s_frz); apply_rules (transparency := .reducible) (maxDepth := 1) (symm := false) (exfalso := false) only [gk0, gk1, gk2, gk3, gk4, gk5, gk6, gk7, gk8, gk9, gk10, gk11, gk12, gk13, gk14, gk15, gk16]) | ((with_reducible apply s_frzD); apply_rules (transparency := .reducible) (maxDepth := 1) (symm := false) (exfalso := false) only [gk0, gk1, gk2, gk3, gk4, gk5, gk6, gk7, gk8, gk9, gk10, gk11, gk12, gk13, gk14, gk15, gk16]) | (with_reducible refine s_for ?_ (by with_reducible assumption) ?_) | (with_reducible refine s_forR ?_ (by with_reducible assumption)) | (with_reducible refine s_while (by with_reducible assumption) ?_) | (with_reducible refine s_whileR (by with_reducible assumption)) | (with_reducible refine s_for (?_) (by assumption) ?_)) | apply_rules (transparency := .reducible) (maxDepth := 1) (symm := false) (exfalso := false) only [v_pure, x_callD, y_op2, y_call1, y_call2, y_sl1, y_sl2, y_tup2, y_tup1, y_fo1, y_fo2, y_fo0, y_fo3, y_fn1, y_fn2, y_fn3, y_fn4, y_fn5, x_op2, p_dat, p_own, v_var, x_callD, x_callF, x_callK, x_callW, x_callN, x_make, x_call, x_tup, x_lst, x_neg, x_meth, x_methWR, x_methWD, x_methW, x_sl, x_rev, x_fld, x_chain, x_lenF, x_lenset, x_methF, x_isF, x_eqF, x_kd, x_neF, x_makeK, x_methK, x_cmp, x_lrn, pt_s, pt_n, i_seq, i_en, i_rng, i_zip, b_b, b_not, b_and, b_or, x_if, x_andV, x_orV, x_notV, andK_t, andK_f, orK_f, orK_t, chK_t, chK_f, ifK_t, ifK_f, x_lcU, x_lc, s_end, pk_n, pk_c, at_z, at_s, put_n, put_c, wl_n, wl_c, mp_r, tg_nm, tg_tp, tgs_n, tgs_c, pl_n, pl_c, rl_n, rl_c, ra_n, ra_d, ra_o, sq_n, sq_c, app_n, app_c, r_dat, r_own, lcE_i, no_n, no_c, nw_d, nw_n, nw_o, nb_lt, nb_lf, nb_ltn, nb_lfn] | ((with_reducible apply nb_id); first | with_reducible exact nb_nf rfl | with_reducible exact nb_t rfl | exact nb_h (by with_reducible assumption) | exact nb_hf (by with_reducible assumption) | exact nb_hn (by with_reducible assumption) | exact nb_hnf (by with_reducible assumption) | exact nb_t (by with_reducible assumption) | exact nb_f (by with_reducible assumption) | exact nb_nt (by with_reducible assumption) | exact nb_nf (by with_reducible assumption) | exact nb_t (by omega) | exact nb_f (by omega) | exact nb_nt (by omega) | exact nb_nf (by omega) | exact nb_t (by decide) | exact nb_f (by decide) | exact nb_nt (by decide) | exact nb_nf (by decide)) | apply_rules (transparency := .reducible) (maxDepth := 1) (symm := false) (exfalso := false) only [sEq_int, sNe_int, sEq_opt, sNe_opt, sIsN_opt, sNotN_opt, sNotN_int, sIsN_int, sNotN_tup, sIsN_tup, sNotN_lst, sIsN_lst, sNotN_non, sIsN_non, sIn_tup, sNin_tup, sIn_lst, sNin_lst, sEq_tup, sEq_lst, sNe_lst, sNe_tup, sIx_plc, sIx_rows, sIx_rowsL, sIn_row, sNin_row, sLen_row, sLen_plc, isTup_row, isTup_plc, sLen_ints, sLen_tints, sLen_rows, sLen_rowsT, sLen_lst, sLen_tup, isTupD] | ((with_reducible apply is_id); exact is_r) | ((with_reducible apply f_od); exact rfl) | ((with_reducible apply f_ol); exact rfl) | ((with_reducible apply f_op); exact rfl) | ((with_reducible apply f_bt); exact rfl) | ((with_reducible apply f_on); exact rfl) | ((with_reducible apply f_ld); exact rfl) | intro x hx | intro hb | omega | with_reducible apply s_one)))
section
variable {n t : Int} {rows : List (List Int)} {be p : List (Option Int)} {dn dn1 : List Int} {sp sp1 : List (Option Int)}
theorem pn_stD (dn : List Int) (sp : List (Option Int)) : Pn 2 (stD dn sp) := .tup fun d hd => by
  have : d = .tup (dn.map .int) ∨ d = plcD sp := by simpa [stD] using hd
  rcases this with rfl | rfl
  · exact pn_row dn
  · exact pn_plc sp
theorem x_lcS {i : Nat} {g : TgM} {tt : M Bool} {fe : M D} {vs : List Nat} {ρ ρ1 : Cells} {ds : List D} {d : D} (h1 : ρ[i]? = some (.own (.exc 0 ds))) (h2 : ρ.set i .no = ρ1) (h3 : mLc (M.pure ds) g tt fe vs ρ1 = .ok d ρ1) (h4 : ρ1.set i (.own (.exc 0 ds)) = ρ) : mLcS i g tt fe vs ρ = .ok d ρ := by
  unfold mLcS
  simp only [h1, h2, h3, h4]
/-- the states that can be reached -/
inductive Rn (n t : Int) (rows : List (List Int)) (be : List (Option Int)) : List Int → List (Option Int) → Prop
  | start : Rn n t rows be [] be
  | step {dn sp e dn1 sp1} : Rn n t rows be dn sp → Ev n t rows dn sp e dn1 sp1 → Rn n t rows be dn1 sp1
theorem Rn.sv (hrow : ∀ r ∈ rows, RowOk n r) (h0 : SV n t rows [] be) {dn : List Int} {sp : List (Option Int)} (h : Rn n t rows be dn sp) : SV n t rows dn sp := by
  induction h with
  | start => exact h0
  | step _ k ih => exact k.sv hrow ih
theorem sv_all20 (n0 : 0 ≤ n) (hrow : ∀ r ∈ rows, RowOk n r) {q : St2} (h : SV n t rows q.1 q.2) : q ∈ allS n.toNat rows.length := by
  obtain ⟨dn, sp⟩ := q
  have inr : ∀ v : Int, 0 ≤ v → v < n → v ∈ rng n.toNat := fun v h0 h1 => by
    have := rng_in (k := n.toNat) (i := v.toNat) (by omega)
    rwa [Int.toNat_of_nonneg h0] at this
  refine List.mem_flatMap.mpr ⟨dn, mem_subs _ _ (asc_rng _) h.asc (fun x hx => inr x (h.rg x hx).1 (h.rg x hx).2), List.mem_map.mpr ⟨sp, mem_vecs _ _ _ h.len fun o ho => ?_, rfl⟩⟩
  cases o with
  | none => exact List.mem_cons_self
  | some v =>
    obtain ⟨i, hi⟩ := List.getElem?_of_mem ho
    obtain ⟨r, h1, h2⟩ := h.ok i v hi
    obtain ⟨b1, b2⟩ := (hrow r (List.mem_of_getElem? h1)).2.1 v h2
    exact List.mem_cons_of_mem _ (List.mem_map.mpr ⟨v, inr v b1 b2, rfl⟩)
theorem kn_one {S W : List St2} (hS : S.length ≤ 5000) (hW : W.length ≤ 5000) (e : D) : ((mIfS (mB (mOp2 sNinS (.dat (mVar 5)) (.own 2))) (mSeq (mSetS 2 (mVar 5) (M.pure (.bl true))) (mExpr (mMethWR wAppend 3 [(mVar 5)]))) mSkip) [.dat (partsD n rows t), .dat (stD [] be), .own (.exc 0 ((S).map stP)), .own (.lst ((W).map stP)), .dat e, .dat (stD dn1 sp1), .no, .no] = .next [.dat (partsD n rows t), .dat (stD [] be), .own (.exc 0 ((S).map stP)), .own (.lst ((W).map stP)), .dat e, .dat (stD dn1 sp1), .no, .no] ∧ (dn1, sp1) ∈ S) ∨ ((mIfS (mB (mOp2 sNinS (.dat (mVar 5)) (.own 2))) (mSeq (mSetS 2 (mVar 5) (M.pure (.bl true))) (mExpr (mMethWR wAppend 3 [(mVar 5)]))) mSkip) [.dat (partsD n rows t), .dat (stD [] be), .own (.exc 0 ((S).map stP)), .own (.lst ((W).map stP)), .dat e, .dat (stD dn1 sp1), .no, .no] = .next [.dat (partsD n rows t), .dat (stD [] be), .own (.exc 0 ((S ++ [(dn1, sp1)]).map stP)), .own (.lst ((W ++ [(dn1, sp1)]).map stP)), .dat e, .dat (stD dn1 sp1), .no, .no] ∧ (dn1, sp1) ∉ S) := by
  have q1 : sNinS (stD dn1 sp1) (.exc 0 (S.map stP)) = some (.bl (!decide ((dn1, sp1) ∈ S))) := sNinS_st (dn1, sp1) S
  by_cases y : (dn1, sp1) ∈ S
  · left
    refine ⟨?_, y⟩
    have q1 : sNinS (stD dn1 sp1) (.exc 0 (S.map stP)) = some (.bl false) := by rw [q1, decide_eq_true y]; rfl
    generalize stD dn1 sp1 = st1 at *
    generalize stD [] be = st0 at *
    generalize S.map stP = SS at *
    generalize W.map stP = WW at *
    trivial
  · right
    refine ⟨?_, y⟩
    have q1 : sNinS (stD dn1 sp1) (.exc 0 (S.map stP)) = some (.bl true) := by rw [q1, decide_eq_false y]; rfl
    have q7 : putS (.exc 0 (S.map stP)) (stD dn1 sp1) = some (.exc 0 ((S ++ [(dn1, sp1)]).map stP)) := putS_st y (by omega)
    have q8 : wAppend (.lst (W.map stP)) [stD dn1 sp1] = some (.non, .lst ((W ++ [(dn1, sp1)]).map stP)) := by
      rw [wApp_ok (by rw [List.length_map]; omega), List.map_append]
      rfl
    generalize stD dn1 sp1 = st1 at *
    generalize stD [] be = st0 at *
    generalize (S ++ [(dn1, sp1)]).map stP = SS2 at *
    generalize (W ++ [(dn1, sp1)]).map stP = WW2 at *
    generalize S.map stP = SS at *
    generalize W.map stP = WW at *
    trivial
structure LN (n t : Int) (rows : List (List Int)) (be : List (Option Int)) (S : List St2) : Prop where
  nd : S.Nodup
  rc : ∀ q ∈ S, Rn n t rows be q.1 q.2
theorem ln_len (n0 : 0 ≤ n) (hn : n ≤ 3) (hr3 : rows.length ≤ 3) (hrow : ∀ r ∈ rows, RowOk n r) (h0 : SV n t rows [] be) {S : List St2} (h : LN n t rows be S) : S.length ≤ 2048 := by
  have h1 := pigeonG S (allS n.toNat rows.length) h.nd fun q hq => sv_all20 n0 hrow ((h.rc q hq).sv hrow h0)
  rw [allS_len] at h1
  have := small n.toNat (by omega) rows.length (by omega) (.inl (by omega))
  omega
theorem kn_for (n0 : 0 ≤ n) (hn : n ≤ 3) (hr3 : rows.length ≤ 3) (hrow : ∀ r ∈ rows, RowOk n r) (h0 : SV n t rows [] be) (hq : Rn n t rows be dn sp) : ∀ (L : List D) (S W : List St2) (c4 c5 : Cell), Snd n t rows dn sp L → LN n t rows be S → W.length ≤ S.length →
    ∃ (Mo : List St2) (c4' c5' : Cell), loopM (gTp [4, 5]) (mIfS (mB (mOp2 sNinS (.dat (mVar 5)) (.own 2))) (mSeq (mSetS 2 (mVar 5) (M.pure (.bl true))) (mExpr (mMethWR wAppend 3 [(mVar 5)]))) mSkip) L [.dat (partsD n rows t), .dat (stD [] be), .own (.exc 0 ((S).map stP)), .own (.lst ((W).map stP)), c4, c5, .no, .no] = .next [.dat (partsD n rows t), .dat (stD [] be), .own (.exc 0 ((S ++ Mo).map stP)), .own (.lst ((W ++ Mo).map stP)), c4', c5', .no, .no] ∧ LN n t rows be (S ++ Mo) ∧ ∀ e dn1 sp1, prD e dn1 sp1 ∈ L → (dn1, sp1) ∈ S ++ Mo
  | [], S, W, c4, c5, _, hS, _ => ⟨[], c4, c5, by rw [List.append_nil, List.append_nil]; rfl, by rw [List.append_nil]; exact hS, fun e dn1 sp1 h => nomatch h⟩
  | x :: L, S, W, c4, c5, hL, hS, hW => by
    obtain ⟨e, dn1, sp1, hx, k⟩ := hL x List.mem_cons_self
    subst hx
    have hb := ln_len n0 hn hr3 hrow h0 hS
    have inj : ∀ {e' : D} {dn2 : List Int} {sp2 : List (Option Int)}, prD e' dn2 sp2 = prD e dn1 sp1 → (dn2, sp2) = (dn1, sp1) := fun h => by
      unfold prD at h
      simp only [D.tup.injEq, List.cons.injEq, and_true] at h
      have e5 := congrArg nk h.2
      have e6 : ∀ (a : List Int) (b : List (Option Int)), nk (stD a b) = some (nkS (a, b)) := fun a b => nk_st (a, b)
      rw [e6, e6] at e5
      exact nkS_inj (Option.some.inj e5)
    rcases kn_one (rows := rows) (n := n) (t := t) (be := be) (dn1 := dn1) (sp1 := sp1) (S := S) (W := W) (by omega) (by omega) e with ⟨e1, e2⟩ | ⟨e1, e3⟩
    · obtain ⟨Mo, c4', c5', g1, g2, g3⟩ := kn_for n0 hn hr3 hrow h0 hq L S W (.dat e) (.dat (stD dn1 sp1)) (fun y hy => hL y (List.mem_cons_of_mem _ hy)) hS hW
      refine ⟨Mo, c4', c5', l_cons (ρ1 := [.dat (partsD n rows t), .dat (stD [] be), .own (.exc 0 ((S).map stP)), .own (.lst ((W).map stP)), .dat e, .dat (stD dn1 sp1), .no, .no]) rfl e1 g1, g2, fun e' dn2 sp2 h => ?_⟩
      rcases List.mem_cons.mp h with z | z
      · rw [inj z]
        exact List.mem_append_left _ e2
      · exact g3 e' dn2 sp2 z
    · have hS2 : LN n t rows be (S ++ [(dn1, sp1)]) := by
        refine ⟨?_, fun q hq2 => ?_⟩
        · rw [List.nodup_append]
          refine ⟨hS.nd, by simp, fun a ha b hb2 z => ?_⟩
          rw [List.mem_singleton.mp hb2] at z
          subst z
          exact e3 ha
        · rcases List.mem_append.mp hq2 with z | z
          · exact hS.rc q z
          · rw [List.mem_singleton.mp z]
            exact .step hq k
      obtain ⟨Mo, c4', c5', g1, g2, g3⟩ := kn_for n0 hn hr3 hrow h0 hq L (S ++ [(dn1, sp1)]) (W ++ [(dn1, sp1)]) (.dat e) (.dat (stD dn1 sp1)) (fun y hy => hL y (List.mem_cons_of_mem _ hy)) hS2 (by rw [List.length_append, List.length_append]; omega)
      rw [List.append_assoc, List.append_assoc] at g1
      rw [List.append_assoc] at g2 g3
      refine ⟨[(dn1, sp1)] ++ Mo, c4', c5', l_cons (ρ1 := [.dat (partsD n rows t), .dat (stD [] be), .own (.exc 0 ((S).map stP)), .own (.lst ((W).map stP)), .dat e, .dat (stD dn1 sp1), .no, .no]) rfl e1 g1, g2, fun e' dn2 sp2 h => ?_⟩
      rcases List.mem_cons.mp h with z | z
      · rw [inj z]
        exact List.mem_append_right _ (List.mem_append_left _ (List.mem_singleton.mpr rfl))
      · exact g3 e' dn2 sp2 z
theorem rep_non20 {k : Nat} (h : k ≤ 60) : sRepT (.tup [.non]) (.int (k : Nat)) = some (plcD (List.replicate k none)) := by
  show (if [D.non] ≠ [] ∧ [D.non].length ≤ 1000 ∧ -1000 ≤ ((k : Nat) : Int) ∧ ((k : Nat) : Int) ≤ 1000 then some (D.tup (List.replicate ((k : Nat) : Int).toNat [D.non]).flatten) else none) = _
  rw [if_pos ⟨by simp, by simp, by omega, by omega⟩, Int.toNat_natCast, List.flatten_replicate_singleton]
  unfold plcD
  rw [List.map_replicate]
  rfl
/-- the placements that arise, all of them -/
theorem e_known (n0 : 0 ≤ n) (hn : n ≤ 3) (t0 : 0 ≤ t) (ht : t ≤ 1000) (hr3 : rows.length ≤ 3) (hrow : ∀ r ∈ rows, RowOk n r) : ∃ P : List (List (Option Int)), m_law_known [partsD n rows t] = .ret (.lst (P.map plcD)) [] ∧ ∀ sp, sp ∈ P ↔ Rn n t rows (List.replicate rows.length none) [] sp := by
  obtain ⟨be, hbe⟩ : ∃ be : List (Option Int), be = List.replicate rows.length none := ⟨_, rfl⟩
  have h0 : SV n t rows [] be := by
    subst hbe
    have hno : ∀ (s : Nat) (v : Int), (List.replicate rows.length (none : Option Int))[s]? ≠ some (some v) := fun s v h => (by rw [List.getElem?_replicate] at h; split at h <;> cases h)
    exact ⟨List.length_replicate, fun s v h => absurd h (hno s v), List.Pairwise.nil, fun x hx => (nomatch hx), (by simpa using t0), fun x hx => (nomatch hx)⟩
  rw [← hbe]
  obtain ⟨ρ', e1, S, c4, c5, hρ, hS, hb, hc⟩ := while_inv (t := (mB (mOp2 sNe (.own 3) (.dat (mLst []))))) (body := (mFor (mSeqI (mCallF m_law_next [(.dat (mVar 0)), (.dat (mMethWR wPop 3 []))])) (gTp [4, 5]) (mIfS (mB (mOp2 sNinS (.dat (mVar 5)) (.own 2))) (mSeq (mSetS 2 (mVar 5) (M.pure (.bl true))) (mExpr (mMethWR wAppend 3 [(mVar 5)]))) mSkip)))
    (fun m ρ => ∃ (S W : List St2) (c4 c5 : Cell), ρ = [.dat (partsD n rows t), .dat (stD [] be), .own (.exc 0 ((S).map stP)), .own (.lst ((W).map stP)), c4, c5, .no, .no] ∧ LN n t rows be S ∧ W.length ≤ S.length ∧ (∀ q ∈ W, q ∈ S) ∧ ([], be) ∈ S ∧ (∀ q ∈ S, q ∈ W ∨ ∀ e dn1 sp1, Ev n t rows q.1 q.2 e dn1 sp1 → (dn1, sp1) ∈ S) ∧ m + S.length = 2049 + W.length)
    (fun ρ => ∃ (S : List St2) (c4 c5 : Cell), ρ = [.dat (partsD n rows t), .dat (stD [] be), .own (.exc 0 ((S).map stP)), .own (.lst ((([] : List St2)).map stP)), c4, c5, .no, .no] ∧ LN n t rows be S ∧ ([], be) ∈ S ∧ ∀ q ∈ S, ∀ e dn1 sp1, Ev n t rows q.1 q.2 e dn1 sp1 → (dn1, sp1) ∈ S)
    (fun m ρ ⟨S, W, c4, c5, hρ, hS, hWl, hW, hb, hc, hm⟩ => by
      subst hρ
      have q1 : sNe (.lst (W.map stP)) (.lst []) = some (.bl (!decide (W = []))) := by
        have h1 : Pn 3 (.lst (W.map stP)) := .lst fun e he => by
          obtain ⟨q, _, rfl⟩ := List.mem_map.mp he
          exact pn_stD _ _
        rw [sNe_pn h1 (.lst (k := 2) (ds := []) fun d hd => nomatch hd)]
        simp
      rcases List.eq_nil_or_concat W with rfl | ⟨W0, q, rfl⟩
      · refine ⟨false, [.dat (partsD n rows t), .dat (stD [] be), .own (.exc 0 ((S).map stP)), .own (.lst ((([] : List St2)).map stP)), c4, c5, .no, .no], ?_, fun _ => ⟨S, c4, c5, rfl, hS, hb, fun q hq => (hc q hq).elim (fun z => nomatch z) id⟩, fun z => by cases z⟩
        have q1 : sNe (.lst []) (.lst []) = some (.bl false) := q1
        show (mB (mOp2 sNe (.own 3) (.dat (mLst [])))) [.dat (partsD n rows t), .dat (stD [] be), .own (.exc 0 (S.map stP)), .own (.lst []), c4, c5, .no, .no] = .ok false [.dat (partsD n rows t), .dat (stD [] be), .own (.exc 0 (S.map stP)), .own (.lst []), c4, c5, .no, .no]
        generalize S.map stP = SS at *
        generalize stD [] be = st0 at *
        trivial
      · rw [List.concat_eq_append] at *
        have q1 : sNe (.lst ((W0 ++ [q]).map stP)) (.lst []) = some (.bl true) := by
          rw [q1, decide_eq_false (by simp)]
          rfl
        have hqS := hW q (List.mem_append_right _ (List.mem_singleton.mpr rfl))
        have hq := hS.rc q hqS
        have hqv := hq.sv hrow h0
        obtain ⟨L, e2, hL, hLc⟩ := e_next (n := n) (t := t) (dn := q.1) hqv.len (by omega) hrow (by have := hqv.dl; omega) n0 (by omega)
        have q2 : wPop (.lst ((W0 ++ [q]).map stP)) [] = some (stP q, .lst (W0.map stP)) := by
          show (((W0 ++ [q]).map stP)[((W0 ++ [q]).map stP).length - 1]?).map _ = _
          rw [List.map_append, List.length_append, List.length_map]
          simp
        have f : mSeqI (mCallF m_law_next [(.dat (mVar 0)), (.dat (mMethWR wPop 3 []))]) [.dat (partsD n rows t), .dat (stD [] be), .own (.exc 0 ((S).map stP)), .own (.lst (((W0 ++ [q])).map stP)), c4, c5, .no, .no] = .ok L [.dat (partsD n rows t), .dat (stD [] be), .own (.exc 0 ((S).map stP)), .own (.lst ((W0).map stP)), c4, c5, .no, .no] := by
          have e2 : m_law_next [partsD n rows t, stP q] = .ret (.lst L) [] := e2
          generalize stP q = sq at *
          generalize stD [] be = st0 at *
          generalize (W0 ++ [q]).map stP = WW at *
          generalize W0.map stP = WW0 at *
          generalize S.map stP = SS at *
          trivial
        rw [List.length_append, List.length_singleton] at hWl hm
        obtain ⟨Mo, c4', c5', g1, g2, g3⟩ := kn_for n0 hn hr3 hrow h0 hq L S W0 c4 c5 hL hS (by omega)
        have hSl := ln_len n0 hn hr3 hrow h0 g2
        rw [List.length_append] at hSl
        refine ⟨true, [.dat (partsD n rows t), .dat (stD [] be), .own (.exc 0 ((S).map stP)), .own (.lst (((W0 ++ [q])).map stP)), c4, c5, .no, .no], ?_, fun z => (by cases z), fun _ => ⟨[.dat (partsD n rows t), .dat (stD [] be), .own (.exc 0 ((S ++ Mo).map stP)), .own (.lst ((W0 ++ Mo).map stP)), c4', c5', .no, .no], m - 1, (for_o f).trans g1, by omega, S ++ Mo, W0 ++ Mo, c4', c5', rfl, g2, by rw [List.length_append, List.length_append]; omega, fun x hx => ?_, List.mem_append_left _ hb, fun x hx => ?_, by rw [List.length_append, List.length_append]; omega⟩⟩
        · generalize (W0 ++ [q]).map stP = WW at *
          generalize S.map stP = SS at *
          generalize stD [] be = st0 at *
          trivial
        · rcases List.mem_append.mp hx with z | z
          · exact List.mem_append_left _ (hW x (List.mem_append_left _ z))
          · exact List.mem_append_right _ z
        · rcases List.mem_append.mp hx with z | z
          · rcases hc x z with y | y
            · rcases List.mem_append.mp y with y | y
              · exact .inl (List.mem_append_left _ y)
              · rw [List.mem_singleton.mp y]
                exact .inr fun e dn1 sp1 k => g3 e dn1 sp1 (hLc e dn1 sp1 k)
            · exact .inr fun e dn1 sp1 k => List.mem_append_left _ (y e dn1 sp1 k)
          · exact .inl (List.mem_append_right _ z)) 4096 2049 [.dat (partsD n rows t), .dat (stD [] be), .own (.exc 0 (([([], be)]).map stP)), .own (.lst (([([], be)]).map stP)), .no, .no, .no, .no] (by omega) ⟨[([], be)], [([], be)], .no, .no, rfl, ⟨by simp, fun q hq => by rw [List.mem_singleton.mp hq]; exact .start⟩, Nat.le_refl _, fun q hq => hq, List.mem_singleton.mpr rfl, fun q hq => .inl hq, rfl⟩
  subst hρ
  have hall : ∀ {dn : List Int} {sp : List (Option Int)}, Rn n t rows be dn sp → (dn, sp) ∈ S := fun h => by
    induction h with
    | start => exact hb
    | step _ k ih => exact hc _ ih _ _ _ k
  refine ⟨(S.filter fun q => decide (q.1 = [])).map (·.2), ?_, fun sp => ⟨fun h => ?_, fun h => ?_⟩⟩
  · have e1 : whileM (mB (mOp2 sNe (.own 3) (.dat (mLst [])))) (mFor (mSeqI (mCallF m_law_next [(.dat (mVar 0)), (.dat (mMethWR wPop 3 []))])) (gTp [4, 5]) (mIfS (mB (mOp2 sNinS (.dat (mVar 5)) (.own 2))) (mSeq (mSetS 2 (mVar 5) (M.pure (.bl true))) (mExpr (mMethWR wAppend 3 [(mVar 5)]))) mSkip)) 4096 [.dat (partsD n rows t), .dat (stD [] be), .own (.exc 0 [stD [] be]), .own (.lst [stD [] be]), .no, .no, .no, .no] = .next [.dat (partsD n rows t), .dat (stD [] be), .own (.exc 0 ((S).map stP)), .own (.lst ((([] : List St2)).map stP)), c4, c5, .no, .no] := e1
    have e3 : mLc (M.pure (S.map stP)) (gTp [6, 7]) (mB (mOp2 sEq (.dat (mVar 6)) (.dat (mTup [])))) (mVar 7) [6, 7] [.dat (partsD n rows t), .dat (stD [] be), .no, .own (.lst []), c4, c5, .no, .no] = .ok (.lst ((S.filter fun q => decide (q.1 = [])).map fun q => plcD q.2)) [.dat (partsD n rows t), .dat (stD [] be), .no, .own (.lst []), c4, c5, .no, .no] :=
      x_lc (em := stP) rfl mp_r rfl rfl fun x hx => ⟨[.dat (partsD n rows t), .dat (stD [] be), .no, .own (.lst []), c4, c5, .dat (D.tup (List.map D.int x.1)), .dat (plcD x.2)], rfl, mB_ok (mOp2_dd (x := (D.tup (List.map D.int x.1))) (y := .tup []) rfl rfl (sEq_tup x.1 [])), fun _ => rfl, rfl⟩
    have e4 := x_lcS (i := 2) (ρ := [.dat (partsD n rows t), .dat (stD [] be), .own (.exc 0 ((S).map stP)), .own (.lst ((([] : List St2)).map stP)), c4, c5, .no, .no]) rfl rfl e3 rfl
    rw [List.map_map]
    have q0 : sIx (partsD n rows t) (.int 1) = some (D.lst (rows.map rowD)) := rfl
    have q3 := rep_non20 (k := rows.length) (by omega)
    rw [← hbe] at q3
    have q4 : newS (stD [] be) = some (.exc 0 [stD [] be]) := newS_st ([], be)
    (unfold m_law_known; apply s_run (ρ0 := [.dat (partsD n rows t), .no, .no, .no, .no, .no, .no, .no]) rfl; unfold b_law_known)
    · refine s_step (ρ1 := [.dat (partsD n rows t), .dat (stD [] be), .no, .no, .no, .no, .no, .no]) ?_ (s_step (ρ1 := [.dat (partsD n rows t), .dat (stD [] be), .own (.exc 0 [stD [] be]), .own (.lst [stD [] be]), .no, .no, .no, .no]) ?_ (s_step e1 (ret1 e4)))
      · have q5 : (.tup [.tup [], plcD be] : D) = stD [] be := rfl
        rw [← q5]
        generalize plcD be = pb at *
        trivial
      · generalize stD [] be = sb at *
        refine s_one ?_
        trivial
    · rfl
  · obtain ⟨q, hq, rfl⟩ := List.mem_map.mp h
    obtain ⟨h1, h2⟩ := List.mem_filter.mp hq
    have h3 := hS.rc q h1
    rwa [of_decide_eq_true h2] at h3
  · exact List.mem_map.mpr ⟨([], sp), List.mem_filter.mpr ⟨hall h, by simp⟩, rfl⟩
end
end Fx
set_option Elab.async false
set_option linter.all false
set_option maxRecDepth 100000
set_option maxHeartbeats 1000000
namespace Fx
open PySem L2
local macro_rules
  | `(tactic| trivial) => `(tactic| (repeat (first | with_reducible assumption | ((with_reducible apply vv_id); apply_rules (transparency := .reducible) (maxDepth := 1) (symm := false) (exfalso := false) only [vk0, vk1, vk2, vk3, vk4, vk5, vk6, vk7, vk8, vk9, vk10, vk11, vk12, vk13, vk14, vk15, vk16]) | ((with_reducible apply gg_id); first | apply_rules (transparency := .reducible) (maxDepth := 1) (symm := false) (exfalso := false) only [gk0, gk1, gk2, gk3, gk4, gk5, gk6, gk7, gk8, gk9, gk10, gk11, gk12, gk13, gk14, gk15, gk16] | apply_rules (transparency := .reducible) (maxDepth := 1) (symm := false) (exfalso := false) only [getAt_z, getAt_s]) | ((with_reducible apply ss_id); first | apply_rules (transparency := .reducible) (maxDepth := 1) (symm := false) (exfalso := false) only [sk0, sk1, sk2, sk3, sk4, sk5, sk6, sk7, sk8, sk9, sk10, sk11, sk12, sk13, sk14, sk15, sk16] | apply_rules (transparency := .reducible) (maxDepth := 1) (symm := false) (exfalso := false) only [setAt_z, setAt_s]) | ((with_reducible apply g_seq); first | (with_reducible refine s_step (by with_reducible assumption) ?_) | (with_reducible refine s_retS (by with_reducible assumption)) | apply_rules (transparency := .reducible) (maxDepth := 1) (symm := false) (exfalso := false) only [s_assoc, s_skip, s_asg, s_new, s_expr, s_ret, s_retN, s_t, s_f, s_if, s_par, s_par3, s_new2, s_setIx, s_augV, s_setS, s_raise] | ((with_reducible apply s_frz); apply_rules (transparency := .reducible) (maxDepth := 1) (symm := false) (exfalso := false) only [gk0, gk1, gk2, gk3, gk4, gk5, gk6, gk7, gk8, gk9, gk10, gk11, gk12, gk13, gk14, gk15, gk16]) | ((with_reducible apply s_frzD); apply_rules (transparency := .reducible) (maxDepth := 1) (symm := false) (exfalso := false) only [gk0, gk1, gk2, gk3, gk4, gk5, gk6, gk7, gk8, gk9, gk10, gk11, gk12, gk13, gk14, gk15, gk16]) | (with_reducible refine s_for ?_ (by with_reducible assumption) ?_) | (with_reducible refine s_forR ?_ (by with_reducible assumption)) | (with_reducible refine s_while (by with_reducible assumption) ?_) | (with_reducible refine s_whileR (by with_reducible assumption)) | (with_reducible refine s_for (?_) (by assumption) ?_)) | apply_rules (transparency := .reducible) (maxDepth := 1) (symm := false) (exfalso := false) only [v_pure, x_callD, y_op2, y_call1, y_call2, y_sl1, y_sl2, y_tup2, y_tup1, y_fo1, y_fo2, y_fo0, y_fo3, y_fn1, y_fn2, y_fn3, y_fn4, y_fn5, x_op2, p_dat, p_own, v_var, x_callD, x_callF, x_callK, x_callW, x_callN, x_make, x_call, x_tup, x_lst, x_neg, x_meth, x_methWR, x_methWD, x_methW, x_sl, x_rev, x_fld, x_chain, x_lenF, x_lenset, x_methF, x_isF, x_eqF, x_kd, x_neF, x_makeK, x_methK, x_cmp, x_lrn, pt_s, pt_n, i_seq, i_en, i_rng, i_zip, b_b, b_not, b_and, b_or, x_if, x_andV, x_orV, x_notV, andK_t, andK_f, orK_f, orK_t, chK_t, chK_f, ifK_t, ifK_f, x_lcU, x_lc, s_end, pk_n, pk_c, at_z, at_s, put_n, put_c, wl_n, wl_c, mp_r, tg_nm, tg_tp, tgs_n, tgs_c, pl_n, pl_c, rl_n, rl_c, ra_n, ra_d, ra_o, sq_n, sq_c, app_n, app_c, r_dat, r_own, lcE_i, no_n, no_c, nw_d, nw_n, nw_o, nb_lt, nb_lf, nb_ltn, nb_lfn] | ((with_reducible apply nb_id); first | with_reducible exact nb_nf rfl | with_reducible exact nb_t rfl | exact nb_h (by with_reducible assumption) | exact nb_hf (by with_reducible assumption) | exact nb_hn (by with_reducible assumption) | exact nb_hnf (by with_reducible assumption) | exact nb_t (by with_reducible assumption) | exact nb_f (by with_reducible assumption) | exact nb_nt (by with_reducible assumption) | exact nb_nf (by with_reducible assumption) | exact nb_t (by omega) | exact nb_f (by omega) | exact nb_nt (by omega) | exact nb_nf (by omega) | exact nb_t (by decide) | exact nb_f (by decide) | exact nb_nt (by decide) | exact nb_nf (by decide)) | apply_rules (transparency := .reducible) (maxDepth := 1) (symm := false) (exfalso := false) only [sEq_int, sNe_int, sEq_opt, sNe_opt, sIsN_opt, sNotN_opt, sNotN_int, sIsN_int, sNotN_tup, sIsN_tup, sNotN_lst, sIsN_lst, sNotN_non, sIsN_non, sIn_tup, sNin_tup, sIn_lst, sNin_lst, sEq_tup, sEq_lst, sNe_lst, sNe_tup, sIx_plc, sIx_rows, sIx_rowsL, sIn_row, sNin_row, sLen_row, sLen_plc, isTup_row, isTup_plc, sLen_ints, sLen_tints, sLen_rows, sLen_rowsT, sLen_lst, sLen_tup, isTupD] | ((with_reducible apply is_id); exact is_r) | ((with_reducible apply f_od); exact rfl) | ((with_reducible apply f_ol); exact rfl) | ((with_reducible apply f_op); exact rfl) | ((with_reducible apply f_bt); exact rfl) | ((with_reducible apply f_on); exact rfl) | ((with_reducible apply f_ld); exact rfl) | intro x hx | intro hb | omega | with_reducible apply s_one)))
section
variable {n t : Int} {rows : List (List Int)} {p : List (Option Int)}
theorem sIn_opts (a : Int) (l : List (Option Int)) : sIn (.int a) (.lst (l.map optD)) = some (.bl (decide (some a ∈ l))) := by
  simp [sIn, itemsOf, plain, toPy, PyData.canLay0, lay_opts, dep_opts, PyData.depth, inD_opts]
/-- the present sessions -/
def prsI (p : List (Option Int)) : List Int := ((enumL optD 0 p).filter fun q => !decide (q.2 = none)).map fun q => (q.1 : Int)
theorem mem_prsI {s : Int} (h : s ∈ prsI p) : Pres p s := by
  obtain ⟨q, hq, rfl⟩ := List.mem_map.mp h
  obtain ⟨h1, h2⟩ := List.mem_filter.mp hq
  obtain ⟨i, h3, h4⟩ := mem_enumL h1
  rw [Nat.zero_add] at h3
  cases ho : q.2 with
  | none => rw [ho] at h2; simp at h2
  | some v => exact ⟨i, v, by rw [h3], by rw [h4, ho]⟩
theorem ar_in {U : List (Option Int)} {K : List Int} {y : Int} (hok : PlOk rows p) (hy : Pres p y) (hU : ∀ x ∈ passI rows p y, some x ∉ U) (c9 : Cell) : (mLc (mSeqI (mCallF m_law_over [(.dat (mVar 3)), (.dat (mVar 1)), (.dat (mVar 10))])) (gNm 7) (mB (mOp2 sIn (.dat (mVar 7)) (.dat (mVar 8)))) (mVar 7) [7]) [.dat (partsD n rows t), .dat (plcD p), .dat (.int n), .dat (D.lst (rows.map rowD)), .dat (.int t), .dat (D.lst (List.map D.int K)), .no, .no, .dat (.lst (U.map optD)), c9, .dat (.int y)] = .ok (.lst []) [.dat (partsD n rows t), .dat (plcD p), .dat (.int n), .dat (D.lst (rows.map rowD)), .dat (.int t), .dat (D.lst (List.map D.int K)), .no, .no, .dat (.lst (U.map optD)), c9, .dat (.int y)] := by
  have k1 : m_law_over [(D.lst (rows.map rowD)), plcD p, .int y] = .ret (D.tup (List.map D.int (passI rows p y))) [] := e_lover hy hok
  have q2 : (.lst [] : D) = .lst (((passI rows p y).filter fun _ => false).map D.int) := by simp
  rw [q2]
  refine x_lc (vs := [7]) (em := D.int) (P := fun _ => false) (f := D.int) (ds := (passI rows p y).map D.int) (ρ1 := [.dat (partsD n rows t), .dat (plcD p), .dat (.int n), .dat (D.lst (rows.map rowD)), .dat (.int t), .dat (D.lst (List.map D.int K)), .no, .no, .dat (.lst (U.map optD)), c9, .dat (.int y)]) (w := [.dat (partsD n rows t), .dat (plcD p), .dat (.int n), .dat (D.lst (rows.map rowD)), .dat (.int t), .dat (D.lst (List.map D.int K)), .no, .no, .dat (.lst (U.map optD)), c9, .dat (.int y)]) ?_ mp_r rfl rfl fun x hx => ?_
  · generalize (D.lst (List.map D.int K)) = KX at *
    generalize (.lst (U.map optD) : D) = UX at *
    trivial
  · have k3 := sIn_opts x U
    rw [decide_eq_false (hU x hx)] at k3
    generalize (D.lst (List.map D.int K)) = KX at *
    generalize (.lst (U.map optD) : D) = UX at *
    trivial
theorem ar_held {U : List (Option Int)} {K : List Int} (hok : PlOk rows p) (hpr : ∀ s ∈ K, Pres p s) (hU : ∀ s ∈ K, ∀ x ∈ passI rows p s, some x ∉ U) (c9 : Cell) : (mLc (mSeqI (mVar 5)) (gNm 10) (mB (mOp2 sNe (.dat (mLc (mSeqI (mCallF m_law_over [(.dat (mVar 3)), (.dat (mVar 1)), (.dat (mVar 10))])) (gNm 7) (mB (mOp2 sIn (.dat (mVar 7)) (.dat (mVar 8)))) (mVar 7) [7])) (.dat (mLst [])))) (mVar 10) [10]) [.dat (partsD n rows t), .dat (plcD p), .dat (.int n), .dat (D.lst (rows.map rowD)), .dat (.int t), .dat (D.lst (List.map D.int K)), .no, .no, .dat (.lst (U.map optD)), c9, .no] = .ok (.lst []) [.dat (partsD n rows t), .dat (plcD p), .dat (.int n), .dat (D.lst (rows.map rowD)), .dat (.int t), .dat (D.lst (List.map D.int K)), .no, .no, .dat (.lst (U.map optD)), c9, .no] := by
  have q : (.lst [] : D) = .lst ((K.filter fun _ => false).map D.int) := by simp
  rw [q]
  refine x_lc (vs := [10]) (em := D.int) (P := fun _ => false) (f := D.int) (ds := K.map D.int) (ρ1 := [.dat (partsD n rows t), .dat (plcD p), .dat (.int n), .dat (D.lst (rows.map rowD)), .dat (.int t), .dat (D.lst (List.map D.int K)), .no, .no, .dat (.lst (U.map optD)), c9, .no]) (w := [.dat (partsD n rows t), .dat (plcD p), .dat (.int n), .dat (D.lst (rows.map rowD)), .dat (.int t), .dat (D.lst (List.map D.int K)), .no, .no, .dat (.lst (U.map optD)), c9, .no]) rfl mp_r rfl rfl fun y hy => ?_
  have k2 := ar_in (n := n) (t := t) (K := K) hok (hpr y hy) (hU y hy) c9
  have k4 : sNe (.lst []) (.lst []) = some (.bl false) := rfl
  generalize (D.lst (List.map D.int K)) = KX at *
  generalize (.lst (U.map optD) : D) = UX at *
  trivial
theorem ar_used {K : List Int} (hr : ∀ s ∈ K, 0 ≤ s ∧ s < p.length) (c8 c9 : Cell) : (mLc (mSeqI (mVar 5)) (gNm 6) (M.pure true) (mOp2 sIx (.dat (mVar 1)) (.dat (mVar 6))) [6]) [.dat (partsD n rows t), .dat (plcD p), .dat (.int n), .dat (D.lst (rows.map rowD)), .dat (.int t), .dat (D.lst (List.map D.int K)), .no, .no, c8, c9, .no] = .ok (.lst ((K.map (oAt p)).map optD)) [.dat (partsD n rows t), .dat (plcD p), .dat (.int n), .dat (D.lst (rows.map rowD)), .dat (.int t), .dat (D.lst (List.map D.int K)), .no, .no, c8, c9, .no] := by
  rw [List.map_map]
  refine x_lcU (vs := [6]) (em := D.int) (f := fun s => optD (oAt p s)) (ds := K.map D.int) (ρ1 := [.dat (partsD n rows t), .dat (plcD p), .dat (.int n), .dat (D.lst (rows.map rowD)), .dat (.int t), .dat (D.lst (List.map D.int K)), .no, .no, c8, c9, .no]) (w := [.dat (partsD n rows t), .dat (plcD p), .dat (.int n), .dat (D.lst (rows.map rowD)), .dat (.int t), .dat (D.lst (List.map D.int K)), .no, .no, c8, c9, .no]) rfl mp_r rfl rfl fun y hy => ?_
  obtain ⟨y0, y1⟩ := hr y hy
  have k1 := sIx_oAt (p := p) y0 y1
  generalize (D.lst (List.map D.int K)) = KX at *
  trivial
theorem ar_turn (hok : PlOk rows p) (hno : ∀ s, Pres p s → ∀ x ∈ passI rows p s, some x ∉ p) (c8 c9 : Cell) {K : List Int} (hpr : ∀ s ∈ K, Pres p s) (hK : K ≠ []) : ∃ c8' c9' : Cell, (mSeq (mAsg (mLc (mSeqI (mVar 5)) (gNm 6) (M.pure true) (mOp2 sIx (.dat (mVar 1)) (.dat (mVar 6))) [6]) (gNm 8)) (mSeq (mAsg (mLc (mSeqI (mVar 5)) (gNm 10) (mB (mOp2 sNe (.dat (mLc (mSeqI (mCallF m_law_over [(.dat (mVar 3)), (.dat (mVar 1)), (.dat (mVar 10))])) (gNm 7) (mB (mOp2 sIn (.dat (mVar 7)) (.dat (mVar 8)))) (mVar 7) [7])) (.dat (mLst [])))) (mVar 10) [10]) (gNm 9)) (mSeq (mIfS (mB (mOp2 sEq (.dat (mCall sLen [(.dat (mVar 9))])) (.dat (mCall sLen [(.dat (mVar 5))])))) (mRet (M.pure (.bl false))) mSkip) (mAsg (mVar 9) (gNm 5))))) [.dat (partsD n rows t), .dat (plcD p), .dat (.int n), .dat (D.lst (rows.map rowD)), .dat (.int t), .dat (D.lst (List.map D.int K)), .no, .no, c8, c9, .no] = .next [.dat (partsD n rows t), .dat (plcD p), .dat (.int n), .dat (D.lst (rows.map rowD)), .dat (.int t), .dat (D.lst (List.map D.int ([] : List Int))), .no, .no, c8', c9', .no] := by
  have hr : ∀ s ∈ K, 0 ≤ s ∧ s < p.length := fun s hs => by
    obtain ⟨i, v, rfl, h⟩ := hpr s hs
    have := (List.getElem?_eq_some_iff.mp h).1
    omega
  have e1 := ar_used (n := n) (t := t) (rows := rows) hr c8 c9
  have hU : ∀ o ∈ K.map (oAt p), o ∈ p := fun o ho => by
    obtain ⟨s, hs, rfl⟩ := List.mem_map.mp ho
    obtain ⟨i, v, rfl, h⟩ := hpr s hs
    rw [oAt_of h]
    exact List.mem_of_getElem? h
  generalize K.map (oAt p) = U at e1 hU
  have e2 := ar_held (n := n) (t := t) (U := U) hok hpr (fun s hs x hx z => hno s (hpr s hs) x hx (hU _ z)) c9
  have q1 : sLen [(D.lst (List.map D.int K))] = some (.int (K.length : Nat)) := by rw [sLen_lst, List.length_map]
  have q2 : sLen [.lst []] = some (.int (0 : Nat)) := rfl
  have q3 : sEq (.int (0 : Nat)) (.int (K.length : Nat)) = some (.bl false) := by
    rw [sEq_int, decide_eq_false]
    intro z
    exact hK (List.length_eq_zero_iff.mp (by omega))
  refine ⟨.dat (.lst (U.map optD)), .dat (.lst []), ?_⟩
  refine s_step (ρ1 := [.dat (partsD n rows t), .dat (plcD p), .dat (.int n), .dat (D.lst (rows.map rowD)), .dat (.int t), .dat (D.lst (List.map D.int K)), .no, .no, .dat (.lst (U.map optD)), c9, .no]) (asg_ok20 e1 rfl) (s_step (ρ1 := [.dat (partsD n rows t), .dat (plcD p), .dat (.int n), .dat (D.lst (rows.map rowD)), .dat (.int t), .dat (D.lst (List.map D.int K)), .no, .no, .dat (.lst (U.map optD)), .dat (.lst []), .no]) (asg_ok20 e2 rfl) ?_)
  clear e1 e2
  generalize (D.lst (List.map D.int K)) = KX at *
  generalize (.lst (U.map optD) : D) = UX at *
  generalize ((K.length : Nat) : Int) = kl at *
  refine s_step (ρ1 := [.dat (partsD n rows t), .dat (plcD p), .dat (.int n), .dat (D.lst (rows.map rowD)), .dat (.int t), .dat KX, .no, .no, .dat UX, .dat (.lst []), .no]) (if_f (ρ1 := [.dat (partsD n rows t), .dat (plcD p), .dat (.int n), .dat (D.lst (rows.map rowD)), .dat (.int t), .dat KX, .no, .no, .dat UX, .dat (.lst []), .no]) ?_ rfl) rfl
  trivial
theorem e_arises (hlen : p.length = rows.length) (hok : PlOk rows p) (hfar : ∀ s, Pres p s → ((passI rows p s).length : Int) ≤ t) (hno : ∀ s, Pres p s → ∀ x ∈ passI rows p s, some x ∉ p) : m_law_arises [partsD n rows t, plcD p] = .ret (.bl true) [] := by
  have e0 : (mLc (mEnum (mVar 1)) (gTp [6, 7]) (mB (mOp2 sNotN (.dat (mVar 7)) (.dat (M.pure .non)))) (mVar 6) [6, 7]) [.dat (partsD n rows t), .dat (plcD p), .dat (.int n), .dat (D.lst (rows.map rowD)), .dat (.int t), .no, .no, .no, .no, .no, .no] = .ok (D.lst (List.map D.int (prsI p))) [.dat (partsD n rows t), .dat (plcD p), .dat (.int n), .dat (D.lst (rows.map rowD)), .dat (.int t), .no, .no, .no, .no, .no, .no] := by
    unfold prsI
    rw [List.map_map]
    unfold plcD
    show _ = Out.ok (D.lst (((enumL optD 0 p).filter fun q => !decide (q.2 = none)).map fun q => .int (q.1 : Int))) _
    trivial
  have hpr : ∀ s ∈ prsI p, Pres p s := fun s hs => mem_prsI hs
  have e1 : (mLc (mSeqI (mVar 5)) (gNm 6) (mB (mOp2 sGt (.dat (mCall sLen [(.dat (mCallF m_law_over [(.dat (mVar 3)), (.dat (mVar 1)), (.dat (mVar 6))]))])) (.dat (mVar 4)))) (mVar 6) [6]) [.dat (partsD n rows t), .dat (plcD p), .dat (.int n), .dat (D.lst (rows.map rowD)), .dat (.int t), .dat (D.lst (List.map D.int (prsI p))), .no, .no, .no, .no, .no] = .ok (.lst []) [.dat (partsD n rows t), .dat (plcD p), .dat (.int n), .dat (D.lst (rows.map rowD)), .dat (.int t), .dat (D.lst (List.map D.int (prsI p))), .no, .no, .no, .no, .no] := by
    generalize prsI p = K at *
    have q : (.lst [] : D) = .lst ((K.filter fun _ => false).map D.int) := by simp
    rw [q]
    refine x_lc (vs := [6]) (em := D.int) (P := fun _ => false) (f := D.int) (ds := K.map D.int) (ρ1 := [.dat (partsD n rows t), .dat (plcD p), .dat (.int n), .dat (D.lst (rows.map rowD)), .dat (.int t), .dat (D.lst (List.map D.int K)), .no, .no, .no, .no, .no]) (w := [.dat (partsD n rows t), .dat (plcD p), .dat (.int n), .dat (D.lst (rows.map rowD)), .dat (.int t), .dat (D.lst (List.map D.int K)), .no, .no, .no, .no, .no]) ?_ mp_r rfl rfl fun y hy => ?_
    · rfl
    · have k1 := e_lover (hpr y hy) hok
      have k2 := sLen_row (passI rows p y)
      have k3 : sGt (.int ((passI rows p y).length : Nat)) (.int t) = some (.bl false) := by
        have := hfar y (hpr y hy)
        show some (D.bl (decide _)) = _
        rw [decide_eq_false (by omega)]
      trivial
  obtain ⟨ρ', e2, c8, c9, hρ⟩ := while_inv (t := (mB (mOp2 sNe (.dat (mVar 5)) (.dat (mLst []))))) (body := (mSeq (mAsg (mLc (mSeqI (mVar 5)) (gNm 6) (M.pure true) (mOp2 sIx (.dat (mVar 1)) (.dat (mVar 6))) [6]) (gNm 8)) (mSeq (mAsg (mLc (mSeqI (mVar 5)) (gNm 10) (mB (mOp2 sNe (.dat (mLc (mSeqI (mCallF m_law_over [(.dat (mVar 3)), (.dat (mVar 1)), (.dat (mVar 10))])) (gNm 7) (mB (mOp2 sIn (.dat (mVar 7)) (.dat (mVar 8)))) (mVar 7) [7])) (.dat (mLst [])))) (mVar 10) [10]) (gNm 9)) (mSeq (mIfS (mB (mOp2 sEq (.dat (mCall sLen [(.dat (mVar 9))])) (.dat (mCall sLen [(.dat (mVar 5))])))) (mRet (M.pure (.bl false))) mSkip) (mAsg (mVar 9) (gNm 5))))))
    (fun m ρ => ∃ (K : List Int) (c8 c9 : Cell), ρ = [.dat (partsD n rows t), .dat (plcD p), .dat (.int n), .dat (D.lst (rows.map rowD)), .dat (.int t), .dat (D.lst (List.map D.int K)), .no, .no, c8, c9, .no] ∧ ((K = [] ∧ m = 0) ∨ (K = prsI p ∧ K ≠ [] ∧ m = 1)))
    (fun ρ => ∃ c8 c9 : Cell, ρ = [.dat (partsD n rows t), .dat (plcD p), .dat (.int n), .dat (D.lst (rows.map rowD)), .dat (.int t), .dat (D.lst (List.map D.int ([] : List Int))), .no, .no, c8, c9, .no])
    (fun m ρ ⟨K, c8, c9, hρ, hK⟩ => by
      subst hρ
      have q1 : sNe (D.lst (List.map D.int K)) (.lst []) = some (.bl (!decide (K = []))) := sNe_lst K []
      rcases hK with ⟨rfl, rfl⟩ | ⟨rfl, hne, rfl⟩
      · refine ⟨false, [.dat (partsD n rows t), .dat (plcD p), .dat (.int n), .dat (D.lst (rows.map rowD)), .dat (.int t), .dat (D.lst (List.map D.int ([] : List Int))), .no, .no, c8, c9, .no], ?_, fun _ => ⟨c8, c9, rfl⟩, fun z => by cases z⟩
        have q1 : sNe (.lst []) (.lst []) = some (.bl false) := q1
        show (mB (mOp2 sNe (.dat (mVar 5)) (.dat (mLst [])))) [.dat (partsD n rows t), .dat (plcD p), .dat (.int n), .dat (D.lst (rows.map rowD)), .dat (.int t), .dat (.lst []), .no, .no, c8, c9, .no] = .ok false [.dat (partsD n rows t), .dat (plcD p), .dat (.int n), .dat (D.lst (rows.map rowD)), .dat (.int t), .dat (.lst []), .no, .no, c8, c9, .no]
        trivial
      · obtain ⟨c8', c9', e⟩ := ar_turn (n := n) (t := t) hok hno c8 c9 hpr hne
        refine ⟨true, [.dat (partsD n rows t), .dat (plcD p), .dat (.int n), .dat (D.lst (rows.map rowD)), .dat (.int t), .dat (D.lst (List.map D.int (prsI p))), .no, .no, c8, c9, .no], ?_, fun z => (by cases z), fun _ => ⟨_, 0, e, by omega, [], c8', c9', rfl, .inl ⟨rfl, rfl⟩⟩⟩
        rw [decide_eq_false hne] at q1
        have q1 : sNe (D.lst (List.map D.int (prsI p))) (.lst []) = some (.bl true) := q1
        generalize (D.lst (List.map D.int (prsI p))) = KX at *
        trivial) 4096 (if prsI p = [] then 0 else 1) [.dat (partsD n rows t), .dat (plcD p), .dat (.int n), .dat (D.lst (rows.map rowD)), .dat (.int t), .dat (D.lst (List.map D.int (prsI p))), .no, .no, .no, .no, .no] (by split <;> omega) ⟨prsI p, .no, .no, rfl, by split <;> simp_all⟩
  subst hρ
  have q0 : sNe (.lst []) (.lst []) = some (.bl false) := rfl
  (unfold m_law_arises; apply s_run (ρ0 := [.dat (partsD n rows t), .dat (plcD p), .no, .no, .no, .no, .no, .no, .no, .no, .no]) rfl; unfold b_law_arises)
  · refine s_step (ρ1 := [.dat (partsD n rows t), .dat (plcD p), .dat (.int n), .dat (D.lst (rows.map rowD)), .dat (.int t), .no, .no, .no, .no, .no, .no]) rfl (s_step (ρ1 := [.dat (partsD n rows t), .dat (plcD p), .dat (.int n), .dat (D.lst (rows.map rowD)), .dat (.int t), .dat (D.lst (List.map D.int (prsI p))), .no, .no, .no, .no, .no]) (asg_ok20 e0 rfl) (s_step (ρ1 := [.dat (partsD n rows t), .dat (plcD p), .dat (.int n), .dat (D.lst (rows.map rowD)), .dat (.int t), .dat (D.lst (List.map D.int (prsI p))), .no, .no, .no, .no, .no]) (if_f (ρ1 := [.dat (partsD n rows t), .dat (plcD p), .dat (.int n), .dat (D.lst (rows.map rowD)), .dat (.int t), .dat (D.lst (List.map D.int (prsI p))), .no, .no, .no, .no, .no]) ?_ rfl) (s_step e2 (ret1 (ρ1 := [.dat (partsD n rows t), .dat (plcD p), .dat (.int n), .dat (D.lst (rows.map rowD)), .dat (.int t), .dat (D.lst (List.map D.int ([] : List Int))), .no, .no, c8, c9, .no]) rfl))))
    generalize (D.lst (List.map D.int (prsI p))) = KX at *
    trivial
  · rfl
end
end Fx
set_option Elab.async false
set_option linter.all false
set_option maxRecDepth 100000
set_option maxHeartbeats 1000000
namespace Fx
open PySem L2
local macro_rules
  | `(tactic| trivial) => `(tactic| (repeat (first | with_reducible assumption | ((with_reducible apply vv_id); apply_rules (transparency := .reducible) (maxDepth := 1) (symm := false) (exfalso := false) only [vk0, vk1, vk2, vk3, vk4, vk5, vk6, vk7, vk8, vk9, vk10, vk11, vk12, vk13, vk14, vk15, vk16]) | ((with_reducible apply gg_id); first | apply_rules (transparency := .reducible) (maxDepth := 1) (symm := false) (exfalso := false) only [gk0, gk1, gk2, gk3, gk4, gk5, gk6, gk7, gk8, gk9, gk10, gk11, gk12, gk13, gk14, gk15, gk16] | apply_rules (transparency := .reducible) (maxDepth := 1) (symm := false) (exfalso := false) only [getAt_z, getAt_s]) | ((with_reducible apply ss_id); first | apply_rules (transparency := .reducible) (maxDepth := 1) (symm := false) (exfalso := false) only [sk0, sk1, sk2, sk3, sk4, sk5, sk6, sk7, sk8, sk9, sk10, sk11, sk12, sk13, sk14, sk15, sk16] | apply_rules (transparency := .reducible) (maxDepth := 1) (symm := false) (exfalso := false) only [setAt_z, setAt_s]) | ((with_reducible apply g_seq); first | (with_reducible refine s_step (by with_reducible assumption) ?_) | (with_reducible refine s_retS (by with_reducible assumption)) | apply_rules (transparency := .reducible) (maxDepth := 1) (symm := false) (exfalso := false) only [s_assoc, s_skip, s_asg, s_new, s_expr, s_ret, s_retN, s_t, s_f, s_if, s_par, s_par3, s_new2, s_setIx, s_augV, s_setS, s_raise] | ((with_reducible apply s_frz); apply_rules (transparency := .reducible) (maxDepth := 1) (symm := false) (exfalso := false) only [gk0, gk1, gk2, gk3, gk4, gk5, gk6, gk7, gk8, gk9, gk10, gk11, gk12, gk13, gk14, gk15, gk16]) | ((with_reducible apply s_frzD); apply_rules (transparency := .reducible) (maxDepth := 1) (symm := false) (exfalso := false) only [gk0, gk1, gk2, gk3, gk4, gk5, gk6, gk7, gk8, gk9, gk10, gk11, gk12, gk13, gk14, gk15, gk16]) | (with_reducible refine s_for ?_ (by with_reducible assumption) ?_) | (with_reducible refine s_forR ?_ (by with_reducible assumption)) | (with_reducible refine s_while (by with_reducible assumption) ?_) | (with_reducible refine s_whileR (by with_reducible assumption)) | (with_reducible refine s_for (?_) (by assumption) ?_)) | apply_rules (transparency := .reducible) (maxDepth := 1) (symm := false) (exfalso := false) only [v_pure, x_callD, y_op2, y_call1, y_call2, y_sl1, y_sl2, y_tup2, y_tup1, y_fo1, y_fo2, y_fo0, y_fo3, y_fn1, y_fn2, y_fn3, y_fn4, y_fn5, x_op2, p_dat, p_own, v_var, x_callD, x_callF, x_callK, x_callW, x_callN, x_make, x_call, x_tup, x_lst, x_neg, x_meth, x_methWR, x_methWD, x_methW, x_sl, x_rev, x_fld, x_chain, x_lenF, x_lenset, x_methF, x_isF, x_eqF, x_kd, x_neF, x_makeK, x_methK, x_cmp, x_lrn, pt_s, pt_n, i_seq, i_en, i_rng, i_zip, b_b, b_not, b_and, b_or, x_if, x_andV, x_orV, x_notV, andK_t, andK_f, orK_f, orK_t, chK_t, chK_f, ifK_t, ifK_f, x_lcU, x_lc, s_end, pk_n, pk_c, at_z, at_s, put_n, put_c, wl_n, wl_c, mp_r, tg_nm, tg_tp, tgs_n, tgs_c, pl_n, pl_c, rl_n, rl_c, ra_n, ra_d, ra_o, sq_n, sq_c, app_n, app_c, r_dat, r_own, lcE_i, no_n, no_c, nw_d, nw_n, nw_o, nb_lt, nb_lf, nb_ltn, nb_lfn] | ((with_reducible apply nb_id); first | with_reducible exact nb_nf rfl | with_reducible exact nb_t rfl | exact nb_h (by with_reducible assumption) | exact nb_hf (by with_reducible assumption) | exact nb_hn (by with_reducible assumption) | exact nb_hnf (by with_reducible assumption) | exact nb_t (by with_reducible assumption) | exact nb_f (by with_reducible assumption) | exact nb_nt (by with_reducible assumption) | exact nb_nf (by with_reducible assumption) | exact nb_t (by omega) | exact nb_f (by omega) | exact nb_nt (by omega) | exact nb_nf (by omega) | exact nb_t (by decide) | exact nb_f (by decide) | exact nb_nt (by decide) | exact nb_nf (by decide)) | apply_rules (transparency := .reducible) (maxDepth := 1) (symm := false) (exfalso := false) only [sEq_int, sNe_int, sEq_opt, sNe_opt, sIsN_opt, sNotN_opt, sNotN_int, sIsN_int, sNotN_tup, sIsN_tup, sNotN_lst, sIsN_lst, sNotN_non, sIsN_non, sIn_tup, sNin_tup, sIn_lst, sNin_lst, sEq_tup, sEq_lst, sNe_lst, sNe_tup, sIx_plc, sIx_rows, sIx_rowsL, sIn_row, sNin_row, sLen_row, sLen_plc, isTup_row, isTup_plc, sLen_ints, sLen_tints, sLen_rows, sLen_rowsT, sLen_lst, sLen_tup, isTupD] | ((with_reducible apply is_id); exact is_r) | ((with_reducible apply f_od); exact rfl) | ((with_reducible apply f_ol); exact rfl) | ((with_reducible apply f_op); exact rfl) | ((with_reducible apply f_bt); exact rfl) | ((with_reducible apply f_on); exact rfl) | ((with_reducible apply f_ld); exact rfl) | intro x hx | intro hb | omega | with_reducible apply s_one)))
open Classical in
theorem nin_pn0 {k j : Nat} {d e : D} {ds : List D} (he : itemsOf e = some ds) (h : Pn k d) (h2 : ∀ e ∈ ds, Pn j e) (hm : d ∈ ds) (hk : k ≤ 63 := by decide) : sNin d e = some (.bl false) := by
  rw [sNin_pn he h h2 hk]
  simp [hm]
theorem in_pn0 {k j : Nat} {d e : D} {ds : List D} (he : itemsOf e = some ds) (h : Pn k d) (h2 : ∀ e ∈ ds, Pn j e) (hm : d ∉ ds) (hk : k ≤ 63 := by decide) : sIn d e = some (.bl false) := by
  rw [sIn_pn he h h2 hk]
  simp [hm]
section
variable {n t : Int} {rows : List (List Int)} {S : List Int}
theorem fl_head (r : List Int) (f : Int → Bool) : ∀ {v : Int}, (r.filter f).head? = some v → v ∈ r ∧ f v = true ∧ ∀ x ∈ r.take (r.idxOf v), f x = false := by
  induction r with
  | nil => intro v h; simp at h
  | cons a r ih =>
    intro v h
    rw [List.filter_cons] at h
    by_cases ha : f a = true
    · rw [if_pos ha] at h
      cases h
      exact ⟨List.mem_cons_self, ha, fun x hx => by simp at hx⟩
    · rw [if_neg ha] at h
      obtain ⟨h1, h2, h3⟩ := ih h
      refine ⟨List.mem_cons_of_mem _ h1, h2, fun x hx => ?_⟩
      have ne : ¬ a = v := fun z => ha (by rw [z]; exact h2)
      have e2 : (a == v) = false := by simpa using ne
      rw [List.idxOf_cons, e2] at hx
      simp only [cond_false, List.take_succ_cons] at hx
      rcases List.mem_cons.mp hx with z | z
      · rw [z]; simpa using ha
      · exact h3 x z
theorem got_spec {r : List Int} {v : Int} (h : gotO t S r = some v) : v ∈ r ∧ v ∈ S ∧ r.idxOf v < (t + 1).toNat ∧ ∀ x ∈ r.take (r.idxOf v), x ∉ S := by
  obtain ⟨h1, h2, h3⟩ := fl_head _ _ h
  have h4 : v ∈ r := List.mem_of_mem_take h1
  have e : (nearR t r).idxOf v = r.idxOf v := by
    unfold nearR
    have := List.idxOf_append (l₁ := r.take (t + 1).toNat) (l₂ := r.drop (t + 1).toNat) (a := v)
    rw [List.take_append_drop, if_pos (show v ∈ List.take (t + 1).toNat r from h1)] at this
    exact this.symm
  have h5 := List.idxOf_lt_length_of_mem h1
  rw [e] at h5 h3
  have h6 : (nearR t r).length ≤ (t + 1).toNat := by unfold nearR; rw [List.length_take]; exact Nat.min_le_left _ _
  refine ⟨h4, of_decide_eq_true h2, by omega, fun x hx => ?_⟩
  have h7 : (nearR t r).take (r.idxOf v) = r.take (r.idxOf v) := by
    unfold nearR
    rw [List.take_take, Nat.min_eq_left (by omega)]
  have h8 := h3 x (by rw [h7]; exact hx)
  exact of_decide_eq_false h8
theorem gots_at {i : Nat} {v : Int} (h : (gots rows t S)[i]? = some (some v)) : ∃ r, rows[i]? = some r ∧ gotO t S r = some v := by
  unfold gots at h
  rw [List.getElem?_map] at h
  cases hr : rows[i]? with
  | none => rw [hr] at h; cases h
  | some r => rw [hr] at h; exact ⟨r, rfl, Option.some.inj h⟩
theorem gots_len : (gots rows t S).length = rows.length := List.length_map ..
theorem gots_ok : PlOk rows (gots rows t S) := fun s v h => by
  obtain ⟨r, h1, h2⟩ := gots_at h
  exact ⟨r, h1, (got_spec h2).1⟩
theorem gots_at2 {s : Int} (h : Pres (gots rows t S) s) : ∃ r v, gotO t S r = some v ∧ passI rows (gots rows t S) s = r.take (r.idxOf v) := by
  obtain ⟨i, v, r, rfl, h2, h3, h4, h5, h6⟩ := h.at gots_ok
  obtain ⟨r', h7, h8⟩ := gots_at h2
  rw [h3] at h7
  cases h7
  exact ⟨r, v, h8, by unfold passI; rw [h5, h6]⟩
theorem gots_far (ht : 0 ≤ t) {s : Int} (h : Pres (gots rows t S) s) : ((passI rows (gots rows t S) s).length : Int) ≤ t := by
  obtain ⟨r, v, h1, h2⟩ := gots_at2 h
  have h3 := (got_spec h1).2.2.1
  rw [h2, List.length_take]
  omega
theorem gots_no {s : Int} (h : Pres (gots rows t S) s) : ∀ x ∈ passI rows (gots rows t S) s, some x ∉ gots rows t S := by
  obtain ⟨r, v, h1, h2⟩ := gots_at2 h
  rw [h2]
  intro x hx hm
  obtain ⟨i, hi⟩ := List.getElem?_of_mem hm
  obtain ⟨r', _, h4⟩ := gots_at hi
  exact (got_spec h1).2.2.2 x hx (got_spec h4).2.1
theorem due_step {i : Nat} {r : List Int} (hr : rows[i]? = some r) : dueN (rows.take (i + 1)) t S = dueN (rows.take i) t S + (if fltR t S r = [] then 0 else 1) := by
  unfold dueN gots
  rw [List.take_add_one, hr, List.map_append, List.filter_append, List.length_append]
  congr 1
  show ((List.filter (fun o => !decide (o = none)) [gotO t S r]).length) = _
  unfold gotO
  cases hf : fltR t S r with
  | nil => rfl
  | cons a l => rfl
theorem gr_one (ht : 0 ≤ t) {i : Nat} {r : List Int} (hr : rows[i]? = some r) (d : Int) (c6 : Cell) : (mAsg (mOp2 sAdd (.dat (mVar 4)) (.dat (mCall sInt [(.dat (mOp2 sNe (.dat (mLc (mSeqI (mCallF m_law_near [(.dat (mVar 1)), (.dat (mVar 5))])) (gNm 6) (mB (mOp2 sIn (.dat (mVar 6)) (.dat (mVar 2)))) (mVar 6) [6])) (.dat (mLst []))))]))) (gNm 4)) [.dat (farmD n rows t), .dat (partsD n rows t), .dat (D.tup (List.map D.int S)), .dat (D.tup [.int (dueN rows t S : Nat), plcD (gots rows t S)]), .dat (.int d), .dat (.int (i : Int)), .no, .no, .no] = .next [.dat (farmD n rows t), .dat (partsD n rows t), .dat (D.tup (List.map D.int S)), .dat (D.tup [.int (dueN rows t S : Nat), plcD (gots rows t S)]), .dat (.int (d + (if fltR t S r = [] then 0 else 1))), .dat (.int (i : Int)), .no, .no, .no] := by
  have k1 : m_law_near [partsD n rows t, .int (i : Int)] = .ret (D.tup (List.map D.int (nearR t r))) [] := e_law_near hr ht
  have k2 : (mLc (mSeqI (mCallF m_law_near [(.dat (mVar 1)), (.dat (mVar 5))])) (gNm 6) (mB (mOp2 sIn (.dat (mVar 6)) (.dat (mVar 2)))) (mVar 6) [6]) [.dat (farmD n rows t), .dat (partsD n rows t), .dat (D.tup (List.map D.int S)), .dat (D.tup [.int (dueN rows t S : Nat), plcD (gots rows t S)]), .dat (.int d), .dat (.int (i : Int)), .no, .no, .no] = .ok (D.lst (List.map D.int (fltR t S r))) [.dat (farmD n rows t), .dat (partsD n rows t), .dat (D.tup (List.map D.int S)), .dat (D.tup [.int (dueN rows t S : Nat), plcD (gots rows t S)]), .dat (.int d), .dat (.int (i : Int)), .no, .no, .no] := by
    unfold fltR
    generalize (D.tup [.int (dueN rows t S : Nat), plcD (gots rows t S)]) = TX
    trivial
  have k3 := sNe_lst (fltR t S r) []
  generalize fltR t S r = F at k2 k3 ⊢
  generalize (D.tup [.int (dueN rows t S : Nat), plcD (gots rows t S)]) = TX at *
  by_cases z : F = []
  · rw [decide_eq_true z] at k3
    have k3 : sNe (D.lst (List.map D.int F)) (.lst []) = some (.bl false) := k3
    have k4 : sInt [.bl false] = some (.int 0) := rfl
    have k5 : sAdd (.int d) (.int 0) = some (.int (d + 0)) := rfl
    rw [if_pos z]
    generalize (D.lst (List.map D.int F)) = FX at *
    trivial
  · rw [decide_eq_false z] at k3
    have k3 : sNe (D.lst (List.map D.int F)) (.lst []) = some (.bl true) := k3
    have k4 : sInt [.bl true] = some (.int 1) := rfl
    have k5 : sAdd (.int d) (.int 1) = some (.int (d + 1)) := rfl
    rw [if_neg z]
    generalize (D.lst (List.map D.int F)) = FX at *
    trivial
theorem gr_loop (ht : 0 ≤ t) (h60 : rows.length ≤ 60) : ∃ c5 : Cell, mFor (mRange1 (mCall sLen [(.dat (mOp2 sIx (.dat (mVar 1)) (.dat (M.pure (.int 1)))))])) (gNm 5) (mAsg (mOp2 sAdd (.dat (mVar 4)) (.dat (mCall sInt [(.dat (mOp2 sNe (.dat (mLc (mSeqI (mCallF m_law_near [(.dat (mVar 1)), (.dat (mVar 5))])) (gNm 6) (mB (mOp2 sIn (.dat (mVar 6)) (.dat (mVar 2)))) (mVar 6) [6])) (.dat (mLst []))))]))) (gNm 4)) [.dat (farmD n rows t), .dat (partsD n rows t), .dat (D.tup (List.map D.int S)), .dat (D.tup [.int (dueN rows t S : Nat), plcD (gots rows t S)]), .dat (.int 0), .no, .no, .no, .no] = .next [.dat (farmD n rows t), .dat (partsD n rows t), .dat (D.tup (List.map D.int S)), .dat (D.tup [.int (dueN rows t S : Nat), plcD (gots rows t S)]), .dat (.int (dueN rows t S : Nat)), c5, .no, .no, .no] := by
  obtain ⟨ρ', e1, c5, hρ⟩ := loop_inv (g := (gNm 5)) (body := (mAsg (mOp2 sAdd (.dat (mVar 4)) (.dat (mCall sInt [(.dat (mOp2 sNe (.dat (mLc (mSeqI (mCallF m_law_near [(.dat (mVar 1)), (.dat (mVar 5))])) (gNm 6) (mB (mOp2 sIn (.dat (mVar 6)) (.dat (mVar 2)))) (mVar 6) [6])) (.dat (mLst []))))]))) (gNm 4))) (fun i ρ => ∃ c5 : Cell, ρ = [.dat (farmD n rows t), .dat (partsD n rows t), .dat (D.tup (List.map D.int S)), .dat (D.tup [.int (dueN rows t S : Nat), plcD (gots rows t S)]), .dat (.int (dueN (rows.take i) t S : Nat)), c5, .no, .no, .no]) ((rng rows.length).map .int) 0 [.dat (farmD n rows t), .dat (partsD n rows t), .dat (D.tup (List.map D.int S)), .dat (D.tup [.int (dueN rows t S : Nat), plcD (gots rows t S)]), .dat (.int 0), .no, .no, .no, .no] ⟨.no, rfl⟩
    (fun i dd ρ hdd ⟨c5, hρ⟩ => by
      subst hρ
      rw [List.getElem?_map] at hdd
      cases hv : (rng rows.length)[i]? with
      | none => rw [hv] at hdd; cases hdd
      | some v =>
        rw [hv] at hdd
        cases hdd
        obtain ⟨rfl, hi⟩ := rng_at hv
        simp only [Nat.zero_add]
        have hr : rows[i]? = some rows[i] := List.getElem?_eq_getElem hi
        have e := gr_one (n := n) (S := S) ht hr (dueN (rows.take i) t S : Nat) .no
        refine ⟨[.dat (farmD n rows t), .dat (partsD n rows t), .dat (D.tup (List.map D.int S)), .dat (D.tup [.int (dueN rows t S : Nat), plcD (gots rows t S)]), .dat (.int (dueN (rows.take i) t S : Nat)), .dat (.int (i : Int)), .no, .no, .no], rfl, _, e, .dat (.int (i : Int)), ?_⟩
        rw [due_step hr]
        split <;> simp)
  subst hρ
  rw [List.length_map, rng_len, Nat.zero_add, List.take_length] at e1
  refine ⟨c5, (for_o ?_).trans e1⟩
  have q1 : sIx (partsD n rows t) (.int 1) = some (D.lst (rows.map rowD)) := rfl
  have q2 : sLen [(D.lst (rows.map rowD))] = some (.int (rows.length : Nat)) := by rw [sLen_lst, List.length_map]
  have q3 := i_rng (f := mCall sLen [(.dat (mOp2 sIx (.dat (mVar 1)) (.dat (M.pure (.int 1)))))]) (ρ := [.dat (farmD n rows t), .dat (partsD n rows t), .dat (D.tup (List.map D.int S)), .dat (D.tup [.int (dueN rows t S : Nat), plcD (gots rows t S)]), .dat (.int 0), .no, .no, .no, .no]) (ρ1 := [.dat (farmD n rows t), .dat (partsD n rows t), .dat (D.tup (List.map D.int S)), .dat (D.tup [.int (dueN rows t S : Nat), plcD (gots rows t S)]), .dat (.int 0), .no, .no, .no, .no]) (k := (rows.length : Int)) (by
    generalize (D.tup [.int (dueN rows t S : Nat), plcD (gots rows t S)]) = TX
    trivial) (by omega) (by omega)
  rwa [Int.toNat_natCast] at q3
def inO (S : List Int) : Option Int → Bool
  | none => false
  | some v => decide (v ∈ S)
theorem sIn_ot (o : Option Int) : sIn (optD o) (D.tup (List.map D.int S)) = some (.bl (inO S o)) := by
  cases o with
  | none =>
    exact in_pn0 (k := 0) (j := 0) rfl .non (fun e he => by
      obtain ⟨i, _, rfl⟩ := List.mem_map.mp he
      exact .int) fun z => by
      obtain ⟨i, _, q⟩ := List.mem_map.mp z
      cases q
  | some v => exact sIn_tup v S
theorem gr_shown {r : List Int} (hr : ∀ v ∈ r, 0 ≤ v ∧ v ≤ 60) {i : Nat} (h : rows[i]? = some r) (c4 c6 c7 : Cell) : (mLc (mSeqI (mOp2 sIx (.dat (mOp2 sIx (.dat (mVar 1)) (.dat (M.pure (.int 1))))) (.dat (mVar 5)))) (gNm 8) (M.pure true) (mCall sRepr [(.dat (mVar 8))]) [8]) [.dat (farmD n rows t), .dat (partsD n rows t), .dat (D.tup (List.map D.int S)), .dat (D.tup [.int (dueN rows t S : Nat), plcD (gots rows t S)]), c4, .dat (.int (i : Int)), c6, c7, .no] = .ok (.lst (r.map fun v => .str (pyE (.int v)).shown)) [.dat (farmD n rows t), .dat (partsD n rows t), .dat (D.tup (List.map D.int S)), .dat (D.tup [.int (dueN rows t S : Nat), plcD (gots rows t S)]), c4, .dat (.int (i : Int)), c6, c7, .no] := by
  have q1 : sIx (partsD n rows t) (.int 1) = some (D.lst (rows.map rowD)) := rfl
  have q2 : sIx (D.lst (rows.map rowD)) (.int (i : Int)) = some (D.tup (List.map D.int r)) := sIx_rowsL h
  refine x_lcU (vs := [8]) (em := D.int) (f := fun v => .str (pyE (.int v)).shown) (ds := r.map D.int) (ρ1 := [.dat (farmD n rows t), .dat (partsD n rows t), .dat (D.tup (List.map D.int S)), .dat (D.tup [.int (dueN rows t S : Nat), plcD (gots rows t S)]), c4, .dat (.int (i : Int)), c6, c7, .no]) (w := [.dat (farmD n rows t), .dat (partsD n rows t), .dat (D.tup (List.map D.int S)), .dat (D.tup [.int (dueN rows t S : Nat), plcD (gots rows t S)]), c4, .dat (.int (i : Int)), c6, c7, .no]) ?_ mp_r rfl rfl fun y hy => ?_
  · generalize (D.tup [.int (dueN rows t S : Nat), plcD (gots rows t S)]) = TX at *
    trivial
  · obtain ⟨y0, y1⟩ := hr y hy
    have k := repr_e (repr_int (v := y) (by omega) y1)
    generalize (D.tup [.int (dueN rows t S : Nat), plcD (gots rows t S)]) = TX at *
    trivial
theorem gr_two (hF : FarmOk n rows) {i : Nat} {o : Option Int} (h : (gots rows t S)[i]? = some o) (c4 c7 : Cell) : ∃ c7' : Cell, (mSeq (mAsg (mLc (mSeqI (mOp2 sIx (.dat (mOp2 sIx (.dat (mVar 1)) (.dat (M.pure (.int 1))))) (.dat (mVar 5)))) (gNm 8) (M.pure true) (mCall sRepr [(.dat (mVar 8))]) [8]) (gNm 7)) (mIfS (mAnd (mB (mOp2 sNotN (.dat (mVar 6)) (.dat (M.pure .non)))) (mB (mOp2 sNin (.dat (mCall sRepr [(.dat (mVar 6))])) (.dat (mVar 7))))) (mRet (M.pure (.bl false))) mSkip)) [.dat (farmD n rows t), .dat (partsD n rows t), .dat (D.tup (List.map D.int S)), .dat (D.tup [.int (dueN rows t S : Nat), plcD (gots rows t S)]), c4, .dat (.int (i : Int)), .dat (optD o), c7, .no] = .next [.dat (farmD n rows t), .dat (partsD n rows t), .dat (D.tup (List.map D.int S)), .dat (D.tup [.int (dueN rows t S : Nat), plcD (gots rows t S)]), c4, .dat (.int (i : Int)), .dat (optD o), c7', .no] := by
  have h0 : i < rows.length := by rw [← gots_len (rows := rows) (t := t) (S := S)]; exact (List.getElem?_eq_some_iff.mp h).1
  have hr : rows[i]? = some rows[i] := List.getElem?_eq_getElem h0
  have n2 := hF.n2
  have hrr : ∀ v ∈ rows[i], 0 ≤ v ∧ v ≤ 60 := fun v hv => by
    have := (hF.row _ (List.mem_of_getElem? hr)).2.1 v hv
    omega
  have e1 := gr_shown (n := n) (t := t) (S := S) hrr hr c4 (.dat (optD o)) c7
  refine ⟨.dat (.lst (rows[i].map fun v => .str (pyE (.int v)).shown)), s_step (asg_ok20 e1 rfl) ?_⟩
  cases o with
  | none =>
    show mIfS _ _ _ [.dat (farmD n rows t), .dat (partsD n rows t), .dat (D.tup (List.map D.int S)), .dat (D.tup [.int (dueN rows t S : Nat), plcD (gots rows t S)]), c4, .dat (.int (i : Int)), .dat .non, .dat (.lst (rows[i].map fun v => .str (pyE (.int v)).shown)), .no] = .next [.dat (farmD n rows t), .dat (partsD n rows t), .dat (D.tup (List.map D.int S)), .dat (D.tup [.int (dueN rows t S : Nat), plcD (gots rows t S)]), c4, .dat (.int (i : Int)), .dat .non, .dat (.lst (rows[i].map fun v => .str (pyE (.int v)).shown)), .no]
    clear e1
    generalize (D.tup [.int (dueN rows t S : Nat), plcD (gots rows t S)]) = TX at *
    generalize (.lst (rows[i].map fun v => .str (pyE (.int v)).shown) : D) = RX at *
    refine s_one ?_
    trivial
  | some v =>
    obtain ⟨r, g1, g2⟩ := gots_at h
    rw [hr] at g1
    cases g1
    obtain ⟨g3, _⟩ := got_spec g2
    obtain ⟨v0, v1⟩ := hrr v g3
    have k1 := repr_e (repr_int (v := v) (by omega) v1)
    have k2 : sNin (.str (pyE (.int v)).shown) (.lst (rows[i].map fun v => .str (pyE (.int v)).shown)) = some (.bl false) := by
      refine nin_pn0 (k := 0) (j := 0) rfl (.str (repr_int (v := v) (by omega) v1).2) (fun e he => ?_) (List.mem_map.mpr ⟨v, g3, rfl⟩)
      obtain ⟨x, hx, rfl⟩ := List.mem_map.mp he
      obtain ⟨x0, x1⟩ := hrr x hx
      exact .str (repr_int (v := x) (by omega) x1).2
    show mIfS _ _ _ [.dat (farmD n rows t), .dat (partsD n rows t), .dat (D.tup (List.map D.int S)), .dat (D.tup [.int (dueN rows t S : Nat), plcD (gots rows t S)]), c4, .dat (.int (i : Int)), .dat (.int v), .dat (.lst (rows[i].map fun v => .str (pyE (.int v)).shown)), .no] = .next [.dat (farmD n rows t), .dat (partsD n rows t), .dat (D.tup (List.map D.int S)), .dat (D.tup [.int (dueN rows t S : Nat), plcD (gots rows t S)]), c4, .dat (.int (i : Int)), .dat (.int v), .dat (.lst (rows[i].map fun v => .str (pyE (.int v)).shown)), .no]
    clear e1
    generalize (D.tup [.int (dueN rows t S : Nat), plcD (gots rows t S)]) = TX at *
    generalize (.lst (rows[i].map fun v => .str (pyE (.int v)).shown) : D) = RX at *
    generalize (pyE (.int v)).shown = sx at *
    refine s_one ?_
    trivial
theorem gr_loop2 (hF : FarmOk n rows) (c4 c5 : Cell) : ∃ c5' c6' c7' : Cell, mFor (mEnum (mOp2 sIx (.dat (mVar 3)) (.dat (M.pure (.int 1))))) (gTp [5, 6]) (mSeq (mAsg (mLc (mSeqI (mOp2 sIx (.dat (mOp2 sIx (.dat (mVar 1)) (.dat (M.pure (.int 1))))) (.dat (mVar 5)))) (gNm 8) (M.pure true) (mCall sRepr [(.dat (mVar 8))]) [8]) (gNm 7)) (mIfS (mAnd (mB (mOp2 sNotN (.dat (mVar 6)) (.dat (M.pure .non)))) (mB (mOp2 sNin (.dat (mCall sRepr [(.dat (mVar 6))])) (.dat (mVar 7))))) (mRet (M.pure (.bl false))) mSkip)) [.dat (farmD n rows t), .dat (partsD n rows t), .dat (D.tup (List.map D.int S)), .dat (D.tup [.int (dueN rows t S : Nat), plcD (gots rows t S)]), c4, c5, .no, .no, .no] = .next [.dat (farmD n rows t), .dat (partsD n rows t), .dat (D.tup (List.map D.int S)), .dat (D.tup [.int (dueN rows t S : Nat), plcD (gots rows t S)]), c4, c5', c6', c7', .no] := by
  obtain ⟨ρ', e1, c5', c6', c7', hρ⟩ := loop_inv (g := (gTp [5, 6])) (body := (mSeq (mAsg (mLc (mSeqI (mOp2 sIx (.dat (mOp2 sIx (.dat (mVar 1)) (.dat (M.pure (.int 1))))) (.dat (mVar 5)))) (gNm 8) (M.pure true) (mCall sRepr [(.dat (mVar 8))]) [8]) (gNm 7)) (mIfS (mAnd (mB (mOp2 sNotN (.dat (mVar 6)) (.dat (M.pure .non)))) (mB (mOp2 sNin (.dat (mCall sRepr [(.dat (mVar 6))])) (.dat (mVar 7))))) (mRet (M.pure (.bl false))) mSkip))) (fun i ρ => ∃ c5 c6 c7 : Cell, ρ = [.dat (farmD n rows t), .dat (partsD n rows t), .dat (D.tup (List.map D.int S)), .dat (D.tup [.int (dueN rows t S : Nat), plcD (gots rows t S)]), c4, c5, c6, c7, .no]) (enumD 0 ((gots rows t S).map optD)) 0 [.dat (farmD n rows t), .dat (partsD n rows t), .dat (D.tup (List.map D.int S)), .dat (D.tup [.int (dueN rows t S : Nat), plcD (gots rows t S)]), c4, c5, .no, .no, .no] ⟨c5, .no, .no, rfl⟩
    (fun i dd ρ hdd ⟨c5, c6, c7, hρ⟩ => by
      subst hρ
      obtain ⟨d', h7, rfl⟩ := enumD_inv 0 i _ _ hdd
      rw [List.getElem?_map] at h7
      cases ho : (gots rows t S)[i]? with
      | none => rw [ho] at h7; cases h7
      | some o =>
        rw [ho] at h7
        cases h7
        simp only [Nat.zero_add]
        obtain ⟨c7', e⟩ := gr_two (n := n) hF ho c4 c7
        exact ⟨[.dat (farmD n rows t), .dat (partsD n rows t), .dat (D.tup (List.map D.int S)), .dat (D.tup [.int (dueN rows t S : Nat), plcD (gots rows t S)]), c4, .dat (.int (i : Int)), .dat (optD o), c7, .no], rfl, _, e, _, _, _, rfl⟩)
  subst hρ
  refine ⟨c5', c6', c7', (for_o (i_enum (d := plcD (gots rows t S)) ?_ rfl)).trans e1⟩
  have q1 : sIx (D.tup [.int (dueN rows t S : Nat), plcD (gots rows t S)]) (.int 1) = some (plcD (gots rows t S)) := rfl
  generalize (D.tup [.int (dueN rows t S : Nat), plcD (gots rows t S)]) = TX at *
  trivial
theorem e_greatest_right (hF : FarmOk n rows) (ht : 0 ≤ t) (hS : ∀ x ∈ S, 0 ≤ x ∧ x < n) (hn : S.Nodup) (hSl : S.length ≤ 1000) : m_law_greatest_right [farmD n rows t, partsD n rows t, (D.tup (List.map D.int S))] = .ret (.bl true) [] := by
  have k1 := e_greatest (n := n) hF ht hS hn hSl
  have k2 := e_arises (n := n) (gots_len (rows := rows) (t := t) (S := S)) gots_ok (fun s hs => gots_far ht hs) (fun s hs => gots_no hs)
  obtain ⟨c5, e1⟩ := gr_loop (n := n) (S := S) ht hF.len
  have q1 : sIx (D.tup [.int (dueN rows t S : Nat), plcD (gots rows t S)]) (.int 0) = some (.int (dueN rows t S : Nat)) := rfl
  have q2 : sIx (D.tup [.int (dueN rows t S : Nat), plcD (gots rows t S)]) (.int 1) = some (plcD (gots rows t S)) := rfl
  have q3 : sIsi [(D.tup [.int (dueN rows t S : Nat), plcD (gots rows t S)]), .raw (.ty "tuple")] = some (.bl true) := isTupD _
  have q4 : sLen [(D.tup [.int (dueN rows t S : Nat), plcD (gots rows t S)])] = some (.int 2) := rfl
  have q5 : sNe (.int 2) (.int 2) = some (.bl false) := by rw [sNe_int]; rfl
  have q6 : sNe (.int (dueN rows t S : Nat)) (.int (dueN rows t S : Nat)) = some (.bl false) := by rw [sNe_int]; simp
  have q7 : sIsi [.int (dueN rows t S : Nat), .raw (.ty "bool")] = some (.bl false) := by simp [sIsi, tyName, kit_ib]
  have q8 : sIx (partsD n rows t) (.int 1) = some (D.lst (rows.map rowD)) := rfl
  have q9 : sLen [(D.lst (rows.map rowD))] = some (.int (rows.length : Nat)) := by rw [sLen_lst, List.length_map]
  have q10 : sLen [plcD (gots rows t S)] = some (.int (rows.length : Nat)) := by rw [sLen_plc, gots_len]
  have q11 : sNe (.int (rows.length : Nat)) (.int (rows.length : Nat)) = some (.bl false) := by rw [sNe_int]; simp
  have e3 : (mLc (mSeqI (mOp2 sIx (.dat (mVar 3)) (.dat (M.pure (.int 1))))) (gNm 6) (mB (mOp2 sIn (.dat (mVar 6)) (.dat (mVar 2)))) (mVar 6) [6]) [.dat (farmD n rows t), .dat (partsD n rows t), .dat (D.tup (List.map D.int S)), .dat (D.tup [.int (dueN rows t S : Nat), plcD (gots rows t S)]), .dat (.int (dueN rows t S : Nat)), c5, .no, .no, .no] = .ok (.lst (((gots rows t S).filter (inO S)).map optD)) [.dat (farmD n rows t), .dat (partsD n rows t), .dat (D.tup (List.map D.int S)), .dat (D.tup [.int (dueN rows t S : Nat), plcD (gots rows t S)]), .dat (.int (dueN rows t S : Nat)), c5, .no, .no, .no] := by
    refine x_lc (vs := [6]) (em := optD) (P := inO S) (f := optD) (ds := (gots rows t S).map optD) (ρ1 := [.dat (farmD n rows t), .dat (partsD n rows t), .dat (D.tup (List.map D.int S)), .dat (D.tup [.int (dueN rows t S : Nat), plcD (gots rows t S)]), .dat (.int (dueN rows t S : Nat)), c5, .no, .no, .no]) (w := [.dat (farmD n rows t), .dat (partsD n rows t), .dat (D.tup (List.map D.int S)), .dat (D.tup [.int (dueN rows t S : Nat), plcD (gots rows t S)]), .dat (.int (dueN rows t S : Nat)), c5, .no, .no, .no]) rfl mp_r rfl rfl fun o ho => ?_
    have k := sIn_ot (S := S) o
    generalize (D.tup [.int (dueN rows t S : Nat), plcD (gots rows t S)]) = TX at *
    trivial
  have q12 : sLen [.lst (((gots rows t S).filter (inO S)).map optD)] = some (.int (dueN rows t S : Nat)) := by
    rw [sLen_lst, List.length_map]
    unfold dueN
    rw [List.filter_congr (q := fun o => !decide (o = none))]
    intro o ho
    cases o with
    | none => simp [inO]
    | some v =>
      obtain ⟨i, hi⟩ := List.getElem?_of_mem ho
      obtain ⟨r, _, h2⟩ := gots_at hi
      have := (got_spec h2).2.1
      simp [inO, this]
  have q13 : sIsi [plcD (gots rows t S), .raw (.ty "tuple")] = some (.bl true) := isTup_plc _
  obtain ⟨c5', c6', c7', e4⟩ := gr_loop2 (n := n) (t := t) (S := S) hF (.dat (.int (dueN rows t S : Nat))) c5
  (unfold m_law_greatest_right; apply s_run (ρ0 := [.dat (farmD n rows t), .dat (partsD n rows t), .dat ((D.tup (List.map D.int S))), .no, .no, .no, .no, .no, .no]) rfl; unfold b_law_greatest_right)
  · refine s_step (ρ1 := [.dat (farmD n rows t), .dat (partsD n rows t), .dat (D.tup (List.map D.int S)), .dat (D.tup [.int (dueN rows t S : Nat), plcD (gots rows t S)]), .no, .no, .no, .no, .no]) ?_ (s_step (ρ1 := [.dat (farmD n rows t), .dat (partsD n rows t), .dat (D.tup (List.map D.int S)), .dat (D.tup [.int (dueN rows t S : Nat), plcD (gots rows t S)]), .dat (.int 0), .no, .no, .no, .no]) rfl (s_step e1 (s_step (ρ1 := [.dat (farmD n rows t), .dat (partsD n rows t), .dat (D.tup (List.map D.int S)), .dat (D.tup [.int (dueN rows t S : Nat), plcD (gots rows t S)]), .dat (.int (dueN rows t S : Nat)), c5, .no, .no, .no]) (if_f (ρ1 := [.dat (farmD n rows t), .dat (partsD n rows t), .dat (D.tup (List.map D.int S)), .dat (D.tup [.int (dueN rows t S : Nat), plcD (gots rows t S)]), .dat (.int (dueN rows t S : Nat)), c5, .no, .no, .no]) ?_ rfl) (s_step (ρ1 := [.dat (farmD n rows t), .dat (partsD n rows t), .dat (D.tup (List.map D.int S)), .dat (D.tup [.int (dueN rows t S : Nat), plcD (gots rows t S)]), .dat (.int (dueN rows t S : Nat)), c5, .no, .no, .no]) (if_f (ρ1 := [.dat (farmD n rows t), .dat (partsD n rows t), .dat (D.tup (List.map D.int S)), .dat (D.tup [.int (dueN rows t S : Nat), plcD (gots rows t S)]), .dat (.int (dueN rows t S : Nat)), c5, .no, .no, .no]) ?_ rfl) (s_step (ρ1 := [.dat (farmD n rows t), .dat (partsD n rows t), .dat (D.tup (List.map D.int S)), .dat (D.tup [.int (dueN rows t S : Nat), plcD (gots rows t S)]), .dat (.int (dueN rows t S : Nat)), c5, .no, .no, .no]) (if_f (ρ1 := [.dat (farmD n rows t), .dat (partsD n rows t), .dat (D.tup (List.map D.int S)), .dat (D.tup [.int (dueN rows t S : Nat), plcD (gots rows t S)]), .dat (.int (dueN rows t S : Nat)), c5, .no, .no, .no]) ?_ rfl) (s_step e4 (ret1 (ρ1 := [.dat (farmD n rows t), .dat (partsD n rows t), .dat (D.tup (List.map D.int S)), .dat (D.tup [.int (dueN rows t S : Nat), plcD (gots rows t S)]), .dat (.int (dueN rows t S : Nat)), c5', c6', c7', .no]) ?_)))))))
    · generalize (D.tup [.int (dueN rows t S : Nat), plcD (gots rows t S)]) = TX at *
      trivial
    all_goals
      clear e1 e4 k1
      generalize (D.tup [.int (dueN rows t S : Nat), plcD (gots rows t S)]) = TX at *
      generalize (.lst (((gots rows t S).filter (inO S)).map optD) : D) = YX at *
      generalize plcD (gots rows t S) = PX at *
      generalize ((dueN rows t S : Nat) : Int) = dx at *
      trivial
  · rfl
end
end Fx
set_option Elab.async false
set_option linter.all false
set_option maxRecDepth 100000
set_option maxHeartbeats 1000000
namespace Fx
open PySem L2
section
variable {n t : Int} {rows : List (List Int)} {be p : List (Option Int)} {dn dn1 : List Int} {sp sp1 : List (Option Int)} {S : List Int}
theorem run_rn {ok : List (Option Int) → Prop} {es : List D} (h : Run n t rows ok dn sp es dn1 sp1) : Rn n t rows be dn sp → Rn n t rows be dn1 sp1 := by
  induction h with
  | nil => exact id
  | cons st _ _ ih => exact fun r => ih (.step r (step_ev st))
theorem rn_rc (h : Rn n t rows be dn sp) : Rc n t rows [] be dn sp := by
  induction h with
  | start => exact .base
  | step _ k ih => exact .step ih k fun s hs => nomatch hs
theorem prs_mem {i : Nat} {v : Int} (h : p[i]? = some (some v)) : (i : Int) ∈ prsI p := by
  have : ∀ (m : Nat) (l : List (Option Int)) (j : Nat), l[j]? = some (some v) → (m + j, some v) ∈ enumL optD m l := fun m l => by
    induction l generalizing m with
    | nil => intro j h; simp at h
    | cons a l ih =>
      intro j h
      cases j with
      | zero =>
        rw [List.getElem?_cons_zero] at h
        rw [Option.some.inj h]
        exact List.mem_cons_self
      | succ j =>
        rw [List.getElem?_cons_succ] at h
        have := ih (m + 1) j h
        rw [show m + 1 + j = m + (j + 1) by omega] at this
        exact List.mem_cons_of_mem _ this
  have h2 := this 0 p i h
  rw [Nat.zero_add] at h2
  exact List.mem_map.mpr ⟨(i, some v), List.mem_filter.mpr ⟨h2, by simp⟩, rfl⟩
theorem prs_nodup : (prsI p).Nodup := by
  have h : ∀ (m : Nat) (l : List (Option Int)), (enumL optD m l).Pairwise (fun a b => a.1 < b.1) ∧ ∀ q ∈ enumL optD m l, m ≤ q.1 := fun m l => by
    induction l generalizing m with
    | nil => exact ⟨List.Pairwise.nil, fun q h => nomatch h⟩
    | cons a l ih =>
      obtain ⟨h1, h2⟩ := ih (m + 1)
      refine ⟨List.pairwise_cons.mpr ⟨fun q hq => ?_, h1⟩, fun q hq => ?_⟩
      · have := h2 q hq
        show m < q.1
        omega
      · rcases List.mem_cons.mp hq with z | z
        · rw [z]; exact Nat.le_refl _
        · have := h2 q z; omega
  unfold prsI
  refine List.pairwise_map.mpr (((h 0 p).1.filter _).imp fun hab => ?_)
  omega
/-- the greatest load's placement can be reached -/
theorem gots_reach (ht : 0 ≤ t) (hrow : ∀ r ∈ rows, RowOk n r) : Rn n t rows (List.replicate rows.length none) [] (gots rows t S) := by
  have hok := gots_ok (rows := rows) (t := t) (S := S)
  have hlen := gots_len (rows := rows) (t := t) (S := S)
  have hno := fun s h => gots_no (rows := rows) (t := t) (S := S) (s := s) h
  have hfar := fun s h => gots_far (rows := rows) (S := S) ht (s := s) h
  generalize gots rows t S = p at *
  have hrep : ∀ i : Nat, i < rows.length → (List.replicate rows.length (none : Option Int))[i]? = some none := fun i hi => by
    rw [List.getElem?_replicate, if_pos hi]
  have ps : ∀ s ∈ prsI p, ∀ o, Pres p o → ¬ Ps rows p s o := fun s hs o ho h => by
    obtain ⟨j, w, rfl, hj⟩ := ho
    unfold Ps at h
    rw [pl_at hj] at h
    exact hno s (mem_prsI hs) w h (List.mem_of_getElem? hj)
  obtain ⟨sp', h1, h2, h3⟩ := run_order (n := n) (t := t) (kp := []) (be := []) hok hrow (prsI p) (List.replicate rows.length none) prs_nodup (fun s _ h => nomatch h) (fun s hs => by
    obtain ⟨i, v, r, rfl, g2, g3, g4, g5, g6⟩ := (mem_prsI hs).at hok
    have := hfar _ (mem_prsI hs)
    rw [pass_idx (mem_prsI hs) hok] at this
    unfold farQ
    exact decide_eq_false (by omega)) (List.Pairwise.imp_of_mem (fun {a b} ha hb _ => by first | exact ps _ ha _ (mem_prsI hb) | exact ps _ hb _ (mem_prsI ha)) prs_nodup) (fun s hs => by
    obtain ⟨i, v, rfl, h⟩ := mem_prsI hs
    have := (List.getElem?_eq_some_iff.mp h).1
    exact ⟨i, v, rfl, hrep i (by omega), h⟩) (fun j v h => by
    have hj := (List.getElem?_eq_some_iff.mp h).1
    rw [List.length_replicate] at hj
    rw [hrep j hj] at h
    cases h) (fun s hs => nomatch hs)
  · have e : sp' = p := by
      apply List.ext_getElem?
      intro j
      rw [h3 j]
      by_cases hj : (j : Int) ∈ prsI p
      · rw [if_pos hj]
      · rw [if_neg hj]
        by_cases hl : j < rows.length
        · rw [hrep j hl, List.getElem?_eq_getElem (by omega : j < p.length)]
          cases ho : p[j]'(by omega) with
          | none => rfl
          | some v => exact absurd (prs_mem (by rw [List.getElem?_eq_getElem (by omega : j < p.length), ho])) hj
        · rw [List.getElem?_eq_none (by rw [List.length_replicate]; omega), List.getElem?_eq_none (by omega)]
    rw [← e]
    exact run_rn h1 .start
/-- nobody is too far back -/
theorem rn_near (hrow : ∀ r ∈ rows, RowOk n r) (t0 : 0 ≤ t) (h : Rn n t rows (List.replicate rows.length none) dn sp) {i : Nat} {v : Int} (hi : sp[i]? = some (some v)) : ∃ r, rows[i]? = some r ∧ v ∈ r ∧ (r.idxOf v : Int) ≤ t := by
  have hno : ∀ (s : Nat) (v : Int), (List.replicate rows.length (none : Option Int))[s]? ≠ some (some v) := fun s v h => (by rw [List.getElem?_replicate] at h; split at h <;> cases h)
  obtain ⟨_, τ, N, J⟩ := rc_inv (st := []) List.length_replicate hrow ⟨fun i v h => absurd h (hno i v), fun s hs => nomatch hs⟩ t0 (rn_rc h)
  exact J.ok i v hi (fun z => nomatch z)
def cntS (S : List Int) (sp : List (Option Int)) : Nat := (sp.filter (inO S)).length
theorem cnt_le : ∀ (rows : List (List Int)) (sp : List (Option Int)), sp.length = rows.length → (∀ (i : Nat) (v : Int) (r : List Int), sp[i]? = some (some v) → rows[i]? = some r → v ∈ S → fltR t S r ≠ []) → cntS S sp ≤ dueN rows t S
  | [], [], _, _ => Nat.le_refl _
  | [], _ :: _, h, _ => by simp at h
  | _ :: _, [], h, _ => by simp at h
  | r :: rows, o :: sp, h, k => by
    have ih := cnt_le rows sp (by simpa using h) fun i v r' h1 h2 h3 => k (i + 1) v r' (by simpa using h1) (by simpa using h2) h3
    unfold cntS dueN gots at ih ⊢
    rw [List.map_cons, List.filter_cons, List.filter_cons]
    by_cases ho : inO S o = true
    · rw [if_pos ho]
      cases o with
      | none => cases ho
      | some v =>
        have h2 := k 0 v r rfl rfl (of_decide_eq_true ho)
        have h3 : gotO t S r ≠ none := fun z => by
          unfold gotO at z
          cases hf : fltR t S r with
          | nil => exact h2 hf
          | cons a l => rw [hf] at z; cases z
        rw [if_pos (by simp [h3]), List.length_cons, List.length_cons]
        omega
    · rw [if_neg ho]
      split
      · rw [List.length_cons]; omega
      · exact ih
theorem cnt_gots : cntS S (gots rows t S) = dueN rows t S := by
  unfold cntS dueN
  rw [List.filter_congr (q := fun o => !decide (o = none))]
  intro o ho
  cases o with
  | none => simp [inO]
  | some v =>
    obtain ⟨i, hi⟩ := List.getElem?_of_mem ho
    obtain ⟨r, _, h2⟩ := gots_at hi
    have := (got_spec h2).2.1
    simp [inO, this]
theorem rn_cnt (hrow : ∀ r ∈ rows, RowOk n r) (t0 : 0 ≤ t) (h : Rn n t rows (List.replicate rows.length none) dn sp) (hl : sp.length = rows.length) : cntS S sp ≤ dueN rows t S := cnt_le rows sp hl fun i v r h1 h2 h3 z => by
  obtain ⟨r', g1, g2, g3⟩ := rn_near hrow t0 h h1
  rw [h2] at g1
  cases g1
  have hn : v ∈ nearR t r := by
    unfold nearR
    rw [List.mem_take_iff_getElem]
    exact ⟨r.idxOf v, by have := List.idxOf_lt_length_of_mem g2; omega, by simp⟩
  have : v ∈ fltR t S r := List.mem_filter.mpr ⟨hn, by simpa using h3⟩
  rw [z] at this
  cases this
theorem max_is {l : List Int} {m : Int} (h1 : m ∈ l) (h2 : ∀ x ∈ l, x ≤ m) : sMax [(D.lst (List.map D.int l))] = some (.int m) := by
  have fm : ∀ (l : List Int) (a : Int), l.foldl (fun m x => if m < x then x else m) a ∈ a :: l ∧ ∀ x ∈ a :: l, x ≤ l.foldl (fun m x => if m < x then x else m) a := fun l => by
    induction l with
    | nil => intro a; exact ⟨List.mem_singleton.mpr rfl, fun x hx => by rw [List.mem_singleton.mp hx]; exact Int.le_refl _⟩
    | cons b l ih =>
      intro a
      rw [List.foldl_cons]
      obtain ⟨g1, g2⟩ := ih (if a < b then b else a)
      refine ⟨?_, fun x hx => ?_⟩
      · rcases List.mem_cons.mp g1 with z | z
        · rw [z]
          split
          · exact List.mem_cons_of_mem _ List.mem_cons_self
          · exact List.mem_cons_self
        · exact List.mem_cons_of_mem _ (List.mem_cons_of_mem _ z)
      · have g3 := g2 (if a < b then b else a) List.mem_cons_self
        have g4 : a ≤ (if a < b then b else a) ∧ b ≤ (if a < b then b else a) := by split <;> omega
        rcases List.mem_cons.mp hx with z | z
        · rw [z]; exact Int.le_trans g4.1 g3
        · rcases List.mem_cons.mp z with z | z
          · rw [z]; exact Int.le_trans g4.2 g3
          · exact g2 x (List.mem_cons_of_mem _ z)
  cases l with
  | nil => cases h1
  | cons a l =>
    obtain ⟨g1, g2⟩ := fm l a
    have e : l.foldl (fun m x => if m < x then x else m) a = m := Int.le_antisymm (h2 _ g1) (g2 _ h1)
    rw [← e]
    simp only [sMax, intsOf_map, Option.bind_some]
    rfl
end
end Fx
set_option Elab.async false
set_option linter.all false
set_option maxRecDepth 100000
set_option maxHeartbeats 1000000
namespace Fx
open PySem L2
local macro_rules
  | `(tactic| trivial) => `(tactic| (repeat (first | with_reducible assumption | ((with_reducible apply vv_id); apply_rules (transparency := .reducible) (maxDepth := 1) (symm := false) (exfalso := false) only [vk0, vk1, vk2, vk3, vk4, vk5, vk6, vk7, vk8, vk9, vk10, vk11, vk12, vk13, vk14, vk15, vk16]) | ((with_reducible apply gg_id); first | apply_rules (transparency := .reducible) (maxDepth := 1) (symm := false) (exfalso := false) only [gk0, gk1, gk2, gk3, gk4, gk5, gk6, gk7, gk8, gk9, gk10, gk11, gk12, gk13, gk14, gk15, gk16] | apply_rules (transparency := .reducible) (maxDepth := 1) (symm := false) (exfalso := false) only [getAt_z, getAt_s]) | ((with_reducible apply ss_id); first | apply_rules (transparency := .reducible) (maxDepth := 1) (symm := false) (exfalso := false) only [sk0, sk1, sk2, sk3, sk4, sk5, sk6, sk7, sk8, sk9, sk10, sk11, sk12, sk13, sk14, sk15, sk16] | apply_rules (transparency := .reducible) (maxDepth := 1) (symm := false) (exfalso := false) only [setAt_z, setAt_s]) | ((with_reducible apply g_seq); first | (with_reducible refine s_step (by with_reducible assumption) ?_) | (with_reducible refine s_retS (by with_reducible assumption)) | apply_rules (transparency := .reducible) (maxDepth := 1) (symm := false) (exfalso := false) only [s_assoc, s_skip, s_asg, s_new, s_expr, s_ret, s_retN, s_t, s_f, s_if, s_par, s_par3, s_new2, s_setIx, s_augV, s_setS, s_raise] | ((with_reducible apply s_frz); apply_rules (transparency := .reducible) (maxDepth := 1) (symm := false) (exfalso := false) only [gk0, gk1, gk2, gk3, gk4, gk5, gk6, gk7, gk8, gk9, gk10, gk11, gk12, gk13, gk14, gk15, gk16]) | ((with_reducible apply s_frzD); apply_rules (transparency := .reducible) (maxDepth := 1) (symm := false) (exfalso := false) only [gk0, gk1, gk2, gk3, gk4, gk5, gk6, gk7, gk8, gk9, gk10, gk11, gk12, gk13, gk14, gk15, gk16]) | (with_reducible refine s_for ?_ (by with_reducible assumption) ?_) | (with_reducible refine s_forR ?_ (by with_reducible assumption)) | (with_reducible refine s_while (by with_reducible assumption) ?_) | (with_reducible refine s_whileR (by with_reducible assumption)) | (with_reducible refine s_for (?_) (by assumption) ?_)) | apply_rules (transparency := .reducible) (maxDepth := 1) (symm := false) (exfalso := false) only [v_pure, x_callD, y_op2, y_call1, y_call2, y_sl1, y_sl2, y_tup2, y_tup1, y_fo1, y_fo2, y_fo0, y_fo3, y_fn1, y_fn2, y_fn3, y_fn4, y_fn5, x_op2, p_dat, p_own, v_var, x_callD, x_callF, x_callK, x_callW, x_callN, x_make, x_call, x_tup, x_lst, x_neg, x_meth, x_methWR, x_methWD, x_methW, x_sl, x_rev, x_fld, x_chain, x_lenF, x_lenset, x_methF, x_isF, x_eqF, x_kd, x_neF, x_makeK, x_methK, x_cmp, x_lrn, pt_s, pt_n, i_seq, i_en, i_rng, i_zip, b_b, b_not, b_and, b_or, x_if, x_andV, x_orV, x_notV, andK_t, andK_f, orK_f, orK_t, chK_t, chK_f, ifK_t, ifK_f, x_lcU, x_lc, s_end, pk_n, pk_c, at_z, at_s, put_n, put_c, wl_n, wl_c, mp_r, tg_nm, tg_tp, tgs_n, tgs_c, pl_n, pl_c, rl_n, rl_c, ra_n, ra_d, ra_o, sq_n, sq_c, app_n, app_c, r_dat, r_own, lcE_i, no_n, no_c, nw_d, nw_n, nw_o, nb_lt, nb_lf, nb_ltn, nb_lfn] | ((with_reducible apply nb_id); first | with_reducible exact nb_nf rfl | with_reducible exact nb_t rfl | exact nb_h (by with_reducible assumption) | exact nb_hf (by with_reducible assumption) | exact nb_hn (by with_reducible assumption) | exact nb_hnf (by with_reducible assumption) | exact nb_t (by with_reducible assumption) | exact nb_f (by with_reducible assumption) | exact nb_nt (by with_reducible assumption) | exact nb_nf (by with_reducible assumption) | exact nb_t (by omega) | exact nb_f (by omega) | exact nb_nt (by omega) | exact nb_nf (by omega) | exact nb_t (by decide) | exact nb_f (by decide) | exact nb_nt (by decide) | exact nb_nf (by decide)) | apply_rules (transparency := .reducible) (maxDepth := 1) (symm := false) (exfalso := false) only [sEq_int, sNe_int, sEq_opt, sNe_opt, sIsN_opt, sNotN_opt, sNotN_int, sIsN_int, sNotN_tup, sIsN_tup, sNotN_lst, sIsN_lst, sNotN_non, sIsN_non, sIn_tup, sNin_tup, sIn_lst, sNin_lst, sEq_tup, sEq_lst, sNe_lst, sNe_tup, sIx_plc, sIx_rows, sIx_rowsL, sIn_row, sNin_row, sLen_row, sLen_plc, isTup_row, isTup_plc, sLen_ints, sLen_tints, sLen_rows, sLen_rowsT, sLen_lst, sLen_tup, isTupD] | ((with_reducible apply is_id); exact is_r) | ((with_reducible apply f_od); exact rfl) | ((with_reducible apply f_ol); exact rfl) | ((with_reducible apply f_op); exact rfl) | ((with_reducible apply f_bt); exact rfl) | ((with_reducible apply f_on); exact rfl) | ((with_reducible apply f_ld); exact rfl) | intro x hx | intro hb | omega | with_reducible apply s_one)))
section
variable {n t : Int} {rows : List (List Int)} {p : List (Option Int)} {S : List Int} {w : D} {c3 c4 c6 c8 c9 c10 c11 : Cell}
theorem ixL20 (l : List D) (k : Nat) {d : D} (h : l[k]? = some d) : sIx (.lst l) (.int (k : Int)) = some d := by
  show atI l _ = _
  rw [atI_nat, h]
theorem pn_cnt : sNe (cntL n p) (cntL n p) = some (.bl false) := sNe_same (k := 1) (.lst fun d hd => by
  obtain ⟨v, _, rfl⟩ := List.mem_map.mp hd
  exact .int)
theorem cnt3 (n0 : 0 ≤ n) (n2 : n ≤ 30) : (mLc (mRange1 (mOp2 sIx (.dat (mVar 1)) (.dat (M.pure (.int 0))))) (gNm 5) (M.pure true) (mMeth isTup sTcount (.dat (mVar 3)) [(.dat (mVar 5))]) [5]) [.own (w), .dat (partsD n rows t), .dat (farmD n rows t), .dat (plcD p), c4, .no, c6, .no, c8, c9, c10, c11] = .ok (cntL n p) [.own (w), .dat (partsD n rows t), .dat (farmD n rows t), .dat (plcD p), c4, .no, c6, .no, c8, c9, c10, c11] := by
  have q1 : sIx (partsD n rows t) (.int 0) = some (.int n) := rfl
  unfold cntL
  (repeat (first | with_reducible assumption | ((with_reducible apply vv_id); apply_rules (transparency := .reducible) (maxDepth := 1) (symm := false) (exfalso := false) only [vk0, vk1, vk2, vk3, vk4, vk5, vk6, vk7, vk8, vk9, vk10, vk11, vk12, vk13, vk14, vk15, vk16]) | ((with_reducible apply gg_id); first | apply_rules (transparency := .reducible) (maxDepth := 1) (symm := false) (exfalso := false) only [gk0, gk1, gk2, gk3, gk4, gk5, gk6, gk7, gk8, gk9, gk10, gk11, gk12, gk13, gk14, gk15, gk16] | apply_rules (transparency := .reducible) (maxDepth := 1) (symm := false) (exfalso := false) only [getAt_z, getAt_s]) | ((with_reducible apply ss_id); first | apply_rules (transparency := .reducible) (maxDepth := 1) (symm := false) (exfalso := false) only [sk0, sk1, sk2, sk3, sk4, sk5, sk6, sk7, sk8, sk9, sk10, sk11, sk12, sk13, sk14, sk15, sk16] | apply_rules (transparency := .reducible) (maxDepth := 1) (symm := false) (exfalso := false) only [setAt_z, setAt_s]) | ((with_reducible apply g_seq); first | (with_reducible refine s_step (by with_reducible assumption) ?_) | (with_reducible refine s_retS (by with_reducible assumption)) | apply_rules (transparency := .reducible) (maxDepth := 1) (symm := false) (exfalso := false) only [s_assoc, s_skip, s_asg, s_new, s_expr, s_ret, s_retN, s_t, s_f, s_if, s_par, s_par3, s_new2, s_setIx, s_augV, s_setS, s_raise] | ((with_reducible apply s_frz); apply_rules (transparency := .reducible) (maxDepth := 1) (symm := false) (exfalso := false) only [gk0, gk1, gk2, gk3, gk4, gk5, gk6, gk7, gk8, gk9, gk10, gk11, gk12, gk13, gk14, gk15, gk16]) | ((with_reducible apply s_frzD); apply_rules (transparency := .reducible) (maxDepth := 1) (symm := false) (exfalso := false) only [gk0, gk1, gk2, gk3, gk4, gk5, gk6, gk7, gk8, gk9, gk10, gk11, gk12, gk13, gk14, gk15, gk16]) | (with_reducible refine s_for ?_ (by with_reducible assumption) ?_) | (with_reducible refine s_forR ?_ (by with_reducible assumption)) | (with_reducible refine s_while (by with_reducible assumption) ?_) | (with_reducible refine s_whileR (by with_reducible assumption)) | (with_reducible refine s_for (?_) (by assumption) ?_)) | apply_rules (transparency := .reducible) (maxDepth := 1) (symm := false) (exfalso := false) only [v_pure, x_callD, y_op2, y_call1, y_call2, y_sl1, y_sl2, y_tup2, y_tup1, y_fo1, y_fo2, y_fo0, y_fo3, y_fn1, y_fn2, y_fn3, y_fn4, y_fn5, x_op2, p_dat, p_own, v_var, x_callD, x_callF, x_callK, x_callW, x_callN, x_make, x_call, x_tup, x_lst, x_neg, x_meth, x_methWR, x_methWD, x_methW, x_sl, x_rev, x_fld, x_chain, x_lenF, x_lenset, x_methF, x_isF, x_eqF, x_kd, x_neF, x_makeK, x_methK, x_cmp, x_lrn, pt_s, pt_n, i_seq, i_en, i_rng, i_zip, b_b, b_not, b_and, b_or, x_if, x_andV, x_orV, x_notV, andK_t, andK_f, orK_f, orK_t, chK_t, chK_f, ifK_t, ifK_f, x_lcU, x_lc, s_end, pk_n, pk_c, at_z, at_s, put_n, put_c, wl_n, wl_c, mp_r, tg_nm, tg_tp, tgs_n, tgs_c, pl_n, pl_c, rl_n, rl_c, ra_n, ra_d, ra_o, sq_n, sq_c, app_n, app_c, r_dat, r_own, lcE_i, no_n, no_c, nw_d, nw_n, nw_o, nb_lt, nb_lf, nb_ltn, nb_lfn] | ((with_reducible apply nb_id); first | with_reducible exact nb_nf rfl | with_reducible exact nb_t rfl | exact nb_h (by with_reducible assumption) | exact nb_hf (by with_reducible assumption) | exact nb_hn (by with_reducible assumption) | exact nb_hnf (by with_reducible assumption) | exact nb_t (by with_reducible assumption) | exact nb_f (by with_reducible assumption) | exact nb_nt (by with_reducible assumption) | exact nb_nf (by with_reducible assumption) | exact nb_t (by omega) | exact nb_f (by omega) | exact nb_nt (by omega) | exact nb_nf (by omega) | exact nb_t (by decide) | exact nb_f (by decide) | exact nb_nt (by decide) | exact nb_nf (by decide)) | with_reducible exact cnt_plc _ _ | apply_rules (transparency := .reducible) (maxDepth := 1) (symm := false) (exfalso := false) only [sEq_int, sNe_int, sEq_opt, sNe_opt, sIsN_opt, sNotN_opt, sNotN_int, sIsN_int, sNotN_tup, sIsN_tup, sNotN_lst, sIsN_lst, sNotN_non, sIsN_non, sIn_tup, sNin_tup, sIn_lst, sNin_lst, sEq_tup, sEq_lst, sNe_lst, sNe_tup, sIx_plc, sIx_rows, sIx_rowsL, sIn_row, sNin_row, sLen_row, sLen_plc, isTup_row, isTup_plc, sLen_ints, sLen_tints, sLen_rows, sLen_rowsT, sLen_lst, sLen_tup, isTupD] | ((with_reducible apply is_id); exact is_r) | ((with_reducible apply f_od); exact rfl) | ((with_reducible apply f_ol); exact rfl) | ((with_reducible apply f_op); exact rfl) | ((with_reducible apply f_bt); exact rfl) | ((with_reducible apply f_on); exact rfl) | ((with_reducible apply f_ld); exact rfl) | intro x hx | intro hb | omega | with_reducible apply s_one))
theorem cnt6 (n0 : 0 ≤ n) (n2 : n ≤ 30) : (mLc (mRange1 (mOp2 sIx (.dat (mVar 1)) (.dat (M.pure (.int 0))))) (gNm 5) (M.pure true) (mMeth isTup sTcount (.dat (mVar 6)) [(.dat (mVar 5))]) [5]) [.own (w), .dat (partsD n rows t), .dat (farmD n rows t), c3, c4, .no, .dat (plcD p), .no, c8, c9, c10, c11] = .ok (cntL n p) [.own (w), .dat (partsD n rows t), .dat (farmD n rows t), c3, c4, .no, .dat (plcD p), .no, c8, c9, c10, c11] := by
  have q1 : sIx (partsD n rows t) (.int 0) = some (.int n) := rfl
  unfold cntL
  (repeat (first | with_reducible assumption | ((with_reducible apply vv_id); apply_rules (transparency := .reducible) (maxDepth := 1) (symm := false) (exfalso := false) only [vk0, vk1, vk2, vk3, vk4, vk5, vk6, vk7, vk8, vk9, vk10, vk11, vk12, vk13, vk14, vk15, vk16]) | ((with_reducible apply gg_id); first | apply_rules (transparency := .reducible) (maxDepth := 1) (symm := false) (exfalso := false) only [gk0, gk1, gk2, gk3, gk4, gk5, gk6, gk7, gk8, gk9, gk10, gk11, gk12, gk13, gk14, gk15, gk16] | apply_rules (transparency := .reducible) (maxDepth := 1) (symm := false) (exfalso := false) only [getAt_z, getAt_s]) | ((with_reducible apply ss_id); first | apply_rules (transparency := .reducible) (maxDepth := 1) (symm := false) (exfalso := false) only [sk0, sk1, sk2, sk3, sk4, sk5, sk6, sk7, sk8, sk9, sk10, sk11, sk12, sk13, sk14, sk15, sk16] | apply_rules (transparency := .reducible) (maxDepth := 1) (symm := false) (exfalso := false) only [setAt_z, setAt_s]) | ((with_reducible apply g_seq); first | (with_reducible refine s_step (by with_reducible assumption) ?_) | (with_reducible refine s_retS (by with_reducible assumption)) | apply_rules (transparency := .reducible) (maxDepth := 1) (symm := false) (exfalso := false) only [s_assoc, s_skip, s_asg, s_new, s_expr, s_ret, s_retN, s_t, s_f, s_if, s_par, s_par3, s_new2, s_setIx, s_augV, s_setS, s_raise] | ((with_reducible apply s_frz); apply_rules (transparency := .reducible) (maxDepth := 1) (symm := false) (exfalso := false) only [gk0, gk1, gk2, gk3, gk4, gk5, gk6, gk7, gk8, gk9, gk10, gk11, gk12, gk13, gk14, gk15, gk16]) | ((with_reducible apply s_frzD); apply_rules (transparency := .reducible) (maxDepth := 1) (symm := false) (exfalso := false) only [gk0, gk1, gk2, gk3, gk4, gk5, gk6, gk7, gk8, gk9, gk10, gk11, gk12, gk13, gk14, gk15, gk16]) | (with_reducible refine s_for ?_ (by with_reducible assumption) ?_) | (with_reducible refine s_forR ?_ (by with_reducible assumption)) | (with_reducible refine s_while (by with_reducible assumption) ?_) | (with_reducible refine s_whileR (by with_reducible assumption)) | (with_reducible refine s_for (?_) (by assumption) ?_)) | apply_rules (transparency := .reducible) (maxDepth := 1) (symm := false) (exfalso := false) only [v_pure, x_callD, y_op2, y_call1, y_call2, y_sl1, y_sl2, y_tup2, y_tup1, y_fo1, y_fo2, y_fo0, y_fo3, y_fn1, y_fn2, y_fn3, y_fn4, y_fn5, x_op2, p_dat, p_own, v_var, x_callD, x_callF, x_callK, x_callW, x_callN, x_make, x_call, x_tup, x_lst, x_neg, x_meth, x_methWR, x_methWD, x_methW, x_sl, x_rev, x_fld, x_chain, x_lenF, x_lenset, x_methF, x_isF, x_eqF, x_kd, x_neF, x_makeK, x_methK, x_cmp, x_lrn, pt_s, pt_n, i_seq, i_en, i_rng, i_zip, b_b, b_not, b_and, b_or, x_if, x_andV, x_orV, x_notV, andK_t, andK_f, orK_f, orK_t, chK_t, chK_f, ifK_t, ifK_f, x_lcU, x_lc, s_end, pk_n, pk_c, at_z, at_s, put_n, put_c, wl_n, wl_c, mp_r, tg_nm, tg_tp, tgs_n, tgs_c, pl_n, pl_c, rl_n, rl_c, ra_n, ra_d, ra_o, sq_n, sq_c, app_n, app_c, r_dat, r_own, lcE_i, no_n, no_c, nw_d, nw_n, nw_o, nb_lt, nb_lf, nb_ltn, nb_lfn] | ((with_reducible apply nb_id); first | with_reducible exact nb_nf rfl | with_reducible exact nb_t rfl | exact nb_h (by with_reducible assumption) | exact nb_hf (by with_reducible assumption) | exact nb_hn (by with_reducible assumption) | exact nb_hnf (by with_reducible assumption) | exact nb_t (by with_reducible assumption) | exact nb_f (by with_reducible assumption) | exact nb_nt (by with_reducible assumption) | exact nb_nf (by with_reducible assumption) | exact nb_t (by omega) | exact nb_f (by omega) | exact nb_nt (by omega) | exact nb_nf (by omega) | exact nb_t (by decide) | exact nb_f (by decide) | exact nb_nt (by decide) | exact nb_nf (by decide)) | with_reducible exact cnt_plc _ _ | apply_rules (transparency := .reducible) (maxDepth := 1) (symm := false) (exfalso := false) only [sEq_int, sNe_int, sEq_opt, sNe_opt, sIsN_opt, sNotN_opt, sNotN_int, sIsN_int, sNotN_tup, sIsN_tup, sNotN_lst, sIsN_lst, sNotN_non, sIsN_non, sIn_tup, sNin_tup, sIn_lst, sNin_lst, sEq_tup, sEq_lst, sNe_lst, sNe_tup, sIx_plc, sIx_rows, sIx_rowsL, sIn_row, sNin_row, sLen_row, sLen_plc, isTup_row, isTup_plc, sLen_ints, sLen_tints, sLen_rows, sLen_rowsT, sLen_lst, sLen_tup, isTupD] | ((with_reducible apply is_id); exact is_r) | ((with_reducible apply f_od); exact rfl) | ((with_reducible apply f_ol); exact rfl) | ((with_reducible apply f_op); exact rfl) | ((with_reducible apply f_bt); exact rfl) | ((with_reducible apply f_on); exact rfl) | ((with_reducible apply f_ld); exact rfl) | intro x hx | intro hb | omega | with_reducible apply s_one))
theorem lo_lc : ∀ (rs : List (List Int)), (∀ r ∈ rs, r.length ≤ 4000) → ∀ (a b d : Int) (c7 : Cell), ∃ (a' b' d' : Int) (m : List (Option Int)) (c7' : Cell), lcM (gNm 7) (M.pure true) (mOp2 sIx (.dat (mOp2 sAdd (.dat (mLst [(M.pure .non)])) (.dat (mCall sList [(.dat (mVar 7))])))) (.dat (mCallF m_law_take [(.own 0), (.dat (mOp2 sAdd (.dat (mCall sLen [(.dat (mVar 7))])) (.dat (M.pure (.int 1)))))]))) [7] (rs.map rowD) [.own ((wellD a b d)), .dat (partsD n rows t), .dat (farmD n rows t), .dat (plcD p), c4, .no, .no, c7, .no, .no, .no, .no] = some (m.map optD, [.own ((wellD a' b' d')), .dat (partsD n rows t), .dat (farmD n rows t), .dat (plcD p), c4, .no, .no, c7', .no, .no, .no, .no]) ∧ m.length = rs.length ∧ ∀ (i : Nat) (r : List Int) (v : Int), rs[i]? = some r → m[i]? = some (some v) → v ∈ r
  | [], _, a, b, d, c7 => ⟨a, b, d, [], c7, rfl, rfl, fun i r v h => by simp at h⟩
  | r :: rs, hrs, a, b, d, c7 => by
    have hr := hrs r List.mem_cons_self
    obtain ⟨z, a1, b1, d1, e1, h1, h2⟩ := e_draw a b d (lim := ((r.length : Nat) : Int) + 1) (by omega) (by omega)
    obtain ⟨a', b', d', m, c7', e, hm, h⟩ := lo_lc rs (fun x hx => hrs x (List.mem_cons_of_mem _ hx)) a1 b1 d1 (.dat (rowD r))
    have k1 : sList [rowD r] = some (D.lst (List.map D.int r)) := rfl
    have k2 : sAdd (.lst [.non]) (D.lst (List.map D.int r)) = some (.lst (.non :: r.map .int)) := sAdd_lst (by rw [List.length_singleton, List.length_map]; omega)
    have k3 : sLen [rowD r] = some (.int ((r.length : Nat) : Int)) := sLen_tints r
    obtain ⟨o, k4, ho⟩ : ∃ o : Option Int, sIx (.lst (.non :: r.map .int)) (.int z) = some (optD o) ∧ ∀ v, o = some v → v ∈ r := by
      obtain ⟨j, rfl⟩ : ∃ j : Nat, z = (j : Int) := ⟨z.toNat, by omega⟩
      cases j with
      | zero => exact ⟨none, ixL20 _ 0 rfl, fun v h => by cases h⟩
      | succ j =>
        have hj : r[j]? = some r[j] := List.getElem?_eq_getElem (by omega)
        refine ⟨some r[j], ixL20 _ (j + 1) ?_, fun v h => by cases h; exact List.getElem_mem _⟩
        rw [List.getElem?_cons_succ, List.getElem?_map, hj]
        rfl
    have g1 : gNm 7 (rowD r) (wipeC [.own ((wellD a b d)), .dat (partsD n rows t), .dat (farmD n rows t), .dat (plcD p), c4, .no, .no, c7, .no, .no, .no, .no] [7]) = some [.own ((wellD a b d)), .dat (partsD n rows t), .dat (farmD n rows t), .dat (plcD p), c4, .no, .no, .dat (rowD r), .no, .no, .no, .no] := rfl
    have g2 : (mOp2 sIx (.dat (mOp2 sAdd (.dat (mLst [(M.pure .non)])) (.dat (mCall sList [(.dat (mVar 7))])))) (.dat (mCallF m_law_take [(.own 0), (.dat (mOp2 sAdd (.dat (mCall sLen [(.dat (mVar 7))])) (.dat (M.pure (.int 1)))))]))) [.own ((wellD a b d)), .dat (partsD n rows t), .dat (farmD n rows t), .dat (plcD p), c4, .no, .no, .dat (rowD r), .no, .no, .no, .no] = .ok (optD o) [.own ((wellD a1 b1 d1)), .dat (partsD n rows t), .dat (farmD n rows t), .dat (plcD p), c4, .no, .no, .dat (rowD r), .no, .no, .no, .no] := by
      generalize (.lst (.non :: r.map .int) : D) = LN at *
      trivial
    refine ⟨a', b', d', o :: m, c7', ?_, by rw [List.length_cons, List.length_cons, hm], fun i r' v hi hv => ?_⟩
    · rw [List.map_cons]
      unfold lcM
      simp only [g1, M.pure, g2, if_true, e]
      rfl
    · cases i with
      | zero =>
        rw [List.getElem?_cons_zero] at hi hv
        cases hi
        exact ho v (Option.some.inj hv)
      | succ i => exact h i r' v hi hv
theorem e_lo (hrow : ∀ r ∈ rows, RowOk n r) (a b d : Int) : ∃ (a' b' d' : Int) (m : List (Option Int)), (mLc (mSeqI (mOp2 sIx (.dat (mVar 1)) (.dat (M.pure (.int 1))))) (gNm 7) (M.pure true) (mOp2 sIx (.dat (mOp2 sAdd (.dat (mLst [(M.pure .non)])) (.dat (mCall sList [(.dat (mVar 7))])))) (.dat (mCallF m_law_take [(.own 0), (.dat (mOp2 sAdd (.dat (mCall sLen [(.dat (mVar 7))])) (.dat (M.pure (.int 1)))))]))) [7]) [.own ((wellD a b d)), .dat (partsD n rows t), .dat (farmD n rows t), .dat (plcD p), c4, .no, .no, .no, .no, .no, .no, .no] = .ok (.lst (m.map optD)) [.own ((wellD a' b' d')), .dat (partsD n rows t), .dat (farmD n rows t), .dat (plcD p), c4, .no, .no, .no, .no, .no, .no, .no] ∧ m.length = rows.length ∧ PlOk rows m := by
  obtain ⟨a', b', d', m, c6', e, h1, h2⟩ := lo_lc (n := n) (t := t) (rows := rows) (p := p) (c4 := c4) rows (fun r hr => (hrow r hr).2.2.2) a b d .no
  have q0 : sIx (partsD n rows t) (.int 1) = some (D.lst (rows.map rowD)) := rfl
  have g : mSeqI (mOp2 sIx (.dat (mVar 1)) (.dat (M.pure (.int 1)))) [.own ((wellD a b d)), .dat (partsD n rows t), .dat (farmD n rows t), .dat (plcD p), c4, .no, .no, .no, .no, .no, .no, .no] = .ok (rows.map rowD) [.own ((wellD a b d)), .dat (partsD n rows t), .dat (farmD n rows t), .dat (plcD p), c4, .no, .no, .no, .no, .no, .no, .no] := by
    trivial
  refine ⟨a', b', d', m, mLc_got g (by rfl) e, h1, fun s v hv => ?_⟩
  have hs := (List.getElem?_eq_some_iff.mp hv).1
  have hr : rows[s]? = some rows[s] := List.getElem?_eq_getElem (by omega)
  exact ⟨rows[s], hr, h2 s rows[s] v hr hv⟩
/-- some servers drawn -/
theorem e_some20 (n0 : 0 ≤ n) (n2 : n ≤ 30) {lim : Int} (l0 : 0 < lim) (l1 : lim < 100) (a b d : Int) : ∃ (a' b' d' : Int) (S : List Int), (∀ c3 c4 c6 c8 c9 c10 c11 : Cell, mCall sTuple [(.dat (mSl sCut (.dat (mCallF m_law_mixed [(.own 0), (.dat (mListRg (mOp2 sIx (.dat (mVar 1)) (.dat (M.pure (.int 0))))))])) none (some (mCallF m_law_take [(.own 0), (.dat (M.pure (.int lim)))]))))] [.own (wellD a b d), .dat (partsD n rows t), .dat (farmD n rows t), c3, c4, .no, c6, .no, c8, c9, c10, c11] = .ok (D.tup (List.map D.int S)) [.own (wellD a' b' d'), .dat (partsD n rows t), .dat (farmD n rows t), c3, c4, .no, c6, .no, c8, c9, c10, c11]) ∧ (∀ x ∈ S, 0 ≤ x ∧ x < n) ∧ S.Nodup ∧ S.length ≤ 1000 := by
  obtain ⟨a1, b1, d1, m, e1, pm⟩ := e_mixed a b d (D.lst (List.map D.int (rng n.toNat))) (rng n.toNat) (sList_ints _) (by rw [rng_len]; omega)
  obtain ⟨k, a2, b2, d2, e2, k0, k1⟩ := e_draw a1 b1 d1 (lim := lim) l0 (by omega)
  have q0 : sIx (partsD n rows t) (.int 0) = some (.int n) := rfl
  have q1 : sCut (D.lst (List.map D.int m)) none (some k) = some (D.lst (List.map D.int (m.take k.toNat))) := cutHi m k0
  have q2 : sTuple [(D.lst (List.map D.int (m.take k.toNat)))] = some (D.tup (List.map D.int (m.take k.toNat))) := rfl
  refine ⟨a2, b2, d2, m.take k.toNat, fun c3 c4 c6 c8 c9 c10 c11 => ?_, fun x hx => ?_, ?_, ?_⟩
  · generalize (D.lst (List.map D.int m)) = MX at *
    generalize (D.lst (List.map D.int (m.take k.toNat))) = TX at *
    generalize (D.tup (List.map D.int (m.take k.toNat))) = UX at *
    trivial
  · have := rng_mem (pm.mem_iff.mp (List.mem_of_mem_take hx))
    omega
  · exact (pm.nodup_iff.mpr ((asc_rng n.toNat).imp fun h => Int.ne_of_lt h)).sublist (List.take_sublist _ _)
  · have := pm.length_eq
    rw [rng_len] at this
    rw [List.length_take]
    omega
end
end Fx
set_option Elab.async false
set_option linter.all false
set_option maxRecDepth 100000
set_option maxHeartbeats 1000000
namespace Fx
open PySem L2
local macro_rules
  | `(tactic| trivial) => `(tactic| (repeat (first | with_reducible assumption | ((with_reducible apply vv_id); apply_rules (transparency := .reducible) (maxDepth := 1) (symm := false) (exfalso := false) only [vk0, vk1, vk2, vk3, vk4, vk5, vk6, vk7, vk8, vk9, vk10, vk11, vk12, vk13, vk14, vk15, vk16]) | ((with_reducible apply gg_id); first | apply_rules (transparency := .reducible) (maxDepth := 1) (symm := false) (exfalso := false) only [gk0, gk1, gk2, gk3, gk4, gk5, gk6, gk7, gk8, gk9, gk10, gk11, gk12, gk13, gk14, gk15, gk16] | apply_rules (transparency := .reducible) (maxDepth := 1) (symm := false) (exfalso := false) only [getAt_z, getAt_s]) | ((with_reducible apply ss_id); first | apply_rules (transparency := .reducible) (maxDepth := 1) (symm := false) (exfalso := false) only [sk0, sk1, sk2, sk3, sk4, sk5, sk6, sk7, sk8, sk9, sk10, sk11, sk12, sk13, sk14, sk15, sk16] | apply_rules (transparency := .reducible) (maxDepth := 1) (symm := false) (exfalso := false) only [setAt_z, setAt_s]) | ((with_reducible apply g_seq); first | (with_reducible refine s_step (by with_reducible assumption) ?_) | (with_reducible refine s_retS (by with_reducible assumption)) | apply_rules (transparency := .reducible) (maxDepth := 1) (symm := false) (exfalso := false) only [s_assoc, s_skip, s_asg, s_new, s_expr, s_ret, s_retN, s_t, s_f, s_if, s_par, s_par3, s_new2, s_setIx, s_augV, s_setS, s_raise] | ((with_reducible apply s_frz); apply_rules (transparency := .reducible) (maxDepth := 1) (symm := false) (exfalso := false) only [gk0, gk1, gk2, gk3, gk4, gk5, gk6, gk7, gk8, gk9, gk10, gk11, gk12, gk13, gk14, gk15, gk16]) | ((with_reducible apply s_frzD); apply_rules (transparency := .reducible) (maxDepth := 1) (symm := false) (exfalso := false) only [gk0, gk1, gk2, gk3, gk4, gk5, gk6, gk7, gk8, gk9, gk10, gk11, gk12, gk13, gk14, gk15, gk16]) | (with_reducible refine s_for ?_ (by with_reducible assumption) ?_) | (with_reducible refine s_forR ?_ (by with_reducible assumption)) | (with_reducible refine s_while (by with_reducible assumption) ?_) | (with_reducible refine s_whileR (by with_reducible assumption)) | (with_reducible refine s_for (?_) (by assumption) ?_)) | apply_rules (transparency := .reducible) (maxDepth := 1) (symm := false) (exfalso := false) only [v_pure, x_callD, y_op2, y_call1, y_call2, y_sl1, y_sl2, y_tup2, y_tup1, y_fo1, y_fo2, y_fo0, y_fo3, y_fn1, y_fn2, y_fn3, y_fn4, y_fn5, x_op2, p_dat, p_own, v_var, x_callD, x_callF, x_callK, x_callW, x_callN, x_make, x_call, x_tup, x_lst, x_neg, x_meth, x_methWR, x_methWD, x_methW, x_sl, x_rev, x_fld, x_chain, x_lenF, x_lenset, x_methF, x_isF, x_eqF, x_kd, x_neF, x_makeK, x_methK, x_cmp, x_lrn, pt_s, pt_n, i_seq, i_en, i_rng, i_zip, b_b, b_not, b_and, b_or, x_if, x_andV, x_orV, x_notV, andK_t, andK_f, orK_f, orK_t, chK_t, chK_f, ifK_t, ifK_f, x_lcU, x_lc, s_end, pk_n, pk_c, at_z, at_s, put_n, put_c, wl_n, wl_c, mp_r, tg_nm, tg_tp, tgs_n, tgs_c, pl_n, pl_c, rl_n, rl_c, ra_n, ra_d, ra_o, sq_n, sq_c, app_n, app_c, r_dat, r_own, lcE_i, no_n, no_c, nw_d, nw_n, nw_o, nb_lt, nb_lf, nb_ltn, nb_lfn] | ((with_reducible apply nb_id); first | with_reducible exact nb_nf rfl | with_reducible exact nb_t rfl | exact nb_h (by with_reducible assumption) | exact nb_hf (by with_reducible assumption) | exact nb_hn (by with_reducible assumption) | exact nb_hnf (by with_reducible assumption) | exact nb_t (by with_reducible assumption) | exact nb_f (by with_reducible assumption) | exact nb_nt (by with_reducible assumption) | exact nb_nf (by with_reducible assumption) | exact nb_t (by omega) | exact nb_f (by omega) | exact nb_nt (by omega) | exact nb_nf (by omega) | exact nb_t (by decide) | exact nb_f (by decide) | exact nb_nt (by decide) | exact nb_nf (by decide)) | apply_rules (transparency := .reducible) (maxDepth := 1) (symm := false) (exfalso := false) only [sEq_int, sNe_int, sEq_opt, sNe_opt, sIsN_opt, sNotN_opt, sNotN_int, sIsN_int, sNotN_tup, sIsN_tup, sNotN_lst, sIsN_lst, sNotN_non, sIsN_non, sIn_tup, sNin_tup, sIn_lst, sNin_lst, sEq_tup, sEq_lst, sNe_lst, sNe_tup, sIx_plc, sIx_rows, sIx_rowsL, sIn_row, sNin_row, sLen_row, sLen_plc, isTup_row, isTup_plc, sLen_ints, sLen_tints, sLen_rows, sLen_rowsT, sLen_lst, sLen_tup, isTupD] | ((with_reducible apply is_id); exact is_r) | ((with_reducible apply f_od); exact rfl) | ((with_reducible apply f_ol); exact rfl) | ((with_reducible apply f_op); exact rfl) | ((with_reducible apply f_bt); exact rfl) | ((with_reducible apply f_on); exact rfl) | ((with_reducible apply f_ld); exact rfl) | intro x hx | intro hb | omega | with_reducible apply s_one)))
section
variable {n t : Int} {rows : List (List Int)} {p : List (Option Int)} {S : List Int} {w : D} {c3 c4 c6 c8 c9 c10 c11 : Cell}
theorem rg_turn (hF : FarmOk n rows) (t0 : 0 ≤ t) (a b d : Int) (c3 c4 c6 c8 c9 : Cell) : ∃ (a' b' d' : Int) (c9' : Cell), (mSeq (mAsg (mCall sTuple [(.dat (mSl sCut (.dat (mCallF m_law_mixed [(.own 0), (.dat (mListRg (mOp2 sIx (.dat (mVar 1)) (.dat (M.pure (.int 0))))))])) none (some (mCallF m_law_take [(.own 0), (.dat (M.pure (.int 5)))]))))]) (gNm 9)) (mIfS (mNot (mB (mCallF m_law_greatest_right [(.dat (mVar 2)), (.dat (mVar 1)), (.dat (mVar 9))]))) (mRet (M.pure (.bl false))) mSkip)) [.own (wellD a b d), .dat (partsD n rows t), .dat (farmD n rows t), c3, c4, .no, c6, .no, c8, c9, .no, .no] = .next [.own (wellD a' b' d'), .dat (partsD n rows t), .dat (farmD n rows t), c3, c4, .no, c6, .no, c8, c9', .no, .no] := by
  have n1 := hF.n1
  obtain ⟨a1, b1, d1, S, e1, h1, h2, h3⟩ := e_some20 (n := n) (t := t) (rows := rows) (by omega) hF.n2 (lim := 5) (by omega) (by omega) a b d
  have e2 := e_greatest_right hF t0 h1 h2 h3
  refine ⟨a1, b1, d1, .dat (D.tup (List.map D.int S)), s_step (asg_ok20 (e1 c3 c4 c6 c8 c9 .no .no) rfl) ?_⟩
  show mIfS _ _ _ [.own (wellD a1 b1 d1), .dat (partsD n rows t), .dat (farmD n rows t), c3, c4, .no, c6, .no, c8, .dat (D.tup (List.map D.int S)), .no, .no] = .next [.own (wellD a1 b1 d1), .dat (partsD n rows t), .dat (farmD n rows t), c3, c4, .no, c6, .no, c8, .dat (D.tup (List.map D.int S)), .no, .no]
  clear e1
  generalize (D.tup (List.map D.int S)) = SX at *
  refine s_one ?_
  trivial
theorem rg_loop (hF : FarmOk n rows) (t0 : 0 ≤ t) (a b d : Int) (c3 c4 c6 : Cell) : ∃ (a' b' d' : Int) (c8' c9' : Cell), mFor (mRange1 (M.pure (.int 4))) (gNm 8) (mSeq (mAsg (mCall sTuple [(.dat (mSl sCut (.dat (mCallF m_law_mixed [(.own 0), (.dat (mListRg (mOp2 sIx (.dat (mVar 1)) (.dat (M.pure (.int 0))))))])) none (some (mCallF m_law_take [(.own 0), (.dat (M.pure (.int 5)))]))))]) (gNm 9)) (mIfS (mNot (mB (mCallF m_law_greatest_right [(.dat (mVar 2)), (.dat (mVar 1)), (.dat (mVar 9))]))) (mRet (M.pure (.bl false))) mSkip)) [.own (wellD a b d), .dat (partsD n rows t), .dat (farmD n rows t), c3, c4, .no, c6, .no, .no, .no, .no, .no] = .next [.own (wellD a' b' d'), .dat (partsD n rows t), .dat (farmD n rows t), c3, c4, .no, c6, .no, c8', c9', .no, .no] := by
  obtain ⟨ρ', lp, a2, b2, d2, c8, c9, hρ⟩ := loop_inv (g := (gNm 8)) (body := (mSeq (mAsg (mCall sTuple [(.dat (mSl sCut (.dat (mCallF m_law_mixed [(.own 0), (.dat (mListRg (mOp2 sIx (.dat (mVar 1)) (.dat (M.pure (.int 0))))))])) none (some (mCallF m_law_take [(.own 0), (.dat (M.pure (.int 5)))]))))]) (gNm 9)) (mIfS (mNot (mB (mCallF m_law_greatest_right [(.dat (mVar 2)), (.dat (mVar 1)), (.dat (mVar 9))]))) (mRet (M.pure (.bl false))) mSkip))) (fun _ ρ => ∃ (a b d : Int) (c8 c9 : Cell), ρ = [.own (wellD a b d), .dat (partsD n rows t), .dat (farmD n rows t), c3, c4, .no, c6, .no, c8, c9, .no, .no]) ((rng (4 : Int).toNat).map .int) 0 [.own (wellD a b d), .dat (partsD n rows t), .dat (farmD n rows t), c3, c4, .no, c6, .no, .no, .no, .no, .no] ⟨a, b, d, .no, .no, rfl⟩
    (fun i dd ρ hd ⟨a, b, d, c8, c9, hρ⟩ => by
      subst hρ
      obtain ⟨a', b', d', c9', e⟩ := rg_turn hF t0 a b d c3 c4 c6 (.dat dd) c9
      exact ⟨_, rfl, _, e, _, _, _, _, _, rfl⟩)
  subst hρ
  exact ⟨a2, b2, d2, c8, c9, (for_o (range_ok rfl (by omega) (by omega))).trans lp⟩
theorem rg_in (P : List (List (Option Int))) (sp : List (Option Int)) : (mLc (mSeqI (mVar 3)) (gNm 5) (mB (mOp2 sIn (.dat (mVar 5)) (.dat (mVar 9)))) (mVar 5) [5]) [.own (w), .dat (partsD n rows t), .dat (farmD n rows t), .dat (plcD sp), c4, .no, c6, .no, c8, .dat (D.tup (List.map D.int S)), .dat (.lst (P.map plcD)), c11] = .ok (.lst ((sp.filter (inO S)).map optD)) [.own (w), .dat (partsD n rows t), .dat (farmD n rows t), .dat (plcD sp), c4, .no, c6, .no, c8, .dat (D.tup (List.map D.int S)), .dat (.lst (P.map plcD)), c11] := by
  refine x_lc (vs := [5]) (em := optD) (P := inO S) (f := optD) (ds := sp.map optD) (ρ1 := [.own (w), .dat (partsD n rows t), .dat (farmD n rows t), .dat (plcD sp), c4, .no, c6, .no, c8, .dat (D.tup (List.map D.int S)), .dat (.lst (P.map plcD)), c11]) (w := [.own (w), .dat (partsD n rows t), .dat (farmD n rows t), .dat (plcD sp), c4, .no, c6, .no, c8, .dat (D.tup (List.map D.int S)), .dat (.lst (P.map plcD)), c11]) rfl mp_r rfl rfl fun o ho => ?_
  have k := sIn_ot (S := S) o
  generalize (D.tup (List.map D.int S)) = SX at *
  generalize (.lst (P.map plcD) : D) = PX at *
  trivial
theorem rg_max (P : List (List (Option Int))) (x3 : D) : (mLc (mSeqI (mVar 10)) (gNm 3) (M.pure true) (mCall sLen [(.dat (mLc (mSeqI (mVar 3)) (gNm 5) (mB (mOp2 sIn (.dat (mVar 5)) (.dat (mVar 9)))) (mVar 5) [5]))]) [3]) [.own (w), .dat (partsD n rows t), .dat (farmD n rows t), .dat x3, c4, .no, c6, .no, c8, .dat (D.tup (List.map D.int S)), .dat (.lst (P.map plcD)), c11] = .ok (D.lst (List.map D.int (P.map fun sp => ((cntS S sp : Nat) : Int)))) [.own (w), .dat (partsD n rows t), .dat (farmD n rows t), .dat x3, c4, .no, c6, .no, c8, .dat (D.tup (List.map D.int S)), .dat (.lst (P.map plcD)), c11] := by
  rw [List.map_map]
  refine x_lcU (vs := [3]) (em := plcD) (f := fun sp => .int (cntS S sp : Nat)) (ds := P.map plcD) (ρ1 := [.own (w), .dat (partsD n rows t), .dat (farmD n rows t), .dat x3, c4, .no, c6, .no, c8, .dat (D.tup (List.map D.int S)), .dat (.lst (P.map plcD)), c11]) (w := [.own (w), .dat (partsD n rows t), .dat (farmD n rows t), .no, c4, .no, c6, .no, c8, .dat (D.tup (List.map D.int S)), .dat (.lst (P.map plcD)), c11]) rfl mp_r rfl rfl fun sp hs => ?_
  have k1 := rg_in (n := n) (t := t) (rows := rows) (S := S) (w := w) (c4 := c4) (c6 := c6) (c8 := c8) (c11 := c11) P sp
  have k2 : sLen [.lst ((sp.filter (inO S)).map optD)] = some (.int (cntS S sp : Nat)) := by
    rw [sLen_lst, List.length_map]
    rfl
  generalize (.lst ((sp.filter (inO S)).map optD) : D) = FX at *
  generalize (D.tup (List.map D.int S)) = SX at *
  generalize (.lst (P.map plcD) : D) = PX at *
  trivial
end
section
variable {n t n2 t2 : Int} {rows rows2 : List (List Int)} {S : List Int}
/-- the part over the small farm -/
theorem e_small (hF : FarmOk n rows) (t0 : 0 ≤ t) (t1 : t ≤ n) (hn : n ≤ 3) (hr3 : rows.length ≤ 3) (hS : ∀ x ∈ S, 0 ≤ x ∧ x < n) (hN : S.Nodup) (hl : S.length ≤ 1000) (w x3 : D) (c4 c6 c8 : Cell) : ∃ (P : List (List (Option Int))) (m : Int),
    m_law_known [partsD n rows t] = .ret (.lst (P.map plcD)) [] ∧ mCall sMax [(.dat (mLc (mSeqI (mVar 10)) (gNm 3) (M.pure true) (mCall sLen [(.dat (mLc (mSeqI (mVar 3)) (gNm 5) (mB (mOp2 sIn (.dat (mVar 5)) (.dat (mVar 9)))) (mVar 5) [5]))]) [3]))] [.own w, .dat (partsD n rows t), .dat (farmD n rows t), .dat x3, c4, .no, c6, .no, c8, .dat (D.tup (List.map D.int S)), .dat (.lst (P.map plcD)), .no] = .ok (.int m) [.own w, .dat (partsD n rows t), .dat (farmD n rows t), .dat x3, c4, .no, c6, .no, c8, .dat (D.tup (List.map D.int S)), .dat (.lst (P.map plcD)), .no] ∧
    m_law_greatest_right [farmD n rows t, partsD n rows t, (D.tup (List.map D.int S))] = .ret (.bl true) [] ∧ ∃ d, m_greatest_load [farmD n rows t, (D.tup (List.map D.int S))] = .ret (.tup [.int m, d]) [] := by
  have n1 := hF.n1
  have h0 : SV n t rows [] (List.replicate rows.length none) := by
    have hno : ∀ (s : Nat) (v : Int), (List.replicate rows.length (none : Option Int))[s]? ≠ some (some v) := fun s v h => (by rw [List.getElem?_replicate] at h; split at h <;> cases h)
    exact ⟨List.length_replicate, fun s v h => absurd h (hno s v), List.Pairwise.nil, fun x hx => (nomatch hx), (by simpa using t0), fun x hx => (nomatch hx)⟩
  obtain ⟨P, e1, hP⟩ := e_known (n := n) (t := t) (rows := rows) (by omega) hn t0 (by omega) hr3 hF.row
  refine ⟨P, (dueN rows t S : Nat), e1, ?_, e_greatest_right hF t0 hS hN hl, _, e_greatest hF t0 hS hN hl⟩
  have e2 := rg_max (n := n) (t := t) (rows := rows) (S := S) (w := w) (c4 := c4) (c6 := c6) (c8 := c8) (c11 := .no) P x3
  refine call1' e2 (max_is (List.mem_map.mpr ⟨_, (hP _).mpr (gots_reach t0 hF.row), by rw [cnt_gots]⟩) fun x hx => ?_)
  obtain ⟨sp, hs, rfl⟩ := List.mem_map.mp hx
  have h1 := (hP sp).mp hs
  have := rn_cnt (S := S) hF.row t0 h1 (h1.sv hF.row h0).len
  omega
theorem r0 {w w0 w1 pt : D} {z ma : Int} (e0 : m_law_take [w, .int 2] = .ret (.int z) [w0]) (q0 : sIx (.lst [.int 60, .int 20]) (.int z) = some (.int ma)) (e1 : m_law_farm [w0, .int 30, .int ma, .int 6] = .ret pt [w1]) : (mAsg (mCallF m_law_farm [(.own 0), (.dat (M.pure (.int 30))), (.dat (mOp2 sIx (.dat (mLst [(M.pure (.int 60)), (M.pure (.int 20))])) (.dat (mCallF m_law_take [(.own 0), (.dat (M.pure (.int 2)))])))), (.dat (M.pure (.int 6)))]) (gNm 1)) [.own (w), .no, .no, .no, .no, .no, .no, .no, .no, .no, .no, .no] = .next [.own (w1), .dat pt, .no, .no, .no, .no, .no, .no, .no, .no, .no, .no] := by
  refine s_one ?_
  trivial
theorem r1 {w pt rr : D} {n t : Int} {rows : List (List Int)} (q1 : sIx pt (.int 0) = some (.int n)) (q2 : sIx pt (.int 1) = some rr) (q3 : sIx pt (.int 2) = some (.int t)) (q4 : sList [rr] = some rr) (e2 : m_Farmdd_initdd [.rcd [] [], .int n, rr, .int t] = .ret .non [farmD n rows t]) : (mAsg (mMake m_Farmdd_initdd [(mOp2 sIx (.dat (mVar 1)) (.dat (M.pure (.int 0)))), (mCall sList [(.dat (mOp2 sIx (.dat (mVar 1)) (.dat (M.pure (.int 1)))))]), (mOp2 sIx (.dat (mVar 1)) (.dat (M.pure (.int 2))))]) (gNm 2)) [.own (w), .dat pt, .no, .no, .no, .no, .no, .no, .no, .no, .no, .no] = .next [.own (w), .dat pt, .dat (farmD n rows t), .no, .no, .no, .no, .no, .no, .no, .no, .no] := by
  refine s_one ?_
  trivial
theorem r2 {w w1 pt fm pp : D} (e : m_law_drawn [w, pt] = .ret pp [w1]) : (mAsg (mCallF m_law_drawn [(.own 0), (.dat (mVar 1))]) (gNm 3)) [.own (w), .dat pt, .dat fm, .no, .no, .no, .no, .no, .no, .no, .no, .no] = .next [.own (w1), .dat pt, .dat fm, .dat pp, .no, .no, .no, .no, .no, .no, .no, .no] := by
  refine s_one ?_
  trivial
theorem r3 {w pt fm pp cx : D} (e : mf_loads [fm, pp] = .ret cx []) : (mNew (mCallF mf_loads [(.dat (mVar 2)), (.dat (mVar 3))]) 4) [.own (w), .dat pt, .dat fm, .dat pp, .no, .no, .no, .no, .no, .no, .no, .no] = .next [.own (w), .dat pt, .dat fm, .dat pp, .own cx, .no, .no, .no, .no, .no, .no, .no] := by
  refine s_one ?_
  trivial
theorem r4 {w pt fm pp cx : D} (g : (mLc (mRange1 (mOp2 sIx (.dat (mVar 1)) (.dat (M.pure (.int 0))))) (gNm 5) (M.pure true) (mMeth isTup sTcount (.dat (mVar 3)) [(.dat (mVar 5))]) [5]) [.own (w), .dat pt, .dat fm, .dat pp, .own cx, .no, .no, .no, .no, .no, .no, .no] = .ok cx [.own (w), .dat pt, .dat fm, .dat pp, .own cx, .no, .no, .no, .no, .no, .no, .no]) (q : sNe cx cx = some (.bl false)) : (mIfS (mB (mOp2 sNe (.own 4) (.dat (mLc (mRange1 (mOp2 sIx (.dat (mVar 1)) (.dat (M.pure (.int 0))))) (gNm 5) (M.pure true) (mMeth isTup sTcount (.dat (mVar 3)) [(.dat (mVar 5))]) [5])))) (mRet (M.pure (.bl false))) mSkip) [.own (w), .dat pt, .dat fm, .dat pp, .own cx, .no, .no, .no, .no, .no, .no, .no] = .next [.own (w), .dat pt, .dat fm, .dat pp, .own cx, .no, .no, .no, .no, .no, .no, .no] := by
  refine s_one ?_
  trivial
theorem r5 {w pt fm pp : D} {lx : List D} (q : wClear (.lst lx) [] = some (.non, .lst [])) : (mExpr (mMethWR wClear 4 [])) [.own (w), .dat pt, .dat fm, .dat pp, .own (.lst lx), .no, .no, .no, .no, .no, .no, .no] = .next [.own (w), .dat pt, .dat fm, .dat pp, .own (.lst []), .no, .no, .no, .no, .no, .no, .no] := by
  refine s_one ?_
  trivial
theorem r6 {w pt fm pp cx : D} (e : m_loads [fm, pp] = .ret cx []) (g : (mLc (mRange1 (mOp2 sIx (.dat (mVar 1)) (.dat (M.pure (.int 0))))) (gNm 5) (M.pure true) (mMeth isTup sTcount (.dat (mVar 3)) [(.dat (mVar 5))]) [5]) [.own (w), .dat pt, .dat fm, .dat pp, .own (.lst []), .no, .no, .no, .no, .no, .no, .no] = .ok cx [.own (w), .dat pt, .dat fm, .dat pp, .own (.lst []), .no, .no, .no, .no, .no, .no, .no]) (q : sNe cx cx = some (.bl false)) : (mIfS (mB (mOp2 sNe (.dat (mCallF m_loads [(.dat (mVar 2)), (.dat (mVar 3))])) (.dat (mLc (mRange1 (mOp2 sIx (.dat (mVar 1)) (.dat (M.pure (.int 0))))) (gNm 5) (M.pure true) (mMeth isTup sTcount (.dat (mVar 3)) [(.dat (mVar 5))]) [5])))) (mRet (M.pure (.bl false))) mSkip) [.own (w), .dat pt, .dat fm, .dat pp, .own (.lst []), .no, .no, .no, .no, .no, .no, .no] = .next [.own (w), .dat pt, .dat fm, .dat pp, .own (.lst []), .no, .no, .no, .no, .no, .no, .no] := by
  refine s_one ?_
  trivial
theorem r7 {w w1 pt fm pp lu uu : D} (g : (mLc (mSeqI (mOp2 sIx (.dat (mVar 1)) (.dat (M.pure (.int 1))))) (gNm 7) (M.pure true) (mOp2 sIx (.dat (mOp2 sAdd (.dat (mLst [(M.pure .non)])) (.dat (mCall sList [(.dat (mVar 7))])))) (.dat (mCallF m_law_take [(.own 0), (.dat (mOp2 sAdd (.dat (mCall sLen [(.dat (mVar 7))])) (.dat (M.pure (.int 1)))))]))) [7]) [.own (w), .dat pt, .dat fm, .dat pp, .own (.lst []), .no, .no, .no, .no, .no, .no, .no] = .ok lu [.own (w1), .dat pt, .dat fm, .dat pp, .own (.lst []), .no, .no, .no, .no, .no, .no, .no]) (q : sTuple [lu] = some uu) : (mAsg (mCall sTuple [(.dat (mLc (mSeqI (mOp2 sIx (.dat (mVar 1)) (.dat (M.pure (.int 1))))) (gNm 7) (M.pure true) (mOp2 sIx (.dat (mOp2 sAdd (.dat (mLst [(M.pure .non)])) (.dat (mCall sList [(.dat (mVar 7))])))) (.dat (mCallF m_law_take [(.own 0), (.dat (mOp2 sAdd (.dat (mCall sLen [(.dat (mVar 7))])) (.dat (M.pure (.int 1)))))]))) [7]))]) (gNm 6)) [.own (w), .dat pt, .dat fm, .dat pp, .own (.lst []), .no, .no, .no, .no, .no, .no, .no] = .next [.own (w1), .dat pt, .dat fm, .dat pp, .own (.lst []), .no, .dat uu, .no, .no, .no, .no, .no] := by
  refine s_one ?_
  trivial
theorem r8 {w pt fm pp uu cx : D} (e : m_loads [fm, uu] = .ret cx []) (g : (mLc (mRange1 (mOp2 sIx (.dat (mVar 1)) (.dat (M.pure (.int 0))))) (gNm 5) (M.pure true) (mMeth isTup sTcount (.dat (mVar 6)) [(.dat (mVar 5))]) [5]) [.own (w), .dat pt, .dat fm, .dat pp, .own (.lst []), .no, .dat uu, .no, .no, .no, .no, .no] = .ok cx [.own (w), .dat pt, .dat fm, .dat pp, .own (.lst []), .no, .dat uu, .no, .no, .no, .no, .no]) (q : sNe cx cx = some (.bl false)) : (mIfS (mB (mOp2 sNe (.dat (mCallF m_loads [(.dat (mVar 2)), (.dat (mVar 6))])) (.dat (mLc (mRange1 (mOp2 sIx (.dat (mVar 1)) (.dat (M.pure (.int 0))))) (gNm 5) (M.pure true) (mMeth isTup sTcount (.dat (mVar 6)) [(.dat (mVar 5))]) [5])))) (mRet (M.pure (.bl false))) mSkip) [.own (w), .dat pt, .dat fm, .dat pp, .own (.lst []), .no, .dat uu, .no, .no, .no, .no, .no] = .next [.own (w), .dat pt, .dat fm, .dat pp, .own (.lst []), .no, .dat uu, .no, .no, .no, .no, .no] := by
  refine s_one ?_
  trivial
theorem r10 {w w1 pt pt1 fm pp uu : D} {c8 c9 : Cell} (e : m_law_farm [w, .int 3, .int 3, .int 3] = .ret pt1 [w1]) : (mAsg (mCallF m_law_farm [(.own 0), (.dat (M.pure (.int 3))), (.dat (M.pure (.int 3))), (.dat (M.pure (.int 3)))]) (gNm 1)) [.own (w), .dat pt, .dat fm, .dat pp, .own (.lst []), .no, .dat uu, .no, c8, c9, .no, .no] = .next [.own (w1), .dat pt1, .dat fm, .dat pp, .own (.lst []), .no, .dat uu, .no, c8, c9, .no, .no] := by
  refine s_one ?_
  trivial
theorem r11 {w pt rr fm pp uu : D} {n t : Int} {rows : List (List Int)} {c8 c9 : Cell} (q1 : sIx pt (.int 0) = some (.int n)) (q2 : sIx pt (.int 1) = some rr) (q3 : sIx pt (.int 2) = some (.int t)) (q4 : sList [rr] = some rr) (e2 : m_Farmdd_initdd [.rcd [] [], .int n, rr, .int t] = .ret .non [farmD n rows t]) : (mAsg (mMake m_Farmdd_initdd [(mOp2 sIx (.dat (mVar 1)) (.dat (M.pure (.int 0)))), (mCall sList [(.dat (mOp2 sIx (.dat (mVar 1)) (.dat (M.pure (.int 1)))))]), (mOp2 sIx (.dat (mVar 1)) (.dat (M.pure (.int 2))))]) (gNm 2)) [.own (w), .dat pt, .dat fm, .dat pp, .own (.lst []), .no, .dat uu, .no, c8, c9, .no, .no] = .next [.own (w), .dat pt, .dat (farmD n rows t), .dat pp, .own (.lst []), .no, .dat uu, .no, c8, c9, .no, .no] := by
  refine s_one ?_
  trivial
theorem r13 {w pt fm pp uu kk : D} {c8 c9 : Cell} (e : m_law_known [pt] = .ret kk []) : (mAsg (mCallF m_law_known [(.dat (mVar 1))]) (gNm 10)) [.own (w), .dat pt, .dat fm, .dat pp, .own (.lst []), .no, .dat uu, .no, c8, c9, .no, .no] = .next [.own (w), .dat pt, .dat fm, .dat pp, .own (.lst []), .no, .dat uu, .no, c8, c9, .dat kk, .no] := by
  refine s_one ?_
  trivial
theorem r15 {w pt fm pp uu kk ss tt : D} {m : Int} {c8 : Cell} (f3 : m_law_greatest_right [fm, pt, ss] = .ret (.bl true) []) (f4 : m_greatest_load [fm, ss] = .ret tt []) (r1 : sIx tt (.int 0) = some (.int m)) (r2 : sEq (.int m) (.int m) = some (.bl true)) : (mRet (mAndV (mCallF m_law_greatest_right [(.dat (mVar 2)), (.dat (mVar 1)), (.dat (mVar 9))]) (mOp2 sEq (.dat (mOp2 sIx (.dat (mCallF m_greatest_load [(.dat (mVar 2)), (.dat (mVar 9))])) (.dat (M.pure (.int 0))))) (.dat (mVar 11))))) [.own (w), .dat pt, .dat fm, .dat pp, .own (.lst []), .no, .dat uu, .no, c8, .dat ss, .dat kk, .dat (.int m)] = .ret (.bl true) [.own (w), .dat pt, .dat fm, .dat pp, .own (.lst []), .no, .dat uu, .no, c8, .dat ss, .dat kk, .dat (.int m)] := by
  refine s_one ?_
  trivial
theorem e_law_right (a b d : Int) : ∃ outs, m_law_right [wellD a b d] = .ret (.bl true) outs := by
  obtain ⟨z, a0, b0, d0, e0, z0, z1⟩ := e_draw a b d (lim := 2) (by omega) (by omega)
  obtain ⟨ma, q0, m0, m1⟩ : ∃ ma : Int, sIx (.lst [.int 60, .int 20]) (.int z) = some (.int ma) ∧ 0 ≤ ma ∧ ma ≤ 60 := by
    have : z = 0 ∨ z = 1 := by omega
    rcases this with rfl | rfl
    · exact ⟨60, rfl, by omega, by omega⟩
    · exact ⟨20, rfl, by omega, by omega⟩
  obtain ⟨a1, b1, d1, n, rows, t, e1, hF, t0, t1, hn, hr3⟩ := e_lfarm3 a0 b0 d0 (mo := 30) (ma := ma) (dp := 6) (by omega) (by omega) m0 m1 (by omega) (by omega)
  have n1 := hF.n1
  have e2 := e_make hF.n1 hF.n2 hF.len hF.row t0 t1
  obtain ⟨a2, b2, d2, p, e3, hI⟩ := e_drawn hF t0 t1 a1 b1 d1
  have hl1 := e_loads (t := t) hF hI.len hI.ok
  have g1 := fun c4 => cnt3 (n := n) (t := t) (rows := rows) (p := p) (w := wellD a2 b2 d2) (c4 := c4) (c6 := .no) (c8 := .no) (c9 := .no) (c10 := .no) (c11 := .no) (by omega) hF.n2
  obtain ⟨a3, b3, d3, u, g2, hul, huo⟩ := e_lo (n := n) (t := t) (p := p) (c4 := .own (.lst [])) hF.row a2 b2 d2
  have hl2 := e_loads (t := t) hF hul huo
  have g3 := cnt6 (n := n) (t := t) (rows := rows) (p := u) (w := wellD a3 b3 d3) (c3 := .dat (plcD p)) (c4 := .own (.lst [])) (c8 := .no) (c9 := .no) (c10 := .no) (c11 := .no) (by omega) hF.n2
  obtain ⟨a4, b4, d4, c8, c9, g4⟩ := rg_loop hF t0 a3 b3 d3 (.dat (plcD p)) (.own (.lst [])) (.dat (plcD u))
  -- the small farm
  obtain ⟨a5, b5, d5, n', rows', t', e5, hF', t0', t1', hn', hr3'⟩ := e_lfarm3 a4 b4 d4 (mo := 3) (ma := 3) (dp := 3) (by omega) (by omega) (by omega) (by omega) (by omega) (by omega)
  have n1' := hF'.n1
  have e6 := e_make hF'.n1 hF'.n2 hF'.len hF'.row t0' t1'
  obtain ⟨a6, b6, d6, S, g7, s1, s2, s3⟩ := e_some20 (n := n') (t := t') (rows := rows') (by omega) hF'.n2 (lim := 4) (by omega) (by omega) a5 b5 d5
  obtain ⟨P, m, f1, f2, f3, dd, f4⟩ := e_small hF' t0' t1' (by omega) (by omega) s1 s2 s3 (wellD a6 b6 d6) (plcD p) (.own (.lst [])) (.dat (plcD u)) c8
  refine ⟨[wellD a6 b6 d6], ?_⟩
  (unfold m_law_right; apply s_run (ρ0 := [.own (wellD a b d), .no, .no, .no, .no, .no, .no, .no, .no, .no, .no, .no]) rfl; unfold b_law_right)
  · exact s_step (r0 e0 q0 e1) (s_step (r1 rfl rfl rfl rfl e2) (s_step (r2 e3) (s_step (r3 hl1.2) (s_step (r4 (g1 _) pn_cnt) (s_step (r5 rfl) (s_step (r6 hl1.1 (g1 _) pn_cnt) (s_step (r7 g2 rfl) (s_step (r8 hl2.1 g3 pn_cnt) (s_step g4 (s_step (r10 e5) (s_step (r11 rfl rfl rfl rfl e6) (s_step (asg_ok20 (g7 (.dat (plcD p)) (.own (.lst [])) (.dat (plcD u)) c8 c9 .no .no) rfl) (s_step (r13 f1) (s_step (asg_ok20 f2 rfl) (r15 f3 f4 rfl (by rw [sEq_int]; simp))))))))))))))))
  · rfl
theorem e_well (v i : Int) : ∃ x y, mf_law_well [.int v, .int i] = .ret (wellD x y 0) [] := by
  have h2 : ∃ j, sInt [.bl (decide ((10 : Int) ^ 18 ≤ v))] = some (.int j) ∧ inR j = true := by
    refine ⟨if decide ((10 : Int) ^ 18 ≤ v) then 1 else 0, rfl, ?_⟩
    split <;> decide
  obtain ⟨j, q1, hj⟩ := h2
  have q2 : sMul (.int v) (.int j) = some (.int (v * j)) := sMul_r hj
  have q3 := pow18
  have q4 : sGe (.int v) (.int (10 ^ 18)) = some (.bl (decide ((10 : Int) ^ 18 ≤ v))) := rfl
  have q5 : sMul (.int 70001) (.int i) = some (.int (70001 * i)) := sMul_l (by decide)
  have q6 : sMod (.int v) (.int 2147483563) = some (.int (v.fmod 2147483563)) := sMod_ok (by decide)
  refine ⟨v * j, v.fmod 2147483563 + 70001 * i, ?_⟩
  unfold mf_law_well wellD
  apply s_runF (ρ0 := [.dat (.int v), .dat (.int i)]) rfl
  · (repeat (first | with_reducible assumption | ((with_reducible apply vv_id); apply_rules (transparency := .reducible) (maxDepth := 1) (symm := false) (exfalso := false) only [vk0, vk1, vk2, vk3, vk4, vk5, vk6, vk7, vk8, vk9, vk10, vk11, vk12, vk13, vk14, vk15, vk16]) | ((with_reducible apply gg_id); first | apply_rules (transparency := .reducible) (maxDepth := 1) (symm := false) (exfalso := false) only [gk0, gk1, gk2, gk3, gk4, gk5, gk6, gk7, gk8, gk9, gk10, gk11, gk12, gk13, gk14, gk15, gk16] | apply_rules (transparency := .reducible) (maxDepth := 1) (symm := false) (exfalso := false) only [getAt_z, getAt_s]) | ((with_reducible apply ss_id); first | apply_rules (transparency := .reducible) (maxDepth := 1) (symm := false) (exfalso := false) only [sk0, sk1, sk2, sk3, sk4, sk5, sk6, sk7, sk8, sk9, sk10, sk11, sk12, sk13, sk14, sk15, sk16] | apply_rules (transparency := .reducible) (maxDepth := 1) (symm := false) (exfalso := false) only [setAt_z, setAt_s]) | ((with_reducible apply g_seq); first | (with_reducible refine s_step (by with_reducible assumption) ?_) | (with_reducible refine s_retS (by with_reducible assumption)) | apply_rules (transparency := .reducible) (maxDepth := 1) (symm := false) (exfalso := false) only [s_assoc, s_skip, s_asg, s_new, s_expr, s_ret, s_retN, s_t, s_f, s_if, s_par, s_par3, s_new2, s_setIx, s_augV, s_setS, s_raise] | ((with_reducible apply s_frz); apply_rules (transparency := .reducible) (maxDepth := 1) (symm := false) (exfalso := false) only [gk0, gk1, gk2, gk3, gk4, gk5, gk6, gk7, gk8, gk9, gk10, gk11, gk12, gk13, gk14, gk15, gk16]) | ((with_reducible apply s_frzD); apply_rules (transparency := .reducible) (maxDepth := 1) (symm := false) (exfalso := false) only [gk0, gk1, gk2, gk3, gk4, gk5, gk6, gk7, gk8, gk9, gk10, gk11, gk12, gk13, gk14, gk15, gk16]) | (with_reducible refine s_for ?_ (by with_reducible assumption) ?_) | (with_reducible refine s_forR ?_ (by with_reducible assumption)) | (with_reducible refine s_while (by with_reducible assumption) ?_) | (with_reducible refine s_whileR (by with_reducible assumption)) | (with_reducible refine s_for (?_) (by assumption) ?_)) | apply_rules (transparency := .reducible) (maxDepth := 1) (symm := false) (exfalso := false) only [v_pure, x_callD, y_op2, y_call1, y_call2, y_sl1, y_sl2, y_tup2, y_tup1, y_fo1, y_fo2, y_fo0, y_fo3, y_fn1, y_fn2, y_fn3, y_fn4, y_fn5, x_op2, p_dat, p_own, v_var, x_callD, x_callF, x_callK, x_callW, x_callN, x_make, x_call, x_tup, x_lst, x_neg, x_meth, x_methWR, x_methWD, x_methW, x_sl, x_rev, x_fld, x_chain, x_lenF, x_lenset, x_methF, x_isF, x_eqF, x_kd, x_neF, x_makeK, x_methK, x_cmp, x_lrn, pt_s, pt_n, i_seq, i_en, i_rng, i_zip, b_b, b_not, b_and, b_or, x_if, x_andV, x_orV, x_notV, andK_t, andK_f, orK_f, orK_t, chK_t, chK_f, ifK_t, ifK_f, x_lcU, x_lc, s_end, pk_n, pk_c, at_z, at_s, put_n, put_c, wl_n, wl_c, mp_r, tg_nm, tg_tp, tgs_n, tgs_c, pl_n, pl_c, rl_n, rl_c, ra_n, ra_d, ra_o, sq_n, sq_c, app_n, app_c, r_dat, r_own, lcE_i, no_n, no_c, nw_d, nw_n, nw_o, nb_lt, nb_lf, nb_ltn, nb_lfn] | ((with_reducible apply nb_id); first | with_reducible exact nb_nf rfl | with_reducible exact nb_t rfl | exact nb_h (by with_reducible assumption) | exact nb_hf (by with_reducible assumption) | exact nb_hn (by with_reducible assumption) | exact nb_hnf (by with_reducible assumption) | exact nb_t (by with_reducible assumption) | exact nb_f (by with_reducible assumption) | exact nb_nt (by with_reducible assumption) | exact nb_nf (by with_reducible assumption) | exact nb_t (by omega) | exact nb_f (by omega) | exact nb_nt (by omega) | exact nb_nf (by omega) | exact nb_t (by decide) | exact nb_f (by decide) | exact nb_nt (by decide) | exact nb_nf (by decide)) | with_reducible exact sInt_int _ | apply_rules (transparency := .reducible) (maxDepth := 1) (symm := false) (exfalso := false) only [sEq_int, sNe_int, sEq_opt, sNe_opt, sIsN_opt, sNotN_opt, sNotN_int, sIsN_int, sNotN_tup, sIsN_tup, sNotN_lst, sIsN_lst, sNotN_non, sIsN_non, sIn_tup, sNin_tup, sIn_lst, sNin_lst, sEq_tup, sEq_lst, sNe_lst, sNe_tup, sIx_plc, sIx_rows, sIx_rowsL, sIn_row, sNin_row, sLen_row, sLen_plc, isTup_row, isTup_plc, sLen_ints, sLen_tints, sLen_rows, sLen_rowsT, sLen_lst, sLen_tup, isTupD] | ((with_reducible apply is_id); exact is_r) | ((with_reducible apply f_od); exact rfl) | ((with_reducible apply f_ol); exact rfl) | ((with_reducible apply f_op); exact rfl) | ((with_reducible apply f_bt); exact rfl) | ((with_reducible apply f_on); exact rfl) | ((with_reducible apply f_ld); exact rfl) | intro x hx | intro hb | omega | with_reducible apply s_one))
  · rfl
theorem concF : m_Farmdd_initdd [.rcd [] [], .int 2, .lst [.tup [.int 0, .int 1], .tup [.int 1, .int 0], .tup [.int 1]], .int 1] = .ret .non [farmD 2 [[0,1],[1,0],[1]] 1] := by kernel_rfl
theorem conc1 : m_greatest_load [farmD 2 [[0,1],[1,0],[1]] 1, .tup [.int 0]] = .ret (.tup [.int 2, .tup [.int 0, .int 0, .non]]) [] := by kernel_rfl
theorem plain_law (ns : List Int) (hl : ns.length ≤ 63) : ∃ outs, m_law [.lst (ns.map .int)] = .ret (.bl true) outs := by
  obtain ⟨ρ', e, c1, c2, hρ⟩ := loop_inv (g := (gTp [1, 2])) (body := (mIfS (mNot (mB (mCallN m_law_right (mCallF mf_law_well [(.dat (mVar 2)), (.dat (mVar 1))]) []))) (mRet (M.pure (.bl false))) mSkip)) (fun _ ρ => ∃ c1 c2, ρ = [.dat (.lst (ns.map .int)), c1, c2]) (enumD 0 (((ns ++ [0]).take 4).map .int)) 0 [.dat (.lst (ns.map .int)), .no, .no] ⟨.no, .no, rfl⟩
    (fun i dd ρ hd ⟨x, y, hρ⟩ => by
      obtain ⟨d', h7, rfl⟩ := enumD_inv 0 i _ _ hd
      rw [List.getElem?_map] at h7
      cases hr : ((ns ++ [0]).take 4)[i]? with
      | none => rw [hr] at h7; cases h7
      | some v =>
        rw [hr] at h7
        cases h7
        subst hρ
        obtain ⟨x, y, e1⟩ := e_well v ((0 + i : Nat) : Int)
        obtain ⟨o, e2⟩ := e_law_right x y 0
        refine ⟨[.dat (.lst (ns.map .int)), .dat (.int ((0 + i : Nat) : Int)), .dat (.int v)], rfl, [.dat (.lst (ns.map .int)), .dat (.int ((0 + i : Nat) : Int)), .dat (.int v)], ?_, _, _, rfl⟩
        trivial)
  subst hρ
  refine ⟨[], ?_⟩
  have q1 : sAdd (.lst (ns.map .int)) (.lst [.int 0]) = some (.lst ((ns ++ [0]).map .int)) := by
    rw [List.map_append]
    exact sAdd_lst (by rw [List.length_map, List.length_singleton]; omega)
  have q2 : sCut (.lst ((ns ++ [0]).map .int)) none (some 4) = some (.lst (((ns ++ [0]).take 4).map .int)) := cutHi (ns ++ [0]) (by decide)
  rw [enum_map] at e
  have k0 := concF
  have k1 := conc1
  have k2 : sIx (.tup [.int 2, .tup [.int 0, .int 0, .non]]) (.int 0) = some (.int 2) := by kernel_rfl
  have k3 : sEq (.int 2) (.int 2) = some (.bl true) := by kernel_rfl
  (unfold m_law; apply s_run (ρ0 := [.dat (.lst (ns.map .int)), .no, .no]) rfl; unfold b_law)
  · trivial
  · rfl
end
end Fx
set_option Elab.async false
set_option linter.all false
set_option maxRecDepth 100000
set_option maxHeartbeats 8000000
namespace Fx
open PySem L2
abbrev s_x0 : Stmt := inClass (top 2) 0
theorem sc_x0 : FnScope ["self", "part", "index"] ["self", "part", "index"] (defScope s_x0) := ⟨rfl, rfl, rfl, by decide +kernel, rfl, by decide +kernel, by decide +kernel⟩
theorem ok_x0 {P : Program} {w : World} {K : PySem.W.Frag} {mg : Str → Option Value} {base : Heap} {f C CB : Addr} {fd : FuncData} (TB : BaseX K mg CB) (T : OexC K C) (hpart : PySem.W.findIn K (.ref C) "part" = some none) (hindex : PySem.W.findIn K (.ref C) "index" = some none) (F : FunD K "__init__" "NoFarm.__init__" (defArgs s_x0) (defBody s_x0) (defScope s_x0) [] [] f fd) : FnOk P w K mg base (L2.CX P w) 1 f fd ["self", "part", "index"] (spI2 C "part" "index") :=
  F.ok sc_x0 (fun vs H Q E h => by obtain ⟨a, y, z, rfl, _⟩ := h; rfl) fun cdv A outer s H vs Q E hr h => ⟨_, pss_cons (ps_expr (pe_feinit TB (pa_cons (pv 0) (pa_cons pe_str pa_nil)))) (pss_cons (ps_ost (pv 0) (pv 1)) (pss_one (ps_ost (pv 0) (pv 2)))), read2 rfl T hpart hindex h⟩
abbrev s_x2 : Stmt := inClass (top 4) 0
theorem sc_x2 : FnScope ["self", "index"] ["self", "index"] (defScope s_x2) := ⟨rfl, rfl, rfl, by decide +kernel, rfl, by decide +kernel, by decide +kernel⟩
theorem ok_x2 {P : Program} {w : World} {K : PySem.W.Frag} {mg : Str → Option Value} {base : Heap} {f C CB : Addr} {fd : FuncData} (TB : BaseX K mg CB) (T : OexC K C) (hindex : PySem.W.findIn K (.ref C) "index" = some none) (F : FunD K "__init__" "NoPlacement.__init__" (defArgs s_x2) (defBody s_x2) (defScope s_x2) [] [] f fd) : FnOk P w K mg base (L2.CX P w) 1 f fd ["self", "index"] (spI1 C "index") :=
  F.ok sc_x2 (fun vs H Q E h => by obtain ⟨a, y, rfl, _⟩ := h; rfl) fun cdv A outer s H vs Q E hr h => ⟨_, pss_cons (ps_expr (pe_feinit TB (pa_cons (pv 0) (pa_cons pe_str pa_nil)))) (pss_one (ps_ost (pv 0) (pv 1))), read1 rfl T hindex h⟩
abbrev s_x3 : Stmt := inClass (top 5) 0
theorem sc_x3 : FnScope ["self", "index"] ["self", "index"] (defScope s_x3) := ⟨rfl, rfl, rfl, by decide +kernel, rfl, by decide +kernel, by decide +kernel⟩
theorem ok_x3 {P : Program} {w : World} {K : PySem.W.Frag} {mg : Str → Option Value} {base : Heap} {f C CB : Addr} {fd : FuncData} (TB : BaseX K mg CB) (T : OexC K C) (hindex : PySem.W.findIn K (.ref C) "index" = some none) (F : FunD K "__init__" "NoServers.__init__" (defArgs s_x3) (defBody s_x3) (defScope s_x3) [] [] f fd) : FnOk P w K mg base (L2.CX P w) 1 f fd ["self", "index"] (spI1 C "index") :=
  F.ok sc_x3 (fun vs H Q E h => by obtain ⟨a, y, rfl, _⟩ := h; rfl) fun cdv A outer s H vs Q E hr h => ⟨_, pss_cons (ps_expr (pe_feinit TB (pa_cons (pv 0) (pa_cons pe_str pa_nil)))) (pss_one (ps_ost (pv 0) (pv 1))), read1 rfl T hindex h⟩
theorem wire (plain : ∀ ns : List Int, ns.length ≤ 63 → ∃ outs, m_law [.lst (ns.map .int)] = .ret (.bl true) outs) {l : PySem.W.OpenLaw} {w : World} {K : PySem.W.Frag} {h : Heap} {mg : Str → Option Value} {fa C0 CB X0 X2 X3 : Addr} (X : K.In h) (G : h.Ns mainGlobals mg) (hfa : mg "law" = some (.ref fa))
    {xn0 xq0 : Str} {xN0 : Addr} {xb0 : List Value} {xs0 : List Str} {xu0 : List Value} {xa0 : Bool} {xc0 : Option Bool} {xd0 : Option Addr} {xe0 xf0 xg0 xh0 xi0 : Option Value}
    {xn2 xq2 : Str} {xN2 : Addr} {xb2 : List Value} {xs2 : List Str} {xu2 : List Value} {xa2 : Bool} {xc2 : Option Bool} {xd2 : Option Addr} {xe2 xf2 xg2 xh2 xi2 : Option Value}
    {xn3 xq3 : Str} {xN3 : Addr} {xb3 : List Value} {xs3 : List Str} {xu3 : List Value} {xa3 : Bool} {xc3 : Option Bool} {xd3 : Option Addr} {xe3 xf3 xg3 xh3 xi3 : Option Value}
    {t_MAX_SERVERS : Tok}
    {t_MAX_SESSIONS : Tok}
    {f_NoFarmdd_initdd : Addr} {od_NoFarmdd_initdd an_NoFarmdd_initdd : Option Addr} {sl_NoFarmdd_initdd : Array (Option Value)} {oc_NoFarmdd_initdd dc_NoFarmdd_initdd pm_NoFarmdd_initdd ct_NoFarmdd_initdd : Value} {cd_NoFarmdd_initdd : Value}
    {kV_NoFarmdd_initdd : Value}
    {f_NoPlacementdd_initdd : Addr} {od_NoPlacementdd_initdd an_NoPlacementdd_initdd : Option Addr} {sl_NoPlacementdd_initdd : Array (Option Value)} {oc_NoPlacementdd_initdd dc_NoPlacementdd_initdd pm_NoPlacementdd_initdd ct_NoPlacementdd_initdd : Value} {cd_NoPlacementdd_initdd : Value}
    {kV_NoPlacementdd_initdd : Value}
    {f_NoServersdd_initdd : Addr} {od_NoServersdd_initdd an_NoServersdd_initdd : Option Addr} {sl_NoServersdd_initdd : Array (Option Value)} {oc_NoServersdd_initdd dc_NoServersdd_initdd pm_NoServersdd_initdd ct_NoServersdd_initdd : Value} {cd_NoServersdd_initdd : Value}
    {kV_NoServersdd_initdd : Value}
    {f_Farmdd_initdd : Addr} {od_Farmdd_initdd an_Farmdd_initdd : Option Addr} {sl_Farmdd_initdd : Array (Option Value)} {oc_Farmdd_initdd dc_Farmdd_initdd pm_Farmdd_initdd ct_Farmdd_initdd : Value} {cd_Farmdd_initdd : Value}
    {kV_Farmdd_initdd : Value}
    {f_Farmdd_lendd : Addr} {od_Farmdd_lendd an_Farmdd_lendd : Option Addr} {sl_Farmdd_lendd : Array (Option Value)} {oc_Farmdd_lendd dc_Farmdd_lendd pm_Farmdd_lendd ct_Farmdd_lendd : Value} {cd_Farmdd_lendd : Value}
    {kV_Farmdd_lendd : Value}
    {f_law_take : Addr} {od_law_take an_law_take : Option Addr} {sl_law_take : Array (Option Value)} {oc_law_take dc_law_take pm_law_take ct_law_take : Value} {cd_law_take : Value}
    {kV_law_take : Value}
    {f_law_mixed : Addr} {od_law_mixed an_law_mixed : Option Addr} {sl_law_mixed : Array (Option Value)} {oc_law_mixed dc_law_mixed pm_law_mixed ct_law_mixed : Value} {cd_law_mixed : Value}
    {kV_law_mixed : Value}
    {f_law_farm : Addr} {od_law_farm an_law_farm : Option Addr} {sl_law_farm : Array (Option Value)} {oc_law_farm dc_law_farm pm_law_farm ct_law_farm : Value} {cd_law_farm : Value}
    {kV_law_farm : Value}
    {f_is_int : Addr} {od_is_int an_is_int : Option Addr} {sl_is_int : Array (Option Value)} {oc_is_int dc_is_int pm_is_int ct_is_int : Value} {cd_is_int : Value}
    {kV_is_int : Value}
    {f_is_from : Addr} {od_is_from an_is_from : Option Addr} {sl_is_from : Array (Option Value)} {oc_is_from dc_is_from pm_is_from ct_is_from : Value} {cd_is_from : Value}
    {kV_is_from : Value}
    {f_is_row : Addr} {od_is_row an_is_row : Option Addr} {sl_is_row : Array (Option Value)} {oc_is_row dc_is_row pm_is_row ct_is_row : Value} {cd_is_row : Value}
    {kV_is_row : Value}
    {f_law_first : Addr} {od_law_first an_law_first : Option Addr} {sl_law_first : Array (Option Value)} {oc_law_first dc_law_first pm_law_first ct_law_first : Value} {cd_law_first : Value}
    {kV_law_first : Value}
    {f_law_drawn : Addr} {od_law_drawn an_law_drawn : Option Addr} {sl_law_drawn : Array (Option Value)} {oc_law_drawn dc_law_drawn pm_law_drawn ct_law_drawn : Value} {cd_law_drawn : Value}
    {kV_law_drawn : Value}
    {f_check_placement : Addr} {od_check_placement an_check_placement : Option Addr} {sl_check_placement : Array (Option Value)} {oc_check_placement dc_check_placement pm_check_placement ct_check_placement : Value} {cd_check_placement : Value}
    {kV_check_placement : Value}
    {f_loads : Addr} {od_loads an_loads : Option Addr} {sl_loads : Array (Option Value)} {oc_loads dc_loads pm_loads ct_loads : Value} {cd_loads : Value}
    {kV_loads : Value}
    {f_first_bad_server : Addr} {od_first_bad_server an_first_bad_server : Option Addr} {sl_first_bad_server : Array (Option Value)} {oc_first_bad_server dc_first_bad_server pm_first_bad_server ct_first_bad_server : Value} {cd_first_bad_server : Value}
    {kV_first_bad_server : Value}
    {f_near : Addr} {od_near an_near : Option Addr} {sl_near : Array (Option Value)} {oc_near dc_near pm_near ct_near : Value} {cd_near : Value}
    {kV_near : Value}
    {f_greatest_load : Addr} {od_greatest_load an_greatest_load : Option Addr} {sl_greatest_load : Array (Option Value)} {oc_greatest_load dc_greatest_load pm_greatest_load ct_greatest_load : Value} {cd_greatest_load : Value}
    {kV_greatest_load : Value}
    {f_law_near : Addr} {od_law_near an_law_near : Option Addr} {sl_law_near : Array (Option Value)} {oc_law_near dc_law_near pm_law_near ct_law_near : Value} {cd_law_near : Value}
    {kV_law_near : Value}
    {f_law_over : Addr} {od_law_over an_law_over : Option Addr} {sl_law_over : Array (Option Value)} {oc_law_over dc_law_over pm_law_over ct_law_over : Value} {cd_law_over : Value}
    {kV_law_over : Value}
    {f_law_arises : Addr} {od_law_arises an_law_arises : Option Addr} {sl_law_arises : Array (Option Value)} {oc_law_arises dc_law_arises pm_law_arises ct_law_arises : Value} {cd_law_arises : Value}
    {kV_law_arises : Value}
    {f_law_greatest_right : Addr} {od_law_greatest_right an_law_greatest_right : Option Addr} {sl_law_greatest_right : Array (Option Value)} {oc_law_greatest_right dc_law_greatest_right pm_law_greatest_right ct_law_greatest_right : Value} {cd_law_greatest_right : Value}
    {kV_law_greatest_right : Value}
    {f_law_next : Addr} {od_law_next an_law_next : Option Addr} {sl_law_next : Array (Option Value)} {oc_law_next dc_law_next pm_law_next ct_law_next : Value} {cd_law_next : Value}
    {kV_law_next : Value}
    {f_law_known : Addr} {od_law_known an_law_known : Option Addr} {sl_law_known : Array (Option Value)} {oc_law_known dc_law_known pm_law_known ct_law_known : Value} {cd_law_known : Value}
    {kV_law_known : Value}
    {f_law_right : Addr} {od_law_right an_law_right : Option Addr} {sl_law_right : Array (Option Value)} {oc_law_right dc_law_right pm_law_right ct_law_right : Value} {cd_law_right : Value}
    {kV_law_right : Value}
    {f_law_well : Addr} {od_law_well an_law_well : Option Addr} {sl_law_well : Array (Option Value)} {oc_law_well dc_law_well pm_law_well ct_law_well : Value} {cd_law_well : Value}
    {kV_law_well : Value}
    {f_law : Addr} {od_law an_law : Option Addr} {sl_law : Array (Option Value)} {oc_law dc_law pm_law ct_law : Value} {cd_law : Value}
    {kV_law : Value}
    (aFarm : PySem.W.nsIn K mainGlobals "Farm" = some (some (.ref C0)))
    (aFE : PySem.W.nsIn K mainGlobals "FarmError" = some (some (.ref CB)))
    (aX0 : PySem.W.nsIn K mainGlobals "NoFarm" = some (some (.ref X0)))
    (xL0 : K.lookup X0 = some (PySem.excClassObj xn0 xq0 X0 xN0 xb0 [.ref CB, .type "ValueError", .type "Exception", .type "BaseException", .type "object"] true xs0 xu0 xa0 xc0 xd0 xe0 xf0 xg0 xh0 xi0 "ValueError.__new__"))
    (xsa0 : PySem.W.findIn K (.ref X0) "__setattr__" = some (some (.builtin "object.__setattr__")))
    (xex0 : PySem.W.subIn K (.ref X0) (.type "BaseException") = some true)
    (xty0 : PySem.W.typeIn K (.ref X0) = some (.type "type"))
    (xkp0 : PySem.W.keepIn K (.ref X0) = true)
    (xp0_part : PySem.W.findIn K (.ref X0) "part" = some none)
    (xp0_index : PySem.W.findIn K (.ref X0) "index" = some none)
    (aX2 : PySem.W.nsIn K mainGlobals "NoPlacement" = some (some (.ref X2)))
    (xL2 : K.lookup X2 = some (PySem.excClassObj xn2 xq2 X2 xN2 xb2 [.ref CB, .type "ValueError", .type "Exception", .type "BaseException", .type "object"] true xs2 xu2 xa2 xc2 xd2 xe2 xf2 xg2 xh2 xi2 "ValueError.__new__"))
    (xsa2 : PySem.W.findIn K (.ref X2) "__setattr__" = some (some (.builtin "object.__setattr__")))
    (xex2 : PySem.W.subIn K (.ref X2) (.type "BaseException") = some true)
    (xty2 : PySem.W.typeIn K (.ref X2) = some (.type "type"))
    (xkp2 : PySem.W.keepIn K (.ref X2) = true)
    (xp2_index : PySem.W.findIn K (.ref X2) "index" = some none)
    (aX3 : PySem.W.nsIn K mainGlobals "NoServers" = some (some (.ref X3)))
    (xL3 : K.lookup X3 = some (PySem.excClassObj xn3 xq3 X3 xN3 xb3 [.ref CB, .type "ValueError", .type "Exception", .type "BaseException", .type "object"] true xs3 xu3 xa3 xc3 xd3 xe3 xf3 xg3 xh3 xi3 "ValueError.__new__"))
    (xsa3 : PySem.W.findIn K (.ref X3) "__setattr__" = some (some (.builtin "object.__setattr__")))
    (xex3 : PySem.W.subIn K (.ref X3) (.type "BaseException") = some true)
    (xty3 : PySem.W.typeIn K (.ref X3) = some (.type "type"))
    (xkp3 : PySem.W.keepIn K (.ref X3) = true)
    (xp3_index : PySem.W.findIn K (.ref X3) "index" = some none)
    (fB : PySem.W.specialIn K (.ref CB) "__getattribute__" = some (some (.builtin "type.__getattribute__")))
    (fR : PySem.W.readsIn K CB (.type "type") = true)
    (fV : PySem.W.findCls K (.ref CB) (.type "type") "__init__" = some (.val (.builtin "ValueError.__init__")))
    (pg : PySem.W.plainGet K C0 Str.empty = true)
    (hd : PySem.W.hasDictIn K C0 = true)
    (po : PySem.W.plainOver K C0 = true)
    (sa : PySem.W.findIn K (.ref C0) "__setattr__" = some (some (.builtin "object.__setattr__")))
    (mk : PySem.W.makesIn K C0 = true)
    (kc : PySem.W.keepIn K (.ref C0) = true)
    (n_many : PySem.W.findIn K (.ref C0) "many" = some none)
    (n_rows : PySem.W.findIn K (.ref C0) "rows" = some none)
    (n_most : PySem.W.findIn K (.ref C0) "most" = some none)
    (zlen : PySem.W.nsIn K mainGlobals "len" = some none)
    (ztuple : PySem.W.nsIn K mainGlobals "tuple" = some none)
    (zlist : PySem.W.nsIn K mainGlobals "list" = some none)
    (zint : PySem.W.nsIn K mainGlobals "int" = some none)
    (zsum : PySem.W.nsIn K mainGlobals "sum" = some none)
    (zall : PySem.W.nsIn K mainGlobals "all" = some none)
    (zmax : PySem.W.nsIn K mainGlobals "max" = some none)
    (zmin : PySem.W.nsIn K mainGlobals "min" = some none)
    (zsorted : PySem.W.nsIn K mainGlobals "sorted" = some none)
    (zisinstance : PySem.W.nsIn K mainGlobals "isinstance" = some none)
    (zenumerate : PySem.W.nsIn K mainGlobals "enumerate" = some none)
    (zrange : PySem.W.nsIn K mainGlobals "range" = some none)
    (zset : PySem.W.nsIn K mainGlobals "set" = some none)
    (zbool : PySem.W.nsIn K mainGlobals "bool" = some none)
    (zstr : PySem.W.nsIn K mainGlobals "str" = some none)
    (zzip : PySem.W.nsIn K mainGlobals "zip" = some none)
    (zdict : PySem.W.nsIn K mainGlobals "dict" = some none)
    (zrepr : PySem.W.nsIn K mainGlobals "repr" = some none)
    (g_MAX_SERVERS : PySem.W.nsIn K mainGlobals "MAX_SERVERS" = some (some (.int 30 t_MAX_SERVERS)))
    (g_MAX_SESSIONS : PySem.W.nsIn K mainGlobals "MAX_SESSIONS" = some (some (.int 60 t_MAX_SESSIONS)))
    (a_NoFarmdd_initdd : PySem.W.findIn K (.ref X0) "__init__" = some (some (.ref f_NoFarmdd_initdd)))
    (l_NoFarmdd_initdd : K.lookup f_NoFarmdd_initdd = some ⟨oc_NoFarmdd_initdd, od_NoFarmdd_initdd, .func (PySem.W.fnOf "__init__" "NoFarm.__init__" (defArgs s_x0) (defBody s_x0) (defScope s_x0) .none kV_NoFarmdd_initdd dc_NoFarmdd_initdd pm_NoFarmdd_initdd an_NoFarmdd_initdd cd_NoFarmdd_initdd ct_NoFarmdd_initdd), sl_NoFarmdd_initdd⟩)
    (c_NoFarmdd_initdd : PySem.W.codeIn K cd_NoFarmdd_initdd "NoFarm.__init__" = true)
    (k_NoFarmdd_initdd : PySem.W.keepIn K (.ref f_NoFarmdd_initdd) = true)
    (i_NoFarmdd_initdd : PySem.W.typeIn K (.ref f_NoFarmdd_initdd) = some (.type "function"))
    (a_NoPlacementdd_initdd : PySem.W.findIn K (.ref X2) "__init__" = some (some (.ref f_NoPlacementdd_initdd)))
    (l_NoPlacementdd_initdd : K.lookup f_NoPlacementdd_initdd = some ⟨oc_NoPlacementdd_initdd, od_NoPlacementdd_initdd, .func (PySem.W.fnOf "__init__" "NoPlacement.__init__" (defArgs s_x2) (defBody s_x2) (defScope s_x2) .none kV_NoPlacementdd_initdd dc_NoPlacementdd_initdd pm_NoPlacementdd_initdd an_NoPlacementdd_initdd cd_NoPlacementdd_initdd ct_NoPlacementdd_initdd), sl_NoPlacementdd_initdd⟩)
    (c_NoPlacementdd_initdd : PySem.W.codeIn K cd_NoPlacementdd_initdd "NoPlacement.__init__" = true)
    (k_NoPlacementdd_initdd : PySem.W.keepIn K (.ref f_NoPlacementdd_initdd) = true)
    (i_NoPlacementdd_initdd : PySem.W.typeIn K (.ref f_NoPlacementdd_initdd) = some (.type "function"))
    (a_NoServersdd_initdd : PySem.W.findIn K (.ref X3) "__init__" = some (some (.ref f_NoServersdd_initdd)))
    (l_NoServersdd_initdd : K.lookup f_NoServersdd_initdd = some ⟨oc_NoServersdd_initdd, od_NoServersdd_initdd, .func (PySem.W.fnOf "__init__" "NoServers.__init__" (defArgs s_x3) (defBody s_x3) (defScope s_x3) .none kV_NoServersdd_initdd dc_NoServersdd_initdd pm_NoServersdd_initdd an_NoServersdd_initdd cd_NoServersdd_initdd ct_NoServersdd_initdd), sl_NoServersdd_initdd⟩)
    (c_NoServersdd_initdd : PySem.W.codeIn K cd_NoServersdd_initdd "NoServers.__init__" = true)
    (k_NoServersdd_initdd : PySem.W.keepIn K (.ref f_NoServersdd_initdd) = true)
    (i_NoServersdd_initdd : PySem.W.typeIn K (.ref f_NoServersdd_initdd) = some (.type "function"))
    (a_Farmdd_initdd : PySem.W.findIn K (.ref C0) "__init__" = some (some (.ref f_Farmdd_initdd)))
    (l_Farmdd_initdd : K.lookup f_Farmdd_initdd = some ⟨oc_Farmdd_initdd, od_Farmdd_initdd, .func (PySem.W.fnOf "__init__" "Farm.__init__" (defArgs s_Farmdd_initdd) (defBody s_Farmdd_initdd) (defScope s_Farmdd_initdd) .none kV_Farmdd_initdd dc_Farmdd_initdd pm_Farmdd_initdd an_Farmdd_initdd cd_Farmdd_initdd ct_Farmdd_initdd), sl_Farmdd_initdd⟩)
    (c_Farmdd_initdd : PySem.W.codeIn K cd_Farmdd_initdd "Farm.__init__" = true)
    (k_Farmdd_initdd : PySem.W.keepIn K (.ref f_Farmdd_initdd) = true)
    (i_Farmdd_initdd : PySem.W.isFn K (.ref f_Farmdd_initdd) = true)
    (a_Farmdd_lendd : PySem.W.findIn K (.ref C0) "__len__" = some (some (.ref f_Farmdd_lendd)))
    (l_Farmdd_lendd : K.lookup f_Farmdd_lendd = some ⟨oc_Farmdd_lendd, od_Farmdd_lendd, .func (PySem.W.fnOf "__len__" "Farm.__len__" (defArgs s_Farmdd_lendd) (defBody s_Farmdd_lendd) (defScope s_Farmdd_lendd) .none kV_Farmdd_lendd dc_Farmdd_lendd pm_Farmdd_lendd an_Farmdd_lendd cd_Farmdd_lendd ct_Farmdd_lendd), sl_Farmdd_lendd⟩)
    (c_Farmdd_lendd : PySem.W.codeIn K cd_Farmdd_lendd "Farm.__len__" = true)
    (k_Farmdd_lendd : PySem.W.keepIn K (.ref f_Farmdd_lendd) = true)
    (i_Farmdd_lendd : PySem.W.isFn K (.ref f_Farmdd_lendd) = true)
    (a_law_take : PySem.W.nsIn K mainGlobals "_law_take" = some (some (.ref f_law_take)))
    (l_law_take : K.lookup f_law_take = some ⟨oc_law_take, od_law_take, .func (PySem.W.fnOf "_law_take" "_law_take" (defArgs s_law_take) (defBody s_law_take) (defScope s_law_take) .none kV_law_take dc_law_take pm_law_take an_law_take cd_law_take ct_law_take), sl_law_take⟩)
    (c_law_take : PySem.W.codeIn K cd_law_take "_law_take" = true)
    (k_law_take : PySem.W.keepIn K (.ref f_law_take) = true)
    (a_law_mixed : PySem.W.nsIn K mainGlobals "_law_mixed" = some (some (.ref f_law_mixed)))
    (l_law_mixed : K.lookup f_law_mixed = some ⟨oc_law_mixed, od_law_mixed, .func (PySem.W.fnOf "_law_mixed" "_law_mixed" (defArgs s_law_mixed) (defBody s_law_mixed) (defScope s_law_mixed) .none kV_law_mixed dc_law_mixed pm_law_mixed an_law_mixed cd_law_mixed ct_law_mixed), sl_law_mixed⟩)
    (c_law_mixed : PySem.W.codeIn K cd_law_mixed "_law_mixed" = true)
    (k_law_mixed : PySem.W.keepIn K (.ref f_law_mixed) = true)
    (a_law_farm : PySem.W.nsIn K mainGlobals "_law_farm" = some (some (.ref f_law_farm)))
    (l_law_farm : K.lookup f_law_farm = some ⟨oc_law_farm, od_law_farm, .func (PySem.W.fnOf "_law_farm" "_law_farm" (defArgs s_law_farm) (defBody s_law_farm) (defScope s_law_farm) .none kV_law_farm dc_law_farm pm_law_farm an_law_farm cd_law_farm ct_law_farm), sl_law_farm⟩)
    (c_law_farm : PySem.W.codeIn K cd_law_farm "_law_farm" = true)
    (k_law_farm : PySem.W.keepIn K (.ref f_law_farm) = true)
    (a_is_int : PySem.W.nsIn K mainGlobals "is_int" = some (some (.ref f_is_int)))
    (l_is_int : K.lookup f_is_int = some ⟨oc_is_int, od_is_int, .func (PySem.W.fnOf "is_int" "is_int" (defArgs s_is_int) (defBody s_is_int) (defScope s_is_int) .none kV_is_int dc_is_int pm_is_int an_is_int cd_is_int ct_is_int), sl_is_int⟩)
    (c_is_int : PySem.W.codeIn K cd_is_int "is_int" = true)
    (k_is_int : PySem.W.keepIn K (.ref f_is_int) = true)
    (a_is_from : PySem.W.nsIn K mainGlobals "is_from" = some (some (.ref f_is_from)))
    (l_is_from : K.lookup f_is_from = some ⟨oc_is_from, od_is_from, .func (PySem.W.fnOf "is_from" "is_from" (defArgs s_is_from) (defBody s_is_from) (defScope s_is_from) .none kV_is_from dc_is_from pm_is_from an_is_from cd_is_from ct_is_from), sl_is_from⟩)
    (c_is_from : PySem.W.codeIn K cd_is_from "is_from" = true)
    (k_is_from : PySem.W.keepIn K (.ref f_is_from) = true)
    (a_is_row : PySem.W.nsIn K mainGlobals "is_row" = some (some (.ref f_is_row)))
    (l_is_row : K.lookup f_is_row = some ⟨oc_is_row, od_is_row, .func (PySem.W.fnOf "is_row" "is_row" (defArgs s_is_row) (defBody s_is_row) (defScope s_is_row) .none kV_is_row dc_is_row pm_is_row an_is_row cd_is_row ct_is_row), sl_is_row⟩)
    (c_is_row : PySem.W.codeIn K cd_is_row "is_row" = true)
    (k_is_row : PySem.W.keepIn K (.ref f_is_row) = true)
    (a_law_first : PySem.W.nsIn K mainGlobals "_law_first" = some (some (.ref f_law_first)))
    (l_law_first : K.lookup f_law_first = some ⟨oc_law_first, od_law_first, .func (PySem.W.fnOf "_law_first" "_law_first" (defArgs s_law_first) (defBody s_law_first) (defScope s_law_first) .none kV_law_first dc_law_first pm_law_first an_law_first cd_law_first ct_law_first), sl_law_first⟩)
    (c_law_first : PySem.W.codeIn K cd_law_first "_law_first" = true)
    (k_law_first : PySem.W.keepIn K (.ref f_law_first) = true)
    (a_law_drawn : PySem.W.nsIn K mainGlobals "_law_drawn" = some (some (.ref f_law_drawn)))
    (l_law_drawn : K.lookup f_law_drawn = some ⟨oc_law_drawn, od_law_drawn, .func (PySem.W.fnOf "_law_drawn" "_law_drawn" (defArgs s_law_drawn) (defBody s_law_drawn) (defScope s_law_drawn) .none kV_law_drawn dc_law_drawn pm_law_drawn an_law_drawn cd_law_drawn ct_law_drawn), sl_law_drawn⟩)
    (c_law_drawn : PySem.W.codeIn K cd_law_drawn "_law_drawn" = true)
    (k_law_drawn : PySem.W.keepIn K (.ref f_law_drawn) = true)
    (a_check_placement : PySem.W.nsIn K mainGlobals "check_placement" = some (some (.ref f_check_placement)))
    (l_check_placement : K.lookup f_check_placement = some ⟨oc_check_placement, od_check_placement, .func (PySem.W.fnOf "check_placement" "check_placement" (defArgs s_check_placement) (defBody s_check_placement) (defScope s_check_placement) .none kV_check_placement dc_check_placement pm_check_placement an_check_placement cd_check_placement ct_check_placement), sl_check_placement⟩)
    (c_check_placement : PySem.W.codeIn K cd_check_placement "check_placement" = true)
    (k_check_placement : PySem.W.keepIn K (.ref f_check_placement) = true)
    (a_loads : PySem.W.nsIn K mainGlobals "loads" = some (some (.ref f_loads)))
    (l_loads : K.lookup f_loads = some ⟨oc_loads, od_loads, .func (PySem.W.fnOf "loads" "loads" (defArgs s_loads) (defBody s_loads) (defScope s_loads) .none kV_loads dc_loads pm_loads an_loads cd_loads ct_loads), sl_loads⟩)
    (c_loads : PySem.W.codeIn K cd_loads "loads" = true)
    (k_loads : PySem.W.keepIn K (.ref f_loads) = true)
    (a_first_bad_server : PySem.W.nsIn K mainGlobals "first_bad_server" = some (some (.ref f_first_bad_server)))
    (l_first_bad_server : K.lookup f_first_bad_server = some ⟨oc_first_bad_server, od_first_bad_server, .func (PySem.W.fnOf "first_bad_server" "first_bad_server" (defArgs s_first_bad_server) (defBody s_first_bad_server) (defScope s_first_bad_server) .none kV_first_bad_server dc_first_bad_server pm_first_bad_server an_first_bad_server cd_first_bad_server ct_first_bad_server), sl_first_bad_server⟩)
    (c_first_bad_server : PySem.W.codeIn K cd_first_bad_server "first_bad_server" = true)
    (k_first_bad_server : PySem.W.keepIn K (.ref f_first_bad_server) = true)
    (a_near : PySem.W.nsIn K mainGlobals "near" = some (some (.ref f_near)))
    (l_near : K.lookup f_near = some ⟨oc_near, od_near, .func (PySem.W.fnOf "near" "near" (defArgs s_near) (defBody s_near) (defScope s_near) .none kV_near dc_near pm_near an_near cd_near ct_near), sl_near⟩)
    (c_near : PySem.W.codeIn K cd_near "near" = true)
    (k_near : PySem.W.keepIn K (.ref f_near) = true)
    (a_greatest_load : PySem.W.nsIn K mainGlobals "greatest_load" = some (some (.ref f_greatest_load)))
    (l_greatest_load : K.lookup f_greatest_load = some ⟨oc_greatest_load, od_greatest_load, .func (PySem.W.fnOf "greatest_load" "greatest_load" (defArgs s_greatest_load) (defBody s_greatest_load) (defScope s_greatest_load) .none kV_greatest_load dc_greatest_load pm_greatest_load an_greatest_load cd_greatest_load ct_greatest_load), sl_greatest_load⟩)
    (c_greatest_load : PySem.W.codeIn K cd_greatest_load "greatest_load" = true)
    (k_greatest_load : PySem.W.keepIn K (.ref f_greatest_load) = true)
    (a_law_near : PySem.W.nsIn K mainGlobals "_law_near" = some (some (.ref f_law_near)))
    (l_law_near : K.lookup f_law_near = some ⟨oc_law_near, od_law_near, .func (PySem.W.fnOf "_law_near" "_law_near" (defArgs s_law_near) (defBody s_law_near) (defScope s_law_near) .none kV_law_near dc_law_near pm_law_near an_law_near cd_law_near ct_law_near), sl_law_near⟩)
    (c_law_near : PySem.W.codeIn K cd_law_near "_law_near" = true)
    (k_law_near : PySem.W.keepIn K (.ref f_law_near) = true)
    (a_law_over : PySem.W.nsIn K mainGlobals "_law_over" = some (some (.ref f_law_over)))
    (l_law_over : K.lookup f_law_over = some ⟨oc_law_over, od_law_over, .func (PySem.W.fnOf "_law_over" "_law_over" (defArgs s_law_over) (defBody s_law_over) (defScope s_law_over) .none kV_law_over dc_law_over pm_law_over an_law_over cd_law_over ct_law_over), sl_law_over⟩)
    (c_law_over : PySem.W.codeIn K cd_law_over "_law_over" = true)
    (k_law_over : PySem.W.keepIn K (.ref f_law_over) = true)
    (a_law_arises : PySem.W.nsIn K mainGlobals "_law_arises" = some (some (.ref f_law_arises)))
    (l_law_arises : K.lookup f_law_arises = some ⟨oc_law_arises, od_law_arises, .func (PySem.W.fnOf "_law_arises" "_law_arises" (defArgs s_law_arises) (defBody s_law_arises) (defScope s_law_arises) .none kV_law_arises dc_law_arises pm_law_arises an_law_arises cd_law_arises ct_law_arises), sl_law_arises⟩)
    (c_law_arises : PySem.W.codeIn K cd_law_arises "_law_arises" = true)
    (k_law_arises : PySem.W.keepIn K (.ref f_law_arises) = true)
    (a_law_greatest_right : PySem.W.nsIn K mainGlobals "_law_greatest_right" = some (some (.ref f_law_greatest_right)))
    (l_law_greatest_right : K.lookup f_law_greatest_right = some ⟨oc_law_greatest_right, od_law_greatest_right, .func (PySem.W.fnOf "_law_greatest_right" "_law_greatest_right" (defArgs s_law_greatest_right) (defBody s_law_greatest_right) (defScope s_law_greatest_right) .none kV_law_greatest_right dc_law_greatest_right pm_law_greatest_right an_law_greatest_right cd_law_greatest_right ct_law_greatest_right), sl_law_greatest_right⟩)
    (c_law_greatest_right : PySem.W.codeIn K cd_law_greatest_right "_law_greatest_right" = true)
    (k_law_greatest_right : PySem.W.keepIn K (.ref f_law_greatest_right) = true)
    (a_law_next : PySem.W.nsIn K mainGlobals "_law_next" = some (some (.ref f_law_next)))
    (l_law_next : K.lookup f_law_next = some ⟨oc_law_next, od_law_next, .func (PySem.W.fnOf "_law_next" "_law_next" (defArgs s_law_next) (defBody s_law_next) (defScope s_law_next) .none kV_law_next dc_law_next pm_law_next an_law_next cd_law_next ct_law_next), sl_law_next⟩)
    (c_law_next : PySem.W.codeIn K cd_law_next "_law_next" = true)
    (k_law_next : PySem.W.keepIn K (.ref f_law_next) = true)
    (a_law_known : PySem.W.nsIn K mainGlobals "_law_known" = some (some (.ref f_law_known)))
    (l_law_known : K.lookup f_law_known = some ⟨oc_law_known, od_law_known, .func (PySem.W.fnOf "_law_known" "_law_known" (defArgs s_law_known) (defBody s_law_known) (defScope s_law_known) .none kV_law_known dc_law_known pm_law_known an_law_known cd_law_known ct_law_known), sl_law_known⟩)
    (c_law_known : PySem.W.codeIn K cd_law_known "_law_known" = true)
    (k_law_known : PySem.W.keepIn K (.ref f_law_known) = true)
    (a_law_right : PySem.W.nsIn K mainGlobals "_law_right" = some (some (.ref f_law_right)))
    (l_law_right : K.lookup f_law_right = some ⟨oc_law_right, od_law_right, .func (PySem.W.fnOf "_law_right" "_law_right" (defArgs s_law_right) (defBody s_law_right) (defScope s_law_right) .none kV_law_right dc_law_right pm_law_right an_law_right cd_law_right ct_law_right), sl_law_right⟩)
    (c_law_right : PySem.W.codeIn K cd_law_right "_law_right" = true)
    (k_law_right : PySem.W.keepIn K (.ref f_law_right) = true)
    (a_law_well : PySem.W.nsIn K mainGlobals "_law_well" = some (some (.ref f_law_well)))
    (l_law_well : K.lookup f_law_well = some ⟨oc_law_well, od_law_well, .func (PySem.W.fnOf "_law_well" "_law_well" (defArgs s_law_well) (defBody s_law_well) (defScope s_law_well) .none kV_law_well dc_law_well pm_law_well an_law_well cd_law_well ct_law_well), sl_law_well⟩)
    (c_law_well : PySem.W.codeIn K cd_law_well "_law_well" = true)
    (k_law_well : PySem.W.keepIn K (.ref f_law_well) = true)
    (a_law : PySem.W.nsIn K mainGlobals "law" = some (some (.ref f_law)))
    (l_law : K.lookup f_law = some ⟨oc_law, od_law, .func (PySem.W.fnOf "law" "law" (defArgs s_law) (defBody s_law) (defScope s_law) .none kV_law dc_law pm_law an_law cd_law ct_law), sl_law⟩)
    (c_law : PySem.W.codeIn K cd_law "law" = true)
    (k_law : PySem.W.keepIn K (.ref f_law) = true) :
    ∃ fd : FuncData, (∀ (s : Shared) (v : Value), BindsTo s fd ⟨[v], []⟩ [("_law_script", v)]) ∧ ∀ base : Heap, K.In base → base.Ns mainGlobals mg → FnG l.prog w K mg base (L2.CX l.prog w) 7 fa fd ["_law_script"] (spLaw K) := by
  have e := hfa.symm.trans (PySem.W.mg_of X G a_law)
  cases e
  have blt : Blt mg := ⟨PySem.W.mg_none_of X G zlen, PySem.W.mg_none_of X G ztuple, PySem.W.mg_none_of X G zlist, PySem.W.mg_none_of X G zint, PySem.W.mg_none_of X G zsum, PySem.W.mg_none_of X G zall, PySem.W.mg_none_of X G zmax, PySem.W.mg_none_of X G zmin, PySem.W.mg_none_of X G zsorted, PySem.W.mg_none_of X G zisinstance, PySem.W.mg_none_of X G zenumerate, PySem.W.mg_none_of X G zrange, PySem.W.mg_none_of X G zset, PySem.W.mg_none_of X G zbool, PySem.W.mg_none_of X G zstr⟩
  have T : Txt K mg C0 := ⟨blt, ⟨pg, hd, po, sa⟩, n_many, n_rows, n_most, PySem.W.mg_none_of X G zzip, PySem.W.mg_none_of X G zdict, PySem.W.mg_none_of X G zrepr, ⟨_, PySem.W.mg_of X G g_MAX_SERVERS⟩, ⟨_, PySem.W.mg_of X G g_MAX_SESSIONS⟩⟩
  have TB : BaseX K mg CB := ⟨PySem.W.mg_of X G aFE, fB, fR, fV⟩
  have O0 : OexC K X0 := ⟨⟨_, _, _, _, _, _, _, _, _, _, _, _, _, _, _, xL0, mro_ok⟩, xsa0, xex0, xty0, xkp0⟩
  have O2 : OexC K X2 := ⟨⟨_, _, _, _, _, _, _, _, _, _, _, _, _, _, _, xL2, mro_ok⟩, xsa2, xex2, xty2, xkp2⟩
  have O3 : OexC K X3 := ⟨⟨_, _, _, _, _, _, _, _, _, _, _, _, _, _, _, xL3, mro_ok⟩, xsa3, xex3, xty3, xkp3⟩
  have F_NoFarmdd_initdd : FunD K "__init__" "NoFarm.__init__" (defArgs s_x0) (defBody s_x0) (defScope s_x0) [] [] _ _ := ⟨⟨_, _, _, _, _, _, _, _, _, _, rfl, l_NoFarmdd_initdd, c_NoFarmdd_initdd, .inl ⟨rfl, rfl⟩, .inl rfl⟩, k_NoFarmdd_initdd⟩
  have b_NoFarmdd_initdd : Binds K _ ["self", "part", "index"] [] := F_NoFarmdd_initdd.bindsN fun _ _ _ _ _ _ us hl => match us, hl with | [_, _, _], _ => rfl
  have F_NoPlacementdd_initdd : FunD K "__init__" "NoPlacement.__init__" (defArgs s_x2) (defBody s_x2) (defScope s_x2) [] [] _ _ := ⟨⟨_, _, _, _, _, _, _, _, _, _, rfl, l_NoPlacementdd_initdd, c_NoPlacementdd_initdd, .inl ⟨rfl, rfl⟩, .inl rfl⟩, k_NoPlacementdd_initdd⟩
  have b_NoPlacementdd_initdd : Binds K _ ["self", "index"] [] := F_NoPlacementdd_initdd.bindsN fun _ _ _ _ _ _ us hl => match us, hl with | [_, _], _ => rfl
  have F_NoServersdd_initdd : FunD K "__init__" "NoServers.__init__" (defArgs s_x3) (defBody s_x3) (defScope s_x3) [] [] _ _ := ⟨⟨_, _, _, _, _, _, _, _, _, _, rfl, l_NoServersdd_initdd, c_NoServersdd_initdd, .inl ⟨rfl, rfl⟩, .inl rfl⟩, k_NoServersdd_initdd⟩
  have b_NoServersdd_initdd : Binds K _ ["self", "index"] [] := F_NoServersdd_initdd.bindsN fun _ _ _ _ _ _ us hl => match us, hl with | [_, _], _ => rfl
  have F_Farmdd_initdd : FunD K "__init__" "Farm.__init__" (defArgs s_Farmdd_initdd) (defBody s_Farmdd_initdd) (defScope s_Farmdd_initdd) [] [] _ _ := ⟨⟨_, _, _, _, _, _, _, _, _, _, rfl, l_Farmdd_initdd, c_Farmdd_initdd, .inl ⟨rfl, rfl⟩, .inl rfl⟩, k_Farmdd_initdd⟩
  have b_Farmdd_initdd : Binds K _ ["self", "servers", "lists", "failures"] [] := F_Farmdd_initdd.bindsN fun _ _ _ _ _ _ us hl => match us, hl with | [_, _, _, _], _ => rfl
  have F_Farmdd_lendd : FunD K "__len__" "Farm.__len__" (defArgs s_Farmdd_lendd) (defBody s_Farmdd_lendd) (defScope s_Farmdd_lendd) [] [] _ _ := ⟨⟨_, _, _, _, _, _, _, _, _, _, rfl, l_Farmdd_lendd, c_Farmdd_lendd, .inl ⟨rfl, rfl⟩, .inl rfl⟩, k_Farmdd_lendd⟩
  have b_Farmdd_lendd : Binds K _ ["self"] [] := F_Farmdd_lendd.bindsN fun _ _ _ _ _ _ us hl => match us, hl with | [_], _ => rfl
  have F_law_take : FunD K "_law_take" "_law_take" (defArgs s_law_take) (defBody s_law_take) (defScope s_law_take) [] [] _ _ := ⟨⟨_, _, _, _, _, _, _, _, _, _, rfl, l_law_take, c_law_take, .inl ⟨rfl, rfl⟩, .inl rfl⟩, k_law_take⟩
  have b_law_take : Binds K _ ["_law_well_here", "_law_bound"] [] := F_law_take.bindsN fun _ _ _ _ _ _ us hl => match us, hl with | [_, _], _ => rfl
  have F_law_mixed : FunD K "_law_mixed" "_law_mixed" (defArgs s_law_mixed) (defBody s_law_mixed) (defScope s_law_mixed) [] [] _ _ := ⟨⟨_, _, _, _, _, _, _, _, _, _, rfl, l_law_mixed, c_law_mixed, .inl ⟨rfl, rfl⟩, .inl rfl⟩, k_law_mixed⟩
  have b_law_mixed : Binds K _ ["_law_well_here", "_law_some"] [] := F_law_mixed.bindsN fun _ _ _ _ _ _ us hl => match us, hl with | [_, _], _ => rfl
  have F_law_farm : FunD K "_law_farm" "_law_farm" (defArgs s_law_farm) (defBody s_law_farm) (defScope s_law_farm) [] [] _ _ := ⟨⟨_, _, _, _, _, _, _, _, _, _, rfl, l_law_farm, c_law_farm, .inl ⟨rfl, rfl⟩, .inl rfl⟩, k_law_farm⟩
  have b_law_farm : Binds K _ ["_law_well_here", "_law_greatest", "_law_many", "_law_depth"] [] := F_law_farm.bindsN fun _ _ _ _ _ _ us hl => match us, hl with | [_, _, _, _], _ => rfl
  have F_is_int : FunD K "is_int" "is_int" (defArgs s_is_int) (defBody s_is_int) (defScope s_is_int) [] [] _ _ := ⟨⟨_, _, _, _, _, _, _, _, _, _, rfl, l_is_int, c_is_int, .inl ⟨rfl, rfl⟩, .inl rfl⟩, k_is_int⟩
  have b_is_int : Binds K _ ["value"] [] := F_is_int.bindsN fun _ _ _ _ _ _ us hl => match us, hl with | [_], _ => rfl
  have F_is_from : FunD K "is_from" "is_from" (defArgs s_is_from) (defBody s_is_from) (defScope s_is_from) [] [] _ _ := ⟨⟨_, _, _, _, _, _, _, _, _, _, rfl, l_is_from, c_is_from, .inl ⟨rfl, rfl⟩, .inl rfl⟩, k_is_from⟩
  have b_is_from : Binds K _ ["value", "low", "high"] [] := F_is_from.bindsN fun _ _ _ _ _ _ us hl => match us, hl with | [_, _, _], _ => rfl
  have F_is_row : FunD K "is_row" "is_row" (defArgs s_is_row) (defBody s_is_row) (defScope s_is_row) [] [] _ _ := ⟨⟨_, _, _, _, _, _, _, _, _, _, rfl, l_is_row, c_is_row, .inl ⟨rfl, rfl⟩, .inl rfl⟩, k_is_row⟩
  have b_is_row : Binds K _ ["value", "servers"] [] := F_is_row.bindsN fun _ _ _ _ _ _ us hl => match us, hl with | [_, _], _ => rfl
  have F_law_first : FunD K "_law_first" "_law_first" (defArgs s_law_first) (defBody s_law_first) (defScope s_law_first) [] [] _ _ := ⟨⟨_, _, _, _, _, _, _, _, _, _, rfl, l_law_first, c_law_first, .inl ⟨rfl, rfl⟩, .inl rfl⟩, k_law_first⟩
  have b_law_first : Binds K _ ["_law_row", "_law_down"] [] := F_law_first.bindsN fun _ _ _ _ _ _ us hl => match us, hl with | [_, _], _ => rfl
  have F_law_drawn : FunD K "_law_drawn" "_law_drawn" (defArgs s_law_drawn) (defBody s_law_drawn) (defScope s_law_drawn) [] [] _ _ := ⟨⟨_, _, _, _, _, _, _, _, _, _, rfl, l_law_drawn, c_law_drawn, .inl ⟨rfl, rfl⟩, .inl rfl⟩, k_law_drawn⟩
  have b_law_drawn : Binds K _ ["_law_well_here", "_law_case"] [] := F_law_drawn.bindsN fun _ _ _ _ _ _ us hl => match us, hl with | [_, _], _ => rfl
  have F_check_placement : FunD K "check_placement" "check_placement" (defArgs s_check_placement) (defBody s_check_placement) (defScope s_check_placement) [] [] _ _ := ⟨⟨_, _, _, _, _, _, _, _, _, _, rfl, l_check_placement, c_check_placement, .inl ⟨rfl, rfl⟩, .inl rfl⟩, k_check_placement⟩
  have b_check_placement : Binds K _ ["farm", "placement"] [] := F_check_placement.bindsN fun _ _ _ _ _ _ us hl => match us, hl with | [_, _], _ => rfl
  have F_loads : FunD K "loads" "loads" (defArgs s_loads) (defBody s_loads) (defScope s_loads) [] [] _ _ := ⟨⟨_, _, _, _, _, _, _, _, _, _, rfl, l_loads, c_loads, .inl ⟨rfl, rfl⟩, .inl rfl⟩, k_loads⟩
  have b_loads : Binds K _ ["farm", "placement"] [] := F_loads.bindsN fun _ _ _ _ _ _ us hl => match us, hl with | [_, _], _ => rfl
  have F_first_bad_server : FunD K "first_bad_server" "first_bad_server" (defArgs s_first_bad_server) (defBody s_first_bad_server) (defScope s_first_bad_server) [] [] _ _ := ⟨⟨_, _, _, _, _, _, _, _, _, _, rfl, l_first_bad_server, c_first_bad_server, .inl ⟨rfl, rfl⟩, .inl rfl⟩, k_first_bad_server⟩
  have b_first_bad_server : Binds K _ ["farm", "servers"] [] := F_first_bad_server.bindsN fun _ _ _ _ _ _ us hl => match us, hl with | [_, _], _ => rfl
  have F_near : FunD K "near" "near" (defArgs s_near) (defBody s_near) (defScope s_near) [] [] _ _ := ⟨⟨_, _, _, _, _, _, _, _, _, _, rfl, l_near, c_near, .inl ⟨rfl, rfl⟩, .inl rfl⟩, k_near⟩
  have b_near : Binds K _ ["farm", "session"] [] := F_near.bindsN fun _ _ _ _ _ _ us hl => match us, hl with | [_, _], _ => rfl
  have F_greatest_load : FunD K "greatest_load" "greatest_load" (defArgs s_greatest_load) (defBody s_greatest_load) (defScope s_greatest_load) [] [] _ _ := ⟨⟨_, _, _, _, _, _, _, _, _, _, rfl, l_greatest_load, c_greatest_load, .inl ⟨rfl, rfl⟩, .inl rfl⟩, k_greatest_load⟩
  have b_greatest_load : Binds K _ ["farm", "servers"] [] := F_greatest_load.bindsN fun _ _ _ _ _ _ us hl => match us, hl with | [_, _], _ => rfl
  have F_law_near : FunD K "_law_near" "_law_near" (defArgs s_law_near) (defBody s_law_near) (defScope s_law_near) [] [] _ _ := ⟨⟨_, _, _, _, _, _, _, _, _, _, rfl, l_law_near, c_law_near, .inl ⟨rfl, rfl⟩, .inl rfl⟩, k_law_near⟩
  have b_law_near : Binds K _ ["_law_case", "_law_session"] [] := F_law_near.bindsN fun _ _ _ _ _ _ us hl => match us, hl with | [_, _], _ => rfl
  have F_law_over : FunD K "_law_over" "_law_over" (defArgs s_law_over) (defBody s_law_over) (defScope s_law_over) [] [] _ _ := ⟨⟨_, _, _, _, _, _, _, _, _, _, rfl, l_law_over, c_law_over, .inl ⟨rfl, rfl⟩, .inl rfl⟩, k_law_over⟩
  have b_law_over : Binds K _ ["_law_rows", "_law_places", "_law_session"] [] := F_law_over.bindsN fun _ _ _ _ _ _ us hl => match us, hl with | [_, _, _], _ => rfl
  have F_law_arises : FunD K "_law_arises" "_law_arises" (defArgs s_law_arises) (defBody s_law_arises) (defScope s_law_arises) [] [] _ _ := ⟨⟨_, _, _, _, _, _, _, _, _, _, rfl, l_law_arises, c_law_arises, .inl ⟨rfl, rfl⟩, .inl rfl⟩, k_law_arises⟩
  have b_law_arises : Binds K _ ["_law_case", "_law_places"] [] := F_law_arises.bindsN fun _ _ _ _ _ _ us hl => match us, hl with | [_, _], _ => rfl
  have F_law_greatest_right : FunD K "_law_greatest_right" "_law_greatest_right" (defArgs s_law_greatest_right) (defBody s_law_greatest_right) (defScope s_law_greatest_right) [] [] _ _ := ⟨⟨_, _, _, _, _, _, _, _, _, _, rfl, l_law_greatest_right, c_law_greatest_right, .inl ⟨rfl, rfl⟩, .inl rfl⟩, k_law_greatest_right⟩
  have b_law_greatest_right : Binds K _ ["_law_farm_here", "_law_case", "_law_some"] [] := F_law_greatest_right.bindsN fun _ _ _ _ _ _ us hl => match us, hl with | [_, _, _], _ => rfl
  have F_law_next : FunD K "_law_next" "_law_next" (defArgs s_law_next) (defBody s_law_next) (defScope s_law_next) [] [] _ _ := ⟨⟨_, _, _, _, _, _, _, _, _, _, rfl, l_law_next, c_law_next, .inl ⟨rfl, rfl⟩, .inl rfl⟩, k_law_next⟩
  have b_law_next : Binds K _ ["_law_case", "_law_state"] [] := F_law_next.bindsN fun _ _ _ _ _ _ us hl => match us, hl with | [_, _], _ => rfl
  have F_law_known : FunD K "_law_known" "_law_known" (defArgs s_law_known) (defBody s_law_known) (defScope s_law_known) [] [] _ _ := ⟨⟨_, _, _, _, _, _, _, _, _, _, rfl, l_law_known, c_law_known, .inl ⟨rfl, rfl⟩, .inl rfl⟩, k_law_known⟩
  have b_law_known : Binds K _ ["_law_case"] [] := F_law_known.bindsN fun _ _ _ _ _ _ us hl => match us, hl with | [_], _ => rfl
  have F_law_right : FunD K "_law_right" "_law_right" (defArgs s_law_right) (defBody s_law_right) (defScope s_law_right) [] [] _ _ := ⟨⟨_, _, _, _, _, _, _, _, _, _, rfl, l_law_right, c_law_right, .inl ⟨rfl, rfl⟩, .inl rfl⟩, k_law_right⟩
  have b_law_right : Binds K _ ["_law_well_here"] [] := F_law_right.bindsN fun _ _ _ _ _ _ us hl => match us, hl with | [_], _ => rfl
  have F_law_well : FunD K "_law_well" "_law_well" (defArgs s_law_well) (defBody s_law_well) (defScope s_law_well) [] [] _ _ := ⟨⟨_, _, _, _, _, _, _, _, _, _, rfl, l_law_well, c_law_well, .inl ⟨rfl, rfl⟩, .inl rfl⟩, k_law_well⟩
  have b_law_well : Binds K _ ["_law_cell", "_law_turn"] [] := F_law_well.bindsN fun _ _ _ _ _ _ us hl => match us, hl with | [_, _], _ => rfl
  have F_law : FunD K "law" "law" (defArgs s_law) (defBody s_law) (defScope s_law) [] [] _ _ := ⟨⟨_, _, _, _, _, _, _, _, _, _, rfl, l_law, c_law, .inl ⟨rfl, rfl⟩, .inl rfl⟩, k_law⟩
  have b_law : Binds K _ ["_law_script"] [] := F_law.bindsN fun _ _ _ _ _ _ us hl => match us, hl with | [_], _ => rfl
  refine ⟨_, fun s v => F_law.bindsA (ps := ["_law_script"]) (fun _ _ _ _ _ _ us hl => match us, hl with | [_], _ => rfl) s [v] rfl, fun base _ _ => ?_⟩
  have c_law_take : Cal l.prog w K mg base (cfK l.prog w K C0 ([X0, 0, X2, X3].getD · 0)) 1 "_law_take" [0] 2 m_law_take := ⟨_, _, _, ok_law_take T  F_law_take, PySem.W.mg_of X G a_law_take, k_law_take, b_law_take⟩
  have c_law_mixed : Cal l.prog w K mg base (cfK l.prog w K C0 ([X0, 0, X2, X3].getD · 0)) 2 "_law_mixed" [0] 2 m_law_mixed := ⟨_, _, _, ok_law_mixed T c_law_take F_law_mixed, PySem.W.mg_of X G a_law_mixed, k_law_mixed, b_law_mixed⟩
  have c_law_farm : Cal l.prog w K mg base (cfK l.prog w K C0 ([X0, 0, X2, X3].getD · 0)) 3 "_law_farm" [0] 4 m_law_farm := ⟨_, _, _, ok_law_farm T c_law_take c_law_mixed F_law_farm, PySem.W.mg_of X G a_law_farm, k_law_farm, b_law_farm⟩
  have c_is_int : Cal l.prog w K mg base (cfK l.prog w K C0 ([X0, 0, X2, X3].getD · 0)) 1 "is_int" [] 1 m_is_int := ⟨_, _, _, ok_is_int T  F_is_int, PySem.W.mg_of X G a_is_int, k_is_int, b_is_int⟩
  have c_is_from : Cal l.prog w K mg base (cfK l.prog w K C0 ([X0, 0, X2, X3].getD · 0)) 2 "is_from" [] 3 m_is_from := ⟨_, _, _, ok_is_from T c_is_int F_is_from, PySem.W.mg_of X G a_is_from, k_is_from, b_is_from⟩
  have c_NoFarm : CalX2 l.prog w K mg base (cfK l.prog w K C0 ([X0, 0, X2, X3].getD · 0)) 1 0 "NoFarm" "part" "index" := ⟨⟨_, _, _, ⟨PySem.W.mg_of X G aX0, O0, a_NoFarmdd_initdd, i_NoFarmdd_initdd⟩, ok_x0 TB O0 xp0_part xp0_index F_NoFarmdd_initdd, b_NoFarmdd_initdd⟩, rfl⟩
  have c_is_row : Cal l.prog w K mg base (cfK l.prog w K C0 ([X0, 0, X2, X3].getD · 0)) 3 "is_row" [] 2 m_is_row := ⟨_, _, _, ok_is_row T c_is_from F_is_row, PySem.W.mg_of X G a_is_row, k_is_row, b_is_row⟩
  have c_Farm : CalM l.prog w K mg base (cfK l.prog w K C0 ([X0, 0, X2, X3].getD · 0)) 4 "Farm" 4 m_Farmdd_initdd := ⟨_, _, _, ⟨mk, a_Farmdd_initdd, i_Farmdd_initdd, kc⟩, ok_Farmdd_initdd T c_is_from c_NoFarm c_is_row F_Farmdd_initdd, PySem.W.mg_of X G aFarm, b_Farmdd_initdd⟩
  have c_law_first : Cal l.prog w K mg base (cfK l.prog w K C0 ([X0, 0, X2, X3].getD · 0)) 1 "_law_first" [] 2 m_law_first := ⟨_, _, _, ok_law_first T  F_law_first, PySem.W.mg_of X G a_law_first, k_law_first, b_law_first⟩
  have c_law_drawn : Cal l.prog w K mg base (cfK l.prog w K C0 ([X0, 0, X2, X3].getD · 0)) 3 "_law_drawn" [0] 2 m_law_drawn := ⟨_, _, _, ok_law_drawn T c_law_mixed c_law_take c_law_first F_law_drawn, PySem.W.mg_of X G a_law_drawn, k_law_drawn, b_law_drawn⟩
  have c_len : CalL l.prog w K mg base (cfK l.prog w K C0 ([X0, 0, X2, X3].getD · 0)) 1 m_Farmdd_lendd := ⟨_, _, _, a_Farmdd_lendd, i_Farmdd_lendd, ok_Farmdd_lendd T  F_Farmdd_lendd, b_Farmdd_lendd⟩
  have c_NoPlacement : CalX1 l.prog w K mg base (cfK l.prog w K C0 ([X0, 0, X2, X3].getD · 0)) 1 2 "NoPlacement" "index" := ⟨⟨_, _, _, ⟨PySem.W.mg_of X G aX2, O2, a_NoPlacementdd_initdd, i_NoPlacementdd_initdd⟩, ok_x2 TB O2 xp2_index F_NoPlacementdd_initdd, b_NoPlacementdd_initdd⟩, rfl⟩
  have c_check_placement : Cal l.prog w K mg base (cfK l.prog w K C0 ([X0, 0, X2, X3].getD · 0)) 3 "check_placement" [] 2 m_check_placement := ⟨_, _, _, ok_check_placement T c_len c_NoPlacement c_is_from F_check_placement, PySem.W.mg_of X G a_check_placement, k_check_placement, b_check_placement⟩
  have c_loads : Cal l.prog w K mg base (cfK l.prog w K C0 ([X0, 0, X2, X3].getD · 0)) 4 "loads" [] 2 m_loads := ⟨_, _, _, ok_loads T c_check_placement F_loads, PySem.W.mg_of X G a_loads, k_loads, b_loads⟩
  have r_loads : CalR l.prog w K mg base (cfK l.prog w K C0 ([X0, 0, X2, X3].getD · 0)) 4 "loads" [] 2 mf_loads := ⟨_, _, _, okr_loads T c_check_placement F_loads, PySem.W.mg_of X G a_loads, k_loads, b_loads⟩
  have c_NoServers : CalX1 l.prog w K mg base (cfK l.prog w K C0 ([X0, 0, X2, X3].getD · 0)) 1 3 "NoServers" "index" := ⟨⟨_, _, _, ⟨PySem.W.mg_of X G aX3, O3, a_NoServersdd_initdd, i_NoServersdd_initdd⟩, ok_x3 TB O3 xp3_index F_NoServersdd_initdd, b_NoServersdd_initdd⟩, rfl⟩
  have c_first_bad_server : Cal l.prog w K mg base (cfK l.prog w K C0 ([X0, 0, X2, X3].getD · 0)) 3 "first_bad_server" [] 2 m_first_bad_server := ⟨_, _, _, ok_first_bad_server T c_is_from F_first_bad_server, PySem.W.mg_of X G a_first_bad_server, k_first_bad_server, b_first_bad_server⟩
  have c_near : Cal l.prog w K mg base (cfK l.prog w K C0 ([X0, 0, X2, X3].getD · 0)) 1 "near" [] 2 m_near := ⟨_, _, _, ok_near T  F_near, PySem.W.mg_of X G a_near, k_near, b_near⟩
  have c_greatest_load : Cal l.prog w K mg base (cfK l.prog w K C0 ([X0, 0, X2, X3].getD · 0)) 4 "greatest_load" [] 2 m_greatest_load := ⟨_, _, _, ok_greatest_load T c_NoServers c_first_bad_server c_len c_near F_greatest_load, PySem.W.mg_of X G a_greatest_load, k_greatest_load, b_greatest_load⟩
  have c_law_near : Cal l.prog w K mg base (cfK l.prog w K C0 ([X0, 0, X2, X3].getD · 0)) 1 "_law_near" [] 2 m_law_near := ⟨_, _, _, ok_law_near T  F_law_near, PySem.W.mg_of X G a_law_near, k_law_near, b_law_near⟩
  have c_law_over : Cal l.prog w K mg base (cfK l.prog w K C0 ([X0, 0, X2, X3].getD · 0)) 1 "_law_over" [] 3 m_law_over := ⟨_, _, _, ok_law_over T  F_law_over, PySem.W.mg_of X G a_law_over, k_law_over, b_law_over⟩
  have c_law_arises : Cal l.prog w K mg base (cfK l.prog w K C0 ([X0, 0, X2, X3].getD · 0)) 2 "_law_arises" [] 2 m_law_arises := ⟨_, _, _, ok_law_arises T c_law_over F_law_arises, PySem.W.mg_of X G a_law_arises, k_law_arises, b_law_arises⟩
  have c_law_greatest_right : CalG l.prog w K mg base (cfK l.prog w K C0 ([X0, 0, X2, X3].getD · 0)) 5 "_law_greatest_right" [] 3 m_law_greatest_right := ⟨_, _, _, ok_law_greatest_right T c_greatest_load c_law_near c_law_arises F_law_greatest_right, PySem.W.mg_of X G a_law_greatest_right, k_law_greatest_right, b_law_greatest_right⟩
  have c_law_next : Cal l.prog w K mg base (cfK l.prog w K C0 ([X0, 0, X2, X3].getD · 0)) 2 "_law_next" [] 2 m_law_next := ⟨_, _, _, ok_law_next T c_law_first F_law_next, PySem.W.mg_of X G a_law_next, k_law_next, b_law_next⟩
  have c_law_known : Cal l.prog w K mg base (cfK l.prog w K C0 ([X0, 0, X2, X3].getD · 0)) 3 "_law_known" [] 1 m_law_known := ⟨_, _, _, ok_law_known T c_law_next F_law_known, PySem.W.mg_of X G a_law_known, k_law_known, b_law_known⟩
  have c_law_right : CalG l.prog w K mg base (cfK l.prog w K C0 ([X0, 0, X2, X3].getD · 0)) 6 "_law_right" [0] 1 m_law_right := ⟨_, _, _, ok_law_right T c_law_farm c_law_take c_Farm c_law_drawn r_loads c_loads c_law_mixed c_law_greatest_right c_law_known c_greatest_load F_law_right, PySem.W.mg_of X G a_law_right, k_law_right, b_law_right⟩
  have c_law_well : Cal l.prog w K mg base (cfK l.prog w K C0 ([X0, 0, X2, X3].getD · 0)) 1 "_law_well" [] 2 m_law_well := ⟨_, _, _, ok_law_well T  F_law_well, PySem.W.mg_of X G a_law_well, k_law_well, b_law_well⟩
  have r_law_well : CalR l.prog w K mg base (cfK l.prog w K C0 ([X0, 0, X2, X3].getD · 0)) 1 "_law_well" [] 2 mf_law_well := ⟨_, _, _, okr_law_well T  F_law_well, PySem.W.mg_of X G a_law_well, k_law_well, b_law_well⟩
  exact (ok_law T c_law_right r_law_well c_greatest_load c_Farm F_law : FnG l.prog w K mg base (L2.CX l.prog w) 7 _ _ _ (spM (cfK l.prog w K C0 ([X0, 0, X2, X3].getD · 0)) [] 1 m_law)).imp (law_imp (c := cfK l.prog w K C0 ([X0, 0, X2, X3].getD · 0)) plain)
end Fx
open PySem PySem.W PyProof.Rows
set_option maxRecDepth 100000 in
set_option maxHeartbeats 0 in
theorem PySem.Challenge.cw_stickyservers_k20_greatest_loads_holds : PySem.Challenge.rw_stickyservers_k20_greatest_loads.Holds := by
  w_on; o_law; k_head; (case hw => w_witness2)
  k_fill
  refine Fx.walk_fxG (l := PySem.Challenge.rw_stickyservers_k20_greatest_loads) (k := 7) (x := "_law_script") rfl rfl ⟨rfl, by decide, by decide⟩ (fun w h Y => PySem.W.kIn_of Y) ?F
  case F =>
    intro w mg fa h KX G hmg
    refine' Fx.wire Fx.plain_law KX G hmg ?aFarm ?aFE ?aX0 ?xL0 ?xsa0 ?xex0 ?xty0 ?xkp0 ?xp0_part ?xp0_index ?aX2 ?xL2 ?xsa2 ?xex2 ?xty2 ?xkp2 ?xp2_index ?aX3 ?xL3 ?xsa3 ?xex3 ?xty3 ?xkp3 ?xp3_index ?fB ?fR ?fV ?pg ?hd ?po ?sa ?mk ?kc ?n_many ?n_rows ?n_most ?zlen ?ztuple ?zlist ?zint ?zsum ?zall ?zmax ?zmin ?zsorted ?zisinstance ?zenumerate ?zrange ?zset ?zbool ?zstr ?zzip ?zdict ?zrepr ?g_MAX_SERVERS ?g_MAX_SESSIONS ?a_NoFarmdd_initdd ?l_NoFarmdd_initdd ?c_NoFarmdd_initdd ?k_NoFarmdd_initdd ?i_NoFarmdd_initdd ?a_NoPlacementdd_initdd ?l_NoPlacementdd_initdd ?c_NoPlacementdd_initdd ?k_NoPlacementdd_initdd ?i_NoPlacementdd_initdd ?a_NoServersdd_initdd ?l_NoServersdd_initdd ?c_NoServersdd_initdd ?k_NoServersdd_initdd ?i_NoServersdd_initdd ?a_Farmdd_initdd ?l_Farmdd_initdd ?c_Farmdd_initdd ?k_Farmdd_initdd ?i_Farmdd_initdd ?a_Farmdd_lendd ?l_Farmdd_lendd ?c_Farmdd_lendd ?k_Farmdd_lendd ?i_Farmdd_lendd ?a_law_take ?l_law_take ?c_law_take ?k_law_take ?a_law_mixed ?l_law_mixed ?c_law_mixed ?k_law_mixed ?a_law_farm ?l_law_farm ?c_law_farm ?k_law_farm ?a_is_int ?l_is_int ?c_is_int ?k_is_int ?a_is_from ?l_is_from ?c_is_from ?k_is_from ?a_is_row ?l_is_row ?c_is_row ?k_is_row ?a_law_first ?l_law_first ?c_law_first ?k_law_first ?a_law_drawn ?l_law_drawn ?c_law_drawn ?k_law_drawn ?a_check_placement ?l_check_placement ?c_check_placement ?k_check_placement ?a_loads ?l_loads ?c_loads ?k_loads ?a_first_bad_server ?l_first_bad_server ?c_first_bad_server ?k_first_bad_server ?a_near ?l_near ?c_near ?k_near ?a_greatest_load ?l_greatest_load ?c_greatest_load ?k_greatest_load ?a_law_near ?l_law_near ?c_law_near ?k_law_near ?a_law_over ?l_law_over ?c_law_over ?k_law_over ?a_law_arises ?l_law_arises ?c_law_arises ?k_law_arises ?a_law_greatest_right ?l_law_greatest_right ?c_law_greatest_right ?k_law_greatest_right ?a_law_next ?l_law_next ?c_law_next ?k_law_next ?a_law_known ?l_law_known ?c_law_known ?k_law_known ?a_law_right ?l_law_right ?c_law_right ?k_law_right ?a_law_well ?l_law_well ?c_law_well ?k_law_well ?a_law ?l_law ?c_law ?k_law
    (case aFarm => k_is); (case aFE => k_is); (case aX0 => k_is); (case xL0 => k_is); (case xsa0 => k_is); (case xex0 => k_is)
    (case xty0 => k_is); (case xkp0 => k_is); (case xp0_part => k_is); (case xp0_index => k_is); (case aX2 => k_is); (case xL2 => k_is)
    (case xsa2 => k_is); (case xex2 => k_is); (case xty2 => k_is); (case xkp2 => k_is); (case xp2_index => k_is); (case aX3 => k_is)
    (case xL3 => k_is); (case xsa3 => k_is); (case xex3 => k_is); (case xty3 => k_is); (case xkp3 => k_is); (case xp3_index => k_is)
    (case fB => k_is); (case fR => k_is); (case fV => k_is); (case pg => k_is); (case hd => k_is); (case po => k_is)
    (case sa => k_is); (case mk => k_is); (case kc => k_is); (case n_many => k_is); (case n_rows => k_is); (case n_most => k_is)
    (case zlen => k_is); (case ztuple => k_is); (case zlist => k_is); (case zint => k_is); (case zsum => k_is); (case zall => k_is)
    (case zmax => k_is); (case zmin => k_is); (case zsorted => k_is); (case zisinstance => k_is); (case zenumerate => k_is); (case zrange => k_is)
    (case zset => k_is); (case zbool => k_is); (case zstr => k_is); (case zzip => k_is); (case zdict => k_is); (case zrepr => k_is)
    (case g_MAX_SERVERS => k_is); (case g_MAX_SESSIONS => k_is); (case a_NoFarmdd_initdd => k_is); (case l_NoFarmdd_initdd => k_is); (case c_NoFarmdd_initdd => k_is); (case k_NoFarmdd_initdd => k_is)
    (case i_NoFarmdd_initdd => k_is); (case a_NoPlacementdd_initdd => k_is); (case l_NoPlacementdd_initdd => k_is); (case c_NoPlacementdd_initdd => k_is); (case k_NoPlacementdd_initdd => k_is); (case i_NoPlacementdd_initdd => k_is)
    (case a_NoServersdd_initdd => k_is); (case l_NoServersdd_initdd => k_is); (case c_NoServersdd_initdd => k_is); (case k_NoServersdd_initdd => k_is); (case i_NoServersdd_initdd => k_is); (case a_Farmdd_initdd => k_is)
    (case l_Farmdd_initdd => k_is); (case c_Farmdd_initdd => k_is); (case k_Farmdd_initdd => k_is); (case i_Farmdd_initdd => k_is); (case a_Farmdd_lendd => k_is); (case l_Farmdd_lendd => k_is)
    (case c_Farmdd_lendd => k_is); (case k_Farmdd_lendd => k_is); (case i_Farmdd_lendd => k_is); (case a_law_take => k_is); (case l_law_take => k_is); (case c_law_take => k_is)
    (case k_law_take => k_is); (case a_law_mixed => k_is); (case l_law_mixed => k_is); (case c_law_mixed => k_is); (case k_law_mixed => k_is); (case a_law_farm => k_is)
    (case l_law_farm => k_is); (case c_law_farm => k_is); (case k_law_farm => k_is); (case a_is_int => k_is); (case l_is_int => k_is); (case c_is_int => k_is)
    (case k_is_int => k_is); (case a_is_from => k_is); (case l_is_from => k_is); (case c_is_from => k_is); (case k_is_from => k_is); (case a_is_row => k_is)
    (case l_is_row => k_is); (case c_is_row => k_is); (case k_is_row => k_is); (case a_law_first => k_is); (case l_law_first => k_is); (case c_law_first => k_is)
    (case k_law_first => k_is); (case a_law_drawn => k_is); (case l_law_drawn => k_is); (case c_law_drawn => k_is); (case k_law_drawn => k_is); (case a_check_placement => k_is)
    (case l_check_placement => k_is); (case c_check_placement => k_is); (case k_check_placement => k_is); (case a_loads => k_is); (case l_loads => k_is); (case c_loads => k_is)
    (case k_loads => k_is); (case a_first_bad_server => k_is); (case l_first_bad_server => k_is); (case c_first_bad_server => k_is); (case k_first_bad_server => k_is); (case a_near => k_is)
    (case l_near => k_is); (case c_near => k_is); (case k_near => k_is); (case a_greatest_load => k_is); (case l_greatest_load => k_is); (case c_greatest_load => k_is)
    (case k_greatest_load => k_is); (case a_law_near => k_is); (case l_law_near => k_is); (case c_law_near => k_is); (case k_law_near => k_is); (case a_law_over => k_is)
    (case l_law_over => k_is); (case c_law_over => k_is); (case k_law_over => k_is); (case a_law_arises => k_is); (case l_law_arises => k_is); (case c_law_arises => k_is)
    (case k_law_arises => k_is); (case a_law_greatest_right => k_is); (case l_law_greatest_right => k_is); (case c_law_greatest_right => k_is); (case k_law_greatest_right => k_is); (case a_law_next => k_is)
    (case l_law_next => k_is); (case c_law_next => k_is); (case k_law_next => k_is); (case a_law_known => k_is); (case l_law_known => k_is); (case c_law_known => k_is)
    (case k_law_known => k_is); (case a_law_right => k_is); (case l_law_right => k_is); (case c_law_right => k_is); (case k_law_right => k_is); (case a_law_well => k_is)
    (case l_law_well => k_is); (case c_law_well => k_is); (case k_law_well => k_is); (case a_law => k_is); (case l_law => k_is); (case c_law => k_is)
    (case k_law => k_is)

