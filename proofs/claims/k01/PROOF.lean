import PyProof.Rows.All
import Wide.All
import OpenK.AllK
import Wide.FinOn
import PySem.Challenge.RW_stickyservers_k01_farms
import HandS.ForMost
import HandS.ForExc
import HandS.ExcInit
import HandS.ExcField
import HandS.CallSlots
import HandS.IsInst
import HandS.Deep
import HandS.TupAny
import HandS.TupMul
import HandS.SortInts
import HandS.SetFor
import HandS.Strs
import KE.KDictDisplayH
import KE.GoesEnum
import KE.GoesMore
import HandS.Defaults
import HandS.DictComp
import HandS.Conv
import HandS.Words
import HandS.Ends
import HandS.Style
import HandS.ExcIs
import HandS.Zip
import HandS.OwnEq
import HandS.More
import HandS.Lambda
import HandS.EndTab
import KE.KFmtOwn
import HandS.MakeKwOnly
import HandS.Dict
import PyProof.ReprRoads
import PyProof.ReprLen
import HandS.RaiseMore
import HandS.TupLen
import KE.KDictCopyH
import HandS.TryMany
import KE.SortKeyHeap
import HandS.DeepEq
set_option Elab.async false
set_option linter.all false
set_option maxRecDepth 100000
set_option maxHeartbeats 4000000
namespace Fx
open PySem L2

inductive D where
  | non | bl (b : Bool) | int (i : Int) | str (x : Str)
  | tup (ds : List D) | lst (ds : List D) | dic (ks : List Key) (ds : List D)
  | rcd (ns : List Str) (ds : List D) | exc (c : Nat) (fs : List D) | raw (v : V)

/-- what the laws' programs have beside the module's own text: the class of farms, the classes of errors with their fields (last stored first) -/
structure Cf where
  K : PySem.W.Frag
  farm : Addr
  exc : Nat → Addr
  flds : Nat → List Str
  P : Program
  w : World


mutual
def nk : D → Option NestedKey
  | .non => some .none
  | .bl b => some (.num (if b = true then 1 else 0))
  | .int i => some (.num i)
  | .str x => some (.text x)
  | .tup ds => match nkL ds with
    | some ks => some (.tup ks)
    | none => none
  | .lst _ => none
  | .dic _ _ => none
  | .rcd _ _ => none
  | .exc _ _ => none
  | .raw _ => none
def nkL : List D → Option (List NestedKey)
  | [] => some []
  | d :: ds => match nk d, nkL ds with
    | some k, some ks => some (k :: ks)
    | _, _ => none
end
/-- such a dict: its object -/
def KdO (P : Program) (w : World) (a : Addr) (xs : List (NestedKey × Addr)) : HO := .ext fun h => (a == sysModules) = false ∧ ∃ (o : Obj) (es : Array DictEntry) (ep : Nat), h.get? a = some o ∧ o.ExactDict ∧ o.data = .dict es ep ∧ es.toList = xs.map fun x => entryOfKey (nestedKind P w) (x.1, x.2, .bool true)
/-- a dict of states with values of any kind -/
def KmO (P : Program) (w : World) (a : Addr) (xs : List (NestedKey × Addr × Value)) : HO := .ext fun h => (a == sysModules) = false ∧ ∃ (o : Obj) (es : Array DictEntry) (ep : Nat), h.get? a = some o ∧ o.ExactDict ∧ o.data = .dict es ep ∧ es.toList = xs.map (entryOfKey (nestedKind P w))
/-- how one is told: its keys (0: all values True; 1: the keys, then the values) -/
def KdAt (c : Cf) (k : Nat) (o : Option HO) (xs : List V) (ks : List NestedKey) : Prop :=
  (k = 0 ∧ ∃ (a : Addr) (ps : List Addr), o = some (KdO c.P c.w a (ks.zip ps)) ∧ ks.length = ps.length ∧ xs = ps.map V.ref ∧ ks.Nodup ∧ ks.length ≤ 16777216 ∧ ∀ k ∈ ks, k.depth ≤ 8) ∨
    (k = 1 ∧ ∃ (a : Addr) (ps : List Addr) (us : List Value) (vs : List V), o = some (KmO c.P c.w a (ks.zip (ps.zip us))) ∧ ks.length = ps.length ∧ us.length = ps.length ∧ Vals vs us ∧ xs = ps.map V.ref ++ vs ∧ ks.Nodup ∧ ks.length ≤ 16777216 ∧ ∀ k ∈ ks, k.depth ≤ 8)
def keysOf (k : Nat) (ds : List D) : List D := match k with
  | 0 => ds
  | _ + 1 => ds.take (ds.length / 2)

/-- a list of the written part, its object known -/
def KL (K : PySem.W.Frag) (a : Addr) (xs : List V) : Prop := ∃ (its : List Value) (n : Nat), K.lookup a = some { cls := .type "list", data := .seq its.toArray n } ∧ its.length ≤ sizeLine ∧ Vals xs its
/-- a list that may be read -/
def LsG (K : PySem.W.Frag) (G : Hp) (a : Addr) (xs : List V) : Prop := Rd G a (.lst xs) ∨ KL K a xs
theorem LsG.sq {K : PySem.W.Frag} {G : Hp} {a : Addr} {xs : List V} (h : LsG K G a xs) : SqL K G a xs := by
  rcases h with h | ⟨its, n, h1, h2, h3⟩
  · exact .inl h
  · exact .inr ⟨_, its.toArray, n, h1, rfl, rfl, rfl, by rw [List.size_toArray]; exact h2, by simpa using h3⟩
theorem LsG.mono {K : PySem.W.Frag} {G G' : Hp} {a : Addr} {xs : List V} (e : Same G G') (h : LsG K G a xs) : LsG K G' a xs := by
  rcases h with (h | ⟨o, h⟩) | h
  · exact .inl (.inl (e _ _ h))
  · exact .inl (.inr ⟨o, e _ _ h⟩)
  · exact .inr h
/-- a tuple that may be read and whose methods may be called: its object is known to have no dict -/
def TupAt (K : PySem.W.Frag) (G : Hp) (a : Addr) (xs : List V) : Prop :=
  (∃ o, G a = some (.frz o (.tup xs)) ∧ o.dict = none) ∨
    ∃ (o : Obj) (its : Array Value) (n : Nat), K.lookup a = some o ∧ o.cls = .type "tuple" ∧ o.dict = none ∧ o.data = .seq its n ∧ its.size ≤ sizeLine ∧ Vals xs its.toList
theorem TupAt.sq {K : PySem.W.Frag} {G : Hp} {a : Addr} {xs : List V} (h : TupAt K G a xs) : SqT K G a xs := by
  rcases h with ⟨o, h, _⟩ | ⟨o, its, n, h1, h2, h3, h4, h5, h6⟩
  · exact .inl (.inr ⟨o, h⟩)
  · exact .inr ⟨o, its, n, h1, h2, h4, h5, h6⟩
theorem TupAt.mono {K : PySem.W.Frag} {G G' : Hp} {a : Addr} {xs : List V} (e : Same G G') (h : TupAt K G a xs) : TupAt K G' a xs := by
  rcases h with ⟨o, h, d⟩ | h
  · exact .inl ⟨o, e _ _ h, d⟩
  · exact .inr h
section
variable (c : Cf) (G : Hp)
mutual
inductive Rep : V → D → Prop
  | non : Rep .non .non
  | bl (b : Bool) : Rep (.bl b) (.bl b)
  | int (i : Int) : Rep (.int i) (.int i)
  | str (x : Str) : Rep (.str x) (.str x)
  | tup {a : Addr} {xs : List V} {ds : List D} : TupAt c.K G a xs → RepL xs ds → Rep (.ref a) (.tup ds)
  | lst {a : Addr} {xs : List V} {ds : List D} : LsG c.K G a xs → RepL xs ds → Rep (.ref a) (.lst ds)
  | dic {a : Addr} {ks : List Key} {xs : List V} {ds : List D} : Rd G a (.dK (ks.zip xs)) → ks.length = xs.length → RepL xs ds → Rep (.ref a) (.dic ks ds)
  | rcd {a dx : Addr} {ns : List Str} {xs : List V} {ds : List D} : G a = some (.ins c.farm dx (ns.zip xs)) → ns.length = xs.length → RepL xs ds → Rep (.ref a) (.rcd ns ds)
  | raw (v : V) : Rep v (.raw v)
  | std {a : Addr} {k : Nat} {xs : List V} {ds : List D} {ks : List NestedKey} : KdAt c k (G a) xs ks → RepL xs ds → nkL (keysOf k ds) = some ks → Rep (.ref a) (.exc k ds)
inductive RepL : List V → List D → Prop
  | nil : RepL [] []
  | cons {v : V} {vs : List V} {d : D} {ds : List D} : Rep v d → RepL vs ds → RepL (v :: vs) (d :: ds)
end
end
section
variable {c : Cf} {G G' H : Hp}
theorem KdAt.mono {a : Addr} {k : Nat} {xs : List V} {ks : List NestedKey} (e : Same G G') (h : KdAt c k (G a) xs ks) : KdAt c k (G' a) xs ks := by
  rcases h with ⟨h0, b, ps, h1, h2⟩ | ⟨h0, b, ps, us, vs, h1, h2⟩
  · exact .inl ⟨h0, b, ps, e _ _ h1, h2⟩
  · exact .inr ⟨h0, b, ps, us, vs, e _ _ h1, h2⟩
theorem KdAt.zero {o : Option HO} {xs : List V} {ks : List NestedKey} (h : KdAt c 0 o xs ks) : ∃ (a : Addr) (ps : List Addr), o = some (KdO c.P c.w a (ks.zip ps)) ∧ ks.length = ps.length ∧ xs = ps.map V.ref ∧ ks.Nodup ∧ ks.length ≤ 16777216 ∧ ∀ k ∈ ks, k.depth ≤ 8 := by
  rcases h with ⟨_, h⟩ | ⟨z, _⟩
  · exact h
  · cases z
theorem KdAt.anO {k : Nat} {o : Option HO} {xs : List V} {ks : List NestedKey} (h : KdAt c k o xs ks) : ∃ φ, o = some (.ext φ) := by
  rcases h with ⟨_, b, ps, h1, _⟩ | ⟨_, b, ps, us, vs, h1, _⟩
  · exact ⟨_, h1⟩
  · exact ⟨_, h1⟩
theorem same_rd {a : Addr} {u : HO} (e : Same G G') (h : Rd G a u) : Rd G' a u := by
  rcases h with h | ⟨o, h⟩
  · exact .inl (e _ _ h)
  · exact .inr ⟨o, e _ _ h⟩
mutual
theorem Rep.mono (e : Same G G') : ∀ {v : V} {d : D}, Rep c G v d → Rep c G' v d
  | _, _, .non => .non
  | _, _, .bl b => .bl b
  | _, _, .int i => .int i
  | _, _, .str x => .str x
  | _, _, .tup s r => .tup (s.mono e) (RepL.mono e r)
  | _, _, .lst s r => .lst (s.mono e) (RepL.mono e r)
  | _, _, .dic s l r => .dic (same_rd e s) l (RepL.mono e r)
  | _, _, .rcd s l r => .rcd (e _ _ s) l (RepL.mono e r)
  | _, _, .raw v => .raw v
  | _, _, .std h r k => .std (KdAt.mono e h) (RepL.mono e r) k
theorem RepL.mono (e : Same G G') : ∀ {vs : List V} {ds : List D}, RepL c G vs ds → RepL c G' vs ds
  | _, _, .nil => .nil
  | _, _, .cons h t => .cons (Rep.mono e h) (RepL.mono e t)
end
theorem RepL.length : ∀ {vs : List V} {ds : List D}, RepL c G vs ds → vs.length = ds.length
  | _, _, .nil => rfl
  | _, _, .cons _ t => by rw [List.length_cons, List.length_cons, RepL.length t]
theorem RepL.get : ∀ {vs : List V} {ds : List D} {i : Nat} {d : D}, RepL c G vs ds → ds[i]? = some d → ∃ v, vs[i]? = some v ∧ Rep c G v d
  | _, _, _, _, .nil, e => by simp at e
  | _, _, 0, _, .cons r _, e => by simp at e; subst e; exact ⟨_, rfl, r⟩
  | _, _, i + 1, d, .cons _ t, e => by
    obtain ⟨u, h1, h2⟩ := RepL.get (i := i) (d := d) t (by simpa using e)
    exact ⟨u, by simpa using h1, h2⟩
theorem RepL.getV : ∀ {vs : List V} {ds : List D} {i : Nat} {v : V}, RepL c G vs ds → vs[i]? = some v → ∃ d, ds[i]? = some d ∧ Rep c G v d
  | _, _, _, _, .nil, e => by simp at e
  | _, _, 0, _, .cons r _, e => by simp at e; subst e; exact ⟨_, rfl, r⟩
  | _, _, i + 1, d, .cons _ t, e => by
    obtain ⟨u, h1, h2⟩ := RepL.getV (i := i) (v := d) t (by simpa using e)
    exact ⟨u, by simpa using h1, h2⟩
theorem RepL.append : ∀ {vs ws : List V} {ds es : List D}, RepL c G vs ds → RepL c G ws es → RepL c G (vs ++ ws) (ds ++ es)
  | _, _, _, _, .nil, s => s
  | _, _, _, _, .cons r t, s => .cons r (RepL.append t s)
theorem RepL.take : ∀ {vs : List V} {ds : List D} (n : Nat), RepL c G vs ds → RepL c G (vs.take n) (ds.take n)
  | _, _, 0, _ => .nil
  | _, _, _ + 1, .nil => .nil
  | _, _, n + 1, .cons r t => .cons r (RepL.take n t)
theorem RepL.drop : ∀ {vs : List V} {ds : List D} (n : Nat), RepL c G vs ds → RepL c G (vs.drop n) (ds.drop n)
  | _, _, 0, r => r
  | _, _, _ + 1, .nil => .nil
  | _, _, n + 1, .cons _ t => RepL.drop n t
theorem RepL.set {x : V} {d : D} (r : Rep c G x d) : ∀ {vs : List V} {ds : List D} (i : Nat), RepL c G vs ds → RepL c G (vs.set i x) (ds.set i d)
  | _, _, _, .nil => .nil
  | _, _, 0, .cons _ t => .cons r t
  | _, _, i + 1, .cons q t => .cons q (RepL.set r i t)
theorem RepL.eraseIdx : ∀ {vs : List V} {ds : List D} (i : Nat), RepL c G vs ds → RepL c G (vs.eraseIdx i) (ds.eraseIdx i)
  | _, _, _, .nil => .nil
  | _, _, 0, .cons _ t => t
  | _, _, i + 1, .cons q t => .cons q (RepL.eraseIdx i t)
theorem RepL.one {v : V} {d : D} (r : Rep c G v d) : RepL c G [v] [d] := .cons r .nil

/-- a list (or dict) that the def may change: its content -/
def Own (c : Cf) (G : Hp) (o : Option HO) : D → Prop
  | .lst ds => ∃ xs, o = some (.lst xs) ∧ RepL c G xs ds
  | .dic ks ds => ∃ xs, o = some (.dK (ks.zip xs)) ∧ ks.length = xs.length ∧ RepL c G xs ds
  | .rcd ns ds => ∃ dx xs, o = some (.ins c.farm dx (ns.zip xs)) ∧ ns.length = xs.length ∧ RepL c G xs ds
  | .exc k ds => ∃ xs ks, KdAt c k o xs ks ∧ RepL c G xs ds ∧ nkL (keysOf k ds) = some ks
  | _ => False
theorem Own.mono {o : Option HO} {d : D} (e : Same G G') (h : Own c G o d) : Own c G' o d := by
  cases d <;> first | exact h.elim | skip
  · obtain ⟨xs, h1, h2⟩ := h; exact ⟨xs, h1, h2.mono e⟩
  · obtain ⟨xs, h1, h3, h2⟩ := h; exact ⟨xs, h1, h3, h2.mono e⟩
  · obtain ⟨dx, xs, h1, h3, h2⟩ := h; exact ⟨dx, xs, h1, h3, h2.mono e⟩
  · obtain ⟨xs, ks, h1, h2, h3⟩ := h; exact ⟨xs, ks, h1, h2.mono e, h3⟩
theorem Own.some {o : Option HO} {d : D} (h : Own c G o d) : ∃ u, o = some u := by
  cases d <;> first | exact h.elim | skip
  · obtain ⟨xs, h1, _⟩ := h; exact ⟨_, h1⟩
  · obtain ⟨xs, h1, _⟩ := h; exact ⟨_, h1⟩
  · obtain ⟨dx, xs, h1, _⟩ := h; exact ⟨_, h1⟩
  · obtain ⟨_, _, h1, _⟩ := h; obtain ⟨φ, h1⟩ := h1.anO; exact ⟨_, h1⟩
/-- frozen, what was owned is data -/
theorem Own.rep {a : Addr} {d : D} (h : Own c G (G' a) d) (e : Same G G') : Rep c G' (.ref a) d := by
  cases d <;> first | exact h.elim | skip
  · obtain ⟨xs, h1, h2⟩ := h; exact .lst (.inl (.inl h1)) (h2.mono e)
  · obtain ⟨xs, h1, h3, h2⟩ := h; exact .dic (.inl h1) h3 (h2.mono e)
  · obtain ⟨dx, xs, h1, h3, h2⟩ := h; exact .rcd h1 h3 (h2.mono e)
  · obtain ⟨xs, ks, h1, h2, h3⟩ := h; exact .std h1 (h2.mono e) h3

inductive Cell where
  | no | dat (d : D) | own (d : D)
abbrev Cells := List Cell
/-- an error: its class, its fields -/
structure Exc where
  c : Nat
  fs : List D
inductive Out (α : Type) where
  | stuck | ok (a : α) (ρ : Cells) | exc (x : Exc) (ρ : Cells)
abbrev M (α : Type) := Cells → Out α
def Out.andThen {α β : Type} (o : Out α) (k : α → M β) : Out β := match o with
  | .stuck => .stuck
  | .ok a ρ => k a ρ
  | .exc x ρ => .exc x ρ
def M.bind {α β : Type} (f : M α) (k : α → M β) : M β := fun ρ => (f ρ).andThen k
def M.pure {α : Type} (a : α) : M α := fun ρ => .ok a ρ
def M.stuck {α : Type} : M α := fun _ => .stuck
def M.lift {α : Type} (o : Option α) : M α := fun ρ => match o with
  | some a => .ok a ρ
  | none => .stuck
inductive OutS where
  | stuck | next (ρ : Cells) | ret (d : D) (ρ : Cells) | brk (ρ : Cells) | cont (ρ : Cells) | exc (x : Exc) (ρ : Cells)
abbrev MS := Cells → OutS

structure Rel (c : Cf) (B : List (Nat × Addr)) (G : Hp) (A : Addr → Prop) (H : Hp) (σ : L2.St) (ρ : Cells) : Prop where
  same : Same G H
  len : σ.length = ρ.length
  ownA : ∀ b, A b → G b = none ∧ ∃ o, H b = some o
  dat : ∀ (i : Nat) (d : D), ρ[i]? = some (.dat d) → ∃ v, σ[i]? = some (some v) ∧ Rep c G v d
  own : ∀ (i : Nat) (d : D), ρ[i]? = some (.own d) → ∃ p, σ[i]? = some (some (.ref p)) ∧ A p ∧ Own c G (H p) d
  dis : ∀ (i j : Nat) (d e : D) (p : Addr), i ≠ j → ρ[i]? = some (.own d) → ρ[j]? = some (.own e) → σ[i]? = some (some (.ref p)) → σ[j]? = some (some (.ref p)) → False
  byr : ∀ q ∈ B, σ[q.1]? = some (some (.ref q.2)) ∧ A q.2 ∧ ∃ d, ρ[q.1]? = some (.own d)
/-- the heap has grown by what is new -/
structure Ext (G H G' H' : Hp) : Prop where
  gg : Same G G'
  hh : Same H H'
  gh : Same G' H'
  new : ∀ b o, H b = some o → G' b = G b
theorem Ext.refl (h : Same G H) : Ext G H G H := ⟨Same.refl _, Same.refl _, h, fun _ _ _ => rfl⟩
theorem Ext.trans {G1 G2 H1 H2 : Hp} (a : Ext G H G1 H1) (b : Ext G1 H1 G2 H2) : Ext G H G2 H2 :=
  ⟨a.gg.trans b.gg, a.hh.trans b.hh, b.gh, fun x o h => (b.new x o (a.hh x o h)).trans (a.new x o h)⟩
theorem same_upd {p : Addr} {o : HO} (hp : H p = none) : Same H (upd H p o) := fun b u e => by
  rw [upd_ne (ne_of_none e hp)]; exact e
theorem Ext.upd {p : Addr} {o : HO} (h : Same G H) (hp : H p = none) : Ext G H (upd G p o) (upd H p o) :=
  ⟨same_upd (h.free hp), same_upd hp, fun b u e => by
    by_cases z : b = p
    · subst z; rw [upd_same] at e ⊢; exact e
    · rw [upd_ne z] at e ⊢; exact h b u e, fun b u e => upd_ne (ne_of_none e hp)⟩
theorem Ext.updH {p : Addr} {o : HO} (h : Same G H) (hp : H p = none) : Ext G H G (L2.upd H p o) :=
  ⟨Same.refl _, same_upd hp, h.trans (same_upd hp), fun b u e => rfl⟩
/-- what is not owned stands -/
def Keep (A : Addr → Prop) (G H G' H' : Hp) : Prop := ∀ b o, H b = some o → ¬ A b → H' b = some o ∧ G' b = G b
theorem Keep.refl {A : Addr → Prop} (G H : Hp) : Keep A G H G H := fun _ _ h _ => ⟨h, rfl⟩
theorem Keep.trans {A : Addr → Prop} {G1 G2 H1 H2 : Hp} (a : Keep A G H G1 H1) (b : Keep A G1 H1 G2 H2) : Keep A G H G2 H2 := fun x o h n => ⟨(b x o (a x o h n).1 n).1, (b x o (a x o h n).1 n).2.trans (a x o h n).2⟩
theorem Ext.keep {A : Addr → Prop} {H' : Hp} (e : Ext G H G' H') : Keep A G H G' H' := fun b o h _ => ⟨e.hh b o h, e.new b o h⟩
theorem Rel.ext {B : List (Nat × Addr)} {A : Addr → Prop} {H' : Hp} {σ : L2.St} {ρ : Cells} (R : Rel c B G A H σ ρ) (e : Ext G H G' H') : Rel c B G' A H' σ ρ where
  same := e.gh
  len := R.len
  ownA := fun b hb => by
    obtain ⟨h1, o, h2⟩ := R.ownA b hb
    exact ⟨(e.new b o h2).trans h1, o, e.hh b o h2⟩
  dat := fun i d h => by
    obtain ⟨v, h1, h2⟩ := R.dat i d h
    exact ⟨v, h1, h2.mono e.gg⟩
  own := fun i d h => by
    obtain ⟨p, h1, h2, h3⟩ := R.own i d h
    obtain ⟨u, hu⟩ := h3.some
    refine ⟨p, h1, h2, ?_⟩
    rw [e.hh p u hu, ← hu]
    exact h3.mono e.gg
  dis := R.dis
  byr := R.byr

/-- how an error lies: its own dict at dd -/
def ExcAt (c : Cf) (G : Hp) (x : Exc) (dd : Addr) : Prop := ∃ vs, G dd = some (.xd ((c.flds x.c).zip vs)) ∧ RepL c G vs x.fs
theorem ExcAt.mono {x : Exc} {dd : Addr} (e : Same G G') (h : ExcAt c G x dd) : ExcAt c G' x dd := by
  obtain ⟨vs, h1, h2⟩ := h
  exact ⟨vs, e _ _ h1, h2.mono e⟩

def After {α : Type} (c : Cf) (B : List (Nat × Addr)) (W : WX) (G : Hp) (A : Addr → Prop) (H : Hp) (σ : L2.St) (o : Out α) (Q : α → Cells → Hp → Hp → Prop) : Prop := match o with
  | .stuck => False
  | .ok a ρ' => ∀ G' H', Same G G' → Keep A G H G' H' → Rel c B G' A H' σ ρ' → Q a ρ' G' H'
  | .exc x ρ' => ∀ G' H' dd, Same G G' → Keep A G H G' H' → Rel c B G' A H' σ ρ' → ExcAt c G' x dd → W (.ref (c.exc x.c)) (some dd) σ H'
variable {B : List (Nat × Addr)} {W : WX} {A : Addr → Prop} {σ : L2.St} {ρ : Cells}
theorem After.imp {α : Type} {o : Out α} {Q Q' : α → Cells → Hp → Hp → Prop} (h : After c B W G A H σ o Q) (k : ∀ a ρ' G' H', Same G G' → Keep A G H G' H' → Rel c B G' A H' σ ρ' → Q a ρ' G' H' → Q' a ρ' G' H') : After c B W G A H σ o Q' := by
  cases o with
  | stuck => exact h
  | ok a ρ' => exact fun G' H' s kk R => k a ρ' G' H' s kk R (h G' H' s kk R)
  | exc x ρ' => exact h
theorem After.of {α : Type} {o : Out α} {Q : α → Cells → Hp → Hp → Prop} {G' H' : Hp} (s : Same G G') (k : Keep A G H G' H') (h : After c B W G A H σ o Q) : After c B W G' A H' σ o Q := by
  cases o with
  | stuck => exact h
  | ok a ρ' => exact fun G2 H2 s2 k2 R => h G2 H2 (s.trans s2) (k.trans k2) R
  | exc x ρ' => exact fun G2 H2 dd s2 k2 R => h G2 H2 dd (s.trans s2) (k.trans k2) R
theorem After.split {α β : Type} {f : M α} {k : α → M β} {Q : β → Cells → Hp → Hp → Prop} (h : After c B W G A H σ ((f.bind k) ρ) Q) :
    After c B W G A H σ (f ρ) fun a ρ' G' H' => After c B W G' A H' σ (k a ρ') Q := by
  unfold M.bind at h
  cases e : f ρ with
  | stuck => rw [e] at h; exact h
  | ok a ρ' =>
    rw [e] at h
    exact fun G' H' s kk R => After.of s kk h
  | exc x ρ' => rw [e] at h; exact h
theorem After.ok {α : Type} {a : α} {Q : α → Cells → Hp → Hp → Prop} (h : After c B W G A H σ (.ok a ρ) Q) (R : Rel c B G A H σ ρ) : Q a ρ G H := h G H (Same.refl _) (Keep.refl _ _) R
end

/-- an operand: evaluated to data, or a slot that owns its content (read when the operation is done) -/
inductive Opn where
  | dat (f : M D) | own (i : Nat)
def cellD : Option Cell → Option D
  | some (.dat d) => some d
  | some (.own d) => some d
  | _ => none
def Opn.pre : Opn → M D
  | .dat f => f
  | .own i => fun ρ => match cellD ρ[i]? with
    | some _ => .ok .non ρ
    | none => .stuck
def Opn.rd : Opn → D → Cells → Option D
  | .dat _, d, _ => some d
  | .own i, _, ρ => cellD ρ[i]?
def rdM (o : Opn) (d : D) : M D := fun ρ => match o.rd d ρ with
  | some e => .ok e ρ
  | none => .stuck
/-- a value that stands for d, frozen or owned -/
def Opr (c : Cf) (G H : Hp) (v : V) (d : D) : Prop := Rep c G v d ∨ ∃ p, v = .ref p ∧ Own c G (H p) d

def tM (c : Cf) (B : List (Nat × Addr)) (W : WX) (f : M D) : TE := fun σ H Q => ∃ G A ρ, Rel c B G A H σ ρ ∧ After c B W G A H σ (f ρ) fun d _ G' H' => ∀ v, Rep c G' v d → Q v H'
def tO (c : Cf) (B : List (Nat × Addr)) (W : WX) (o : Opn) : TE := fun σ H Q => ∃ G A ρ, Rel c B G A H σ ρ ∧ After c B W G A H σ (o.pre ρ) fun d _ G' H' => ∀ v,
  (∀ G2 H2 ρ2 d2, Same G' G2 → Rel c B G2 A H2 σ ρ2 → o.rd d ρ2 = some d2 → Opr c G2 H2 v d2) → Q v H'
/-- a new list or dict, not yet frozen -/
def tF (c : Cf) (B : List (Nat × Addr)) (W : WX) (f : M D) : TE := fun σ H Q => ∃ G A ρ, Rel c B G A H σ ρ ∧ After c B W G A H σ (f ρ) fun d _ G' H' => ∀ p H2, H' p = none → Same H' H2 → Own c G' (H2 p) d → Q (.ref p) H2
def tT (c : Cf) (B : List (Nat × Addr)) (W : WX) (f : M Bool) : TT := fun σ H Q => ∃ G A ρ, Rel c B G A H σ ρ ∧ After c B W G A H σ (f ρ) fun b _ _ H' => Q b H'

theorem pe_imp {X : Cx} {e : Expr} {t t' : TE} (h : PE X e t) (k : ∀ σ H Q, t' σ H Q → t σ H Q) : PE X e t' := ⟨fun pins s σ H Q I q => h.run pins s σ H Q I (k σ H Q q)⟩
theorem pt_imp {X : Cx} {e : Expr} {t t' : TT} (h : PT X e t) (k : ∀ σ H Q, t' σ H Q → t σ H Q) : PT X e t' := ⟨fun pins s σ H Q I q => h.run pins s σ H Q I (k σ H Q q)⟩
theorem pa_imp {X : Cx} {e : List Expr} {t t' : TA} (h : PA X e t) (k : ∀ σ H Q, t' σ H Q → t σ H Q) : PA X e t' := ⟨fun pos pins s σ H Q I q => h.run pos pins s σ H Q I (k σ H Q q)⟩
theorem ps_imp {X : Cx} {e : Stmt} {t t' : TS} (h : PS X e t) (k : ∀ D σ H, t' D σ H → t D σ H) : PS X e t' := ⟨fun pins s σ H D I q => h.run pins s σ H D I (k D σ H q)⟩
theorem pss_imp {X : Cx} {e : List Stmt} {t t' : TS} (h : PSs X e t) (k : ∀ D σ H, t' D σ H → t D σ H) : PSs X e t' := ⟨fun pins s σ H D I q => h.run pins s σ H D I (k D σ H q)⟩
theorem pg_imp {X : Cx} {e : Expr} {t t' : TG} (h : PG X e t) (k : ∀ v σ H Q, t' v σ H Q → t v σ H Q) : PG X e t' := ⟨fun pins s σ H v u Q I r q => h.run pins s σ H v u Q I r (k v σ H Q q)⟩
theorem pi_imp {X : Cx} {tg e : Expr} {t t' : TI} (h : PI X tg e t) (k : ∀ σ H Q, t' σ H Q → t σ H Q) : PI X tg e t' := ⟨fun pins s σ H Q I q => h.run pins s σ H Q I (k σ H Q q)⟩

section
variable {c : Cf} {B : List (Nat × Addr)} {W : WX} {X : Cx}
theorem Opr.mono {G G' H : Hp} {v : V} {d : D} (e : Same G G') (h : Opr c G H v d) : Opr c G' H v d := by
  rcases h with h | ⟨p, h1, h2⟩
  · exact .inl (h.mono e)
  · exact .inr ⟨p, h1, h2.mono e⟩
/-- data as an operand -/
theorem po_dat {e : Expr} {f : M D} (h : PE X e (tM c B W f)) : PE X e (tO c B W (.dat f)) := pe_imp h fun σ H Q ⟨G, A, ρ, R, a⟩ =>
  ⟨G, A, ρ, R, a.imp fun d ρ' G' H' _ _ _ q v r => q v fun G2 H2 ρ2 d2 s2 _ e2 => by cases e2; exact .inl (r.mono s2)⟩
theorem Rel.cell {G H : Hp} {A : Addr → Prop} {σ : L2.St} {ρ : Cells} {i : Nat} {d : D} (R : Rel c B G A H σ ρ) (e : cellD ρ[i]? = some d) : ∃ v, σ[i]? = some (some v) ∧ Opr c G H v d := by
  cases q : ρ[i]? with
  | none => rw [q] at e; cases e
  | some cl =>
    rw [q] at e
    cases cl with
    | no => cases e
    | dat d' =>
      cases e
      obtain ⟨w, h1, h2⟩ := R.dat i _ q
      exact ⟨w, h1, .inl h2⟩
    | own d' =>
      cases e
      obtain ⟨p, h1, _, h3⟩ := R.own i _ q
      exact ⟨_, h1, .inr ⟨p, rfl, h3⟩⟩
/-- a slot that owns, as an operand -/
theorem po_own (i : Nat) {x : Str} {pos : Pos} (hN : X.N[i]? = some x := by rfl) (hv : Vis X.env.scope x := by first | exact Or.inl rfl | exact Or.inr (Or.inl rfl) | exact Or.inr (Or.inr rfl)) (hd : (x == ("__debug__" : Str)) = false := by decide)
    (hcd : (x == ("__classdict__" : Str)) = false := by decide) : PE X (.Name x pos) (tO c B W (.own i)) := pe_imp (pe_var hN hv hd hcd) fun σ H Q ⟨G, A, ρ, R, a⟩ => by
  have a' : After c B W G A H σ (match cellD ρ[i]? with | some _ => Out.ok D.non ρ | none => Out.stuck) _ := a
  cases e : cellD ρ[i]? with
  | none => rw [e] at a'; exact a'.elim
  | some d =>
    rw [e] at a'
    obtain ⟨v, hv, _⟩ := R.cell e
    refine ⟨v, hv, After.ok a' R v fun G2 H2 ρ2 d2 _ R2 e2 => ?_⟩
    obtain ⟨w, h1, h2⟩ := R2.cell (i := i) (d := d2) e2
    rw [hv] at h1; cases h1
    exact h2
end
end Fx
set_option Elab.async false
set_option linter.all false
set_option maxRecDepth 100000
set_option maxHeartbeats 4000000
namespace Fx
open PySem PySem.Spec PyProof.Rows L2
def tob (its : List Value) : Obj := { cls := .type "tuple", data := .seq its.toArray }
section
variable {X : Cx} {pins : List (Addr × Obj)} {σ : L2.St} {H : Hp} {s : Shared}
theorem tnew {ys : List V} {its : List Value} {t' : Nat} (I : Inv X pins σ H s) (hv : Vals ys its) (hz : ys.length ≤ sizeLine) :
    Inv X pins σ (upd H s.heap.objs.size (.frz (tob its) (.tup ys))) { s with heap := s.heap.push (tob its), toks := t' } :=
  I.laid (fun _ _ q => Heap.get?_push_of_some _ q) (Nat.le_refl _) ⟨Heap.get?_push_size _ rfl, hz, its, hv, IsTup.new _ _⟩
theorem fresh (I : Inv X pins σ H s) : H s.heap.objs.size = none := I.hok.fresh (Nat.le_refl _)
end
/-- a new tuple of xs -/
def TN (H : Hp) (xs : List V) (Q : VK) : Prop := ∀ p its, H p = none → Q (.ref p) (upd H p (.frz (tob its) (.tup xs)))
section
variable {X : Cx} {e : Expr} {es : List Expr} {te : TE} {t : TA} {pos : Pos}
def tTupN (t : TA) : TE := fun σ H Q => t σ H fun xs H1 => xs.length ≤ sizeLine ∧ TN H1 xs Q
theorem pe_tupN {x1} (h : PA X es t) : PE X (.Tuple es x1 pos) (tTupN t) := by
  refine ⟨fun pins s σ H Q I hq => ?_⟩
  refine wpAny_Tuple_spliced (thn (h.run pos pins s σ H _ I hq) fun us s1 ⟨xs, H1, I1, r, z, q⟩ => ⟨by rw [← r.length]; exact z, ?_⟩)
  exact ⟨.ref s1.heap.objs.size, _, tnew (t' := s1.toks) I1 r z, rfl, q _ us (fresh I1)⟩
def rTupleOf (K : PySem.W.Frag) : List V → Hp → VK → Prop := fun xs H Q => ∃ p ys, xs = [.ref p] ∧ ((SqL K H p ys ∧ TN H ys Q) ∨ (SqT K H p ys ∧ Q (.ref p) H))
theorem call_tupleN : CallR X (.type "tuple") (rTupleOf X.K) := by
  intro pins s σ H xs us Q I r h
  obtain ⟨p, ys, rfl, h⟩ := h
  obtain ⟨u, rfl, rx⟩ := vals1 r
  cases rx
  rcases h with ⟨hq, q⟩ | ⟨hq, q⟩
  · obtain ⟨its, r', pl, hz⟩ := I.list hq
    have hlen := r'.length
    refine call_tuple_list pl.isList (fun h' kp => ?_) (by simp only [List.size_toArray] <;> omega)
    have I1 : Inv X pins σ H { s with heap := h' } := I.kept (t' := s.toks) kp
    exact ⟨.ref h'.objs.size, _, tnew (t' := s.toks) I1 r' hz, rfl, q _ its (fresh I1)⟩
  · obtain ⟨its, r', pl, hz⟩ := I.tuple hq
    exact call_tuple_same pl ⟨.ref p, H, I, rfl, q⟩
def rCatN (K : PySem.W.Frag) : R2 := fun x y H Q => ∃ a b xs ys, x = .ref a ∧ y = .ref b ∧ SqT K H a xs ∧ SqT K H b ys ∧ xs.length + ys.length ≤ sizeLine ∧
  (xs = [] → Q (.ref b) H) ∧ (xs ≠ [] → ys = [] → Q (.ref a) H) ∧ (xs ≠ [] → ys ≠ [] → TN H (xs ++ ys) Q)
theorem op_catN : OpR X (binaryOp .Add) (rCatN X.K) := by
  intro pins s σ H x y v u Q I rx ry h
  obtain ⟨a, b, xs, ys, rfl, rfl, ha, hb, hz, q0, q1, q2⟩ := h
  cases rx
  cases ry
  obtain ⟨its, r1, p1, _⟩ := I.tuple ha
  obtain ⟨its2, r2, p2, _⟩ := I.tuple hb
  by_cases hx : xs = []
  · subst hx
    cases r1
    exact cat_tup0 p1 p2 ⟨.ref b, H, I, rfl, q0 rfl⟩
  · refine HT.cat_tup p1 p2 (fun z => hx (r1.nil_iff.mp z)) (fun z => ⟨.ref a, H, I, rfl, q1 hx (r2.nil_iff.mp z)⟩) (fun z => ?_) (by rw [← r1.length, ← r2.length]; exact hz)
    have I2 := tnew (t' := s.toks) I (r1.append r2) (by rw [List.length_append]; exact hz)
    exact ⟨.ref s.heap.objs.size, _, I2, rfl, q2 hx (fun w => z (r2.nil_iff.mpr w)) _ _ (fresh I)⟩
def rSlN (K : PySem.W.Frag) : V → Option Int → Option Int → Hp → VK → Prop := fun x lo hi H Q => ∃ a xs, x = .ref a ∧ SqT K H a xs ∧
  (HT.sIx xs.length 0 lo = 0 ∧ HT.sIx xs.length xs.length hi = xs.length → Q (.ref a) H) ∧ (¬ (HT.sIx xs.length 0 lo = 0 ∧ HT.sIx xs.length xs.length hi = xs.length) → TN H (cutV xs lo hi) Q)
theorem sl_tupN : SlR X (rSlN X.K) := by
  intro pins s σ H x v vl vu lo hi sl Q I rx hs pl pu h
  obtain ⟨a, xs, rfl, hx, q1, q2⟩ := h
  cases rx
  obtain ⟨its, r, ht, hz⟩ := I.tuple hx
  have hlen : its.toArray.size = xs.length := by rw [List.size_toArray]; exact r.length.symm
  refine ⟨"tuple", _, PyProof.Rows.slot_tuple_getitem.lookup, ht.typeIs, ?_⟩
  by_cases hw : HT.sIx xs.length 0 lo = 0 ∧ HT.sIx xs.length xs.length hi = xs.length
  · exact getItem_tuple_whole ht hs pl pu (by rw [hlen]; exact hw) ⟨.ref a, H, I, rfl, q1 hw⟩
  · refine HT.getItem_tuple_cut ht hs pl pu (by rw [hlen]; exact hw) ?_ (by rw [hlen]; exact hz)
    rw [hlen]
    have I2 := tnew (t' := s.toks) I ((r.drop (HT.sIx xs.length 0 lo)).take (HT.sIx xs.length xs.length hi - HT.sIx xs.length 0 lo)) (Nat.le_trans (cutV_length xs lo hi) hz)
    exact ⟨.ref s.heap.objs.size, _, I2, rfl, q2 hw _ _ (fresh I)⟩
theorem LsG.ok {pins : List (Addr × Obj)} {σ : L2.St} {H : Hp} {s : Shared} {a : Addr} {xs : List V} (I : Inv X pins σ H s) (h : Fx.LsG X.K H a xs) : xs.length ≤ sizeLine ∧ ∃ (its : List Value) (n : Nat), Vals xs its ∧ s.heap.get? a = some { cls := .type "list", data := .seq its.toArray n } := by
  rcases h with h | ⟨its, n, h1, h2, h3⟩
  · obtain ⟨z, its, n, r, e⟩ := h.ok I.hok
    exact ⟨z, its, n, r, e⟩
  · exact ⟨by rw [h3.length]; exact h2, its, n, h3, I.kIn _ _ h1⟩
/-- list + list, each tracked or frozen -/
def rCatR (K : PySem.W.Frag) : R2 := fun x y H Q => ∃ l b xs zs, x = .ref l ∧ y = .ref b ∧ LsG K H l xs ∧ LsG K H b zs ∧ xs.length + zs.length ≤ sizeLine ∧ ∀ p, H p = none → Q (.ref p) (upd H p (.lst (xs ++ zs)))
theorem op_catR : OpR X (binaryOp .Add) (rCatR X.K) := by
  intro pins s σ H x y v u Q I rx ry h
  obtain ⟨l, b, xs, zs, rfl, rfl, hH, hB, hz, q⟩ := h
  cases rx
  cases ry
  obtain ⟨z, its, n, r, e⟩ := LsG.ok I hH
  obtain ⟨z2, its2, n2, r2, e2⟩ := LsG.ok I hB
  have hl := r.length
  have hl2 := r2.length
  refine PySem.P.add_list e e2 ?_ (by rw [List.size_toArray, List.size_toArray]; omega)
  have ea : its.toArray ++ its2.toArray = (its ++ its2).toArray := by simp
  rw [ea]
  exact ⟨.ref _, _, I.lnew (t' := s.toks) (r.append r2) (by rw [List.length_append]; omega), rfl, q _ I.fresh⟩
/-- list * int, tracked or frozen -/
def rRepR (K : PySem.W.Frag) : R2 := fun x y H Q => ∃ l k xs, x = .ref l ∧ y = .int k ∧ LsG K H l xs ∧ -(2 ^ 63) ≤ k ∧ k < 2 ^ 63 ∧ xs.length * k.toNat ≤ sizeLine ∧
  ∀ p, H p = none → Q (.ref p) (upd H p (.lst (List.replicate k.toNat xs).flatten))
theorem op_repR : OpR X (binaryOp .Mult) (rRepR X.K) := by
  intro pins s σ H x y v u Q I rx ry h
  obtain ⟨l, k, xs, rfl, rfl, hH, h1, h2, hz, q⟩ := h
  cases rx
  obtain ⟨t, rfl⟩ := ry
  obtain ⟨z, its, n, r, e⟩ := LsG.ok I hH
  have hl := r.length
  have hlen : its.toArray.size * k.toNat ≤ sizeLine := by rw [List.size_toArray, ← hl]; exact hz
  have hcap : ¬ its.toArray.size * k.toNat > (2 ^ 63 - 1) / 8 := by
    have : (sizeLine : Nat) ≤ (2 ^ 63 - 1) / 8 := by decide
    omega
  have hfit : ¬ (!Builtin.List.listFitsIndex k) = true := by
    rw [fitsIndex_both h1 h2]
    exact Bool.false_ne_true
  have hlong : ¬ Builtin.List.listTooLong (its.toArray.size * k.toNat) = true := by
    rw [notLongL hlen]
    exact Bool.false_ne_true
  have hnew : List.foldl (fun x1 x2 => x1 ++ x2) #[] (List.replicate (if its.toArray.isEmpty = true then 0 else k.toNat) its.toArray) = (List.replicate k.toNat its).flatten.toArray := by
    have f0 : ∀ m : Nat, List.foldl (fun x1 x2 => x1 ++ x2) #[] (List.replicate m its.toArray) = (List.replicate m its).flatten.toArray := fun m => by
      have := foldl_rep its m []
      rw [List.nil_append] at this
      exact this
    rw [f0]
    cases its with
    | nil => simp
    | cons a r' => rw [if_neg (by simp)]
  refine wpAny_binaryOp_repeat_ref (T := "list") (U := "int") (by decide) ⟨_, e, rfl⟩ (fun s' => typeIs_int s' k t) noFill_list_mul PySem.F.fills_int_mul PySem.F.slot_int_rmul repeat_list PySem.F.slot_int_index.lookup
    (call_meets PySem.F.slot_int_rmul (typeIs_int s k t) PySem.F.entry_int_rmul (PySem.F.args_int_rmul_2 _ _) (int___rmul___int_list k t l its.toArray n)
      ⟨e, rfl, ⟨_, e, rfl⟩, call_meets PySem.F.slot_list_mul ⟨_, e, rfl⟩ PySem.F.entry_list_mul (PySem.F.args_list_mul_2 _ _) (AutoListH.list___mul___list_int_3 l its.toArray n k t hfit hcap hlong) ⟨e, ?_⟩⟩)
  rw [hnew]
  exact ⟨.ref _, _, I.lnew (t' := s.toks) (r.rep k.toNat) (by rw [PyProof.Rows.lm_len_rep_flat, Nat.mul_comm]; exact hz), rfl, q _ I.fresh⟩
end
end Fx
set_option Elab.async false
set_option linter.all false
set_option maxRecDepth 100000
set_option maxHeartbeats 4000000
namespace Fx
open PySem L2
section
variable {c : Cf} {B : List (Nat × Addr)} {W : WX} {X : Cx}

def K1 (c : Cf) (G H : Hp) (d : D) (Q : VK) : Prop := ∀ G' H' v, Ext G H G' H' → Rep c G' v d → Q v H'
def K2 (c : Cf) (G H : Hp) (d : D) (Q : VK) : Prop := ∀ p H', H p = none → Same H H' → Own c G (H' p) d → Q (.ref p) H'
theorem ext_own {G H H' : Hp} {p : Addr} {d : D} (s : Same G H) (hp : H p = none) (hh : Same H H') (o : Own c G (H' p) d) : ∃ G', Ext G H G' H' ∧ Rep c G' (.ref p) d := by
  obtain ⟨u, hu⟩ := o.some
  have gp : G p = none := s.free hp
  have e : Ext G H (upd G p u) H' := ⟨same_upd gp, hh, fun b w q => by
    by_cases z : b = p
    · subst z; rw [upd_same] at q; rw [hu]; exact q
    · rw [upd_ne z] at q; exact hh b w (s b w q), fun b w q => upd_ne (ne_of_none q hp)⟩
  refine ⟨_, e, ?_⟩
  have o' : Own c G ((upd G p u) p) d := by rw [upd_same, ← hu]; exact o
  exact o'.rep e.gg
theorem K1.to2 {G H : Hp} {d : D} {Q : VK} (s : Same G H) (k : K1 c G H d Q) : K2 c G H d Q := fun p H' hp hh o => by
  obtain ⟨G', e, r⟩ := ext_own s hp hh o
  exact k G' H' _ e r
theorem K1.flat {G H : Hp} {d : D} {Q : VK} (s : Same G H) (k : K1 c G H d Q) {v : V} (r : Rep c G v d) : Q v H := k G H v (Ext.refl s) r
theorem K1.new {G H : Hp} {d : D} {Q : VK} (s : Same G H) (k : K1 c G H d Q) {p : Addr} {o : HO} (hp : H p = none) (r : Rep c (upd G p o) (.ref p) d) : Q (.ref p) (upd H p o) := k _ _ _ (Ext.upd s hp) r
theorem K1.tup {G H : Hp} {ds : List D} {Q : VK} (s : Same G H) (k : K1 c G H (.tup ds) Q) {p : Addr} {its : List Value} {xs : List V} (hp : H p = none) (r : RepL c G xs ds) : Q (.ref p) (upd H p (.frz (tob its) (.tup xs))) :=
  k.new s hp (.tup (.inl ⟨_, upd_same, rfl⟩) (r.mono (same_upd (s.free hp))))
theorem K2.lst {G H : Hp} {ds : List D} {Q : VK} (k : K2 c G H (.lst ds) Q) {p : Addr} {xs : List V} (hp : H p = none) (r : RepL c G xs ds) : Q (.ref p) (upd H p (.lst xs)) :=
  k p _ hp (same_upd hp) ⟨xs, upd_same, r⟩

/-- what r asks follows from the operation's function on data -/
def Sem2 (c : Cf) (r : R2) (sem : D → D → Option D) : Prop := ∀ (G H : Hp) (x y : V) (d1 d2 d : D) (Q : VK), Same G H → Opr c G H x d1 → Opr c G H y d2 → sem d1 d2 = some d → K1 c G H d Q → r x y H Q
def Sem2F (c : Cf) (r : R2) (sem : D → D → Option D) : Prop := ∀ (G H : Hp) (x y : V) (d1 d2 d : D) (Q : VK), Same G H → Opr c G H x d1 → Opr c G H y d2 → sem d1 d2 = some d → K2 c G H d Q → r x y H Q
theorem Sem2F.plain {r : R2} {sem : D → D → Option D} (h : Sem2F c r sem) : Sem2 c r sem := fun G H x y d1 d2 d Q s a b e k => h G H x y d1 d2 d Q s a b e (k.to2 s)
/-- the meaning of an operation with two operands -/
def mOp2 (sem : D → D → Option D) (oa ob : Opn) : M D := oa.pre.bind fun a => ob.pre.bind fun b => (rdM oa a).bind fun d1 => (rdM ob b).bind fun d2 => M.lift (sem d1 d2)

theorem After.lift {α : Type} {G H : Hp} {A : Addr → Prop} {σ : L2.St} {ρ : Cells} {o : Option α} {Q : α → Cells → Hp → Hp → Prop} (h : After c B W G A H σ (M.lift o ρ) Q) (R : Rel c B G A H σ ρ) : ∃ d, o = some d ∧ Q d ρ G H := by
  cases o with
  | none => exact h.elim
  | some d => exact ⟨d, rfl, After.ok h R⟩
theorem After.rd {α : Type} {G H : Hp} {A : Addr → Prop} {σ : L2.St} {ρ : Cells} {o : Opn} {a : D} {k : D → M α} {Q : α → Cells → Hp → Hp → Prop} (h : After c B W G A H σ (((rdM o a).bind k) ρ) Q) : ∃ d, o.rd a ρ = some d ∧ After c B W G A H σ (k d ρ) Q := by
  unfold M.bind rdM at h
  cases e : o.rd a ρ with
  | none => rw [e] at h; exact h.elim
  | some d => rw [e] at h; exact ⟨d, rfl, h⟩
/-- the heart of a two-operand rule -/
theorem op2_core {r : R2} {sem : D → D → Option D} {oa ob : Opn} {σ : L2.St} {H : Hp} {Q : VK} {Qd : D → Hp → Hp → Prop} {A : Addr → Prop} {G : Hp} {ρ : Cells} (R : Rel c B G A H σ ρ) (a : After c B W G A H σ (mOp2 sem oa ob ρ) fun d _ G' H' => Qd d G' H')
    (k : ∀ G' H' x y d1 d2 d, Same G' H' → Opr c G' H' x d1 → Opr c G' H' y d2 → sem d1 d2 = some d → Qd d G' H' → r x y H' Q) : tOp r (tO c B W oa) (tO c B W ob) σ H Q := by
  refine ⟨G, A, ρ, R, a.split.imp fun da ρ1 G1 H1 _ _ R1 a1 x fx => ?_⟩
  refine ⟨G1, A, ρ1, R1, a1.split.imp fun db ρ2 G2 H2 s2 _ R2 a2 y fy => ?_⟩
  obtain ⟨d1, e1, a2⟩ := a2.rd
  obtain ⟨d2, e2, a2⟩ := a2.rd
  obtain ⟨d, e, q⟩ := a2.lift R2
  exact k G2 H2 x y d1 d2 d R2.same (fx G2 H2 ρ2 d1 s2 R2 e1) (fy G2 H2 ρ2 d2 (Same.refl _) R2 e2) e q
theorem After.k1 {G H : Hp} {A : Addr → Prop} {σ : L2.St} {ρ : Cells} {f : M D} {Q : VK} (a : After c B W G A H σ (f ρ) fun d _ G' H' => ∀ v, Rep c G' v d → Q v H') : After c B W G A H σ (f ρ) fun d _ G' H' => K1 c G' H' d Q := by
  cases e : f ρ with
  | stuck => rw [e] at a; exact a
  | exc x ρ' => rw [e] at a; exact a
  | ok d ρ' =>
    rw [e] at a
    intro G' H' s k R G2 H2 v x r
    exact a G2 H2 (s.trans x.gg) (k.trans x.keep) (R.ext x) v r
theorem After.k2 {G H : Hp} {A : Addr → Prop} {σ : L2.St} {ρ : Cells} {f : M D} {Q : VK} (a : After c B W G A H σ (f ρ) fun d _ G' H' => ∀ p H2, H' p = none → Same H' H2 → Own c G' (H2 p) d → Q (.ref p) H2) : After c B W G A H σ (f ρ) fun d _ G' H' => K2 c G' H' d Q := a
theorem pm_op {e : Expr} {r : R2} {sem : D → D → Option D} {oa ob : Opn} (hs : Sem2 c r sem) (h : PE X e (tOp r (tO c B W oa) (tO c B W ob))) : PE X e (tM c B W (mOp2 sem oa ob)) :=
  pe_imp h fun σ H Q ⟨G, A, ρ, R, a⟩ => op2_core R a.k1 fun G' H' x y d1 d2 d s o1 o2 e q => hs G' H' x y d1 d2 d Q s o1 o2 e q
theorem pf_op {e : Expr} {r : R2} {sem : D → D → Option D} {oa ob : Opn} (hs : Sem2F c r sem) (h : PE X e (tOp r (tO c B W oa) (tO c B W ob))) : PE X e (tF c B W (mOp2 sem oa ob)) :=
  pe_imp h fun σ H Q ⟨G, A, ρ, R, a⟩ => op2_core R a.k2 fun G' H' x y d1 d2 d s o1 o2 e q => hs G' H' x y d1 d2 d Q s o1 o2 e q
/-- what is new may be frozen -/
theorem pm_of_pf {e : Expr} {f : M D} (h : PE X e (tF c B W f)) : PE X e (tM c B W f) := pe_imp h fun σ H Q ⟨G, A, ρ, R, a⟩ => ⟨G, A, ρ, R, a.k1.imp fun d ρ' G' H' _ _ R' k => k.to2 R'.same⟩

def mVar (i : Nat) : M D := fun ρ => match ρ[i]? with
  | some (.dat d) => .ok d ρ
  | _ => .stuck
theorem pm_var (i : Nat) {x : Str} {pos : Pos} (hN : X.N[i]? = some x := by rfl) (hv : Vis X.env.scope x := by first | exact Or.inl rfl | exact Or.inr (Or.inl rfl) | exact Or.inr (Or.inr rfl)) (hd : (x == ("__debug__" : Str)) = false := by decide)
    (hcd : (x == ("__classdict__" : Str)) = false := by decide) : PE X (.Name x pos) (tM c B W (mVar i)) := pe_imp (pe_var hN hv hd hcd) fun σ H Q ⟨G, A, ρ, R, a⟩ => by
  unfold mVar at a
  cases q : ρ[i]? with
  | none => rw [q] at a; exact a.elim
  | some cl =>
    rw [q] at a
    cases cl with
    | no => exact a.elim
    | own d => exact a.elim
    | dat d =>
      obtain ⟨v, h1, h2⟩ := R.dat i d q
      exact ⟨v, h1, After.ok a R v h2⟩
theorem pm_c {e : Expr} {v : V} {d : D} (h : PE X e (tC v)) (r : ∀ G, Rep c G v d) : PE X e (tM c B W (M.pure d)) := pe_imp h fun σ H Q ⟨G, A, ρ, R, a⟩ => After.ok a R v (r G)
theorem pm_int {i j pos} : PE X (.Constant (.int i) j pos) (tM c B W (M.pure (.int i))) := pm_c pe_int fun _ => .int i
theorem pm_bl {i j pos} : PE X (.Constant (.bool i) j pos) (tM c B W (M.pure (.bl i))) := pm_c pe_bl fun _ => .bl i
theorem pm_non {j pos} : PE X (.Constant .none j pos) (tM c B W (M.pure .non)) := pm_c pe_non fun _ => .non
theorem pm_str {x j pos} : PE X (.Constant (.str x) j pos) (tM c B W (M.pure (.str x))) := pm_c pe_str fun _ => .str x
/-- a module's int -/
theorem pm_globI {x : Str} {i : Int} {t : Tok} {pos : Pos} (hm : X.mg x = some (.int i t)) (hg : Gl X x := by rfl) (hd : (x == ("__debug__" : Str)) = false := by decide) : PE X (.Name x pos) (tM c B W (M.pure (.int i))) := pm_c (v := .int i) (pe_glob hg hm ⟨t, rfl⟩ hd) fun _ => .int i

def mB (f : M D) : M Bool := f.bind fun d => match d with
  | .bl b => M.pure b
  | _ => M.stuck
theorem mB_core {G H : Hp} {A : Addr → Prop} {σ : L2.St} {ρ : Cells} {f : M D} {Q : Bool → Cells → Hp → Hp → Prop} (R : Rel c B G A H σ ρ) (a : After c B W G A H σ (mB f ρ) Q) : After c B W G A H σ (f ρ) fun d ρ' G' H' => ∃ b, d = .bl b ∧ Q b ρ' G' H' :=
  a.split.imp fun d ρ' G' H' _ _ R' q => by
    cases d <;> first | exact q.elim | skip
    exact ⟨_, rfl, After.ok q R'⟩
theorem rep_bl {G : Hp} {v : V} {b : Bool} (r : Rep c G v (.bl b)) : v = .bl b := by cases r; rfl
theorem rep_int {G : Hp} {v : V} {b : Int} (r : Rep c G v (.int b)) : v = .int b := by cases r; rfl
theorem tB_core {σ : L2.St} {H : Hp} {f : M D} {Q : Bool → Hp → Prop} (h : tT c B W (mB f) σ H Q) : tM c B W f σ H fun x H1 => ∃ b, x = .bl b ∧ Q b H1 := by
  obtain ⟨G, A, ρ, R, a⟩ := h
  refine ⟨G, A, ρ, R, (mB_core R a).imp fun d ρ' G' H' _ _ _ ⟨b, e, q⟩ v r => ?_⟩
  subst e
  exact ⟨b, rep_bl r, q⟩
/-- a value as a test -/
theorem pt_v {e : Expr} {f : M D} (h : PE X e (tM c B W f)) (he : ∀ whole, isTrue e X.env whole = (do let v ← whole; standAt e.pos; holding [v] (truthy v)) := by intro _; rfl) : PT X e (tT c B W (mB f)) :=
  pt_imp (pt_val h he) fun σ H Q h => tB_core h
/-- a comparison as a test -/
theorem pt_op {e : Expr} {r : R2} {sem : D → D → Option D} {oa ob : Opn} (hs : Sem2 c r sem) (h : PT X e (tTest (tOp r (tO c B W oa) (tO c B W ob)))) : PT X e (tT c B W (mB (mOp2 sem oa ob))) :=
  pt_imp h fun σ H Q h => by
    obtain ⟨G, A, ρ, R, a⟩ := tB_core h
    exact op2_core R a.k1 fun G' H' x y d1 d2 d s o1 o2 e q => hs G' H' x y d1 d2 d _ s o1 o2 e q
def mAnd (f g : M Bool) : M Bool := f.bind fun b => if b = true then g else M.pure false
def mOr (f g : M Bool) : M Bool := f.bind fun b => if b = true then M.pure true else g
def mNot (f : M Bool) : M Bool := f.bind fun b => M.pure (!b)
def mIf {α : Type} (b : M Bool) (f g : M α) : M α := b.bind fun b => if b = true then f else g
theorem ite_prop {b : Bool} {P Q : Prop} (h1 : b = true → P) (h2 : b = false → Q) : if b = true then P else Q := by
  cases b with
  | true => rw [if_pos rfl]; exact h1 rfl
  | false => rw [if_neg Bool.false_ne_true]; exact h2 rfl
theorem pw_and1' {op} {a : Expr} {f : M Bool} (h : PT X a (tT c B W f)) : PW X (.BoolOp op [a] pos) (tT c B W f) := by
  first
    | exact pw_and1 h
    | exact pw_or1 h
    | (cases op <;> first | exact pw_and1 h | exact pw_or1 h)
theorem pw_andM {a b : Expr} {rest : List Expr} {pos : Pos} {f g : M Bool} (ha : PT X a (tT c B W f)) (hb : PW X (.BoolOp .And (b :: rest) pos) (tT c B W g)) : PW X (.BoolOp .And (a :: b :: rest) pos) (tT c B W (mAnd f g)) := by
  refine ⟨fun whole pins s σ H Q I h => (pw_and ha hb).run whole pins s σ H Q I ?_⟩
  obtain ⟨G, A, ρ, R, a⟩ := h
  refine ⟨G, A, ρ, R, a.split.imp fun x ρ' G' H' _ _ R' q => ite_prop (fun e => ?_) (fun e => ?_)⟩
  · rw [if_pos e] at q; exact ⟨G', A, ρ', R', q⟩
  · rw [if_neg (by rw [e]; exact Bool.false_ne_true)] at q; exact After.ok q R'
theorem pw_orM {a b : Expr} {rest : List Expr} {pos : Pos} {f g : M Bool} (ha : PT X a (tT c B W f)) (hb : PW X (.BoolOp .Or (b :: rest) pos) (tT c B W g)) : PW X (.BoolOp .Or (a :: b :: rest) pos) (tT c B W (mOr f g)) := by
  refine ⟨fun whole pins s σ H Q I h => (pw_or ha hb).run whole pins s σ H Q I ?_⟩
  obtain ⟨G, A, ρ, R, a⟩ := h
  refine ⟨G, A, ρ, R, a.split.imp fun x ρ' G' H' _ _ R' q => ite_prop (fun e => ?_) (fun e => ?_)⟩
  · rw [if_pos e] at q; exact After.ok q R'
  · rw [if_neg (by rw [e]; exact Bool.false_ne_true)] at q; exact ⟨G', A, ρ', R', q⟩
theorem pt_notM {a : Expr} {pos : Pos} {f : M Bool} (ha : PT X a (tT c B W f)) : PT X (.UnaryOp .Not a pos) (tT c B W (mNot f)) :=
  pt_imp (pt_not ha) fun σ H Q ⟨G, A, ρ, R, a⟩ => ⟨G, A, ρ, R, a.split.imp fun x ρ' G' H' _ _ R' q => After.ok q R'⟩
/-- as values -/
def mV (f : M Bool) : M D := f.bind fun b => M.pure (.bl b)
def mAndV (f g : M D) : M D := (mB f).bind fun b => if b = true then g else M.pure (.bl false)
def mOrV (f g : M D) : M D := (mB f).bind fun b => if b = true then M.pure (.bl true) else g
def mNotV (f : M D) : M D := (mB f).bind fun b => M.pure (.bl (!b))
theorem pm_oneV {op} {a : Expr} {pos : Pos} {f : M D} (h : PE X a (tM c B W f)) : PE X (.BoolOp op [a] pos) (tM c B W f) := pe_one h
theorem pm_andV {a b : Expr} {rest : List Expr} {pos : Pos} {f g : M D} (ha : PE X a (tM c B W f)) (hb : PE X (.BoolOp .And (b :: rest) pos) (tM c B W g)) : PE X (.BoolOp .And (a :: b :: rest) pos) (tM c B W (mAndV f g)) :=
  pe_imp (pe_and ha hb) fun σ H Q ⟨G, A, ρ, R, a⟩ => by
    refine ⟨G, A, ρ, R, (mB_core R a.split).imp fun d ρ' G' H' _ _ R' ⟨b, e, q⟩ v r => ?_⟩
    subst e
    refine ⟨b, rep_bl r, ite_prop (fun e => ?_) (fun e => ?_)⟩
    · rw [if_pos e] at q; exact ⟨G', A, ρ', R', q⟩
    · rw [if_neg (by rw [e]; exact Bool.false_ne_true)] at q; exact After.ok q R' _ (.bl false)
theorem pm_orV {a b : Expr} {rest : List Expr} {pos : Pos} {f g : M D} (ha : PE X a (tM c B W f)) (hb : PE X (.BoolOp .Or (b :: rest) pos) (tM c B W g)) : PE X (.BoolOp .Or (a :: b :: rest) pos) (tM c B W (mOrV f g)) :=
  pe_imp (pe_or ha hb) fun σ H Q ⟨G, A, ρ, R, a⟩ => by
    refine ⟨G, A, ρ, R, (mB_core R a.split).imp fun d ρ' G' H' _ _ R' ⟨b, e, q⟩ v r => ?_⟩
    subst e
    refine ⟨b, rep_bl r, ite_prop (fun e => ?_) (fun e => ?_)⟩
    · rw [if_pos e] at q; exact After.ok q R' _ (.bl true)
    · rw [if_neg (by rw [e]; exact Bool.false_ne_true)] at q; exact ⟨G', A, ρ', R', q⟩
theorem pm_notV {a : Expr} {pos : Pos} {f : M D} (ha : PE X a (tM c B W f)) : PE X (.UnaryOp .Not a pos) (tM c B W (mNotV f)) :=
  pe_imp (pe_not ha) fun σ H Q ⟨G, A, ρ, R, a⟩ => by
    refine ⟨G, A, ρ, R, (mB_core R a.split).imp fun d ρ' G' H' _ _ R' ⟨b, e, q⟩ v r => ?_⟩
    subst e
    exact ⟨b, rep_bl r, After.ok q R' _ (.bl _)⟩
def mChain (s1 s2 : D → D → Option D) (oa ob oc : Opn) : M D := oa.pre.bind fun a => ob.pre.bind fun b => (rdM oa a).bind fun d1 => (rdM ob b).bind fun d2 => (M.lift (s1 d1 d2)).bind fun z => match z with
  | .bl true => oc.pre.bind fun e => (rdM ob b).bind fun d2 => (rdM oc e).bind fun d3 => M.lift (s2 d2 d3)
  | .bl false => M.pure (.bl false)
  | _ => M.stuck
theorem After.liftB {α β : Type} {G H : Hp} {A : Addr → Prop} {σ : L2.St} {ρ : Cells} {o : Option α} {k : α → M β} {Q : β → Cells → Hp → Hp → Prop} (h : After c B W G A H σ (((M.lift o).bind k) ρ) Q) : ∃ d, o = some d ∧ After c B W G A H σ (k d ρ) Q := by
  cases o with
  | none => exact h.elim
  | some d => exact ⟨d, rfl, h⟩
theorem chain_core {r r' : R2} {s1 s2 : D → D → Option D} {oa ob oc : Opn} {σ : L2.St} {H : Hp} {Q : VK} (h1 : Sem2 c r s1) (h2 : Sem2 c r' s2) (h : tM c B W (mChain s1 s2 oa ob oc) σ H Q) : tChain r r' (tO c B W oa) (tO c B W ob) (tO c B W oc) σ H Q := by
    obtain ⟨G, A, ρ, R, a⟩ := h
    refine ⟨G, A, ρ, R, a.split.imp fun da ρ1 G1 H1 _ _ R1 a1 x fx => ?_⟩
    refine ⟨G1, A, ρ1, R1, a1.split.imp fun db ρ2 G2 H2 s2' _ R2 a2 y fy => ?_⟩
    obtain ⟨d1, e1, a2⟩ := a2.rd
    obtain ⟨d2, e2, a2⟩ := a2.rd
    obtain ⟨d, e, q⟩ := a2.liftB
    refine h1 G2 H2 x y d1 d2 d _ R2.same (fx G2 H2 ρ2 d1 s2' R2 e1) (fy G2 H2 ρ2 d2 (Same.refl _) R2 e2) e fun G3 H3 z x3 rz => ?_
    have R3 := R2.ext x3
    cases d <;> first | exact q.elim | skip
    rename_i k
    refine ⟨k, rep_bl rz, ite_prop (fun ek => ?_) (fun ek => ?_)⟩
    · subst ek
      have q' := After.of x3.gg x3.keep q
      refine ⟨G3, A, ρ2, R3, q'.split.imp fun de ρ4 G4 H4 s4 _ R4 a4 w fw => ?_⟩
      obtain ⟨d2', e2', a4⟩ := a4.rd
      obtain ⟨d3, e3, a4⟩ := a4.rd
      obtain ⟨dr, er, a4⟩ := a4.k1.lift R4
      exact h2 G4 H4 y w d2' d3 dr _ R4.same (fy G4 H4 ρ4 d2' (x3.gg.trans s4) R4 e2') (fw G4 H4 ρ4 d3 (Same.refl _) R4 e3) er a4
    · subst ek
      exact After.ok (After.of x3.gg x3.keep q) R3 _ (.bl false)
theorem pm_chain {e : Expr} {r r' : R2} {s1 s2 : D → D → Option D} {oa ob oc : Opn} (h1 : Sem2 c r s1) (h2 : Sem2 c r' s2) (h : PE X e (tChain r r' (tO c B W oa) (tO c B W ob) (tO c B W oc))) : PE X e (tM c B W (mChain s1 s2 oa ob oc)) :=
  pe_imp h fun σ H Q q => chain_core h1 h2 q
end
end Fx
set_option Elab.async false
set_option linter.all false
set_option maxRecDepth 100000
set_option maxHeartbeats 4000000
namespace Fx
open PySem L2

mutual
def toPy : D → PyData
  | .non => .none
  | .bl b => .bool b
  | .int i => .int i
  | .str x => .str x
  | .tup ds => .tuple (toPys ds)
  | .lst ds => .list (toPys ds)
  | .dic _ _ => .dict []
  | .rcd _ _ => .dict []
  | .exc _ _ => .dict []
  | .raw _ => .dict []
def toPys : List D → List PyData
  | [] => []
  | d :: ds => toPy d :: toPys ds
end
/-- what == and in may look at -/
def plain (d : D) : Bool := (toPy d).canLay0
section
variable {c : Cf} {G H : Hp}
mutual
theorem Rep.dp (s : Same G H) : ∀ {v : V} {d : D}, Rep c G v d → plain d = true → Dp c.K H v (toPy d)
  | _, _, .non, _ => by unfold toPy; exact .non
  | _, _, .bl b, _ => by unfold toPy; exact .bl b
  | _, _, .int i, _ => by unfold toPy; exact .int i
  | _, _, .str x, _ => by unfold toPy; exact .str x
  | _, _, .tup e r, h => by
    unfold plain at h
    rw [toPy] at h ⊢
    unfold PyData.canLay0 at h
    exact .tup (e.mono s).sq (RepL.dp s r h)
  | _, _, .lst e r, h => by
    unfold plain at h
    rw [toPy] at h ⊢
    unfold PyData.canLay0 at h
    exact .lst (e.mono s).sq (RepL.dp s r h)
  | _, _, .dic .., h => by unfold plain toPy PyData.canLay0 at h; cases h
  | _, _, .rcd .., h => by unfold plain toPy PyData.canLay0 at h; cases h
  | _, _, .raw _, h => by unfold plain toPy PyData.canLay0 at h; cases h
theorem RepL.dp (s : Same G H) : ∀ {vs : List V} {ds : List D}, RepL c G vs ds → PyData.canLayAll0 (toPys ds) = true → DpAll c.K H vs (toPys ds)
  | _, _, .nil, _ => by unfold toPys; exact .nil
  | _, _, .cons r t, h => by
    unfold toPys at h ⊢
    unfold PyData.canLayAll0 at h
    rw [Bool.and_eq_true] at h
    exact .cons (Rep.dp s r h.1) (RepL.dp s t h.2)
end
theorem Opr.dp (s : Same G H) {v : V} {d : D} (h : Opr c G H v d) (p : plain d = true) : Dp c.K H v (toPy d) := by
  rcases h with h | ⟨q, rfl, h⟩
  · exact h.dp s p
  · cases d <;> first | exact h.elim | skip
    · obtain ⟨xs, h1, h2⟩ := h
      unfold plain at p
      rw [toPy] at p ⊢
      unfold PyData.canLay0 at p
      exact .lst (SqL.of h1) (h2.dp s p)
    · unfold plain toPy PyData.canLay0 at p; cases p
    · unfold plain toPy PyData.canLay0 at p; cases p
    · unfold plain toPy PyData.canLay0 at p; cases p
/-- a list, owned or frozen -/
theorem Opr.lst (s : Same G H) {v : V} {ds : List D} (h : Opr c G H v (.lst ds)) : ∃ p xs, v = .ref p ∧ LsG c.K H p xs ∧ RepL c G xs ds := by
  rcases h with h | ⟨q, rfl, h⟩
  · cases h with
    | lst e r => exact ⟨_, _, rfl, e.mono s, r⟩
  · obtain ⟨xs, h1, h2⟩ := h
    exact ⟨_, _, rfl, .inl (.inl h1), h2⟩
theorem Opr.tup (s : Same G H) {v : V} {ds : List D} (h : Opr c G H v (.tup ds)) : ∃ p xs, v = .ref p ∧ TupAt c.K H p xs ∧ RepL c G xs ds ∧ Rep c G v (.tup ds) := by
  rcases h with h | ⟨q, rfl, h⟩
  · cases h with
    | tup e r => exact ⟨_, _, rfl, e.mono s, r, .tup e r⟩
  · exact h.elim
theorem Opr.rep {v : V} {d : D} (h : Opr c G H v d) (k : ∀ o, ¬ Own c G o d) : Rep c G v d := by
  rcases h with h | ⟨q, rfl, h⟩
  · exact h
  · exact absurd h (k _)
theorem Opr.int {v : V} {i : Int} (h : Opr c G H v (.int i)) : v = .int i := rep_int (h.rep fun o z => z)
theorem Opr.bl {v : V} {i : Bool} (h : Opr c G H v (.bl i)) : v = .bl i := rep_bl (h.rep fun o z => z)
end

def seqM : List (M D) → M (List D)
  | [] => M.pure []
  | f :: fs => f.bind fun a => (seqM fs).bind fun as => M.pure (a :: as)
def preL : List Opn → M (List D)
  | [] => M.pure []
  | o :: os => o.pre.bind fun a => (preL os).bind fun as => M.pure (a :: as)
def rdL : List Opn → List D → Cells → Option (List D)
  | [], [], _ => some []
  | o :: os, a :: as, ρ => match o.rd a ρ, rdL os as ρ with
    | some d, some ds => some (d :: ds)
    | _, _ => none
  | _, _, _ => none
def rdLM (os : List Opn) (as : List D) : M (List D) := fun ρ => match rdL os as ρ with
  | some ds => .ok ds ρ
  | none => .stuck
abbrev OprL (c : Cf) (G H : Hp) : List V → List D → Prop := Paired (Opr c G H)
def tD (c : Cf) (B : List (Nat × Addr)) (W : WX) (fs : List (M D)) : TA := fun σ H Q => ∃ G A ρ, Rel c B G A H σ ρ ∧ After c B W G A H σ (seqM fs ρ) fun ds _ G' H' => ∀ vs, RepL c G' vs ds → Q vs H'
def tA (c : Cf) (B : List (Nat × Addr)) (W : WX) (os : List Opn) : TA := fun σ H Q => ∃ G A ρ, Rel c B G A H σ ρ ∧ After c B W G A H σ (preL os ρ) fun as _ G' H' => ∀ vs,
  (∀ G2 H2 ρ2 es, Same G' G2 → Rel c B G2 A H2 σ ρ2 → rdL os as ρ2 = some es → OprL c G2 H2 vs es) → Q vs H'
section
variable {c : Cf} {B : List (Nat × Addr)} {W : WX} {X : Cx}
theorem pd_nil : PA X [] (tD c B W []) := pa_imp pa_nil fun σ H Q ⟨G, A, ρ, R, a⟩ => After.ok a R [] .nil
theorem pd_cons {e : Expr} {es : List Expr} {f : M D} {fs : List (M D)} (ha : PE X e (tM c B W f)) (hr : PA X es (tD c B W fs)) (hs : starEach (e :: es) X.env = (false, eval e X.env) :: starEach es X.env := by rfl) : PA X (e :: es) (tD c B W (f :: fs)) :=
  pa_imp (pa_cons ha hr hs) fun σ H Q ⟨G, A, ρ, R, a⟩ => by
    refine ⟨G, A, ρ, R, a.split.imp fun d ρ1 G1 H1 _ _ R1 a1 v r => ?_⟩
    refine ⟨G1, A, ρ1, R1, a1.split.imp fun ds ρ2 G2 H2 s2 _ R2 a2 vs rs => ?_⟩
    exact After.ok a2 R2 (v :: vs) (.cons (r.mono s2) rs)
theorem pa_nilO : PA X [] (tA c B W []) := pa_imp pa_nil fun σ H Q ⟨G, A, ρ, R, a⟩ => After.ok a R [] fun _ _ _ es _ _ e => by cases e; exact .nil
theorem pa_consO {e : Expr} {es : List Expr} {o : Opn} {os : List Opn} (ha : PE X e (tO c B W o)) (hr : PA X es (tA c B W os)) (hs : starEach (e :: es) X.env = (false, eval e X.env) :: starEach es X.env := by rfl) : PA X (e :: es) (tA c B W (o :: os)) :=
  pa_imp (pa_cons ha hr hs) fun σ H Q ⟨G, A, ρ, R, a⟩ => by
    refine ⟨G, A, ρ, R, a.split.imp fun d ρ1 G1 H1 _ _ R1 a1 v fv => ?_⟩
    refine ⟨G1, A, ρ1, R1, a1.split.imp fun ds ρ2 G2 H2 s2 _ R2 a2 vs fvs => ?_⟩
    refine After.ok a2 R2 (v :: vs) fun G3 H3 ρ3 es s3 R3 e3 => ?_
    unfold rdL at e3
    cases e4 : o.rd d ρ3 with
    | none => rw [e4] at e3; cases e3
    | some d' =>
      cases e5 : rdL os ds ρ3 with
      | none => rw [e4, e5] at e3; cases e3
      | some ds' =>
        rw [e4, e5] at e3
        cases e3
        exact .cons (fv G3 H3 ρ3 d' (s2.trans s3) R3 e4) (fvs G3 H3 ρ3 ds' s3 R3 e5)

def SemC (c : Cf) (r : List V → Hp → VK → Prop) (sem : List D → Option D) : Prop := ∀ (G H : Hp) (vs : List V) (ds : List D) (d : D) (Q : VK), Same G H → OprL c G H vs ds → sem ds = some d → K1 c G H d Q → r vs H Q
def SemCF (c : Cf) (r : List V → Hp → VK → Prop) (sem : List D → Option D) : Prop := ∀ (G H : Hp) (vs : List V) (ds : List D) (d : D) (Q : VK), Same G H → OprL c G H vs ds → sem ds = some d → K2 c G H d Q → r vs H Q
def mCall (sem : List D → Option D) (os : List Opn) : M D := (preL os).bind fun as => (rdLM os as).bind fun ds => M.lift (sem ds)
theorem After.rdL {α : Type} {G H : Hp} {A : Addr → Prop} {σ : L2.St} {ρ : Cells} {os : List Opn} {as : List D} {k : List D → M α} {Q : α → Cells → Hp → Hp → Prop} (h : After c B W G A H σ (((rdLM os as).bind k) ρ) Q) : ∃ ds, Fx.rdL os as ρ = some ds ∧ After c B W G A H σ (k ds ρ) Q := by
  unfold M.bind rdLM at h
  cases e : Fx.rdL os as ρ with
  | none => rw [e] at h; exact h.elim
  | some d => rw [e] at h; exact ⟨d, rfl, h⟩
theorem call_core {r : List V → Hp → VK → Prop} {sem : List D → Option D} {os : List Opn} {σ : L2.St} {H : Hp} {Q : VK} {Qd : D → Hp → Hp → Prop} {A : Addr → Prop} {G : Hp} {ρ : Cells} (R : Rel c B G A H σ ρ) (a : After c B W G A H σ (mCall sem os ρ) fun d _ G' H' => Qd d G' H')
    (k : ∀ G' H' vs ds d, Same G' H' → OprL c G' H' vs ds → sem ds = some d → Qd d G' H' → r vs H' Q) : tCB r (tA c B W os) σ H Q := by
  refine ⟨G, A, ρ, R, a.split.imp fun as ρ1 G1 H1 _ _ R1 a1 vs fv => ?_⟩
  obtain ⟨ds, e1, a1⟩ := a1.rdL
  obtain ⟨d, e, q⟩ := a1.lift R1
  exact k G1 H1 vs ds d R1.same (fv G1 H1 ρ1 ds (Same.refl _) R1 e1) e q
theorem pm_call {e : Expr} {r : List V → Hp → VK → Prop} {sem : List D → Option D} {os : List Opn} (hs : SemC c r sem) (h : PE X e (tCB r (tA c B W os))) : PE X e (tM c B W (mCall sem os)) :=
  pe_imp h fun σ H Q ⟨G, A, ρ, R, a⟩ => call_core R a.k1 fun G' H' vs ds d s o e q => hs G' H' vs ds d Q s o e q
theorem pf_call {e : Expr} {r : List V → Hp → VK → Prop} {sem : List D → Option D} {os : List Opn} (hs : SemCF c r sem) (h : PE X e (tCB r (tA c B W os))) : PE X e (tF c B W (mCall sem os)) :=
  pe_imp h fun σ H Q ⟨G, A, ρ, R, a⟩ => call_core R a.k2 fun G' H' vs ds d s o e q => hs G' H' vs ds d Q s o e q

def isLst : D → Bool
  | .lst _ => true
  | _ => false
def isTup : D → Bool
  | .tup _ => true
  | _ => false
/-- the receiver is looked at twice: its class ahead of the arguments, its content behind them -/
def mMeth (is : D → Bool) (sem : D → List D → Option D) (o : Opn) (os : List Opn) : M D := o.pre.bind fun a => (rdM o a).bind fun d0 => if is d0 = true then (preL os).bind fun as => (rdM o a).bind fun d => (rdLM os as).bind fun ds => M.lift (sem d ds) else M.stuck
def ownAt (i : Nat) : M D := fun ρ => match ρ[i]? with
  | some (.own d) => .ok d ρ
  | _ => .stuck
def setOwn (i : Nat) (d : D) : M Unit := fun ρ => .ok () (ρ.set i (.own d))
def mMethW (sem : D → List D → Option (D × D)) (i : Nat) (os : List Opn) : M D := (ownAt i).bind fun d0 => if isLst d0 = true then (preL os).bind fun as => (rdLM os as).bind fun ds => (ownAt i).bind fun d => (M.lift (sem d ds)).bind fun r => (setOwn i r.2).bind fun _ => M.pure r.1 else M.stuck
theorem After.ownAt {α : Type} {G H : Hp} {A : Addr → Prop} {σ : L2.St} {ρ : Cells} {i : Nat} {k : D → M α} {Q : α → Cells → Hp → Hp → Prop} (h : After c B W G A H σ (((ownAt i).bind k) ρ) Q) : ∃ d, ρ[i]? = some (.own d) ∧ After c B W G A H σ (k d ρ) Q := by
  unfold M.bind Fx.ownAt at h
  cases e : ρ[i]? with
  | none => rw [e] at h; exact h.elim
  | some cl =>
    rw [e] at h
    cases cl with
    | no => exact h.elim
    | dat d => exact h.elim
    | own d => exact ⟨d, rfl, h⟩
/-- an owned content is changed -/
theorem Rel.setOwn {G H : Hp} {A : Addr → Prop} {σ : L2.St} {ρ : Cells} (R : Rel c B G A H σ ρ) {i : Nat} {d d' : D} {p : Addr} {o : HO} (e : ρ[i]? = some (.own d)) (es : σ[i]? = some (some (.ref p))) (ho : Own c G (some o) d') : Rel c B G A (upd H p o) σ (ρ.set i (.own d')) ∧ Keep A G H G (upd H p o) ∧ Same G (upd H p o) := by
  obtain ⟨p', es', hA, hO⟩ := R.own i d e
  rw [es] at es'; cases es'
  obtain ⟨gp, u, hu⟩ := R.ownA p hA
  have hs : Same G (upd H p o) := fun b w q => by rw [upd_ne (ne_of_none q gp)]; exact R.same b w q
  have hi : i < ρ.length := (List.getElem?_eq_some_iff.mp e).1
  refine ⟨⟨hs, by rw [R.len, List.length_set], fun b hb => ?_, fun j x h => ?_, fun j x h => ?_, fun j k x y q hjk h1 h2 h3 h4 => ?_, fun q hq => ?_⟩, fun b w q hn => ?_, hs⟩
  · obtain ⟨h1, w, h2⟩ := R.ownA b hb
    refine ⟨h1, ?_⟩
    by_cases z : b = p
    · subst z; exact ⟨o, upd_same⟩
    · exact ⟨w, by rw [upd_ne z]; exact h2⟩
  · by_cases z : j = i
    · subst z; rw [List.getElem?_set_self hi] at h; cases h
    · rw [List.getElem?_set_ne (Ne.symm z)] at h; exact R.dat j x h
  · by_cases z : j = i
    · subst z
      rw [List.getElem?_set_self hi] at h; cases h
      exact ⟨p, es, hA, by rw [upd_same]; exact ho⟩
    · rw [List.getElem?_set_ne (Ne.symm z)] at h
      obtain ⟨q, h1, h2, h3⟩ := R.own j x h
      have ne : q ≠ p := fun w => R.dis j i x d p z h e (by rw [← w]; exact h1) es
      exact ⟨q, h1, h2, by rw [upd_ne ne]; exact h3⟩
  · have g : ∀ (j : Nat) (x : D), (ρ.set i (.own d'))[j]? = some (.own x) → ∃ y, ρ[j]? = some (.own y) := fun j x h => by
      by_cases z : j = i
      · subst z; exact ⟨d, e⟩
      · rw [List.getElem?_set_ne (Ne.symm z)] at h; exact ⟨x, h⟩
    obtain ⟨x', h1'⟩ := g j x h1
    obtain ⟨y', h2'⟩ := g k y h2
    exact R.dis j k x' y' q hjk h1' h2' h3 h4
  · obtain ⟨h1, h2, x, h3⟩ := R.byr q hq
    refine ⟨h1, h2, ?_⟩
    by_cases z : q.1 = i
    · exact ⟨d', by rw [z, List.getElem?_set_self hi]⟩
    · exact ⟨x, by rw [List.getElem?_set_ne (Ne.symm z)]; exact h3⟩
  · exact ⟨by rw [upd_ne (fun z => hn (by rw [z]; exact hA))]; exact q, rfl⟩
theorem pe_slot (i : Nat) {x : Str} {pos : Pos} (hN : X.N[i]? = some x := by rfl) (hv : Vis X.env.scope x := by first | exact Or.inl rfl | exact Or.inr (Or.inl rfl) | exact Or.inr (Or.inr rfl)) (hd : (x == ("__debug__" : Str)) = false := by decide)
    (hcd : (x == ("__classdict__" : Str)) = false := by decide) : PE X (.Name x pos) (tVar i) := pe_var hN hv hd hcd

theorem seqM_length : ∀ {fs : List (M D)} {ρ ρ' : Cells} {ds : List D}, seqM fs ρ = .ok ds ρ' → ds.length = fs.length
  | [], ρ, ρ', ds, h => by cases h; rfl
  | f :: fs, ρ, ρ', ds, h => by
    unfold seqM M.bind at h
    cases e : f ρ with
    | stuck => rw [e] at h; cases h
    | exc x r => rw [e] at h; cases h
    | ok a ρ1 =>
      rw [e] at h
      have h' : ((seqM fs ρ1).andThen fun as => M.pure (a :: as)) = .ok ds ρ' := h
      cases e2 : seqM fs ρ1 with
      | stuck => rw [e2] at h'; cases h'
      | exc x r => rw [e2] at h'; cases h'
      | ok as ρ2 =>
        rw [e2] at h'
        cases h'
        rw [List.length_cons, List.length_cons, seqM_length e2]
def mTup (fs : List (M D)) : M D := (seqM fs).bind fun ds => M.pure (.tup ds)
def mLst (fs : List (M D)) : M D := (seqM fs).bind fun ds => M.pure (.lst ds)
theorem After.len {fs : List (M D)} {G H : Hp} {A : Addr → Prop} {σ : L2.St} {ρ : Cells} {Q : List D → Cells → Hp → Hp → Prop} (h : After c B W G A H σ (seqM fs ρ) Q) : After c B W G A H σ (seqM fs ρ) fun ds ρ' G' H' => ds.length = fs.length ∧ Q ds ρ' G' H' := by
  cases e : seqM fs ρ with
  | stuck => rw [e] at h; exact h
  | exc x r => rw [e] at h; exact h
  | ok a ρ1 => rw [e] at h; exact fun G' H' s k R => ⟨seqM_length e, h G' H' s k R⟩
theorem pm_tup {es : List Expr} {fs : List (M D)} {pos : Pos} {x1} (h : PA X es (tD c B W fs)) (hl : fs.length ≤ 1000 := by decide) : PE X (.Tuple es x1 pos) (tM c B W (mTup fs)) :=
  pe_imp (pe_tupN h) fun σ H Q ⟨G, A, ρ, R, a⟩ => by
    refine ⟨G, A, ρ, R, a.split.len.imp fun ds ρ1 G1 H1 _ _ R1 ⟨hz, a1⟩ vs r => ⟨?_, fun p its hp => ?_⟩⟩
    · rw [r.length, hz]; exact Nat.le_of_lt (small1000 hl)
    · exact K1.tup R1.same (After.k1 (f := M.pure (D.tup ds)) a1 |>.ok R1) hp r
theorem pf_lst {es : List Expr} {fs : List (M D)} {pos : Pos} (h : PA X es (tD c B W fs)) (hl : fs.length ≤ 1000 := by decide) : PE X (.List es pos) (tF c B W (mLst fs)) :=
  pe_imp (pe_lst h) fun σ H Q ⟨G, A, ρ, R, a⟩ => by
    refine ⟨G, A, ρ, R, a.split.len.imp fun ds ρ1 G1 H1 _ _ R1 ⟨hz, a1⟩ vs r => ⟨?_, fun p hp => ?_⟩⟩
    · rw [r.length, hz]; exact Nat.le_of_lt (small1000 hl)
    · exact K2.lst (After.ok a1 R1) hp r

def mPart : Option (M D) → M (Option Int)
  | none => M.pure none
  | some f => f.bind fun d => match d with
    | .int i => M.pure (some i)
    | _ => M.stuck
def tPt (c : Cf) (B : List (Nat × Addr)) (W : WX) (f : Option (M D)) : TO := fun σ H Q => ∃ G A ρ, Rel c B G A H σ ρ ∧ After c B W G A H σ (mPart f ρ) fun i _ _ H' => Q i H'
theorem pp_none : L2.PO X none (tPt c B W none) := ⟨fun pins s σ H Q I ⟨G, A, ρ, R, a⟩ => po_none.run pins s σ H Q I (After.ok a R)⟩
theorem pp_some {e : Expr} {f : M D} (h : PE X e (tM c B W f)) : L2.PO X (some e) (tPt c B W (some f)) := ⟨fun pins s σ H Q I ⟨G, A, ρ, R, a⟩ => (po_some h).run pins s σ H Q I (by
  refine ⟨G, A, ρ, R, (show After c B W G A H σ ((f.bind _) ρ) _ from a).split.imp fun d ρ1 G1 H1 _ _ R1 a1 v r => ?_⟩
  cases d <;> first | exact a1.elim | skip
  exact ⟨_, rep_int r, After.ok a1 R1⟩)⟩
def cutD (xs : List D) (lo hi : Option Int) : List D := (xs.drop (HT.sIx xs.length 0 lo)).take (HT.sIx xs.length xs.length hi - HT.sIx xs.length 0 lo)
def mSl (sem : D → Option Int → Option Int → Option D) (o : Opn) (lo hi : Option (M D)) : M D := o.pre.bind fun a => (mPart lo).bind fun l => (mPart hi).bind fun u => (rdM o a).bind fun d => M.lift (sem d l u)
def SemS (c : Cf) (r : V → Option Int → Option Int → Hp → VK → Prop) (sem : D → Option Int → Option Int → Option D) : Prop := ∀ (G H : Hp) (x : V) (d e : D) (l u : Option Int) (Q : VK), Same G H → Opr c G H x d → sem d l u = some e → K1 c G H e Q → r x l u H Q
def SemSF (c : Cf) (r : V → Option Int → Option Int → Hp → VK → Prop) (sem : D → Option Int → Option Int → Option D) : Prop := ∀ (G H : Hp) (x : V) (d e : D) (l u : Option Int) (Q : VK), Same G H → Opr c G H x d → sem d l u = some e → K2 c G H e Q → r x l u H Q
theorem sl_core {r : V → Option Int → Option Int → Hp → VK → Prop} {sem : D → Option Int → Option Int → Option D} {o : Opn} {lo hi : Option (M D)} {σ : L2.St} {H : Hp} {Q : VK} {Qd : D → Hp → Hp → Prop} {A : Addr → Prop} {G : Hp} {ρ : Cells} (R : Rel c B G A H σ ρ) (a : After c B W G A H σ (mSl sem o lo hi ρ) fun d _ G' H' => Qd d G' H')
    (k : ∀ G' H' x d e l u, Same G' H' → Opr c G' H' x d → sem d l u = some e → Qd e G' H' → r x l u H' Q) : tSl r (tO c B W o) (tPt c B W lo) (tPt c B W hi) σ H Q := by
  refine ⟨G, A, ρ, R, a.split.imp fun a0 ρ1 G1 H1 _ _ R1 a1 x fx => ?_⟩
  refine ⟨G1, A, ρ1, R1, a1.split.imp fun l ρ2 G2 H2 s2 _ R2 a2 => ?_⟩
  refine ⟨G2, A, ρ2, R2, a2.split.imp fun u ρ3 G3 H3 s3 _ R3 a3 => ?_⟩
  obtain ⟨d, e1, a3⟩ := a3.rd
  obtain ⟨e, e2, q⟩ := a3.lift R3
  exact k G3 H3 x d e l u R3.same (fx G3 H3 ρ3 d (s2.trans s3) R3 e1) e2 q
theorem pm_sl {e : Expr} {r : V → Option Int → Option Int → Hp → VK → Prop} {sem : D → Option Int → Option Int → Option D} {o : Opn} {lo hi : Option (M D)} (hs : SemS c r sem) (h : PE X e (tSl r (tO c B W o) (tPt c B W lo) (tPt c B W hi))) : PE X e (tM c B W (mSl sem o lo hi)) :=
  pe_imp h fun σ H Q ⟨G, A, ρ, R, a⟩ => sl_core R a.k1 fun G' H' x d e l u s o1 e1 q => hs G' H' x d e l u Q s o1 e1 q
theorem pf_sl {e : Expr} {r : V → Option Int → Option Int → Hp → VK → Prop} {sem : D → Option Int → Option Int → Option D} {o : Opn} {lo hi : Option (M D)} (hs : SemSF c r sem) (h : PE X e (tSl r (tO c B W o) (tPt c B W lo) (tPt c B W hi))) : PE X e (tF c B W (mSl sem o lo hi)) :=
  pe_imp h fun σ H Q ⟨G, A, ρ, R, a⟩ => sl_core R a.k2 fun G' H' x d e l u s o1 e1 q => hs G' H' x d e l u Q s o1 e1 q
end
end Fx
set_option Elab.async false
set_option linter.all false
set_option maxRecDepth 100000
set_option maxHeartbeats 4000000
namespace Fx
open PySem L2
def inR (i : Int) : Bool := decide (-(2 ^ 64) < i) && decide (i < 2 ^ 64)
def sAdd : D → D → Option D
  | .int a, .int b => some (.int (a + b))
  | .tup a, .tup b => if a.length + b.length ≤ 16777216 then some (.tup (a ++ b)) else none
  | .lst a, .lst b => if a.length + b.length ≤ 16777216 then some (.lst (a ++ b)) else none
  | _, _ => none
def sAddL : D → D → Option D
  | .lst a, .lst b => if a.length + b.length ≤ 16777216 then some (.lst (a ++ b)) else none
  | _, _ => none
def sSub : D → D → Option D
  | .int a, .int b => some (.int (a - b))
  | _, _ => none
def sMul : D → D → Option D
  | .int a, .int b => if (inR a || inR b) = true then some (.int (a * b)) else none
  | _, _ => none
def sMulL : D → D → Option D
  | .lst a, .int k => if k < 2 ^ 62 ∧ -(2 ^ 62) ≤ k ∧ a.length * k.toNat ≤ 16777216 then some (.lst (List.replicate k.toNat a).flatten) else none
  | _, _ => none
def sFdiv : D → D → Option D
  | .int a, .int b => if b ≠ 0 ∧ b.natAbs < 1073741824 then some (.int (a.fdiv b)) else none
  | _, _ => none
def sMod : D → D → Option D
  | .int a, .int b => if b ≠ 0 then some (.int (a.fmod b)) else none
  | _, _ => none
def sPow : D → D → Option D
  | .int a, .int b => if 0 ≤ b ∧ b ≤ 1000000 ∧ a.natAbs < 2 ^ 64 then some (.int (a ^ b.toNat)) else none
  | _, _ => none
def sLt : D → D → Option D
  | .int a, .int b => some (.bl (decide (a < b)))
  | _, _ => none
def sLe : D → D → Option D
  | .int a, .int b => some (.bl (decide (a ≤ b)))
  | _, _ => none
def sGt : D → D → Option D
  | .int a, .int b => some (.bl (decide (b < a)))
  | _, _ => none
def sGe : D → D → Option D
  | .int a, .int b => some (.bl (decide (b ≤ a)))
  | _, _ => none
def isNon : D → Bool
  | .non => true
  | _ => false
def sIsN : D → D → Option D
  | .raw _, _ => none
  | d, .non => some (.bl (isNon d))
  | _, _ => none
def sNotN : D → D → Option D
  | .raw _, _ => none
  | d, .non => some (.bl (!isNon d))
  | _, _ => none
def eqD (d e : D) : Bool := PyData.eqv (toPy d) (toPy e)
def sEq (d e : D) : Option D := if (plain d && plain e && decide (min (toPy d).depth (toPy e).depth ≤ 63)) = true then some (.bl (eqD d e)) else none
def sNe (d e : D) : Option D := if (plain d && plain e && decide (min (toPy d).depth (toPy e).depth ≤ 63)) = true then some (.bl (!eqD d e)) else none
def itemsOf : D → Option (List D)
  | .lst ds => some ds
  | .tup ds => some ds
  | _ => none
def inD (d : D) (ds : List D) : Bool := ds.any fun y => eqD y d
def sIn (d e : D) : Option D := (itemsOf e).bind fun ds => if (plain d && PyData.canLayAll0 (toPys ds) && decide (min (PyData.depthAll (toPys ds)) (toPy d).depth ≤ 63)) = true then some (.bl (inD d ds)) else none
def sNin (d e : D) : Option D := (itemsOf e).bind fun ds => if (plain d && PyData.canLayAll0 (toPys ds) && decide (min (PyData.depthAll (toPys ds)) (toPy d).depth ≤ 63)) = true then some (.bl (!inD d ds)) else none
def sIx : D → D → Option D
  | .lst ds, .int i => atI ds i
  | .tup ds, .int i => atI ds i
  | _, _ => none
def sCut : D → Option Int → Option Int → Option D
  | .lst ds, l, u => some (.lst (cutD ds l u))
  | .tup ds, l, u => some (.tup (cutD ds l u))
  | _, _, _ => none
def sCutL : D → Option Int → Option Int → Option D
  | .lst ds, l, u => some (.lst (cutD ds l u))
  | _, _, _ => none
def sLen : List D → Option D
  | [.lst ds] => some (.int ds.length)
  | [.tup ds] => some (.int ds.length)
  | _ => none
def sTuple : List D → Option D
  | [.lst ds] => some (.tup ds)
  | [.tup ds] => some (.tup ds)
  | _ => none
def sList : List D → Option D
  | [.lst ds] => some (.lst ds)
  | [.tup ds] => some (.lst ds)
  | _ => none
def sInt : List D → Option D
  | [.int i] => some (.int i)
  | [.bl b] => some (.int (if b then 1 else 0))
  | _ => none
def intsOf : List D → Option (List Int)
  | [] => some []
  | .int i :: ds => (intsOf ds).map fun is => i :: is
  | _ => none
def blsOf : List D → Option (List Bool)
  | [] => some []
  | .bl i :: ds => (blsOf ds).map fun is => i :: is
  | _ => none
def sAll : List D → Option D
  | [.lst ds] => (blsOf ds).map fun is => .bl (is.all id)
  | _ => none
def minI : List Int → Option Int
  | [] => none
  | a :: as => some (as.foldl (fun m x => if x < m then x else m) a)
def sMin : List D → Option D
  | [.lst ds] => (intsOf ds).bind fun is => (minI is).map .int
  | [.int i, .int j] => some (.int (if j < i then j else i))
  | _ => none
def insI (a : Int) : List Int → List Int
  | [] => [a]
  | b :: bs => if a ≤ b then a :: b :: bs else b :: insI a bs
def sortI : List Int → List Int
  | [] => []
  | a :: as => insI a (sortI as)
/-- the built-in classes that isinstance is asked about -/
def tyName : D → Option String
  | .non => some "NoneType"
  | .bl _ => some "bool"
  | .int _ => some "int"
  | .str _ => some "str"
  | .tup _ => some "tuple"
  | .lst _ => some "list"
  | .dic _ _ => some "dict"
  | _ => none
def sIsi : List D → Option D
  | [d, .raw (.ty n)] => (tyName d).bind fun t => (kitB t n).map .bl
  | _ => none
def flatD : D → Bool
  | .non => true
  | .bl _ => true
  | .int _ => true
  | .str _ => true
  | _ => false
def wAppend : D → List D → Option (D × D)
  | .lst xs, [e] => if xs.length < 16777216 then some (.non, .lst (xs ++ [e])) else none
  | _, _ => none
def wPopAt : D → List D → Option (D × D)
  | .lst xs, [.int i] => if -(2 ^ 62) ≤ i ∧ i < 2 ^ 62 then (seqIndex? i xs.length).bind fun k => (xs[k]?).map fun y => (y, .lst (xs.eraseIdx k)) else none
  | _, _ => none
section
variable {c : Cf} {G H : Hp}
theorem sl : sizeLine = 16777216 := sizeLine_eq
theorem repI : ∀ {vs : List V} {ds : List D} {is : List Int}, RepL c G vs ds → intsOf ds = some is → vs = is.map V.int
  | _, _, _, .nil, h => by cases h; rfl
  | _, d :: ds, is, .cons r t, h => by
    cases d <;> first | (cases h; done) | skip
    unfold intsOf at h
    cases e : intsOf ds with
    | none => rw [e] at h; cases h
    | some js =>
      rw [e] at h
      cases h
      rw [rep_int r, repI t e]
      rfl
theorem repB : ∀ {vs : List V} {ds : List D} {is : List Bool}, RepL c G vs ds → blsOf ds = some is → vs = is.map V.bl
  | _, _, _, .nil, h => by cases h; rfl
  | _, d :: ds, is, .cons r t, h => by
    cases d <;> first | (cases h; done) | skip
    unfold blsOf at h
    cases e : blsOf ds with
    | none => rw [e] at h; cases h
    | some js =>
      rw [e] at h
      cases h
      rw [rep_bl r, repB t e]
      rfl
theorem repInts : ∀ is : List Int, RepL c G (is.map V.int) (is.map D.int)
  | [] => .nil
  | i :: is => .cons (.int i) (repInts is)
theorem rep_inj : ∀ {vs : List V} {ds : List D}, RepL c G vs ds → (vs = [] ↔ ds = [])
  | _, _, .nil => by simp
  | _, _, .cons _ _ => by simp
theorem or2 {X : Cx} {f : Value → Value → Sem Value} {r r' : R2} (h : OpR X f r) (h' : OpR X f r') : OpR X f (fun x y H Q => r x y H Q ∨ r' x y H Q) := fun pins s σ H x y v u Q I rx ry q => q.elim (h pins s σ H x y v u Q I rx ry) (h' pins s σ H x y v u Q I rx ry)
def rAdd (K : PySem.W.Frag) : R2 := fun x y H Q => (rI0 (fun i j => V.int (i + j)) x y H Q ∨ rCatN K x y H Q) ∨ rCatR K x y H Q
theorem op_addA {X : Cx} : OpR X (binaryOp .Add) (rAdd X.K) := or2 (or2 op_add op_catN) op_catR
theorem semAddL : Sem2F c (rCatR c.K) sAddL := fun G H x y d1 d2 d Q s a b e k => by
  cases d1 <;> cases d2 <;> first | (cases e; done) | skip
  rename_i xs ys
  simp only [sAddL] at e
  split at e
  · rename_i hz
    cases e
    obtain ⟨p, us, rfl, hp, r1⟩ := a.lst s
    obtain ⟨q, ws, rfl, hq, r2⟩ := b.lst s
    exact ⟨p, q, us, ws, rfl, rfl, hp, hq, by rw [r1.length, r2.length, sl]; exact hz, fun z hz => k.lst hz (r1.append r2)⟩
  · cases e
theorem semAdd : Sem2 c (rAdd c.K) sAdd := fun G H x y d1 d2 d Q s a b e k => by
  cases d1 <;> cases d2 <;> first | (cases e; done) | skip
  · cases e
    exact .inl (.inl ⟨_, _, a.int, b.int, k.flat s (.int _)⟩)
  · rename_i xs ys
    simp only [sAdd] at e
    split at e
    · rename_i hz
      cases e
      obtain ⟨p, us, rfl, hp, r1, R1⟩ := a.tup s
      obtain ⟨q, ws, rfl, hq, r2, R2⟩ := b.tup s
      refine .inl (.inr ⟨p, q, us, ws, rfl, rfl, hp.sq, hq.sq, by rw [r1.length, r2.length, sl]; exact hz, fun z => ?_, fun _ z => ?_, fun _ _ z its hz => ?_⟩)
      · have z' := (rep_inj r1).mp z
        subst z'
        exact k.flat s R2
      · have z' := (rep_inj r2).mp z
        subst z'
        exact k.flat s (by rw [List.append_nil]; exact R1)
      · exact k.tup s hz (r1.append r2)
    · cases e
  · exact .inr (semAddL G H x y _ _ d Q s a b e (k.to2 s))
theorem semSub : Sem2 c (rI0 fun i j => .int (i - j)) sSub := fun G H x y d1 d2 d Q s a b e k => by
  cases d1 <;> cases d2 <;> first | (cases e; done) | skip
  cases e
  exact ⟨_, _, a.int, b.int, k.flat s (.int _)⟩
theorem semMul : Sem2 c (rI CMul fun i j => .int (i * j)) sMul := fun G H x y d1 d2 d Q s a b e k => by
  cases d1 <;> cases d2 <;> first | (cases e; done) | skip
  simp only [sMul] at e
  split at e
  · rename_i h
    cases e
    unfold inR at h
    simp only [Bool.or_eq_true, Bool.and_eq_true, decide_eq_true_eq] at h
    exact ⟨_, _, a.int, b.int, h, k.flat s (.int _)⟩
  · cases e
theorem rep_flatten {vs : List V} {ds : List D} (r : RepL c G vs ds) : ∀ n : Nat, RepL c G (List.replicate n vs).flatten (List.replicate n ds).flatten
  | 0 => .nil
  | n + 1 => by rw [List.replicate_succ, List.replicate_succ, List.flatten_cons, List.flatten_cons]; exact r.append (rep_flatten r n)
theorem semMulL : Sem2F c (rRepR c.K) sMulL := fun G H x y d1 d2 d Q s a b e k => by
  cases d1 <;> cases d2 <;> first | (cases e; done) | skip
  simp only [sMulL] at e
  split at e
  · rename_i h
    cases e
    obtain ⟨p, us, rfl, hp, r1⟩ := a.lst s
    exact ⟨p, _, us, rfl, b.int, hp, by omega, by omega, by rw [r1.length, sl]; exact h.2.2, fun z hz => k.lst hz (rep_flatten r1 _)⟩
  · cases e
theorem semFdiv : Sem2 c (rI CDivN fun i j => .int (i.fdiv j)) sFdiv := fun G H x y d1 d2 d Q s a b e k => by
  cases d1 <;> cases d2 <;> first | (cases e; done) | skip
  simp only [sFdiv] at e
  split at e
  · rename_i h
    cases e
    exact ⟨_, _, a.int, b.int, h, k.flat s (.int _)⟩
  · cases e
theorem semMod : Sem2 c (rI (fun _ j => j ≠ 0) fun i j => .int (i.fmod j)) sMod := fun G H x y d1 d2 d Q s a b e k => by
  cases d1 <;> cases d2 <;> first | (cases e; done) | skip
  simp only [sMod] at e
  split at e
  · rename_i h
    cases e
    exact ⟨_, _, a.int, b.int, h, k.flat s (.int _)⟩
  · cases e
theorem semPow : Sem2 c (rI CPow fun i j => .int (i ^ j.toNat)) sPow := fun G H x y d1 d2 d Q s a b e k => by
  cases d1 <;> cases d2 <;> first | (cases e; done) | skip
  simp only [sPow] at e
  split at e
  · rename_i h
    cases e
    exact ⟨_, _, a.int, b.int, h, k.flat s (.int _)⟩
  · cases e
theorem semLt : Sem2 c (rI0 fun i j => .bl (decide (i < j))) sLt := fun G H x y d1 d2 d Q s a b e k => by
  cases d1 <;> cases d2 <;> first | (cases e; done) | skip
  cases e
  exact ⟨_, _, a.int, b.int, k.flat s (.bl _)⟩
theorem semLe : Sem2 c (rI0 fun i j => .bl (decide (i ≤ j))) sLe := fun G H x y d1 d2 d Q s a b e k => by
  cases d1 <;> cases d2 <;> first | (cases e; done) | skip
  cases e
  exact ⟨_, _, a.int, b.int, k.flat s (.bl _)⟩
theorem semGt : Sem2 c (rI0 fun i j => .bl (decide (j < i))) sGt := fun G H x y d1 d2 d Q s a b e k => by
  cases d1 <;> cases d2 <;> first | (cases e; done) | skip
  cases e
  exact ⟨_, _, a.int, b.int, k.flat s (.bl _)⟩
theorem semGe : Sem2 c (rI0 fun i j => .bl (decide (j ≤ i))) sGe := fun G H x y d1 d2 d Q s a b e k => by
  cases d1 <;> cases d2 <;> first | (cases e; done) | skip
  cases e
  exact ⟨_, _, a.int, b.int, k.flat s (.bl _)⟩
def rEqN (K : PySem.W.Frag) (n : Bool) : R2 := fun x y H Q => ∃ d e, Dp K H x d ∧ Dp K H y e ∧ d.canLay0 = true ∧ e.canLay0 = true ∧ min d.depth e.depth ≤ 63 ∧ Q (.bl (n ^^ PyData.eqv d e)) H
theorem op_eqN {X : Cx} (hu : X.A.units + 64 < cLine) : OpR X (compareOp .Eq) (rEqN X.K false) := by
  intro pins s σ H x y v u Q I rx ry h
  obtain ⟨d, e, hd, he, sd, se, hz, q⟩ := h
  obtain ⟨as, r1⟩ := Dp.reads I d x v hd rx
  obtain ⟨bs, r2⟩ := Dp.reads I e y u he ry
  rw [Bool.false_xor] at q
  exact SeqAt.compareEq_reads r1 r2 sd se (by omega) ⟨.bl _, H, I, rfl, q⟩
theorem op_neN {X : Cx} (hu : X.A.units + 64 < cLine) : OpR X (compareOp .NotEq) (rEqN X.K true) := by
  intro pins s σ H x y v u Q I rx ry h
  obtain ⟨d, e, hd, he, sd, se, hz, q⟩ := h
  obtain ⟨as, r1⟩ := Dp.reads I d x v hd rx
  obtain ⟨bs, r2⟩ := Dp.reads I e y u he ry
  rw [Bool.true_xor] at q
  exact SeqAt.compareNe_reads r1 r2 sd se (by omega) ⟨.bl _, H, I, rfl, q⟩
theorem semEq : Sem2 c (rEqN c.K false) sEq := fun G H x y d1 d2 d Q s a b e k => by
  unfold sEq at e
  split at e
  · rename_i h
    cases e
    simp only [Bool.and_eq_true, decide_eq_true_eq] at h
    exact ⟨_, _, a.dp s h.1.1, b.dp s h.1.2, h.1.1, h.1.2, h.2, k.flat s (by rw [Bool.false_xor]; exact .bl _)⟩
  · cases e
theorem semNe : Sem2 c (rEqN c.K true) sNe := fun G H x y d1 d2 d Q s a b e k => by
  unfold sNe at e
  split at e
  · rename_i h
    cases e
    simp only [Bool.and_eq_true, decide_eq_true_eq] at h
    exact ⟨_, _, a.dp s h.1.1, b.dp s h.1.2, h.1.1, h.1.2, h.2, k.flat s (by rw [Bool.true_xor]; exact .bl _)⟩
  · cases e
theorem rep_atI {vs : List V} {ds : List D} {i : Int} {d : D} (r : RepL c G vs ds) (h : atI ds i = some d) : ∃ v, atI vs i = some v ∧ Rep c G v d := by
  unfold atI at h ⊢
  rw [r.length]
  cases e : ixN ds.length i with
  | none => rw [e] at h; cases h
  | some j =>
    rw [e, Option.bind_some] at h
    obtain ⟨v, h1, h2⟩ := r.get h
    exact ⟨v, by rw [Option.bind_some]; exact h1, h2⟩
def rIxN (K : PySem.W.Frag) : R2 := fun x y H Q => rIxL K x y H Q ∨ rIxT K x y H Q
theorem ix_N {X : Cx} : IxR X (rIxN X.K) := fun value slice pins s σ H x y v u Q I rx ry q hs => q.elim (fun q => ix_list value slice pins s σ H x y v u Q I rx ry q hs) (fun q => ix_tup value slice pins s σ H x y v u Q I rx ry q hs)
theorem semIx : Sem2 c (rIxN c.K) sIx := fun G H x y d1 d2 d Q s a b e k => by
  cases d1 <;> cases d2 <;> first | (cases e; done) | skip
  · obtain ⟨p, us, rfl, hp, r1, _⟩ := a.tup s
    obtain ⟨v, h1, h2⟩ := rep_atI r1 (show atI _ _ = some d from e)
    exact .inr ⟨p, us, _, v, rfl, b.int, hp.sq, h1, k.flat s h2⟩
  · obtain ⟨p, us, rfl, hp, r1⟩ := a.lst s
    obtain ⟨v, h1, h2⟩ := rep_atI r1 (show atI _ _ = some d from e)
    exact .inl ⟨p, us, _, v, rfl, b.int, hp.sq, h1, k.flat s h2⟩
theorem rep_cut {vs : List V} {ds : List D} (r : RepL c G vs ds) (l u : Option Int) : RepL c G (cutV vs l u) (cutD ds l u) := by
  unfold cutV cutD
  rw [r.length]
  exact (r.drop _).take _
theorem cut_whole {ds : List D} {l u : Option Int} (h : HT.sIx ds.length 0 l = 0 ∧ HT.sIx ds.length ds.length u = ds.length) : cutD ds l u = ds := by
  unfold cutD
  rw [h.1, h.2]
  simp
theorem semCutL : SemSF c (rSlL c.K) sCutL := fun G H x d e l u Q s a h k => by
  cases d <;> first | (cases h; done) | skip
  cases h
  obtain ⟨p, us, rfl, hp, r1⟩ := a.lst s
  exact ⟨p, us, rfl, hp.sq, fun q hq => k.lst hq (rep_cut r1 l u)⟩
theorem semCut : SemS c (fun x lo hi H Q => rSlL c.K x lo hi H Q ∨ rSlN c.K x lo hi H Q) sCut := fun G H x d e l u Q s a h k => by
  cases d <;> first | (cases h; done) | skip
  · cases h
    obtain ⟨p, us, rfl, hp, r1, R1⟩ := a.tup s
    refine .inr ⟨p, us, rfl, hp.sq, fun w => ?_, fun _ q its hq => k.tup s hq (rep_cut r1 l u)⟩
    rw [r1.length] at w
    rw [cut_whole w] at k
    exact k.flat s R1
  · exact .inl (semCutL G H x _ e l u Q s a h (k.to2 s))
theorem sl_N {X : Cx} : SlR X (fun x lo hi H Q => rSlL X.K x lo hi H Q ∨ rSlN X.K x lo hi H Q) := SlR.or sl_list sl_tupN
end
end Fx
set_option Elab.async false
set_option linter.all false
set_option maxRecDepth 100000
set_option maxHeartbeats 4000000
namespace Fx
open PySem PyProof.Rows Srt
section
variable {prog : Program} {w : World} {A : Around} {E : Value → Shared → Prop} {s : Shared}
end
end Fx
namespace SrtO
open PySem PyProof.Rows Srt
section
variable {prog : Program} {w : World} {A : Around} {E : Value → Shared → Prop} {s : Shared}
end
end SrtO
namespace L2
open PySem PySem.Spec PyProof.Rows
end L2
set_option Elab.async false
set_option linter.all false
set_option maxRecDepth 100000
set_option maxHeartbeats 4000000
namespace Fx
open PySem L2
section
variable {c : Cf} {G H : Hp}
theorem oprL1 {vs : List V} {d : D} (h : OprL c G H vs [d]) : ∃ v, vs = [v] ∧ Opr c G H v d := by
  cases h with
  | cons a t => cases t; exact ⟨_, rfl, a⟩
theorem oprL2 {vs : List V} {d e : D} (h : OprL c G H vs [d, e]) : ∃ v w, vs = [v, w] ∧ Opr c G H v d ∧ Opr c G H w e := by
  cases h with
  | cons a t =>
    cases t with
    | cons b u => cases u; exact ⟨_, _, rfl, a, b⟩
theorem orC {X : Cx} {f : Value} {r r' : List V → Hp → VK → Prop} (h : CallR X f r) (h' : CallR X f r') : CallR X f (fun xs H Q => r xs H Q ∨ r' xs H Q) := fun pins s σ H xs us Q I rx q => q.elim (h pins s σ H xs us Q I rx) (h' pins s σ H xs us Q I rx)
/-- the items of a list or tuple that is read -/
theorem opr_items {x : V} {d : D} {ds : List D} (s : Same G H) (a : Opr c G H x d) (h : itemsOf d = some ds) : ∃ p us, x = .ref p ∧ (SqL c.K H p us ∨ SqT c.K H p us) ∧ RepL c G us ds := by
  cases d <;> first | (cases h; done) | skip
  · cases h
    obtain ⟨p, us, rfl, hp, r1, _⟩ := a.tup s
    exact ⟨p, us, rfl, .inr hp.sq, r1⟩
  · cases h
    obtain ⟨p, us, rfl, hp, r1⟩ := a.lst s
    exact ⟨p, us, rfl, .inl hp.sq, r1⟩
theorem semLen : SemC c (fun xs H Q => ∃ p ys, xs = [.ref p] ∧ (SqL c.K H p ys ∨ SqT c.K H p ys) ∧ Q (.int ys.length) H) sLen := fun G H vs ds d Q s a e k => by
  match ds, e with
  | [.lst xs], e =>
    cases e
    obtain ⟨v, rfl, o⟩ := oprL1 a
    obtain ⟨p, us, rfl, hp, r⟩ := opr_items s o rfl
    exact ⟨p, us, rfl, hp, by rw [r.length]; exact k.flat s (.int _)⟩
  | [.tup xs], e =>
    cases e
    obtain ⟨v, rfl, o⟩ := oprL1 a
    obtain ⟨p, us, rfl, hp, r⟩ := opr_items s o rfl
    exact ⟨p, us, rfl, hp, by rw [r.length]; exact k.flat s (.int _)⟩
theorem semTuple : SemC c (rTupleOf c.K) sTuple := fun G H vs ds d Q s a e k => by
  match ds, e with
  | [.lst xs], e =>
    cases e
    obtain ⟨v, rfl, o⟩ := oprL1 a
    obtain ⟨p, us, rfl, hp, r⟩ := o.lst s
    exact ⟨p, us, rfl, .inl ⟨hp.sq, fun q its hq => k.tup s hq r⟩⟩
  | [.tup xs], e =>
    cases e
    obtain ⟨v, rfl, o⟩ := oprL1 a
    obtain ⟨p, us, rfl, hp, r, R⟩ := o.tup s
    exact ⟨p, us, rfl, .inr ⟨hp.sq, k.flat s R⟩⟩
theorem semList : SemCF c (fun xs H Q => ∃ p ys, xs = [.ref p] ∧ (SqL c.K H p ys ∨ SqT c.K H p ys) ∧ ∀ l, H l = none → Q (.ref l) (upd H l (.lst ys))) sList := fun G H vs ds d Q s a e k => by
  match ds, e with
  | [.lst xs], e =>
    cases e
    obtain ⟨v, rfl, o⟩ := oprL1 a
    obtain ⟨p, us, rfl, hp, r⟩ := opr_items s o rfl
    exact ⟨p, us, rfl, hp, fun q hq => k.lst hq r⟩
  | [.tup xs], e =>
    cases e
    obtain ⟨v, rfl, o⟩ := oprL1 a
    obtain ⟨p, us, rfl, hp, r⟩ := opr_items s o rfl
    exact ⟨p, us, rfl, hp, fun q hq => k.lst hq r⟩
theorem semInt : SemC c (fun xs H Q => (∃ i, xs = [.int i] ∧ Q (.int i) H) ∨ ∃ k, xs = [.bl k] ∧ Q (.int (if k then 1 else 0)) H) sInt := fun G H vs ds d Q s a e k => by
  match ds, e with
  | [.int i], e =>
    cases e
    obtain ⟨v, rfl, o⟩ := oprL1 a
    exact .inl ⟨i, by rw [o.int], k.flat s (.int _)⟩
  | [.bl i], e =>
    cases e
    obtain ⟨v, rfl, o⟩ := oprL1 a
    exact .inr ⟨i, by rw [o.bl], k.flat s (.int _)⟩
theorem semAll : SemC c (rAll c.K) sAll := fun G H vs ds d Q s a e k => by
  match ds, e with
  | [.lst xs], e =>
    simp only [sAll] at e
    cases hi : blsOf xs with
    | none => rw [hi] at e; cases e
    | some is =>
      rw [hi] at e
      cases e
      obtain ⟨v, rfl, o⟩ := oprL1 a
      obtain ⟨p, us, rfl, hp, r⟩ := o.lst s
      cases repB r hi
      exact ⟨p, is, rfl, hp.sq, k.flat s (.bl _)⟩
theorem foldMin : ∀ (as : List Int) (a : Int), as.foldl (fun m x => if x < m then x else m) a ∈ a :: as ∧ ∀ y ∈ a :: as, as.foldl (fun m x => if x < m then x else m) a ≤ y
  | [], a => ⟨by simp, fun y hy => by simp at hy; subst hy; exact Int.le_refl _⟩
  | b :: bs, a => by
    rw [List.foldl_cons]
    obtain ⟨h1, h2⟩ := foldMin bs (if b < a then b else a)
    refine ⟨?_, fun y hy => ?_⟩
    · rcases List.mem_cons.mp h1 with h | h
      · rw [h]; split <;> simp
      · simp [h]
    · have h3 := h2 _ List.mem_cons_self
      rcases List.mem_cons.mp hy with h | h
      · subst h
        refine Int.le_trans h3 ?_
        split <;> omega
      · rcases List.mem_cons.mp h with h | h
        · subst h
          refine Int.le_trans h3 ?_
          split <;> omega
        · exact h2 y (List.mem_cons_of_mem _ h)
theorem minI_spec {is : List Int} {m : Int} (h : minI is = some m) : m ∈ is ∧ ∀ y ∈ is, m ≤ y := by
  cases is with
  | nil => cases h
  | cons a as => cases h; exact foldMin as a
def rMn (K : PySem.W.Frag) : List V → Hp → VK → Prop := fun xs H Q => rMin K xs H Q ∨ ∃ i j, xs = [.int i, .int j] ∧ Q (.int (if j < i then j else i)) H
theorem call_mn {X : Cx} (hc : X.calm = true) : CallR X (.builtin "min") (rMn X.K) := orC (cr_min hc) (call_min2 hc)
theorem semMin : SemC c (rMn c.K) sMin := fun G H vs ds d Q s a e k => by
  match ds, e with
  | [.lst xs], e =>
    simp only [sMin] at e
    cases hi : intsOf xs with
    | none => rw [hi] at e; cases e
    | some is =>
      rw [hi, Option.bind_some] at e
      cases hm : minI is with
      | none => rw [hm] at e; cases e
      | some m =>
        rw [hm] at e
        cases e
        obtain ⟨v, rfl, o⟩ := oprL1 a
        obtain ⟨p, us, rfl, hp, r⟩ := o.lst s
        cases repI r hi
        obtain ⟨h1, h2⟩ := minI_spec hm
        refine .inl ⟨p, is, rfl, hp.sq, List.length_pos_of_mem h1, fun m' h3 h4 => ?_⟩
        have : m' = m := by have := h2 m' h3; have := h4 m h1; omega
        rw [this]
        exact k.flat s (.int _)
  | [.int i, .int j], e =>
    cases e
    obtain ⟨v, w, rfl, o, o'⟩ := oprL2 a
    exact .inr ⟨i, j, by rw [o.int, o'.int], k.flat s (.int _)⟩
theorem insI_perm (a : Int) : ∀ l, (insI a l).Perm (a :: l)
  | [] => .refl _
  | b :: bs => by
    unfold insI
    split
    · exact .refl _
    · exact ((insI_perm a bs).cons b).trans (.swap a b bs)
theorem sortI_perm : ∀ l, (sortI l).Perm l
  | [] => .refl _
  | a :: as => by unfold sortI; exact (insI_perm a _).trans ((sortI_perm as).cons a)
theorem opr_ty {x : V} {d : D} {t : String} (s : Same G H) (a : Opr c G H x d) (h : tyName d = some t) : TyX c.K H x (.type t) := by
  rcases a with a | ⟨p, rfl, a⟩
  · cases a <;> first | (cases h; done) | skip
    · cases h; exact .base .non
    · cases h; exact .base (.bl _)
    · cases h; exact .base (.int _)
    · cases h; exact .base (.str _)
    · rename_i q r
      cases h
      rcases q.mono s with ⟨o, q, _⟩ | ⟨o, its, n, h1, h2, _⟩
      · exact .fTuple q
      · exact .kTuple h1 h2
    · rename_i q r
      cases h
      rcases q.mono s with (q | ⟨o, q⟩) | ⟨its, n, q, _⟩
      · exact .base (.lst q)
      · exact .base (.frz q)
      · exact .kList q rfl
    · rename_i q l r
      cases h
      rcases same_rd s q with q | ⟨o, q⟩
      · exact .base (.dK q)
      · exact .fDict q
  · cases d <;> first | exact a.elim | (cases h; done) | skip
    · cases h
      obtain ⟨xs, e, _⟩ := a
      exact .base (.lst e)
    · cases h
      obtain ⟨xs, e, _⟩ := a
      exact .base (.dK e)
theorem semIsi : SemC c (rIsi c.K) sIsi := fun G H vs ds d Q s a e k => by
  match ds, e with
  | [x, .raw (.ty n)], e =>
    simp only [sIsi] at e
    cases ht : tyName x with
    | none => rw [ht] at e; cases e
    | some t =>
      rw [ht, Option.bind_some] at e
      cases hk : kitB t n with
      | none => rw [hk] at e; cases e
      | some b =>
        rw [hk] at e
        cases e
        obtain ⟨v, w, rfl, o, o'⟩ := oprL2 a
        have ew : w = .ty n := by
          have r := o'.rep fun o z => z
          cases r; rfl
        exact ⟨v, w, _, _, b, rfl, by rw [ew]; exact .ty n, opr_ty s o ht, kit_ty hk, k.flat s (.bl _)⟩
def SemWR (c : Cf) (r : V → List V → Hp → VK → Prop) (sem : D → List D → Option (D × D)) : Prop := ∀ (G H : Hp) (p : Addr) (vs : List V) (d : D) (ds : List D) (e d' : D) (Q : VK), Same G H → Own c G (H p) d → RepL c G vs ds → sem d ds = some (e, d') →
  (∀ o v, Own c G (some o) d' → Rep c G v e → Q v (upd H p o)) → r (.ref p) vs H Q
theorem repL1 {vs : List V} {d : D} (h : RepL c G vs [d]) : ∃ v, vs = [v] ∧ Rep c G v d := by
  cases h with
  | cons a t => cases t; exact ⟨_, rfl, a⟩
theorem semAppend : SemWR c rAppend wAppend := fun G H p vs d ds e d' Q s a b h k => by
  match d, ds, h with
  | .lst xs, [y], h =>
    simp only [wAppend] at h
    split at h
    · rename_i hz
      cases h
      obtain ⟨us, hu, r⟩ := a
      obtain ⟨w, rfl, ow⟩ := repL1 b
      exact ⟨p, us, w, rfl, rfl, hu, by rw [r.length, sl]; exact hz, k _ _ ⟨_, rfl, r.append (.one ow)⟩ .non⟩
    · cases h
theorem semPopAt : SemWR c rPopAt wPopAt := fun G H p vs d ds e d' Q s a b h k => by
  match d, ds, h with
  | .lst xs, [.int i], h =>
    simp only [wPopAt] at h
    split at h
    · rename_i hz
      cases hk : seqIndex? i xs.length with
      | none => rw [hk] at h; cases h
      | some j =>
        rw [hk, Option.bind_some] at h
        cases hy : xs[j]? with
        | none => rw [hy] at h; cases h
        | some y =>
          rw [hy] at h
          cases h
          obtain ⟨us, hu, r⟩ := a
          obtain ⟨w, rfl, ow⟩ := repL1 b
          obtain ⟨v, h1, h2⟩ := r.get hy
          exact ⟨p, us, i, j, v, rfl, by rw [rep_int ow], hu, by omega, by omega, by rw [r.length]; exact hk, h1, k _ _ ⟨_, rfl, r.eraseIdx j⟩ h2⟩
    · cases h
theorem intsOf_map : ∀ is : List Int, intsOf (is.map D.int) = some is
  | [] => rfl
  | i :: is => by
    show (intsOf (is.map D.int)).map _ = _
    rw [intsOf_map is]
    rfl
theorem erase_mapD : ∀ (l : List Int) (j : Nat), (l.map D.int).eraseIdx j = (l.eraseIdx j).map D.int
  | [], _ => rfl
  | _ :: _, 0 => rfl
  | a :: as, j + 1 => by
    show D.int a :: (as.map D.int).eraseIdx j = D.int a :: (as.eraseIdx j).map D.int
    rw [erase_mapD as j]
end
section
variable {c : Cf} {B : List (Nat × Addr)} {W : WX} {X : Cx}
def mMethWR (sem : D → List D → Option (D × D)) (i : Nat) (fs : List (M D)) : M D := (ownAt i).bind fun d0 => if isLst d0 = true then (seqM fs).bind fun ds => (ownAt i).bind fun d => (M.lift (sem d ds)).bind fun r => (setOwn i r.2).bind fun _ => M.pure r.1 else M.stuck
theorem pm_methWR (i : Nat) {e : Expr} {r : V → List V → Hp → VK → Prop} {sem : D → List D → Option (D × D)} {fs : List (M D)} (hs : SemWR c r sem) (h : PE X e (tBM X.K "list" r (tVar i) (tD c B W fs))) : PE X e (tM c B W (mMethWR sem i fs)) :=
  pe_imp h fun σ H Q ⟨G, A, ρ, R, a⟩ => by
    obtain ⟨d0, e0, a1⟩ := After.ownAt a
    obtain ⟨p, es, hA, hO⟩ := R.own i d0 e0
    cases d0 <;> first | exact a1.elim | skip
    rename_i ds0
    obtain ⟨xs, hp, _⟩ := hO
    refine ⟨_, es, .inl ⟨rfl, xs, SqL.of hp⟩, G, A, ρ, R, (show After c B W G A H σ (((seqM fs).bind _) ρ) _ from a1).split.imp fun ds ρ2 G2 H2 s2 _ R2 a2 vs rv => ?_⟩
    obtain ⟨d, e3, a2⟩ := a2.ownAt
    obtain ⟨⟨r1, d'⟩, e4, a2⟩ := a2.liftB
    obtain ⟨p', es', hA', hO'⟩ := R2.own i d e3
    rw [es] at es'; cases es'
    refine hs G2 H2 p vs d ds r1 d' Q R2.same hO' rv e4 fun o v ho hr => ?_
    obtain ⟨R3, k3, s3⟩ := R2.setOwn e3 es ho
    exact After.ok (After.of (Same.refl _) k3 a2) R3 v hr
end
end Fx
set_option Elab.async false
set_option linter.all false
set_option maxRecDepth 100000
set_option maxHeartbeats 4000000
namespace PySem
open Sem (wp)
open AutoSeq1 (wpAny_loadPart')
theorem fx_enum_new {v : Value} {o : Obj} {H : Heap → Prop} (B : Begins v o H) :
    Meets (Builtin.«enumerate.__new__» ⟨[.type "enumerate", v], []⟩) (fun _ R s => H s.heap ∧
      R (.ok (.ret (.ref (s.heap.push o).objs.size))) { s with heap := (s.heap.push o).push { cls := .type "enumerate", data := .fields #[.none, .bool false, .ref s.heap.objs.size, rawInt 0, .none, .none] } }) :=
  .of_wp fun prog w A R s h => by
    obtain ⟨hp, g, d, tk, os⟩ := s; obtain ⟨h1, h⟩ := h
    have hsub := sub_enumerate
    have q1 : ∀ {A' : Around} {E : Value → Shared → Prop} {Q : Value → Shared → Prop}, Q (.ref hp.objs.size) ⟨hp.push o, g, d, tk, os⟩ → wpAny (model prog w) A' (pyIter v) Q E ⟨hp, g, d, tk, os⟩ :=
      fun q => B.iter prog w _ _ ⟨hp, g, d, tk, os⟩ _ h1 q
    wp_walk using q1
    refine wpAny_stack_any fun st => wpAny_pure ?_
    split
    · rename_i c _ _ _ _ _
      cases (c == Value.type "enumerate")
      · wp_walk using q1
        exact ⟨_, rfl, h⟩
      · wp_walk using q1
        exact ⟨_, rfl, h⟩
    · wp_walk using q1
      exact ⟨_, rfl, h⟩
section
variable {prog : Program} {w : World} {A : Around} {E : Value → Shared → Prop} {s : Shared}
theorem fx_enum_begins {v : Value} {o : Obj} {H : Heap → Prop} {Q : Value → Shared → Prop} (B : Begins v o H) (h1 : H s.heap)
    (h : ∀ h', IsEnum h' (s.heap.objs.size + 1) s.heap.objs.size 0 .none → h'.get? s.heap.objs.size = some o → h'.objs.size = s.heap.objs.size + 2 →
      (∀ b o, s.heap.get? b = some o → h'.get? b = some o) → Q (.ref (s.heap.objs.size + 1)) { s with heap := h' }) :
    wpAny (model prog w) A (call (.type "enumerate") [v]) Q E s := by
  refine callType_new F.called_enumerate (by decide) (F.typeCall_enumerate_1 _) (F.newCall_enumerate_1 _) (fun obj => F.args_object_init_2 obj _) F.entry_enumerate_new
    (fx_enum_new B) ⟨h1, ?_⟩
  have hz : (s.heap.push o).objs.size = s.heap.objs.size + 1 := Heap.size_push ..
  show _ ∧ _
  rw [hz]
  have he : IsEnum ((s.heap.push o).push { cls := .type "enumerate", data := .fields #[.none, .bool false, .ref s.heap.objs.size, rawInt 0, .none, .none] }) (s.heap.objs.size + 1) s.heap.objs.size 0 .none := by
    have := Heap.get?_push_size (s.heap.push o) (o := { cls := .type "enumerate", data := .fields #[.none, .bool false, .ref s.heap.objs.size, rawInt 0, .none, .none] }) rfl
    rw [hz] at this; exact this
  refine ⟨⟨_, he, rfl⟩, h _ he (Heap.get?_push_of_some _ (Heap.get?_push_size _ B.free)) (by rw [Heap.size_push, hz]) fun b o x => Heap.get?_push_of_some _ (Heap.get?_push_of_some _ x)⟩
theorem fx_enum_end {e it l : Addr} {i : Nat} {items : Array Value} {old : Value} {Q : Option Value → Shared → Prop} (hh : A.in1.handled = none)
    (he : IsEnum s.heap e it i old) (hit : s.heap.IsTupleIter it l i) (hl : s.heap.IsTuple l items) (hx : items[i]? = none)
    (hQ : ∀ h', Heap.ExtBut it s.heap h' → Q none { s with heap := h' }) : wpAny (model prog w) A (pyNext (.ref e)) Q E s := by
  have hT : s.TypeIs (.ref e) "enumerate" := ⟨_, he, rfl⟩
  unfold pyNext
  refine wpAny_bind (wpAny_attempt (wpAny_callSpecial?_slot (name := Str.ofString "__next__") hT F.slot_enumerate_next
    (wpAny_call_entry F.slot_enumerate_next hT F.entry_enumerate_next ?_ (F.args_enumerate_next_1 _))))
  show wpAny _ _ (field (.ref e) 2 >>= _) _ _ _
  refine wpAny_bind (wpAny_field he rfl (x := .ref it) rfl ?_)
  refine wpAny_bind (wpAny_nextOf_tuple_end hh hit hl hx fun h' x he' hx' => ?_)
  obtain ⟨o, ho, hc⟩ := hx'
  refine wpAny_bind (wpAny_isInstance (T := "StopIteration") (b := true) ⟨o, ho, hc⟩ isSubtype_stop ?_)
  exact wpAny_pure (hQ _ he')
end
end PySem
namespace Fx
open PySem PySem.Spec PyProof.Rows L2
def Iet (K : PySem.W.Frag) (a : Addr) : It :=
  ⟨fun i H => ∃ (xs : List V) (x : V), SqT K H a xs ∧ xs[i]? = some x, fun i H v H' => ∃ T x, v = .ref T ∧ H T = none ∧ H' = upd H T (.tup [.int (i : Nat), x]) ∧ ∀ xs, SqT K H a xs → xs[i]? = some x, fun i H => ∃ xs : List V, SqT K H a xs ∧ xs.length ≤ i⟩
theorem turn_enumT {P : Program} {w : World} {K : PySem.W.Frag} {elts : List Expr} {kk : Nat} {tpos : Pos} (a e it : Addr) :
    Turn P w K (.Tuple elts kk tpos) (Iet K a) [e, it] e (fun i h => (∃ old, IsEnum h e it ((i : Nat) : Int) old) ∧ h.IsTupleIter it a i ∧ e ≠ it ∧ a ≠ it ∧ e ≠ a) where
  mem := by simp
  obj := fun i h st b hb => by
    obtain ⟨⟨old, he⟩, ⟨o, ho, hc, hd⟩, _⟩ := st
    have e' : b = e ∨ b = it := by simpa using hb
    rcases e' with z | z
    · rw [z]; exact ⟨_, he, fun v q => nomatch q⟩
    · rw [z]; exact ⟨o, ho, fun v q => by rw [hd] at q; cases q⟩
  keep := fun i h h' st k => let ⟨⟨old, he⟩, hi, hne⟩ := st; ⟨⟨old, k e (by simp) _ he⟩, hi.at fun o q => k it (by simp) o q, hne⟩
  item := by
    intro X hP hw hK hc i pins s σ H E I hf st hg
    subst hP hw hK
    obtain ⟨⟨old, he⟩, hit, hne, hai, hea⟩ := st
    obtain ⟨xs, x, hq, hx⟩ := hg
    obtain ⟨its, rv, p, hz⟩ := I.tuple hq
    obtain ⟨u, hu, ru⟩ := rv.get hx
    have hel : e < s.heap.objs.size := Heap.lt_size he
    have hil : it < s.heap.objs.size := by obtain ⟨_, q, _⟩ := hit; exact Heap.lt_size q
    have hlen : i < its.toArray.size := by
      have := (List.getElem?_eq_some_iff.mp hu).1
      rw [List.size_toArray]; exact this
    have hh : X.A.in1.handled = none := I.ok.hd hc
    refine wpAny_pyNext_enum_itemD (Draws.tuple hh it a hai its.toArray) he ⟨hit, p⟩ hlen hne (by simp [hne, hea]) fun y h' tk hy ho st' hT hsz hk => ?_
    have ey : y = u := by
      have : its.toArray[i]? = some y := hy
      have h2 : its[i]? = some y := by simpa using this
      rw [hu] at h2; exact (Option.some.inj h2).symm
    subst ey
    refine ⟨_, rfl, wpAny_letOwnedTupleGo_enum (s := { s with heap := h', toks := tk + 1 }) ho fun h'' he' sb => ?_⟩
    have hT2 : h''.get? s.heap.objs.size = some { cls := .type "tuple", data := .seq #[.int i tk, y] } := (sb.2 _ (Nat.ne_of_gt hel)).trans hT
    have new : ObjOk X.prog X.w (upd H s.heap.objs.size (.tup [.int (i : Nat), x])) h'' s.heap.objs.size (.tup [.int (i : Nat), x]) :=
      ⟨by show 2 ≤ sizeLine; decide, [.int i tk, y], .cons ⟨_, rfl⟩ (.cons ru .nil), ⟨_, hT2, rfl, _, rfl⟩⟩
    have I1 : Inv X pins σ (upd H s.heap.objs.size (.tup [.int (i : Nat), x])) { s with heap := h'', toks := tk + 1 } :=
      I.turnedNew (ch := [e, it]) (fun b ob hb q => (sb.2 b (fun z => hb (by simp [z]))).trans (hk b ob (fun z => hb (by simp [z])) (fun z => hb (by simp [z])) q)) hf (Nat.le_refl _) new
    refine ⟨.ref s.heap.objs.size, _, I1, rfl, ⟨_, x, rfl, I.hok.fresh (Nat.le_refl _), rfl, fun ys hy => by rw [I.tuple_inj hy hq]; exact hx⟩, ⟨⟨y, ?_⟩, st'.1.at fun o q => (sb.2 it (Ne.symm hne)).trans q, hne, hai, hea⟩, fun b hb => ?_⟩
    · have e1 : ((i + 1 : Nat) : Int) = (i : Int) + 1 := by omega
      rw [e1]; exact he'
    · have hb' : b < s.heap.objs.size := by
        have e' : b = e ∨ b = it := by simpa using hb
        rcases e' with z | z
        · rw [z]; exact hel
        · rw [z]; exact hil
      rw [upd_ne (Nat.ne_of_lt hb')]
      exact (hf b hb).1
  done := by
    intro X hP hw hK hc i pins s σ H E I hf st hg
    subst hP hw hK
    obtain ⟨⟨old, he⟩, hit, hne, hai, hea⟩ := st
    obtain ⟨xs, hq, hx⟩ := hg
    obtain ⟨its, rv, p, hz⟩ := I.tuple hq
    obtain ⟨f0, f1, f2, f3, f4, f5⟩ := hf it (by simp)
    have hl := rv.length
    have hh : X.A.in1.handled = none := I.ok.hd hc
    exact fx_enum_end hh he hit p (by simp; omega) fun h' eb => ⟨rfl, I.turned (t' := s.toks) (fun b o hb q => eb b o hb q) f0 f1 f3 f4 f5⟩
  self := fun A i s Q E st h => let ⟨⟨_, he⟩, _⟩ := st; wpAny_pyIter_enum he h
section
variable {X : Cx} {tg : Expr}
/-- enumerate of a list or of a tuple -/
def iEnumS (K : PySem.W.Frag) (ta : TA) : TI := fun σ H R => ta σ H fun vs H1 => ∃ a xs, vs = [.ref a] ∧ ((SqL K H1 a xs ∧ R (Ite K a) H1) ∨ (SqT K H1 a xs ∧ R (Iet K a) H1))
theorem pi_enumS {e : Expr} {ta : TA} {p pos tpos : Pos} {elts : List Expr} {kk : Nat} (hg : Gl X "enumerate") (hm : X.mg "enumerate" = none) (ha : PA X [e] ta) (hs : starEach [e] X.env = [(false, eval e X.env)] := by rfl) :
    PI X (.Tuple elts kk tpos) (.Call (.Name "enumerate" p) [e] [] pos) (iEnumS X.K ta) := by
  refine ⟨fun pins s σ H R I h => ?_⟩
  refine Call_ (ld_blt I hg hm boot_enumerate (PyProof.Rows.callWith_type1 (thn (ha.run pos pins s σ H _ I h) fun us s1 ⟨vs, H1, I1, r1, q1⟩ => ?_) hs rfl))
  obtain ⟨a, xs, ex, q⟩ := q1
  subst ex
  cases r1 with
  | cons r rr =>
    cases rr
    cases r
    rcases q with ⟨hq, q⟩ | ⟨hq, q⟩
    · obtain ⟨its, rv, p', hz⟩ := I1.list hq
      refine call_enumerate_list p'.isList fun h' he hit hsz hk => wpAny_pyIter_enum he ?_
      have I2 : Inv X pins σ H1 { s1 with heap := h' } := I1.kept (t' := s1.toks) hk
      refine ⟨s1.heap.objs.size + 1, [s1.heap.objs.size + 1, s1.heap.objs.size], _, _, H1, rfl, I2, turn_enum a (s1.heap.objs.size + 1) s1.heap.objs.size, ⟨⟨.none, he⟩, hit, Nat.succ_ne_self _⟩, fun b hb => ?_, q⟩
      have e' : b = s1.heap.objs.size + 1 ∨ b = s1.heap.objs.size := by simpa using hb
      have hle : s1.heap.objs.size ≤ b := by
        rcases e' with z | z
        · rw [z]; exact Nat.le_add_right _ _
        · rw [z]; exact Nat.le_refl _
      exact I1.fpOk hle (I1.hok.fresh hle)
    · obtain ⟨its, rv, p', hz⟩ := I1.tuple hq
      refine fx_enum_begins (begins_tuple a its.toArray) p' fun h' he hit hsz hk => wpAny_pyIter_enum he ?_
      have I2 : Inv X pins σ H1 { s1 with heap := h' } := I1.kept (t' := s1.toks) hk
      have hal : a < s1.heap.objs.size := p'.lt
      refine ⟨s1.heap.objs.size + 1, [s1.heap.objs.size + 1, s1.heap.objs.size], _, _, H1, rfl, I2, turn_enumT a (s1.heap.objs.size + 1) s1.heap.objs.size, ⟨⟨.none, he⟩, ⟨_, hit, rfl, rfl⟩, Nat.succ_ne_self _, Nat.ne_of_lt hal, Ne.symm (Nat.ne_of_lt (Nat.lt_succ_of_lt hal))⟩, fun b hb => ?_, q⟩
      have e' : b = s1.heap.objs.size + 1 ∨ b = s1.heap.objs.size := by simpa using hb
      have hle : s1.heap.objs.size ≤ b := by
        rcases e' with z | z
        · rw [z]; exact Nat.le_add_right _ _
        · rw [z]; exact Nat.le_refl _
      exact I1.fpOk hle (I1.hok.fresh hle)
/-- a list or a tuple, walked -/
def iSeq (K : PySem.W.Frag) (tl : TE) : TI := fun σ H R => tl σ H fun x H1 => ∃ a xs, x = .ref a ∧ ((SqL K H1 a xs ∧ R (Itl K a) H1) ∨ (SqT K H1 a xs ∧ R (Itt K a) H1))
theorem pi_seq {l : Expr} {tl : TE} (hl : PE X l tl) : PI X tg l (iSeq X.K tl) := by
  refine ⟨fun pins s σ H R I h => ?_⟩
  refine thn (hl.run pins s σ H _ I h) fun v s1 ⟨x, H1, I1, r1, q1⟩ => ?_
  obtain ⟨a, xs, e, q⟩ := q1
  subst e
  cases r1
  rcases q with ⟨hq, q⟩ | ⟨hq, q⟩
  · obtain ⟨its, rv, p, hz⟩ := I1.list hq
    refine wpAny_pyIter_list p.isList ?_
    refine ⟨s1.heap.objs.size, [s1.heap.objs.size], _, _, H1, rfl, I1.kept (t' := s1.toks) fun b o e => Heap.get?_push_of_some _ e, turn_list a _, ⟨_, Heap.get?_push_size _ rfl, rfl, rfl⟩, fun b hb => ?_, q⟩
    have e : b = s1.heap.objs.size := by simpa using hb
    subst e
    exact I1.fpOk (Nat.le_refl _) (I1.hok.fresh (Nat.le_refl _))
  · obtain ⟨its, rv, p, hz⟩ := I1.tuple hq
    refine wpAny_pyIter_tuple (show s1.heap.IsTuple a its.toArray from p) ?_
    refine ⟨s1.heap.objs.size, [s1.heap.objs.size], _, _, H1, rfl, I1.kept (t' := s1.toks) fun b o e => Heap.get?_push_of_some _ e, turn_tuple a _, ⟨_, Heap.get?_push_size _ rfl, rfl, rfl⟩, fun b hb => ?_, q⟩
    have e : b = s1.heap.objs.size := by simpa using hb
    subst e
    exact I1.fpOk (Nat.le_refl _) (I1.hok.fresh (Nat.le_refl _))
end
end Fx
set_option Elab.async false
set_option linter.all false
set_option maxRecDepth 100000
set_option maxHeartbeats 4000000
namespace Fx
open PySem L2
/-- a step of statements: A what is owned ahead, A' behind -/
structure Stp (G : Hp) (A : Addr → Prop) (H G' : Hp) (A' : Addr → Prop) (H' : Hp) : Prop where
  gg : Same G G'
  kp : Keep A G H G' H'
  aa : ∀ b, A' b → A b ∨ H b = none
section
variable {G G1 G2 H H1 H2 : Hp} {A A1 A2 : Addr → Prop}
theorem Stp.refl : Stp G A H G A H := ⟨Same.refl _, Keep.refl _ _, fun _ h => .inl h⟩
theorem Stp.trans (a : Stp G A H G1 A1 H1) (b : Stp G1 A1 H1 G2 A2 H2) (hA : ∀ b, A b → ∃ o, H b = some o) : Stp G A H G2 A2 H2 where
  gg := a.gg.trans b.gg
  kp := fun x o h n => by
    have h1 := a.kp x o h n
    have h2 := b.kp x o h1.1 fun z => (a.aa x z).elim n fun w => by rw [w] at h; cases h
    exact ⟨h2.1, h2.2.trans h1.2⟩
  aa := fun x h => (b.aa x h).elim (a.aa x) fun w => by
    by_cases n : A x
    · exact .inl n
    · refine .inr ?_
      cases q : H x with
      | none => rfl
      | some o => have := (a.kp x o q n).1; rw [w] at this; cases this
theorem Stp.same (s : Same G G1) (k : Keep A G H G1 H1) : Stp G A H G1 A H1 := ⟨s, k, fun _ h => .inl h⟩
end
def AfterS (c : Cf) (B : List (Nat × Addr)) (W : WX) (G : Hp) (A : Addr → Prop) (H : Hp) (o : OutS) (D : Ends) : Prop := match o with
  | .stuck => False
  | .next ρ' => ∀ G' A' H' σ', Stp G A H G' A' H' → Rel c B G' A' H' σ' ρ' → D.nx σ' H'
  | .ret d ρ' => ∀ G' A' H' σ' v, Stp G A H G' A' H' → Rel c B G' A' H' σ' ρ' → Rep c G' v d → D.rt v H'
  | .brk ρ' => ∀ G' A' H' σ', Stp G A H G' A' H' → Rel c B G' A' H' σ' ρ' → D.bk σ' H'
  | .cont ρ' => ∀ G' A' H' σ', Stp G A H G' A' H' → Rel c B G' A' H' σ' ρ' → D.ct σ' H'
  | .exc x ρ' => ∀ G' A' H' σ' dd, Stp G A H G' A' H' → Rel c B G' A' H' σ' ρ' → ExcAt c G' x dd → W (.ref (c.exc x.c)) (some dd) σ' H'
def tS (c : Cf) (B : List (Nat × Addr)) (W : WX) (m : MS) : TS := fun D σ H => ∃ G A ρ, Rel c B G A H σ ρ ∧ AfterS c B W G A H (m ρ) D
section
variable {c : Cf} {B : List (Nat × Addr)} {W : WX} {X : Cx} {G H : Hp} {A : Addr → Prop} {σ : L2.St} {ρ : Cells} {Z : Ends}
theorem Rel.own_there (R : Rel c B G A H σ ρ) : ∀ b, A b → ∃ o, H b = some o := fun b h => (R.ownA b h).2
theorem AfterS.of {o : OutS} {G' H' : Hp} {A' : Addr → Prop} (hA : ∀ b, A b → ∃ o, H b = some o) (s : Stp G A H G' A' H') (h : AfterS c B W G A H o Z) : AfterS c B W G' A' H' o Z := by
  cases o with
  | stuck => exact h
  | next ρ' => exact fun G2 A2 H2 σ2 s2 R => h G2 A2 H2 σ2 (s.trans s2 hA) R
  | ret d ρ' => exact fun G2 A2 H2 σ2 v s2 R r => h G2 A2 H2 σ2 v (s.trans s2 hA) R r
  | brk ρ' => exact fun G2 A2 H2 σ2 s2 R => h G2 A2 H2 σ2 (s.trans s2 hA) R
  | cont ρ' => exact fun G2 A2 H2 σ2 s2 R => h G2 A2 H2 σ2 (s.trans s2 hA) R
  | exc x ρ' => exact fun G2 A2 H2 σ2 dd s2 R r => h G2 A2 H2 σ2 dd (s.trans s2 hA) R r
theorem AfterS.nx (h : AfterS c B W G A H (.next ρ) Z) (R : Rel c B G A H σ ρ) : Z.nx σ H := h G A H σ Stp.refl R
/-- an expression's outcome inside a statement -/
def mDo {α : Type} (f : M α) (k : α → MS) : MS := fun ρ => match f ρ with
  | .stuck => .stuck
  | .ok a ρ' => k a ρ'
  | .exc x ρ' => .exc x ρ'
theorem AfterS.split {α : Type} {f : M α} {k : α → MS} (h : AfterS c B W G A H (mDo f k ρ) Z) (R : Rel c B G A H σ ρ) : After c B W G A H σ (f ρ) fun a ρ' G' H' => AfterS c B W G' A H' (k a ρ') Z := by
  unfold mDo at h
  cases e : f ρ with
  | stuck => rw [e] at h; exact h
  | ok a ρ' =>
    rw [e] at h
    exact fun G' H' s kk R' => AfterS.of R.own_there (Stp.same s kk) h
  | exc x ρ' =>
    rw [e] at h
    exact fun G' H' dd s kk R' r => h G' A H' σ dd (Stp.same s kk) R' r

def mSkip : MS := fun ρ => .next ρ
def mSeq (m n : MS) : MS := fun ρ => match m ρ with
  | .next ρ' => n ρ'
  | o => o
theorem pss_nilM : PSs X [] (tS c B W mSkip) := pss_imp pss_nil fun D σ H ⟨G, A, ρ, R, a⟩ => a.nx R
theorem AfterS.seq {m n : MS} (h : AfterS c B W G A H (mSeq m n ρ) Z) (R : Rel c B G A H σ ρ) : AfterS c B W G A H (m ρ) { Z with nx := tS c B W n Z } := by
  unfold mSeq at h
  cases e : m ρ with
  | next ρ' =>
    rw [e] at h
    exact fun G' A' H' σ' s R' => ⟨G', A', ρ', R', AfterS.of R.own_there s h⟩
  | stuck => rw [e] at h; exact h
  | ret d ρ' => rw [e] at h; exact h
  | brk ρ' => rw [e] at h; exact h
  | cont ρ' => rw [e] at h; exact h
  | exc x ρ' => rw [e] at h; exact h
theorem pss_consM {st : Stmt} {rest : List Stmt} {m n : MS} (h1 : PS X st (tS c B W m)) (h2 : PSs X rest (tS c B W n)) : PSs X (st :: rest) (tS c B W (mSeq m n)) :=
  pss_imp (pss_cons h1 h2) fun D σ H ⟨G, A, ρ, R, a⟩ => ⟨G, A, ρ, R, a.seq R⟩
theorem pss_oneM {st : Stmt} {m : MS} (h1 : PS X st (tS c B W m)) : PSs X [st] (tS c B W m) := pss_one h1

def mRet (f : M D) : MS := mDo f fun d ρ => .ret d ρ
theorem ps_retM {e : Expr} {f : M D} {pos : Pos} (he : PE X e (tM c B W f)) : PS X (.Return (some e) pos) (tS c B W (mRet f)) :=
  ps_imp (ps_ret he) fun D σ H ⟨G, A, ρ, R, a⟩ => ⟨G, A, ρ, R, (a.split R).imp fun d ρ' G' H' _ _ R' q v r => q G' A H' σ v Stp.refl R' r⟩
def mRetN : MS := fun ρ => .ret .non ρ
def mExpr (f : M D) : MS := mDo f fun _ ρ => .next ρ
theorem ps_exprM {e : Expr} {f : M D} {pos : Pos} (he : PE X e (tM c B W f)) (hs : swapsWith e none pos.line X.env = pure false := by rfl) : PS X (.Expr e pos) (tS c B W (mExpr f)) :=
  ps_imp (ps_expr he hs) fun D σ H ⟨G, A, ρ, R, a⟩ => ⟨G, A, ρ, R, (a.split R).imp fun d ρ' G' H' _ _ R' q v r => q.nx R'⟩
def mIfS (b : M Bool) (m n : MS) : MS := mDo b fun b ρ => if b = true then m ρ else n ρ
theorem ps_ifM {t : Expr} {a b : List Stmt} {pos : Pos} {f : M Bool} {m n : MS} (ht : PT X t (tT c B W f)) (ha : PSs X a (tS c B W m)) (hb : PSs X b (tS c B W n)) : PS X (.If t a b pos) (tS c B W (mIfS f m n)) :=
  ps_imp (ps_if ht ha hb) fun D σ H ⟨G, A, ρ, R, a⟩ => by
    refine ⟨G, A, ρ, R, (a.split R).imp fun x ρ' G' H' _ _ R' q => ite_prop (fun e => ?_) (fun e => ?_)⟩
    · rw [if_pos e] at q; exact ⟨G', A, ρ', R', q⟩
    · rw [if_neg (by rw [e]; exact Bool.false_ne_true)] at q; exact ⟨G', A, ρ', R', q⟩

/-- a slot is filled with data -/
theorem Rel.setDat (R : Rel c B G A H σ ρ) {i : Nat} {d : D} {v : V} (r : Rep c G v d) (hb : B.all (fun q => q.1 != i) = true) : Rel c B G A H (σ.set i (some v)) (ρ.set i (.dat d)) := by
  refine ⟨R.same, by rw [List.length_set, List.length_set]; exact R.len, R.ownA, fun j x h => ?_, fun j x h => ?_, fun j k x y q hjk h1 h2 h3 h4 => ?_, fun q hq => ?_⟩
  · by_cases z : j = i
    · subst z
      have hi : j < ρ.length := by
        have := (List.getElem?_eq_some_iff.mp h).1
        rwa [List.length_set] at this
      rw [List.getElem?_set_self hi] at h; cases h
      exact ⟨v, by rw [List.getElem?_set_self (by rw [R.len]; exact hi)], r⟩
    · rw [List.getElem?_set_ne (Ne.symm z)] at h
      obtain ⟨w, h1, h2⟩ := R.dat j x h
      exact ⟨w, by rw [List.getElem?_set_ne (Ne.symm z)]; exact h1, h2⟩
  · by_cases z : j = i
    · subst z
      have hi : j < ρ.length := by
        have := (List.getElem?_eq_some_iff.mp h).1
        rwa [List.length_set] at this
      rw [List.getElem?_set_self hi] at h; cases h
    · rw [List.getElem?_set_ne (Ne.symm z)] at h
      obtain ⟨p, h1, h2, h3⟩ := R.own j x h
      exact ⟨p, by rw [List.getElem?_set_ne (Ne.symm z)]; exact h1, h2, h3⟩
  · have g : ∀ (j : Nat) (x : D), (ρ.set i (.dat d))[j]? = some (.own x) → j ≠ i ∧ ρ[j]? = some (.own x) := fun j x h => by
      by_cases z : j = i
      · subst z
        have hi : j < ρ.length := by
          have := (List.getElem?_eq_some_iff.mp h).1
          rwa [List.length_set] at this
        rw [List.getElem?_set_self hi] at h; cases h
      · rw [List.getElem?_set_ne (Ne.symm z)] at h; exact ⟨z, h⟩
    obtain ⟨n1, h1'⟩ := g j x h1
    obtain ⟨n2, h2'⟩ := g k y h2
    rw [List.getElem?_set_ne (Ne.symm n1)] at h3
    rw [List.getElem?_set_ne (Ne.symm n2)] at h4
    exact R.dis j k x y q hjk h1' h2' h3 h4
  · obtain ⟨h1, h2, x, h3⟩ := R.byr q hq
    have z : q.1 ≠ i := by
      have := List.all_eq_true.mp hb q hq
      simpa using this
    exact ⟨by rw [List.getElem?_set_ne (Ne.symm z)]; exact h1, h2, x, by rw [List.getElem?_set_ne (Ne.symm z)]; exact h3⟩
/-- what a target does with data -/
abbrev TgM := D → Cells → Option Cells
/-- only the slots ts have changed -/
def Only (ts : List Nat) (σ σ' : L2.St) : Prop := σ'.length = σ.length ∧ ∀ j, j ∉ ts → σ'[j]? = σ[j]?
/-- what stands for an item: data, or a pair that is about to be unpacked -/
abbrev VP := Cf → Hp → Hp → V → D → Prop
def vRep : VP := fun c G _ v d => Rep c G v d
def vAny : VP := fun c G H v d => Rep c G v d ∨ ∃ a xs es, v = .ref a ∧ SqT c.K H a xs ∧ d = .tup es ∧ RepL c G xs es
def tG (c : Cf) (B : List (Nat × Addr)) (P : VP) (ts : List Nat) (g : TgM) : TG := fun v σ H Q => ∃ G A ρ d ρ', Rel c B G A H σ ρ ∧ P c G H v d ∧ g d ρ = some ρ' ∧ ∀ σ', Rel c B G A H σ' ρ' → Only ts σ σ' → Q σ' H
def gNm (i : Nat) : TgM := fun d ρ => some (ρ.set i (.dat d))
theorem pg_nm (i : Nat) {x : Str} {pos : Pos} (hN : X.N.Nodup) (hb : B.all (fun q => q.1 != i) = true) (hi : X.N[i]? = some x := by rfl) (hx : Loc X.env.scope x := by first | exact Or.inl rfl | exact Or.inr rfl) (hf : X.fn x = true ∨ X.env.scope.names.lookup x = some .local := by first | exact .inl rfl | exact .inr rfl) : PG X (.Name x pos) (tG c B vRep [i] (gNm i)) :=
  pg_imp (pg_name hN hi hx hf) fun v σ H Q ⟨G, A, ρ, d, ρ', R, r, e, q⟩ => by
    cases e
    exact q _ (R.setDat r hb) ⟨List.length_set, fun j hj => List.getElem?_set_ne (fun z => hj (by simp [z]))⟩
/-- two or more names -/
def gNms : List Nat → List D → Cells → Option Cells
  | [], [], ρ => some ρ
  | i :: is, d :: ds, ρ => gNms is ds (ρ.set i (.dat d))
  | _, _, _ => none
def gTp (is : List Nat) : TgM := fun d ρ => match d with
  | .tup ds => gNms is ds ρ
  | _ => none
def tGs (c : Cf) (B : List (Nat × Addr)) (is : List Nat) : TGs := fun vs σ H Q => ∃ G A ρ ds ρ', Rel c B G A H σ ρ ∧ RepL c G vs ds ∧ gNms is ds ρ = some ρ' ∧ ∀ σ', Rel c B G A H σ' ρ' → Only is σ σ' → Q σ' H
theorem pgs_imp {es : List Expr} {t t' : TGs} (h : PGs X es t) (k : ∀ v σ H Q, t' v σ H Q → t v σ H Q) : PGs X es t' := ⟨fun pins s σ H v u Q I r q => h.run pins s σ H v u Q I r (k v σ H Q q)⟩
theorem pgs_nilM : PGs X [] (tGs c B []) := pgs_imp pgs_nil fun vs σ H Q ⟨G, A, ρ, ds, ρ', R, r, e, q⟩ => by
  cases r with
  | nil => cases e; exact ⟨rfl, q σ R ⟨rfl, fun _ _ => rfl⟩⟩
  | cons _ _ => cases e
theorem pgs_consM {e : Expr} {es : List Expr} {i : Nat} {is : List Nat} (h1 : PG X e (tG c B vRep [i] (gNm i))) (h2 : PGs X es (tGs c B is)) (hs : (assignEach (e :: es) X.env).map (·.2) = assign e X.env :: (assignEach es X.env).map (·.2) := by rfl) : PGs X (e :: es) (tGs c B (i :: is)) :=
  pgs_imp (pgs_cons h1 h2 hs) fun vs σ H Q ⟨G, A, ρ, ds, ρ', R, r, e, q⟩ => by
    cases r with
    | nil => cases e
    | cons h t => exact ⟨_, _, rfl, G, A, ρ, _, _, R, h, rfl, fun σ' R' o' => ⟨G, A, _, _, ρ', R', t, e, fun σ2 R2 o2 => q σ2 R2 ⟨o2.1.trans o'.1, fun j hj => (o2.2 j fun z => hj (List.mem_cons_of_mem _ z)).trans (o'.2 j fun z => hj (by simp at z; simp [z]))⟩⟩⟩
theorem gNms_len : ∀ {is : List Nat} {ds : List D} {ρ ρ' : Cells}, gNms is ds ρ = some ρ' → ds.length = is.length
  | [], [], _, _, _ => rfl
  | [], _ :: _, _, _, h => by cases h
  | _ :: _, [], _, _, h => by cases h
  | _ :: is, _ :: ds, _, _, h => by rw [List.length_cons, List.length_cons, gNms_len (is := is) (ds := ds) h]
theorem vAny.tup {G H : Hp} {v : V} {ds : List D} (s : Same G H) (h : vAny c G H v (.tup ds)) : ∃ a xs, v = .ref a ∧ SqT c.K H a xs ∧ RepL c G xs ds := by
  rcases h with h | ⟨a, xs, es, rfl, h1, h2, h3⟩
  · cases h with
    | tup e r => exact ⟨_, _, rfl, (e.mono s).sq, r⟩
  · cases h2; exact ⟨a, xs, rfl, h1, h3⟩
theorem pg_tpM {es : List Expr} {k : Nat} {pos : Pos} {is : List Nat} (hK : c.K = X.K) (hc : X.calm = true) (h : PGs X es (tGs c B is)) (hn : (assignEach es X.env).length = is.length := by rfl) (hst : (assignEach es X.env).findIdx? (·.1) = none := by rfl) : PG X (.Tuple es k pos) (tG c B vAny is (gTp is)) :=
  pg_imp (pg_tup hc h hn hst) fun v σ H Q ⟨G, A, ρ, d, ρ', R, r, e, q⟩ => by
    cases d <;> first | (cases e; done) | skip
    rename_i ds
    have e' : gNms is ds ρ = some ρ' := e
    obtain ⟨a, xs, rfl, h1, h2⟩ := vAny.tup R.same r
    exact ⟨a, xs, rfl, by rw [← hK]; exact h1, by rw [h2.length, gNms_len e'], G, A, ρ, ds, ρ', R, h2, e', q⟩
theorem pg_any {e : Expr} {ts : List Nat} {g : TgM} (h : PG X e (tG c B vAny ts g)) : PG X e (tG c B vRep ts g) :=
  pg_imp h fun v σ H Q ⟨G, A, ρ, d, ρ', R, r, q⟩ => ⟨G, A, ρ, d, ρ', R, .inl r, q⟩

def mAsg (f : M D) (g : TgM) : MS := mDo f fun d ρ => match g d ρ with
  | some ρ' => .next ρ'
  | none => .stuck
theorem ps_asgM {tg e : Expr} {f : M D} {ts : List Nat} {g : TgM} {pos : Pos} (he : PE X e (tM c B W f)) (hg : PG X tg (tG c B vRep ts g)) (hs : swapsWithSole [tg] e pos.line X.env = pure false := by rfl) (hw : swappedStores [tg] e X.env = pure none := by rfl) (h1 : (assignEach [tg] X.env).map (·.2) = [assign tg X.env] := by rfl) :
    PS X (.Assign [tg] e pos) (tS c B W (mAsg f g)) :=
  ps_imp (ps_asg he hg hs hw h1) fun Z σ H ⟨G, A, ρ, R, a⟩ => by
    refine ⟨G, A, ρ, R, (a.split R).imp fun d ρ' G' H' _ _ R' q v r => ?_⟩
    cases e : g d ρ' with
    | none => rw [e] at q; exact q.elim
    | some ρ2 =>
      rw [e] at q
      exact ⟨G', A, ρ', d, ρ2, R', r, e, fun σ' R2 _ => q.nx R2⟩
/-- a new list or dict at a slot, owned -/
theorem Rel.newOwn (R : Rel c B G A H σ ρ) {i : Nat} {d : D} {p : Addr} {H2 : Hp} (hp : H p = none) (hh : Same H H2) (ho : Own c G (H2 p) d) (hb : B.all (fun q => q.1 != i) = true) :
    Rel c B G (fun b => A b ∨ b = p) H2 (σ.set i (some (.ref p))) (ρ.set i (.own d)) := by
  have gp : G p = none := R.same.free hp
  have na : ∀ b, A b → b ≠ p := fun b h z => by obtain ⟨_, o, q⟩ := R.ownA b h; rw [z, hp] at q; cases q
  refine ⟨R.same.trans hh, by rw [List.length_set, List.length_set]; exact R.len, fun b hb' => ?_, fun j x h => ?_, fun j x h => ?_, fun j k x y q hjk h1 h2 h3 h4 => ?_, fun q hq => ?_⟩
  · rcases hb' with h | h
    · obtain ⟨h1, o, h2⟩ := R.ownA b h
      exact ⟨h1, o, hh b o h2⟩
    · rw [h]; exact ⟨gp, ho.some⟩
  · by_cases z : j = i
    · subst z
      have hi : j < ρ.length := by
        have := (List.getElem?_eq_some_iff.mp h).1
        rwa [List.length_set] at this
      rw [List.getElem?_set_self hi] at h; cases h
    · rw [List.getElem?_set_ne (Ne.symm z)] at h
      obtain ⟨w, h1, h2⟩ := R.dat j x h
      exact ⟨w, by rw [List.getElem?_set_ne (Ne.symm z)]; exact h1, h2⟩
  · by_cases z : j = i
    · subst z
      have hi : j < ρ.length := by
        have := (List.getElem?_eq_some_iff.mp h).1
        rwa [List.length_set] at this
      rw [List.getElem?_set_self hi] at h; cases h
      exact ⟨p, by rw [List.getElem?_set_self (by rw [R.len]; exact hi)], .inr rfl, ho⟩
    · rw [List.getElem?_set_ne (Ne.symm z)] at h
      obtain ⟨q, h1, h2, h3⟩ := R.own j x h
      obtain ⟨u, hu⟩ := h3.some
      exact ⟨q, by rw [List.getElem?_set_ne (Ne.symm z)]; exact h1, .inl h2, by rw [hh q u hu, ← hu]; exact h3⟩
  · have g : ∀ (j : Nat) (x : D) (q : Addr), (ρ.set i (.own d))[j]? = some (.own x) → (σ.set i (some (.ref p)))[j]? = some (some (.ref q)) → (j = i ∧ q = p) ∨ (j ≠ i ∧ q ≠ p ∧ ρ[j]? = some (.own x) ∧ σ[j]? = some (some (.ref q))) := fun j x q h h' => by
      by_cases z : j = i
      · subst z
        have hi : j < σ.length := by
          have := (List.getElem?_eq_some_iff.mp h').1
          rwa [List.length_set] at this
        rw [List.getElem?_set_self hi] at h'; cases h'
        exact .inl ⟨rfl, rfl⟩
      · rw [List.getElem?_set_ne (Ne.symm z)] at h h'
        obtain ⟨r, h1, h2, _⟩ := R.own j x h
        rw [h'] at h1; cases h1
        exact .inr ⟨z, na q h2, h, h'⟩
    rcases g j x q h1 h3 with ⟨e1, e2⟩ | ⟨e1, e2, e3, e4⟩
    · rcases g k y q h2 h4 with ⟨f1, f2⟩ | ⟨f1, f2, f3, f4⟩
      · exact hjk (e1.trans f1.symm)
      · exact f2 e2
    · rcases g k y q h2 h4 with ⟨f1, f2⟩ | ⟨f1, f2, f3, f4⟩
      · exact e2 f2
      · exact R.dis j k x y q hjk e3 f3 e4 f4
  · obtain ⟨h1, h2, x, h3⟩ := R.byr q hq
    have z : q.1 ≠ i := by
      have := List.all_eq_true.mp hb q hq
      simpa using this
    exact ⟨by rw [List.getElem?_set_ne (Ne.symm z)]; exact h1, .inl h2, x, by rw [List.getElem?_set_ne (Ne.symm z)]; exact h3⟩
def mNew (f : M D) (i : Nat) : MS := mDo f fun d ρ => .next (ρ.set i (.own d))
theorem ps_newM (i : Nat) {x : Str} {e : Expr} {f : M D} {np pos : Pos} (hN : X.N.Nodup) (he : PE X e (tF c B W f)) (hb : B.all (fun q => q.1 != i) = true) (hi : X.N[i]? = some x := by rfl) (hx : Loc X.env.scope x := by first | exact Or.inl rfl | exact Or.inr rfl) (hf : X.fn x = true ∨ X.env.scope.names.lookup x = some .local := by first | exact .inl rfl | exact .inr rfl) (hs : swapsWithSole [.Name x np] e pos.line X.env = pure false := by rfl) (hw : swappedStores [.Name x np] e X.env = pure none := by rfl) :
    PS X (.Assign [.Name x np] e pos) (tS c B W (mNew f i)) :=
  ps_imp (ps_asg he (pg_name hN hi hx hf) hs hw) fun Z σ H ⟨G, A, ρ, R, a⟩ => by
    refine ⟨G, A, ρ, R, (a.split R).imp fun d ρ' G' H' _ _ R' q p H2 hp hh ho => ?_⟩
    have R2 := R'.newOwn hp hh ho hb
    exact q G' _ H2 _ ⟨Same.refl _, fun b o h _ => ⟨hh b o h, rfl⟩, fun b h => h.elim .inl fun z => .inr (by rw [z]; exact hp)⟩ R2
/-- what a slot owns is frozen -/
theorem Rel.freeze (R : Rel c B G A H σ ρ) {i : Nat} {d : D} {p : Addr} {u : HO} (e : ρ[i]? = some (.own d)) (es : σ[i]? = some (some (.ref p))) (hu : H p = some u) (hb : B.all (fun q => q.1 != i) = true) :
    Rel c B (upd G p u) (fun b => A b ∧ b ≠ p) H σ (ρ.set i (.dat d)) := by
  obtain ⟨p', es', hA, hO⟩ := R.own i d e
  rw [es] at es'; cases es'
  obtain ⟨gp, _⟩ := R.ownA p hA
  have gg : Same G (upd G p u) := same_upd gp
  have hi : i < ρ.length := (List.getElem?_eq_some_iff.mp e).1
  refine ⟨fun b w q => ?_, by rw [List.length_set]; exact R.len, fun b ⟨h1, h2⟩ => ?_, fun j x h => ?_, fun j x h => ?_, fun j k x y q hjk h1 h2 h3 h4 => ?_, fun q hq => ?_⟩
  · by_cases z : b = p
    · subst z; rw [upd_same] at q; cases q; exact hu
    · rw [upd_ne z] at q; exact R.same b w q
  · obtain ⟨h3, h4⟩ := R.ownA b h1
    exact ⟨by rw [upd_ne h2]; exact h3, h4⟩
  · by_cases z : j = i
    · subst z
      rw [List.getElem?_set_self hi] at h; cases h
      refine ⟨.ref p, es, ?_⟩
      have o' : Own c G ((upd G p u) p) d := by rw [upd_same, ← hu]; exact hO
      exact o'.rep gg
    · rw [List.getElem?_set_ne (Ne.symm z)] at h
      obtain ⟨w, h1, h2⟩ := R.dat j x h
      exact ⟨w, h1, h2.mono gg⟩
  · by_cases z : j = i
    · subst z; rw [List.getElem?_set_self hi] at h; cases h
    · rw [List.getElem?_set_ne (Ne.symm z)] at h
      obtain ⟨q, h1, h2, h3⟩ := R.own j x h
      exact ⟨q, h1, ⟨h2, fun w => R.dis j i x d p z h e (by rw [← w]; exact h1) es⟩, h3.mono gg⟩
  · have g : ∀ (j : Nat) (x : D), (ρ.set i (.dat d))[j]? = some (.own x) → ρ[j]? = some (.own x) := fun j x h => by
      by_cases z : j = i
      · subst z; rw [List.getElem?_set_self hi] at h; cases h
      · rw [List.getElem?_set_ne (Ne.symm z)] at h; exact h
    exact R.dis j k x y q hjk (g j x h1) (g k y h2) h3 h4
  · obtain ⟨h1, h2, x, h3⟩ := R.byr q hq
    have z : q.1 ≠ i := by
      have := List.all_eq_true.mp hb q hq
      simpa using this
    refine ⟨h1, ⟨h2, fun w => ?_⟩, x, by rw [List.getElem?_set_ne (Ne.symm z)]; exact h3⟩
    exact R.dis q.1 i x d p z h3 e (by rw [← w]; exact h1) es
def mFrz (i : Nat) (m : MS) : MS := fun ρ => match ρ[i]? with
  | some (.own d) => m (ρ.set i (.dat d))
  | _ => m ρ
theorem AfterS.frz {i : Nat} {m : MS} (R : Rel c B G A H σ ρ) (hb : B.all (fun q => q.1 != i) = true) (a : AfterS c B W G A H (mFrz i m ρ) Z) : ∃ G' A' ρ', Rel c B G' A' H σ ρ' ∧ AfterS c B W G' A' H (m ρ') Z := by
  unfold mFrz at a
  cases e : ρ[i]? with
  | none => rw [e] at a; exact ⟨G, A, ρ, R, a⟩
  | some cl =>
    rw [e] at a
    cases cl with
    | no => exact ⟨G, A, ρ, R, a⟩
    | dat d => exact ⟨G, A, ρ, R, a⟩
    | own d =>
      obtain ⟨p, es, hA, hO⟩ := R.own i d e
      obtain ⟨u, hu⟩ := hO.some
      have gp := (R.ownA p hA).1
      refine ⟨_, _, _, R.freeze e es hu hb, AfterS.of R.own_there ⟨same_upd gp, fun b o h n => ⟨h, upd_ne fun z => n (by rw [z]; exact hA)⟩, fun b h => .inl h.1⟩ a⟩
theorem ps_frz (i : Nat) {st : Stmt} {m : MS} (hb : B.all (fun q => q.1 != i) = true) (h : PS X st (tS c B W m)) : PS X st (tS c B W (mFrz i m)) := ps_imp h fun Z σ H ⟨G, A, ρ, R, a⟩ => a.frz R hb
end
end Fx
set_option Elab.async false
set_option linter.all false
set_option maxRecDepth 100000
set_option maxHeartbeats 4000000
namespace Fx
open PySem L2
structure ItOk (c : Cf) (P : VP) (J : It) (ds : List D) (G : Hp) : Prop where
  len : ds.length ≤ sizeLine
  go : ∀ i H', i < ds.length → Same G H' → J.go i H'
  yld : ∀ i G' H' x H'', i < ds.length → Same G G' → Same G' H' → J.yld i H' x H'' → ∃ G'' d, ds[i]? = some d ∧ Ext G' H' G'' H'' ∧ P c G'' H'' x d
  stop : ∀ H', Same G H' → J.stop ds.length H'
def tI (c : Cf) (B : List (Nat × Addr)) (W : WX) (P : VP) (f : M (List D)) : TI := fun σ H R => ∃ G A ρ, Rel c B G A H σ ρ ∧ After c B W G A H σ (f ρ) fun ds _ G' H' => ∀ J, ItOk c P J ds G' → R J H'
/-- a value's list or tuple is not longer than the line -/
def LenOk (v : V) (H : Hp) : Prop := ∀ a xs, v = .ref a → (Rd H a (.lst xs) ∨ Rd H a (.tup xs)) → xs.length ≤ sizeLine
section
variable {c : Cf} {B : List (Nat × Addr)} {W : WX} {X : Cx} {G H : Hp} {A : Addr → Prop} {σ : L2.St} {ρ : Cells} {Z : Ends}
theorem lenOk_of {pins : List (Addr × Obj)} {s : Shared} (I : Inv X pins σ H s) (v : V) : LenOk v H := fun a xs _ h => by
  rcases h with h | h
  · have q := h.ok I.hok; exact q.1
  · have q := h.ok I.hok; exact q.1
theorem pe_len {e : Expr} {t : TE} (h : PE X e t) : PE X e (fun σ H Q => t σ H fun v H' => LenOk v H' → Q v H') :=
  ⟨fun pins s σ H Q I q => thn (h.run pins s σ H _ I q) fun u s1 ⟨v, H1, I1, r, k⟩ => ⟨v, H1, I1, r, k (lenOk_of I1 v)⟩⟩
theorem pa_len {es : List Expr} {t : TA} (h : PA X es t) : PA X es (fun σ H Q => t σ H fun vs H' => (∀ v ∈ vs, LenOk v H') → Q vs H') :=
  ⟨fun pos pins s σ H Q I q => thn (h.run pos pins s σ H _ I q) fun u s1 ⟨v, H1, I1, r, k⟩ => ⟨v, H1, I1, r, k fun w _ => lenOk_of I1 w⟩⟩

def mSeqI (f : M D) : M (List D) := f.bind fun d => M.lift (itemsOf d)
theorem rep_seq {v : V} {d : D} {ds : List D} (s : Same G H) (r : Rep c G v d) (h : itemsOf d = some ds) (lo : LenOk v H) :
    ∃ a us, v = .ref a ∧ RepL c G us ds ∧ us.length ≤ sizeLine ∧ (LsG c.K G a us ∨ TupAt c.K G a us) := by
  cases r <;> first | (cases h; done) | skip
  · rename_i a xs es e rl
    cases h
    refine ⟨a, xs, rfl, rl, ?_, .inr e⟩
    rcases e with ⟨o, e, _⟩ | ⟨o, its, n, h1, h2, h3, h4, h5, h6⟩
    · exact lo a xs rfl (.inr (.inr ⟨o, s _ _ e⟩))
    · have e6 : xs.length = its.size := by rw [h6.length]; exact Array.length_toList
      rw [e6]
      exact h5
  · rename_i a xs es e rl
    cases h
    refine ⟨a, xs, rfl, rl, ?_, .inl e⟩
    rcases e with e | ⟨its, n, h1, h2, h3⟩
    · exact lo a xs rfl (.inl (same_rd s e))
    · rw [h3.length]; exact h2
theorem itl_ok {K : PySem.W.Frag} {a : Addr} {us : List V} {ds : List D} (r : RepL c G us ds) (hl : us.length ≤ sizeLine) (hr : LsG K G a us) : ItOk c vRep (Itl K a) ds G where
  len := by rw [← r.length]; exact hl
  go := fun i H' hi s => by
    obtain ⟨v, h1, _⟩ := r.get (List.getElem?_eq_getElem hi)
    exact ⟨us, v, (hr.mono s).sq, h1⟩
  yld := fun i G' H' x H'' hi s1 s2 ⟨e, h⟩ => by
    have hx := h us (hr.mono (s1.trans s2)).sq
    obtain ⟨d, h1, h2⟩ := r.getV hx
    subst e
    exact ⟨G', d, h1, Ext.refl s2, h2.mono s1⟩
  stop := fun H' s => ⟨us, (hr.mono s).sq, by rw [r.length]; exact Nat.le_refl _⟩
theorem itt_ok {K : PySem.W.Frag} (hK : c.K = K) {a : Addr} {us : List V} {ds : List D} (r : RepL c G us ds) (hl : us.length ≤ sizeLine) (hr : TupAt K G a us) : ItOk c vRep (Itt K a) ds G where
  len := by rw [← r.length]; exact hl
  go := fun i H' hi s => by
    obtain ⟨v, h1, _⟩ := r.get (List.getElem?_eq_getElem hi)
    exact ⟨us, v, (hr.mono s).sq, h1⟩
  yld := fun i G' H' x H'' hi s1 s2 ⟨e, h⟩ => by
    have hx := h us ((hr.mono (s1.trans s2)).sq)
    obtain ⟨d, h1, h2⟩ := r.getV hx
    subst e
    exact ⟨G', d, h1, Ext.refl s2, h2.mono s1⟩
  stop := fun H' s => ⟨us, (hr.mono s).sq, by rw [r.length]; exact Nat.le_refl _⟩
theorem pi_seqM (hK : c.K = X.K) {tg l : Expr} {f : M D} (h : PE X l (tM c B W f)) : PI X tg l (tI c B W vRep (mSeqI f)) :=
  pi_imp (pi_seq (pe_len h)) fun σ H R ⟨G, A, ρ, Rl, a⟩ => by
    refine ⟨G, A, ρ, Rl, a.split.imp fun d ρ' G' H' _ _ R' q v r lo => ?_⟩
    obtain ⟨ds, e, k⟩ := q.lift R'
    obtain ⟨p, us, rfl, rl, hl, hr | hr⟩ := rep_seq R'.same r e lo
    · exact ⟨p, us, rfl, .inl ⟨by rw [← hK]; exact (hr.mono R'.same).sq, k _ (itl_ok rl hl (by rw [← hK]; exact hr))⟩⟩
    · exact ⟨p, us, rfl, .inr ⟨by rw [← hK]; exact (hr.mono R'.same).sq, k _ (itt_ok hK rl hl (by rw [← hK]; exact hr))⟩⟩
def enumD : Nat → List D → List D
  | _, [] => []
  | n, d :: ds => .tup [.int (n : Int), d] :: enumD (n + 1) ds
theorem enumD_len : ∀ (n : Nat) (ds : List D), (enumD n ds).length = ds.length
  | _, [] => rfl
  | n, d :: ds => by rw [enumD, List.length_cons, List.length_cons, enumD_len]
theorem enumD_get : ∀ (n i : Nat) (ds : List D) (d : D), ds[i]? = some d → (enumD n ds)[i]? = some (.tup [.int ((n + i : Nat) : Int), d])
  | n, 0, e :: ds, d, h => by simp at h; subst h; rfl
  | n, i + 1, e :: ds, d, h => by
    have := enumD_get (n + 1) i ds d (by simpa using h)
    rw [enumD, List.getElem?_cons_succ, this]
    congr 4
    omega
def mEnum (f : M D) : M (List D) := f.bind fun d => (M.lift (itemsOf d)).bind fun ds => M.pure (enumD 0 ds)
theorem enum_yld {G' H' H'' : Hp} {x y : V} {d : D} {i : Nat} {T : Addr} (s2 : Same G' H') (hT : H' T = none) (e : H'' = upd H' T (.tup [.int (i : Nat), y])) (ex : x = .ref T) (r : Rep c G' y d) :
    ∃ G'', Ext G' H' G'' H'' ∧ vAny c G'' H'' x (.tup [.int (i : Nat), d]) := by
  subst e ex
  refine ⟨G', Ext.updH s2 hT, .inr ⟨T, _, _, rfl, SqT.of upd_same, rfl, .cons (.int _) (.one r)⟩⟩
theorem ite_ok {K : PySem.W.Frag} (hK : c.K = K) {a : Addr} {us : List V} {ds : List D} (r : RepL c G us ds) (hl : us.length ≤ sizeLine) (hr : LsG K G a us) : ItOk c vAny (Ite K a) (enumD 0 ds) G where
  len := by rw [enumD_len, ← r.length]; exact hl
  go := fun i H' hi s => by
    rw [enumD_len] at hi
    obtain ⟨v, h1, _⟩ := r.get (List.getElem?_eq_getElem hi)
    exact ⟨us, v, (hr.mono s).sq, h1⟩
  yld := fun i G' H' x H'' hi s1 s2 ⟨T, y, ex, hT, e, h⟩ => by
    have hx := h us (hr.mono (s1.trans s2)).sq
    obtain ⟨d, h1, h2⟩ := r.getV hx
    obtain ⟨G'', q1, q2⟩ := enum_yld s2 hT e ex (h2.mono s1)
    exact ⟨G'', _, by rw [enumD_get 0 i ds d h1, Nat.zero_add], q1, q2⟩
  stop := fun H' s => ⟨us, (hr.mono s).sq, by rw [enumD_len, r.length]; exact Nat.le_refl _⟩
theorem iet_ok {K : PySem.W.Frag} (hK : c.K = K) {a : Addr} {us : List V} {ds : List D} (r : RepL c G us ds) (hl : us.length ≤ sizeLine) (hr : TupAt K G a us) : ItOk c vAny (Iet K a) (enumD 0 ds) G where
  len := by rw [enumD_len, ← r.length]; exact hl
  go := fun i H' hi s => by
    rw [enumD_len] at hi
    obtain ⟨v, h1, _⟩ := r.get (List.getElem?_eq_getElem hi)
    exact ⟨us, v, (hr.mono s).sq, h1⟩
  yld := fun i G' H' x H'' hi s1 s2 ⟨T, y, ex, hT, e, h⟩ => by
    have hx := h us ((hr.mono (s1.trans s2)).sq)
    obtain ⟨d, h1, h2⟩ := r.getV hx
    obtain ⟨G'', q1, q2⟩ := enum_yld s2 hT e ex (h2.mono s1)
    exact ⟨G'', _, by rw [enumD_get 0 i ds d h1, Nat.zero_add], q1, q2⟩
  stop := fun H' s => ⟨us, (hr.mono s).sq, by rw [enumD_len, r.length]; exact Nat.le_refl _⟩
theorem pi_enumM {e : Expr} {f : M D} {p pos tpos : Pos} {elts : List Expr} {kk : Nat} (hK : c.K = X.K) (hm : X.mg "enumerate" = none) (h : PE X e (tM c B W f)) (hg : Gl X "enumerate" := by rfl) (hs : starEach [e] X.env = [(false, eval e X.env)] := by rfl) :
    PI X (.Tuple elts kk tpos) (.Call (.Name "enumerate" p) [e] [] pos) (tI c B W vAny (mEnum f)) :=
  pi_imp (pi_enumS hg hm (pa_len (pd_cons h pd_nil (by rw [hs]; rfl))) hs) fun σ H R ⟨G, A, ρ, Rl, a⟩ => by
    refine ⟨G, A, ρ, Rl, ?_⟩
    have a' : After c B W G A H σ ((seqM [f]) ρ) fun ds _ G' H' => ∀ vs, RepL c G' vs ds → (∀ v ∈ vs, LenOk v H') → ∃ a xs, vs = [V.ref a] ∧ ((SqL X.K H' a xs ∧ R (Ite X.K a) H') ∨ (SqT X.K H' a xs ∧ R (Iet X.K a) H')) := by
      have b := (show After c B W G A H σ ((f.bind _) ρ) _ from a).split
      show After c B W G A H σ ((f.bind fun d => M.pure [d]) ρ) _
      unfold M.bind
      cases hf : f ρ with
      | stuck => rw [hf] at b; exact b
      | exc x r => rw [hf] at b; exact b
      | ok d ρ1 =>
        rw [hf] at b
        intro G' H' s k R1 vs rs lo
        have q := b G' H' s k R1
        have q2 := q.split
        obtain ⟨ds, ed, q3⟩ := q.liftB
        have q4 := After.ok q3 R1
        obtain ⟨v, rfl, r⟩ := repL1 rs
        obtain ⟨p, us, rfl, rl, hl, hr | hr⟩ := rep_seq R1.same r ed (lo v (by simp))
        · exact ⟨p, us, rfl, .inl ⟨by rw [← hK]; exact (hr.mono R1.same).sq, q4 _ (ite_ok hK rl hl (by rw [← hK]; exact hr))⟩⟩
        · exact ⟨p, us, rfl, .inr ⟨by rw [← hK]; exact (hr.mono R1.same).sq, q4 _ (iet_ok hK rl hl (by rw [← hK]; exact hr))⟩⟩
    exact a'
def rangeD (lo : Int) (n : Nat) : List D := (List.range n).map fun (k : Nat) => D.int (lo + (k : Int))
theorem rangeD_len (lo : Int) (n : Nat) : (rangeD lo n).length = n := by unfold rangeD; rw [List.length_map, List.length_range]
def mRange1 (f : M D) : M (List D) := f.bind fun d => match d with
  | .int j => if j ≤ 16777216 ∧ -16777216 ≤ j then M.pure (rangeD 0 j.toNat) else M.stuck
  | _ => M.stuck
theorem itr_ok {lo : Int} {n : Nat} (hn : n ≤ 16777216) : ItOk c vRep (Itr lo n) (rangeD lo n) G where
  len := by rw [rangeD_len, sl]; exact hn
  go := fun i H' hi s => by rw [rangeD_len] at hi; exact hi
  yld := fun i G' H' x H'' hi s1 s2 ⟨e, h⟩ => by
    rw [rangeD_len] at hi
    subst e h
    refine ⟨G', .int (lo + (i : Int)), ?_, Ext.refl s2, .int _⟩
    unfold rangeD
    rw [List.getElem?_map, List.getElem?_range hi]
    rfl
  stop := fun H' s => by show n ≤ (rangeD lo n).length; rw [rangeD_len]; exact Nat.le_refl _
theorem pi_range1M {tg e : Expr} {f : M D} {p pos : Pos} (hm : X.mg "range" = none) (h : PE X e (tM c B W f)) (hg : Gl X "range" := by rfl) (hs : starEach [e] X.env = [(false, eval e X.env)] := by rfl) :
    PI X tg (.Call (.Name "range" p) [e] [] pos) (tI c B W vRep (mRange1 f)) :=
  pi_imp (pi_range1 hg hm (pd_cons h pd_nil (by rw [hs]; rfl)) hs) fun σ H R ⟨G, A, ρ, Rl, a⟩ => by
    refine ⟨G, A, ρ, Rl, ?_⟩
    have b := (show After c B W G A H σ ((f.bind _) ρ) _ from a).split
    show After c B W G A H σ ((f.bind fun d => M.pure [d]) ρ) _
    unfold M.bind
    cases hf : f ρ with
    | stuck => rw [hf] at b; exact b
    | exc x r => rw [hf] at b; exact b
    | ok d ρ1 =>
      rw [hf] at b
      intro G' H' s k R1 vs rs
      have q := b G' H' s k R1
      cases d <;> first | exact q.elim | skip
      rename_i j
      obtain ⟨v, rfl, r⟩ := repL1 rs
      have q : After c B W G' A H' σ ((if j ≤ 16777216 ∧ -16777216 ≤ j then M.pure (rangeD 0 j.toNat) else M.stuck) ρ1) _ := q
      split at q
      · rename_i hj
        exact ⟨j, by rw [rep_int r], by omega, by omega, After.ok q R1 _ (itr_ok (by omega))⟩
      · exact q.elim

def loopM (g : TgM) (body : MS) : List D → MS
  | [], ρ => .next ρ
  | d :: ds, ρ => match g d ρ with
    | none => .stuck
    | some ρ1 => match body ρ1 with
      | .next ρ2 => loopM g body ds ρ2
      | .cont ρ2 => loopM g body ds ρ2
      | .brk ρ2 => .next ρ2
      | .stuck => .stuck
      | .ret d ρ2 => .ret d ρ2
      | .exc x ρ2 => .exc x ρ2
def mFor (fi : M (List D)) (g : TgM) (body : MS) : MS := mDo fi fun ds => loopM g body ds
theorem ps_forM {tg iter : Expr} {body : List Stmt} {fi : M (List D)} {P : VP} {ts : List Nat} {g : TgM} {m : MS} {pos : Pos} (hp : PassesOwn (model X.prog X.w) X.A X.env X.xe) (hc : X.calm = true) (hi : PI X tg iter (tI c B W P fi)) (hg : PG X tg (tG c B P ts g)) (hb : PSs X body (tS c B W m))
    (hs : ∀ x, foldedSetIterable iter X.env x = pure x := by intro _; rfl) : PS X (.For tg iter body [] pos) (tS c B W (mFor fi g m)) :=
  ps_imp (ps_for hp hc hi hg hb hs) fun Z σ H ⟨G, A, ρ, R, a⟩ => by
    refine ⟨G, A, ρ, R, (a.split R).imp fun ds ρ1 G1 H1 _ _ R1 a1 J ok => ?_⟩
    refine ⟨fun i n σ2 H2 => n = ds.length - i ∧ i ≤ ds.length ∧ ∃ G2 A2 ρ2, Same G1 G2 ∧ Rel c B G2 A2 H2 σ2 ρ2 ∧ AfterS c B W G2 A2 H2 (loopM g m (ds.drop i) ρ2) Z, ⟨_, rfl, Nat.zero_le _, G1, A, ρ1, Same.refl _, R1, a1⟩, ?_⟩
    rintro i n σ2 H2 ⟨rfl, hi, G2, A2, ρ2, s2, R2, a2⟩
    by_cases hlt : i < ds.length
    · refine .inr ⟨ok.go i H2 hlt (s2.trans R2.same), fun σ3 H3 => ∃ G3 A3 ρ3, Same G1 G3 ∧ Rel c B G3 A3 H3 σ3 ρ3 ∧ AfterS c B W G3 A3 H3 (loopM g m (ds.drop (i + 1)) ρ3) Z, fun σ3 H3 q => ⟨_, by omega, rfl, hlt, q⟩, fun x H3 hy => ?_⟩
      obtain ⟨G3, d, e1, x3, pr⟩ := ok.yld i G2 H2 x H3 hlt s2 R2.same hy
      have R3 := R2.ext x3
      have a3 := AfterS.of R2.own_there (Stp.same x3.gg x3.keep) a2
      have ed : ds.drop i = d :: ds.drop (i + 1) := by
        rw [List.drop_eq_getElem_cons hlt]
        congr 1
        rw [List.getElem?_eq_getElem hlt] at e1
        exact Option.some.inj e1
      rw [ed] at a3
      unfold loopM at a3
      cases eg : g d ρ2 with
      | none => rw [eg] at a3; exact a3.elim
      | some ρ3 =>
        rw [eg] at a3
        have a3 : AfterS c B W G3 A2 H3 (match m ρ3 with
          | .next ρ2 => loopM g m (ds.drop (i + 1)) ρ2
          | .cont ρ2 => loopM g m (ds.drop (i + 1)) ρ2
          | .brk ρ2 => .next ρ2
          | .stuck => .stuck
          | .ret d ρ2 => .ret d ρ2
          | .exc x ρ2 => .exc x ρ2) Z := a3
        refine ⟨G3, A2, ρ2, d, ρ3, R3, pr, eg, fun σ3 R4 _ => ⟨G3, A2, ρ3, R4, ?_⟩⟩
        have sG : Same G1 G3 := s2.trans x3.gg
        cases em : m ρ3 with
        | stuck => rw [em] at a3; exact a3.elim
        | next ρ4 => rw [em] at a3; exact fun G5 A5 H5 σ5 s5 R5 => ⟨G5, A5, ρ4, sG.trans s5.gg, R5, AfterS.of R4.own_there s5 a3⟩
        | cont ρ4 => rw [em] at a3; exact fun G5 A5 H5 σ5 s5 R5 => ⟨G5, A5, ρ4, sG.trans s5.gg, R5, AfterS.of R4.own_there s5 a3⟩
        | brk ρ4 => rw [em] at a3; exact fun G5 A5 H5 σ5 s5 R5 => a3 G5 A5 H5 σ5 s5 R5
        | ret d' ρ4 => rw [em] at a3; exact a3
        | exc x ρ4 => rw [em] at a3; exact a3
    · have ei : i = ds.length := by omega
      subst ei
      rw [List.drop_length] at a2
      exact .inl ⟨ok.stop H2 (s2.trans R2.same), a2.nx R2⟩
def whileM (t : M Bool) (body : MS) : Nat → MS
  | 0, _ => .stuck
  | n + 1, ρ => match t ρ with
    | .stuck => .stuck
    | .exc x ρ1 => .exc x ρ1
    | .ok b ρ1 => if b = true then (match body ρ1 with
      | .next ρ2 => whileM t body n ρ2
      | .cont ρ2 => whileM t body n ρ2
      | .brk ρ2 => .next ρ2
      | .stuck => .stuck
      | .ret d ρ2 => .ret d ρ2
      | .exc x ρ2 => .exc x ρ2) else .next ρ1
end
end Fx
set_option Elab.async false
set_option linter.all false
set_option maxRecDepth 100000
set_option maxHeartbeats 4000000
namespace Fx
open PySem L2
def wipeC (ρ : Cells) : List Nat → Cells
  | [] => ρ
  | v :: vs => (wipeC ρ vs).set v .no
def cellOr : Option Cell → Cell
  | some x => x
  | none => .no
def unwipe (ρ0 ρ : Cells) : List Nat → Cells
  | [] => ρ
  | v :: vs => (unwipe ρ0 ρ vs).set v (cellOr ρ0[v]?)
def isOwn : Option Cell → Bool
  | some (.own _) => true
  | _ => false
def lcM (g : TgM) (tt : M Bool) (fe : M D) (vs : List Nat) : List D → Cells → Option (List D × Cells)
  | [], ρ => some ([], ρ)
  | d :: ds, ρ => match g d (wipeC ρ vs) with
    | none => none
    | some ρ1 => match tt ρ1 with
      | .ok b ρ2 => if b = true then (match fe ρ2 with
        | .ok e ρ3 => (lcM g tt fe vs ds ρ3).map fun r => (e :: r.1, r.2)
        | _ => none) else lcM g tt fe vs ds ρ2
      | _ => none
def mLc (fi : M (List D)) (g : TgM) (tt : M Bool) (fe : M D) (vs : List Nat) : M D := fi.bind fun ds => fun ρ => if vs.all (fun v => !isOwn ρ[v]?) = true then (match lcM g tt fe vs ds ρ with
  | some (es, ρ') => .ok (.lst es) (unwipe ρ ρ' vs)
  | none => .stuck) else .stuck
theorem wipeC_len (ρ : Cells) : ∀ vs : List Nat, (wipeC ρ vs).length = ρ.length
  | [] => rfl
  | v :: vs => by unfold wipeC; rw [List.length_set, wipeC_len]
theorem unwipe_len (ρ0 ρ : Cells) : ∀ vs : List Nat, (unwipe ρ0 ρ vs).length = ρ.length
  | [] => rfl
  | v :: vs => by unfold unwipe; rw [List.length_set, unwipe_len]
theorem wipeC_out {ρ : Cells} {i : Nat} : ∀ {vs : List Nat}, i ∉ vs → (wipeC ρ vs)[i]? = ρ[i]?
  | [], _ => rfl
  | v :: vs, h => by
    simp only [List.mem_cons, not_or] at h
    unfold wipeC
    rw [List.getElem?_set_ne (Ne.symm h.1), wipeC_out h.2]
theorem wipeC_in {ρ : Cells} {i : Nat} : ∀ {vs : List Nat}, i ∈ vs → (wipeC ρ vs)[i]? = none ∨ (wipeC ρ vs)[i]? = some .no
  | v :: vs, h => by
    unfold wipeC
    by_cases z : v = i
    · subst z
      by_cases hl : v < (wipeC ρ vs).length
      · exact .inr (List.getElem?_set_self hl)
      · exact .inl (List.getElem?_eq_none (by rw [List.length_set]; omega))
    · rw [List.getElem?_set_ne z]
      rcases List.mem_cons.mp h with e | e
      · exact absurd e.symm z
      · exact wipeC_in e
theorem wipe_out {σ : L2.St} {i : Nat} : ∀ {vs : List Nat}, i ∉ vs → (wipe σ vs)[i]? = σ[i]?
  | [], _ => rfl
  | v :: vs, h => by
    simp only [List.mem_cons, not_or] at h
    unfold wipe
    rw [List.getElem?_set_ne (Ne.symm h.1), wipe_out h.2]
theorem wipe_in {σ : L2.St} {i : Nat} (hl : i < σ.length) : ∀ {vs : List Nat}, i ∈ vs → (wipe σ vs)[i]? = some none
  | v :: vs, h => by
    unfold wipe
    by_cases z : v = i
    · subst z; exact List.getElem?_set_self (by rw [wipe_length]; exact hl)
    · rw [List.getElem?_set_ne z]
      rcases List.mem_cons.mp h with e | e
      · exact absurd e.symm z
      · exact wipe_in hl e
theorem wipe_only {σ σ' : L2.St} {ts vs : List Nat} (h : Only ts (wipe σ vs) σ') (ht : ∀ t ∈ ts, t ∈ vs) : wipe σ' vs = wipe σ vs := by
  have hl : σ'.length = σ.length := h.1.trans (wipe_length σ vs)
  apply List.ext_getElem?
  intro i
  by_cases hi : i ∈ vs
  · by_cases hlt : i < σ.length
    · rw [wipe_in hlt hi, wipe_in (by rw [hl]; exact hlt) hi]
    · rw [List.getElem?_eq_none (by rw [wipe_length, hl]; omega), List.getElem?_eq_none (by rw [wipe_length]; omega)]
  · rw [wipe_out hi, h.2 i fun z => hi (ht i z)]
theorem unwipe_out {ρ0 ρ : Cells} {i : Nat} : ∀ {vs : List Nat}, i ∉ vs → (unwipe ρ0 ρ vs)[i]? = ρ[i]?
  | [], _ => rfl
  | v :: vs, h => by
    simp only [List.mem_cons, not_or] at h
    unfold unwipe
    rw [List.getElem?_set_ne (Ne.symm h.1), unwipe_out h.2]
theorem unwipe_in {ρ0 ρ : Cells} {i : Nat} (hl : i < ρ.length) : ∀ {vs : List Nat}, i ∈ vs → (unwipe ρ0 ρ vs)[i]? = some (cellOr ρ0[i]?)
  | v :: vs, h => by
    unfold unwipe
    by_cases z : v = i
    · subst z; exact List.getElem?_set_self (by rw [unwipe_len]; exact hl)
    · rw [List.getElem?_set_ne z]
      rcases List.mem_cons.mp h with e | e
      · exact absurd e.symm z
      · exact unwipe_in hl e
section
variable {c : Cf} {B : List (Nat × Addr)} {W : WX} {X : Cx} {G H : Hp} {A : Addr → Prop} {σ : L2.St} {ρ : Cells} {Z : Ends}
theorem Rel.wipe (R : Rel c B G A H σ ρ) {vs : List Nat} (hB : B.all (fun q => !vs.contains q.1) = true) : Rel c B G A H (wipe σ vs) (wipeC ρ vs) := by
  have nin : ∀ (i : Nat) (x : Cell), (wipeC ρ vs)[i]? = some x → x ≠ .no → i ∉ vs ∧ ρ[i]? = some x := fun i x h hx => by
    by_cases hi : i ∈ vs
    · rcases wipeC_in (ρ := ρ) hi with e | e
      · rw [e] at h; cases h
      · rw [e] at h; cases h; exact absurd rfl hx
    · exact ⟨hi, by rw [wipeC_out hi] at h; exact h⟩
  refine ⟨R.same, by rw [wipe_length, wipeC_len]; exact R.len, R.ownA, fun i d h => ?_, fun i d h => ?_, fun i j d e p hij h1 h2 h3 h4 => ?_, fun q hq => ?_⟩
  · obtain ⟨hi, h'⟩ := nin i _ h (fun z => by cases z)
    obtain ⟨v, h1, h2⟩ := R.dat i d h'
    exact ⟨v, by rw [wipe_out hi]; exact h1, h2⟩
  · obtain ⟨hi, h'⟩ := nin i _ h (fun z => by cases z)
    obtain ⟨v, h1, h2⟩ := R.own i d h'
    exact ⟨v, by rw [wipe_out hi]; exact h1, h2⟩
  · obtain ⟨hi, h1'⟩ := nin i _ h1 (fun z => by cases z)
    obtain ⟨hj, h2'⟩ := nin j _ h2 (fun z => by cases z)
    rw [wipe_out hi] at h3
    rw [wipe_out hj] at h4
    exact R.dis i j d e p hij h1' h2' h3 h4
  · obtain ⟨h1, h2, x, h3⟩ := R.byr q hq
    have hi : q.1 ∉ vs := by
      have := List.all_eq_true.mp hB q hq
      simpa using this
    exact ⟨by rw [wipe_out hi]; exact h1, h2, x, by rw [wipeC_out hi]; exact h3⟩
theorem Rel.unwipe (R : Rel c B G A H σ ρ) {G' H' : Hp} {ρ' : Cells} {vs : List Nat} (s : Same G G') (hv : vs.all (fun v => !isOwn ρ[v]?) = true) (hB : B.all (fun q => !vs.contains q.1) = true) (R' : Rel c B G' A H' (L2.wipe σ vs) (wipeC ρ' vs)) : Rel c B G' A H' σ (Fx.unwipe ρ ρ' vs) := by
  have hl : ρ'.length = σ.length := by
    have := R'.len
    rw [wipe_length, wipeC_len] at this
    exact this.symm
  have get : ∀ (i : Nat) (x : Cell), (Fx.unwipe ρ ρ' vs)[i]? = some x → x ≠ .no → (i ∈ vs ∧ ρ[i]? = some x ∧ ∀ d, x ≠ .own d) ∨ (i ∉ vs ∧ (wipeC ρ' vs)[i]? = some x) := fun i x h hx => by
    by_cases hi : i ∈ vs
    · have hlt : i < ρ'.length := by
        have := (List.getElem?_eq_some_iff.mp h).1
        rwa [unwipe_len] at this
      rw [unwipe_in hlt hi] at h
      refine .inl ⟨hi, ?_, fun d z => ?_⟩
      · cases e : ρ[i]? with
        | none => rw [e] at h; cases h; exact absurd rfl hx
        | some y => rw [e] at h; exact h
      · subst z
        have := List.all_eq_true.mp hv i hi
        cases e : ρ[i]? with
        | none => rw [e] at h; cases h
        | some y =>
          rw [e] at h this
          cases h
          cases this
    · exact .inr ⟨hi, by rw [wipeC_out hi]; rw [unwipe_out hi] at h; exact h⟩
  refine ⟨R'.same, by rw [unwipe_len, hl], R'.ownA, fun i d h => ?_, fun i d h => ?_, fun i j d e p hij h1 h2 h3 h4 => ?_, fun q hq => ?_⟩
  · rcases get i _ h (fun z => by cases z) with ⟨hi, h', _⟩ | ⟨hi, h'⟩
    · obtain ⟨v, h1, h2⟩ := R.dat i d h'
      exact ⟨v, h1, h2.mono s⟩
    · obtain ⟨v, h1, h2⟩ := R'.dat i d h'
      rw [wipe_out hi] at h1
      exact ⟨v, h1, h2⟩
  · rcases get i _ h (fun z => by cases z) with ⟨hi, h', n⟩ | ⟨hi, h'⟩
    · exact absurd rfl (n d)
    · obtain ⟨v, h1, h2⟩ := R'.own i d h'
      rw [wipe_out hi] at h1
      exact ⟨v, h1, h2⟩
  · rcases get i _ h1 (fun z => by cases z) with ⟨hi, h', n⟩ | ⟨hi, h1'⟩
    · exact absurd rfl (n d)
    · rcases get j _ h2 (fun z => by cases z) with ⟨hj, h', n⟩ | ⟨hj, h2'⟩
      · exact absurd rfl (n e)
      · exact R'.dis i j d e p hij h1' h2' (by rw [wipe_out hi]; exact h3) (by rw [wipe_out hj]; exact h4)
  · have hi : q.1 ∉ vs := by
      have := List.all_eq_true.mp hB q hq
      simpa using this
    obtain ⟨h1, h2, x, h3⟩ := R'.byr q hq
    rw [wipe_out hi] at h1
    rw [wipeC_out hi] at h3
    exact ⟨h1, h2, x, by rw [unwipe_out hi]; exact h3⟩
/-- a cell that nobody speaks of is changed, or forgotten -/
theorem Rel.other (R : Rel c B G A H σ ρ) {H' : Hp} {p : Addr} (gp : G p = none) (na : ¬ A p) (k : ∀ b, b ≠ p → H' b = H b) : Rel c B G A H' σ ρ := by
  refine ⟨fun b o e => ?_, R.len, fun b h => ?_, R.dat, fun i d h => ?_, R.dis, R.byr⟩
  · rw [k b (ne_of_none e gp)]; exact R.same b o e
  · obtain ⟨h1, o, h2⟩ := R.ownA b h
    exact ⟨h1, o, by rw [k b fun z => na (by rw [← z]; exact h)]; exact h2⟩
  · obtain ⟨q, h1, h2, h3⟩ := R.own i d h
    exact ⟨q, h1, h2, by rw [k q fun z => na (by rw [← z]; exact h2)]; exact h3⟩
abbrev W0 : WX := fun _ _ _ _ => False
/-- the heart of a comprehension -/
theorem lc_read {fi : M (List D)} {P : VP} {ts vs : List Nat} {g : TgM} {tt : M Bool} {fe : M D} {Q : VK} (ht : ts.all (fun t => vs.contains t) = true) (hB : B.all (fun q => !vs.contains q.1) = true) (h : tF c B W (mLc fi g tt fe vs) σ H Q) :
    tLc (tI c B W P fi) (tG c B P ts g) (tT c B W0 tt) (tM c B W0 fe) vs σ H Q := by
  have ht' : ∀ t ∈ ts, t ∈ vs := fun t h => by
    have := List.all_eq_true.mp ht t h
    simpa using this
  obtain ⟨G, A, ρ, R, a⟩ := h
  refine ⟨G, A, ρ, R, a.split.imp fun ds ρ1 G1 H1 _ _ R1 a1 J okJ D hD => ?_⟩
  cases hv : vs.all (fun v => !isOwn ρ1[v]?) with
  | false => 
    have a1 : After c B W G1 A H1 σ (if vs.all (fun v => !isOwn ρ1[v]?) = true then (match lcM g tt fe vs ds ρ1 with | some (es, ρ') => Out.ok (Fx.D.lst es) (Fx.unwipe ρ1 ρ' vs) | none => .stuck) else .stuck) _ := a1
    rw [if_neg (by rw [hv]; exact Bool.false_ne_true)] at a1
    exact a1.elim
  | true =>
    have a1 : After c B W G1 A H1 σ (if vs.all (fun v => !isOwn ρ1[v]?) = true then (match lcM g tt fe vs ds ρ1 with | some (es, ρ') => Out.ok (Fx.D.lst es) (Fx.unwipe ρ1 ρ' vs) | none => .stuck) else .stuck) _ := a1
    rw [if_pos hv] at a1
    cases hl : lcM g tt fe vs ds ρ1 with
    | none => rw [hl] at a1; exact a1.elim
    | some r =>
      obtain ⟨es, ρe⟩ := r
      rw [hl] at a1
      have gD : G1 D = none := R1.same.free hD
      have nD : ¬ A D := fun z => by obtain ⟨_, o, q⟩ := R1.ownA D z; rw [hD] at q; cases q
      refine ⟨fun i n H2 => n = ds.length - i ∧ i ≤ ds.length ∧ ∃ G2 ρ2 acc es1 es2, Same G1 G2 ∧ G2 D = none ∧ Keep A G1 H1 G2 H2 ∧ Rel c B G2 A H2 (L2.wipe σ vs) (wipeC ρ2 vs) ∧ H2 D = some (.lst acc) ∧ RepL c G2 acc es1 ∧ acc.length ≤ i ∧
        lcM g tt fe vs (ds.drop i) ρ2 = some (es2, ρe) ∧ es1 ++ es2 = es, ⟨_, rfl, Nat.zero_le _, G1, ρ1, [], [], es, Same.refl _, gD, fun b o e n => ⟨by rw [upd_ne (ne_of_none e hD)]; exact e, rfl⟩, (R1.other gD nD fun b hb => upd_ne hb).wipe hB, upd_same, .nil, Nat.le_refl _, hl, rfl⟩, ?_⟩
      rintro i n H2 ⟨rfl, hi, G2, ρ2, acc, es1, es2, s2, g2, k2, R2, hacc, racc, hlen, hlc, hes⟩
      by_cases hlt : i < ds.length
      · refine .inr ⟨okJ.go i H2 hlt (s2.trans R2.same), fun H' => ∃ G2 ρ2 acc es1 es2, Same G1 G2 ∧ G2 D = none ∧ Keep A G1 H1 G2 H' ∧ Rel c B G2 A H' (L2.wipe σ vs) (wipeC ρ2 vs) ∧ H' D = some (.lst acc) ∧ RepL c G2 acc es1 ∧ acc.length ≤ i + 1 ∧
          lcM g tt fe vs (ds.drop (i + 1)) ρ2 = some (es2, ρe) ∧ es1 ++ es2 = es, fun H' q => ⟨_, by omega, rfl, hlt, q⟩, fun x H3 hy => ?_⟩
        obtain ⟨G3, d, e1, x3, pr⟩ := okJ.yld i G2 H2 x H3 hlt s2 R2.same hy
        have R3 := R2.ext x3
        have hacc3 := x3.hh D _ hacc
        have g3 : G3 D = none := (x3.new D _ hacc).trans g2
        have k3 : Keep A G1 H1 G3 H3 := k2.trans x3.keep
        have ed : ds.drop i = d :: ds.drop (i + 1) := by
          rw [List.drop_eq_getElem_cons hlt]
          congr 1
          rw [List.getElem?_eq_getElem hlt] at e1
          exact Option.some.inj e1
        rw [ed] at hlc
        unfold lcM at hlc
        cases eg : g d (wipeC ρ2 vs) with
        | none => rw [eg] at hlc; cases hlc
        | some ρ3 =>
          rw [eg] at hlc
          refine ⟨G3, A, _, d, ρ3, R3, pr, eg, fun σ4 R4 o4 => ⟨wipe_only o4 ht', G3, A, ρ3, R4, ?_⟩⟩
          have ew := wipe_only o4 ht'
          cases et : tt ρ3 with
          | stuck => simp only [et] at hlc; cases hlc
          | exc x r => simp only [et] at hlc; cases hlc
          | ok b ρ4 =>
            simp only [et] at hlc
            intro G4 H4 s4 k4 R5
            have hacc4 := k4 D _ hacc3 nD
            refine ite_prop (fun eb => ?_) (fun eb => ?_)
            · rw [if_pos eb] at hlc
              refine ⟨G4, A, ρ4, R5, ?_⟩
              cases ef : fe ρ4 with
              | stuck => simp only [ef] at hlc; cases hlc
              | exc x r => simp only [ef] at hlc; cases hlc
              | ok e ρ5 =>
                simp only [ef] at hlc
                intro G5 H5 s5 k5 R6 v rv
                have hacc5 := k5 D _ hacc4.1 nD
                cases er : lcM g tt fe vs (ds.drop (i + 1)) ρ5 with
                | none => rw [er] at hlc; cases hlc
                | some r =>
                  obtain ⟨es3, ρe'⟩ := r
                  rw [er] at hlc
                  have hlc' : some (e :: es3, ρe') = some (es2, ρe) := hlc
                  cases hlc'
                  have g5 : G5 D = none := hacc5.2.trans (hacc4.2.trans g3)
                  have hsl := okJ.len
                  refine ⟨acc, hacc5.1, by omega, G5, ρ5, acc ++ [v], es1 ++ [e], es3, s2.trans (x3.gg.trans (s4.trans s5)), g5, ?_, ?_, upd_same, (racc.mono (x3.gg.trans (s4.trans s5))).append (.one rv), by rw [List.length_append]; simp; exact hlen, er, by rw [List.append_assoc]; exact hes⟩
                  · intro b o hb hn
                    have q := (k3.trans (k4.trans k5)) b o hb hn
                    exact ⟨by rw [upd_ne (ne_of_none hb hD)]; exact q.1, q.2⟩
                  · rw [← ew]
                    exact (R6.other g5 nD fun b hb => upd_ne hb).wipe hB
            · rw [if_neg (by rw [eb]; exact Bool.false_ne_true)] at hlc
              refine ⟨G4, ρ4, acc, es1, es2, s2.trans (x3.gg.trans s4), hacc4.2.trans g3, k3.trans k4, ?_, hacc4.1, racc.mono (x3.gg.trans s4), by omega, hlc, hes⟩
              rw [← ew]
              exact R5.wipe hB
      · have ei : i = ds.length := by omega
        subst ei
        rw [List.drop_length] at hlc
        cases hlc
        rw [List.append_nil] at hes
        subst hes
        have R3 : Rel c B G2 A (fun b => if b = D then none else H2 b) (L2.wipe σ vs) (wipeC ρe vs) := R2.other g2 nD fun b hb => if_neg hb
        have R4 := R1.unwipe s2 hv hB R3
        refine .inl ⟨okJ.stop H2 (s2.trans R2.same), a1 G2 _ s2 (fun b o hb hn => ?_) R4 D H2 (if_pos rfl) (fun b o hb => ?_) ⟨acc, hacc, racc⟩⟩
        · have q := k2 b o hb hn
          exact ⟨by show (if b = D then none else H2 b) = some o; rw [if_neg (ne_of_none hb hD)]; exact q.1, q.2⟩
        · have hb : (if b = D then none else H2 b) = some o := hb
          by_cases z : b = D
          · rw [if_pos z] at hb; cases hb
          · rw [if_neg z] at hb; exact hb
theorem pts_nilM : PTs X [] (tT c B W (M.pure true)) := ⟨fun pins s σ H Q I ⟨G, A, ρ, R, a⟩ => pts_nil.run pins s σ H Q I (After.ok a R)⟩
theorem pts_oneM {t : Expr} {f : M Bool} (h : PT X t (tT c B W f)) : PTs X [t] (tT c B W f) := pts_one h
theorem pf_lc {elt tg iter : Expr} {ifs : List Expr} {scope : Scope} (own : List (Str × Nat)) {pos : Pos} {fi : M (List D)} {P : VP} {ts : List Nat} {g : TgM} {tt : M Bool} {fe : M D} (hc : X.calm = true) (hN : X.N.Nodup) (hi : PI X tg iter (tI c B W P fi)) (ok : BlkOk X.N X.env.scope scope own)
    (ht : ts.all (fun t => (own.map (·.2)).contains t) = true) (hB : B.all (fun q => !(own.map (·.2)).contains q.1) = true)
    (hg : ∀ (s : Shared) (H : Hp) (C : Addr) (cl : List (Str × Addr)) (fp : List Addr), PG (X.blk s H scope (compEnvC scope cl C X.env) fp) tg (tG c B P ts g)) (htt : ∀ (s : Shared) (H : Hp) (C : Addr) (cl : List (Str × Addr)) (fp : List Addr), PTs (X.blk s H scope (compEnvC scope cl C X.env) fp) ifs (tT c B W0 tt))
    (he : ∀ (s : Shared) (H : Hp) (C : Addr) (cl : List (Str × Addr)) (fp : List Addr), PE (X.blk s H scope (compEnvC scope cl C X.env) fp) elt (tM c B W0 fe)) (hs : ∀ x, foldedSetIterable iter X.env x = pure x := by intro _; rfl) :
    PE X (.ListComp elt [⟨tg, iter, ifs, 0⟩] scope pos) (tF c B W (mLc fi g tt fe (own.map (·.2)))) :=
  pe_imp (pe_lc hc hN hi ok hg htt he hs) fun σ H Q h => lc_read ht hB h
end
end Fx
set_option Elab.async false
set_option linter.all false
set_option maxRecDepth 100000
set_option maxHeartbeats 4000000
namespace Fx
open PySem L2
inductive FOut where
  | stuck | ret (d : D) (outs : List D) | exc (x : Exc) (outs : List D)
abbrev Fn := List D → FOut
/-- the arguments as they lie; bs: the places by reference -/
structure ArgsOk (c : Cf) (bs : List Nat) (G : Hp) (A : Addr → Prop) (H : Hp) (vs : List V) (ds : List D) : Prop where
  same : Same G H
  ownA : ∀ b, A b → G b = none ∧ ∃ o, H b = some o
  len : vs.length = ds.length
  dat : ∀ (i : Nat) (d : D), ds[i]? = some d → i ∉ bs → ∃ v, vs[i]? = some v ∧ Rep c G v d
  own : ∀ (i : Nat) (d : D), ds[i]? = some d → i ∈ bs → ∃ p, vs[i]? = some (.ref p) ∧ A p ∧ Own c G (H p) d
  dis : ∀ (i j : Nat) (p : Addr), i ≠ j → i ∈ bs → j ∈ bs → vs[i]? = some (.ref p) → vs[j]? = some (.ref p) → False
def Outs (c : Cf) (bs : List Nat) (G H : Hp) (vs : List V) (outs : List D) : Prop := outs.length = bs.length ∧ ∀ (k i : Nat) (d : D), bs[k]? = some i → outs[k]? = some d → ∃ p, vs[i]? = some (.ref p) ∧ Own c G (H p) d
/-- behind a call -/
structure Ret (c : Cf) (bs : List Nat) (G : Hp) (A : Addr → Prop) (H : Hp) (vs : List V) (outs : List D) (G' H' : Hp) : Prop where
  gg : Same G G'
  kp : Keep A G H G' H'
  gh : Same G' H'
  ownA : ∀ b, A b → G' b = none ∧ ∃ o, H' b = some o
  outs : Outs c bs G' H' vs outs
def AfterF (c : Cf) (bs : List Nat) (G : Hp) (A : Addr → Prop) (H : Hp) (vs : List V) (o : FOut) (Q : VK) (E : XK) : Prop := match o with
  | .stuck => False
  | .ret d outs => ∀ G' H' v, Ret c bs G A H vs outs G' H' → Rep c G' v d → Q v H'
  | .exc x outs => ∀ G' H' dd, Ret c bs G A H vs outs G' H' → ExcAt c G' x dd → E (.ref (c.exc x.c)) (some dd) H'
/-- a def keeps its meaning F -/
def spM (c : Cf) (bs : List Nat) (n : Nat) (F : Fn) : Sp := fun vs H Q E => ∃ G A ds, ds.length = n ∧ ArgsOk c bs G A H vs ds ∧ AfterF c bs G A H vs (F ds) Q E

def ownPos : Nat → List Opn → List Nat
  | _, [] => []
  | n, .dat _ :: os => ownPos (n + 1) os
  | n, .own _ :: os => n :: ownPos (n + 1) os
def ownSlots : List Opn → List Nat
  | [] => []
  | .dat _ :: os => ownSlots os
  | .own k :: os => k :: ownSlots os
def rdA : List Opn → List D → Cells → Option (List D)
  | [], [], _ => some []
  | .dat _ :: os, a :: as, ρ => (rdA os as ρ).map fun ds => a :: ds
  | .own k :: os, _ :: as, ρ => match ρ[k]? with
    | some (.own d) => (rdA os as ρ).map fun ds => d :: ds
    | _ => none
  | _, _, _ => none
def setOuts : List Nat → List D → Cells → Cells
  | k :: ks, o :: outs, ρ => setOuts ks outs (ρ.set k (.own o))
  | _, _, ρ => ρ
def mCallF (F : Fn) (os : List Opn) : M D := (preL os).bind fun as => fun ρ => match rdA os as ρ with
  | none => .stuck
  | some ds => match F ds with
    | .stuck => .stuck
    | .ret d outs => .ok d (setOuts (ownSlots os) outs ρ)
    | .exc x outs => .exc x (setOuts (ownSlots os) outs ρ)
inductive ArgV (c : Cf) (G : Hp) (σ : L2.St) : List Opn → List D → List V → Prop
  | nil : ArgV c G σ [] [] []
  | dat {f : M D} {os as vs a v} : Rep c G v a → ArgV c G σ os as vs → ArgV c G σ (.dat f :: os) (a :: as) (v :: vs)
  | own {k : Nat} {v : V} {os as vs a} : σ[k]? = some (some v) → ArgV c G σ os as vs → ArgV c G σ (.own k :: os) (a :: as) (v :: vs)
theorem ArgV.mono {c : Cf} {G G' : Hp} {σ : L2.St} (e : Same G G') : ∀ {os as vs}, ArgV c G σ os as vs → ArgV c G' σ os as vs
  | _, _, _, .nil => .nil
  | _, _, _, .dat r t => .dat (r.mono e) (t.mono e)
  | _, _, _, .own r t => .own r (t.mono e)
def tR (c : Cf) (B : List (Nat × Addr)) (W : WX) (os : List Opn) : TA := fun σ H Q => ∃ G A ρ, Rel c B G A H σ ρ ∧ After c B W G A H σ (preL os ρ) fun as _ G' H' => ∀ vs, ArgV c G' σ os as vs → Q vs H'
section
variable {c : Cf} {B : List (Nat × Addr)} {W : WX} {X : Cx} {G H : Hp} {A : Addr → Prop} {σ : L2.St} {ρ : Cells}
theorem pr_nil : PA X [] (tR c B W []) := pa_imp pa_nil fun σ H Q ⟨G, A, ρ, R, a⟩ => After.ok a R [] .nil
theorem pr_dat {e : Expr} {es : List Expr} {f : M D} {os : List Opn} (ha : PE X e (tM c B W f)) (hr : PA X es (tR c B W os)) (hs : starEach (e :: es) X.env = (false, eval e X.env) :: starEach es X.env := by rfl) : PA X (e :: es) (tR c B W (.dat f :: os)) :=
  pa_imp (pa_cons ha hr hs) fun σ H Q ⟨G, A, ρ, R, a⟩ => by
    refine ⟨G, A, ρ, R, (show After c B W G A H σ ((f.bind _) ρ) _ from a).split.imp fun d ρ1 G1 H1 _ _ R1 a1 v r => ?_⟩
    refine ⟨G1, A, ρ1, R1, a1.split.imp fun ds ρ2 G2 H2 s2 _ R2 a2 vs rs => ?_⟩
    exact After.ok a2 R2 (v :: vs) (.dat (r.mono s2) rs)
theorem pr_own (i : Nat) {x : Str} {pos : Pos} {es : List Expr} {os : List Opn} (hr : PA X es (tR c B W os)) (hN : X.N[i]? = some x := by rfl) (hv : Vis X.env.scope x := by first | exact Or.inl rfl | exact Or.inr (Or.inl rfl) | exact Or.inr (Or.inr rfl)) (hd : (x == ("__debug__" : Str)) = false := by decide)
    (hcd : (x == ("__classdict__" : Str)) = false := by decide) (hs : starEach (.Name x pos :: es) X.env = (false, eval (.Name x pos) X.env) :: starEach es X.env := by rfl) : PA X (.Name x pos :: es) (tR c B W (.own i :: os)) :=
  pa_imp (pa_cons (pe_var hN hv hd hcd) hr hs) fun σ H Q ⟨G, A, ρ, R, a⟩ => by
    have a' := (show After c B W G A H σ (((Opn.own i).pre.bind _) ρ) _ from a).split
    unfold Opn.pre at a'
    cases e : cellD ρ[i]? with
    | none => simp only [e] at a'; exact a'.elim
    | some d =>
      simp only [e] at a'
      obtain ⟨v, hv, o⟩ := R.cell e
      refine ⟨v, hv, G, A, ρ, R, (After.ok a' R).split.imp fun ds ρ2 G2 H2 s2 k2 R2 q vs rs => ?_⟩
      exact After.ok q R2 (v :: vs) (.own hv rs)
/-- the addresses that a call may change -/
def callA (σ : L2.St) (ks : List Nat) : Addr → Prop := fun b => ∃ k ∈ ks, σ[k]? = some (some (.ref b))
theorem mem_ownPos : ∀ {os : List Opn} {n i : Nat}, i ∈ ownPos n os → n ≤ i
  | .dat _ :: os, n, i, h => by have := mem_ownPos (os := os) (n := n + 1) h; omega
  | .own _ :: os, n, i, h => by
    rcases List.mem_cons.mp h with e | e
    · omega
    · have := mem_ownPos (os := os) (n := n + 1) e; omega
/-- the arguments as the callee finds them -/
theorem argV_at (R : Rel c B G A H σ ρ) : ∀ {os : List Opn} {as ds : List D} {vs : List V} (n : Nat), ArgV c G σ os as vs → rdA os as ρ = some ds →
    vs.length = ds.length ∧ vs.length = os.length ∧ (∀ (i : Nat) (d : D), ds[i]? = some d → n + i ∉ ownPos n os → ∃ v, vs[i]? = some v ∧ Rep c G v d) ∧
      (∀ (i : Nat) (d : D), ds[i]? = some d → n + i ∈ ownPos n os → ∃ k p, k ∈ ownSlots os ∧ σ[k]? = some (some (.ref p)) ∧ ρ[k]? = some (.own d) ∧ vs[i]? = some (.ref p) ∧ A p ∧ Own c G (H p) d)
  | _, _, _, _, n, .nil, h => by cases h; exact ⟨rfl, rfl, fun i d e => by simp at e, fun i d e => by simp at e⟩
  | _, _, ds, _, n, @ArgV.dat _ _ _ f os as vs a v r t, h => by
    unfold rdA at h
    cases e : rdA os as ρ with
    | none => rw [e] at h; cases h
    | some ds' =>
      rw [e] at h
      cases h
      obtain ⟨h1, h2, h3, h4⟩ := argV_at R (n + 1) t e
      refine ⟨by simp [h1], by simp [h2], fun i d hd hn => ?_, fun i d hd hn => ?_⟩
      · cases i with
        | zero => simp at hd; subst hd; exact ⟨v, rfl, r⟩
        | succ i =>
          obtain ⟨w, k1, k2⟩ := h3 i d (by simpa using hd) (fun z => hn (by show n + (i + 1) ∈ ownPos (n + 1) os; rw [show n + (i + 1) = n + 1 + i by omega]; exact z))
          exact ⟨w, by simpa using k1, k2⟩
      · cases i with
        | zero => have := mem_ownPos (os := os) (n := n + 1) (i := n + 0) hn; omega
        | succ i =>
          obtain ⟨k, p, q1, q2, q3, q4, q5⟩ := h4 i d (by simpa using hd) (by have hn' : n + (i + 1) ∈ ownPos (n + 1) os := hn; rw [show n + (i + 1) = n + 1 + i by omega] at hn'; exact hn')
          exact ⟨k, p, q1, q2, q3, by simpa using q4, q5⟩
  | _, _, ds, _, n, @ArgV.own _ _ _ k v os as vs a r t, h => by
    unfold rdA at h
    cases ek : ρ[k]? with
    | none => simp only [ek] at h; cases h
    | some cl =>
      simp only [ek] at h
      cases cl with
      | no => cases h
      | dat d => cases h
      | own d0 =>
        obtain ⟨p, es, hA, hO⟩ := R.own k d0 ek
        rw [r] at es; cases es
        cases e : rdA os as ρ with
        | none => simp only [e] at h; cases h
        | some ds' =>
          simp only [e] at h
          cases h
          obtain ⟨h1, h2, h3, h4⟩ := argV_at R (n + 1) t e
          refine ⟨by simp [h1], by simp [h2], fun i d hd hn => ?_, fun i d hd hn => ?_⟩
          · cases i with
            | zero => exact absurd (List.mem_cons_self : n ∈ n :: ownPos (n + 1) os) hn
            | succ i =>
              obtain ⟨w, k1, k2⟩ := h3 i d (by simpa using hd) (fun z => hn (List.mem_cons_of_mem _ (by rw [show n + (i + 1) = n + 1 + i by omega]; exact z)))
              exact ⟨w, by simpa using k1, k2⟩
          · cases i with
            | zero => simp at hd; subst hd; exact ⟨k, p, List.mem_cons_self, r, ek, rfl, hA, hO⟩
            | succ i =>
              have hn' : n + (i + 1) ∈ n :: ownPos (n + 1) os := hn
              rcases List.mem_cons.mp hn' with e | e
              · omega
              · rw [show n + (i + 1) = n + 1 + i by omega] at e
                obtain ⟨k, p, q1, q2, q3, q4, q5⟩ := h4 i d (by simpa using hd) e
                exact ⟨k, p, List.mem_cons_of_mem _ q1, q2, q3, by simpa using q4, q5⟩
/-- the outs go to the slots -/
theorem argV_slots : ∀ {os : List Opn} {as : List D} {vs : List V} (n : Nat), ArgV c G σ os as vs → ∀ (j i : Nat), (ownPos n os)[j]? = some i → ∃ k v, (ownSlots os)[j]? = some k ∧ n ≤ i ∧ vs[i - n]? = some v ∧ σ[k]? = some (some v)
  | _, _, _, n, .nil, j, i, h => by simp [ownPos] at h
  | _, _, _, n, @ArgV.dat _ _ _ f os as vs a v r t, j, i, h => by
    obtain ⟨k, w, h1, h2, h3, h4⟩ := argV_slots (n + 1) t j i h
    refine ⟨k, w, h1, by omega, ?_, h4⟩
    rw [show i - n = (i - (n + 1)) + 1 by omega]
    simpa using h3
  | _, _, _, n, @ArgV.own _ _ _ k v os as vs a r t, 0, i, h => by
    have h' : some n = some i := h
    cases h'
    exact ⟨k, v, rfl, Nat.le_refl _, by simp, r⟩
  | _, _, _, n, @ArgV.own _ _ _ k v os as vs a r t, j + 1, i, h => by
    obtain ⟨k', w, h1, h2, h3, h4⟩ := argV_slots (n + 1) t j i (by simpa [ownPos] using h)
    refine ⟨k', w, by simpa [ownSlots] using h1, by omega, ?_, h4⟩
    rw [show i - n = (i - (n + 1)) + 1 by omega]
    simpa using h3
theorem setOuts_len : ∀ (ks : List Nat) (outs : List D) (ρ : Cells), (setOuts ks outs ρ).length = ρ.length
  | [], _, _ => rfl
  | _ :: _, [], _ => rfl
  | k :: ks, o :: outs, ρ => by unfold setOuts; rw [setOuts_len, List.length_set]
theorem setOuts_out : ∀ {ks : List Nat} {outs : List D} {ρ : Cells} {i : Nat}, i ∉ ks → (setOuts ks outs ρ)[i]? = ρ[i]?
  | [], _, _, _, _ => rfl
  | _ :: _, [], _, _, _ => rfl
  | k :: ks, o :: outs, ρ, i, h => by
    simp only [List.mem_cons, not_or] at h
    unfold setOuts
    rw [setOuts_out h.2, List.getElem?_set_ne (Ne.symm h.1)]
theorem setOuts_in : ∀ {ks : List Nat} {outs : List D} {ρ : Cells} {i : Nat}, ks.Nodup → ks.length = outs.length → i ∈ ks → i < ρ.length → ∃ (j : Nat) (d : D), ks[j]? = some i ∧ outs[j]? = some d ∧ (setOuts ks outs ρ)[i]? = some (.own d)
  | k :: ks, o :: outs, ρ, i, nd, hl, h, hi => by
    obtain ⟨n1, n2⟩ := List.nodup_cons.mp nd
    unfold setOuts
    rcases List.mem_cons.mp h with e | e
    · subst e
      exact ⟨0, o, rfl, rfl, by rw [setOuts_out n1, List.getElem?_set_self hi]⟩
    · obtain ⟨j, d, h1, h2, h3⟩ := setOuts_in (ρ := ρ.set k (.own o)) n2 (by simpa using hl) e (by rw [List.length_set]; exact hi)
      exact ⟨j + 1, d, by simpa using h1, by simpa using h2, h3⟩
/-- behind a call the cells are as the outs say -/
theorem Rel.ret (R : Rel c B G A H σ ρ) {os : List Opn} {as : List D} {ds outs : List D} {vs : List V} {G' H' : Hp} (nd : (ownSlots os).Nodup) (hv : ArgV c G σ os as vs) (hd : rdA os as ρ = some ds) (hr : Ret c (ownPos 0 os) G (callA σ (ownSlots os)) H vs outs G' H') :
    Same G G' ∧ Keep A G H G' H' ∧ Rel c B G' A H' σ (setOuts (ownSlots os) outs ρ) := by
  have sub : ∀ b, callA σ (ownSlots os) b → ∃ k d, k ∈ ownSlots os ∧ σ[k]? = some (some (.ref b)) ∧ ρ[k]? = some (.own d) ∧ A b := by
    intro b ⟨k, hk, hs⟩
    have : ∀ {os : List Opn} {as : List D} {vs : List V} {ds : List D}, ArgV c G σ os as vs → rdA os as ρ = some ds → k ∈ ownSlots os → ∃ d, ρ[k]? = some (.own d) := by
      intro os as vs ds hv
      induction hv generalizing ds with
      | nil => intro _ h; cases h
      | @dat f os as vs a v r t ih =>
        intro h hk
        unfold rdA at h
        cases e : rdA os as ρ with
        | none => rw [e] at h; cases h
        | some ds' => exact ih e hk
      | @own k' v os as vs a r t ih =>
        intro h hk
        unfold rdA at h
        cases ek : ρ[k']? with
        | none => simp only [ek] at h; cases h
        | some cl =>
          simp only [ek] at h
          cases cl with
          | no => cases h
          | dat d => cases h
          | own d0 =>
            cases e : rdA os as ρ with
            | none => simp only [e] at h; cases h
            | some ds' =>
              rcases List.mem_cons.mp hk with z | z
              · subst z; exact ⟨d0, ek⟩
              · exact ih e z
    obtain ⟨d, e⟩ := this hv hd hk
    obtain ⟨p, es, hA, _⟩ := R.own k d e
    rw [hs] at es; cases es
    exact ⟨k, d, hk, hs, e, hA⟩
  have kp : Keep A G H G' H' := fun b o h n => hr.kp b o h fun z => by obtain ⟨_, _, _, _, _, q⟩ := sub b z; exact n q
  refine ⟨hr.gg, kp, hr.gh, by rw [setOuts_len]; exact R.len, fun b hb => ?_, fun i d h => ?_, fun i d h => ?_, fun i j d e p hij h1 h2 h3 h4 => ?_, fun q hq => ?_⟩
  · by_cases z : callA σ (ownSlots os) b
    · exact hr.ownA b z
    · obtain ⟨h1, o, h2⟩ := R.ownA b hb
      obtain ⟨k1, k2⟩ := hr.kp b o h2 z
      exact ⟨k2.trans h1, o, k1⟩
  · have ni : i ∉ ownSlots os := fun z => by
      have hl : (ownSlots os).length = outs.length := by
        have h1 := hr.outs.1
        have h2 : ∀ (n : Nat) (os : List Opn), (ownPos n os).length = (ownSlots os).length := by
          intro n os
          induction os generalizing n with
          | nil => rfl
          | cons o os ih => cases o with
            | dat f => exact ih (n + 1)
            | own k => show _ + 1 = _ + 1; rw [ih (n + 1)]
        rw [← h2 0 os, h1]
      have hi : i < ρ.length := by
        have := (List.getElem?_eq_some_iff.mp h).1
        rwa [setOuts_len] at this
      obtain ⟨j, d', _, _, h3⟩ := setOuts_in nd hl z hi
      rw [h3] at h; cases h
    rw [setOuts_out ni] at h
    obtain ⟨v, h1, h2⟩ := R.dat i d h
    exact ⟨v, h1, h2.mono hr.gg⟩
  · have hlen : ∀ (n : Nat) (os : List Opn), (ownPos n os).length = (ownSlots os).length := by
      intro n os
      induction os generalizing n with
      | nil => rfl
      | cons o os ih => cases o with
        | dat f => exact ih (n + 1)
        | own k => show _ + 1 = _ + 1; rw [ih (n + 1)]
    have hl : (ownSlots os).length = outs.length := by rw [← hlen 0 os, hr.outs.1]
    by_cases z : i ∈ ownSlots os
    · have hi : i < ρ.length := by
        have := (List.getElem?_eq_some_iff.mp h).1
        rwa [setOuts_len] at this
      obtain ⟨j, d', h1, h2, h3⟩ := setOuts_in nd hl z hi
      rw [h3] at h; cases h
      have hj : j < (ownPos 0 os).length := by rw [hlen]; exact (List.getElem?_eq_some_iff.mp h1).1
      obtain ⟨k, v, k1, k2, k3, k4⟩ := argV_slots 0 hv j _ (List.getElem?_eq_getElem hj)
      rw [h1] at k1; cases k1
      obtain ⟨p, p1, p2⟩ := hr.outs.2 j _ d (List.getElem?_eq_getElem hj) h2
      rw [Nat.sub_zero] at k3
      rw [p1] at k3; cases k3
      obtain ⟨_, _, _, _, _, hA⟩ := sub p ⟨i, z, k4⟩
      exact ⟨p, k4, hA, p2⟩
    · rw [setOuts_out z] at h
      obtain ⟨p, h1, h2, h3⟩ := R.own i d h
      have np : ¬ callA σ (ownSlots os) p := fun w => by
        obtain ⟨k, e, q1, q2, q3, _⟩ := sub p w
        exact R.dis i k d e p (fun y => z (by rw [y]; exact q1)) h q3 h1 q2
      obtain ⟨u, hu⟩ := h3.some
      obtain ⟨k1, k2⟩ := hr.kp p u hu np
      exact ⟨p, h1, h2, by rw [k1, ← hu]; exact h3.mono hr.gg⟩
  · have old : ∀ (i : Nat) (d : D), (setOuts (ownSlots os) outs ρ)[i]? = some (.own d) → ∃ d', ρ[i]? = some (.own d') := fun i d h => by
      by_cases z : i ∈ ownSlots os
      · have hi : i < ρ.length := by
          have := (List.getElem?_eq_some_iff.mp h).1
          rwa [setOuts_len] at this
        have : ∀ {os : List Opn} {as : List D} {vs : List V} {ds : List D}, ArgV c G σ os as vs → rdA os as ρ = some ds → i ∈ ownSlots os → ∃ d, ρ[i]? = some (.own d) := by
          intro os as vs ds hv
          induction hv generalizing ds with
          | nil => intro _ h; cases h
          | @dat f os as vs a v r t ih =>
            intro h hk
            unfold rdA at h
            cases e : rdA os as ρ with
            | none => rw [e] at h; cases h
            | some ds' => exact ih e hk
          | @own k' v os as vs a r t ih =>
            intro h hk
            unfold rdA at h
            cases ek : ρ[k']? with
            | none => simp only [ek] at h; cases h
            | some cl =>
              simp only [ek] at h
              cases cl with
              | no => cases h
              | dat d => cases h
              | own d0 =>
                cases e : rdA os as ρ with
                | none => simp only [e] at h; cases h
                | some ds' =>
                  rcases List.mem_cons.mp hk with z | z
                  · subst z; exact ⟨d0, ek⟩
                  · exact ih e z
        exact this hv hd z
      · rw [setOuts_out z] at h; exact ⟨d, h⟩
    obtain ⟨d', h1'⟩ := old i d h1
    obtain ⟨e', h2'⟩ := old j e h2
    exact R.dis i j d' e' p hij h1' h2' h3 h4
  · obtain ⟨h1, h2, x, h3⟩ := R.byr q hq
    refine ⟨h1, h2, ?_⟩
    by_cases z : q.1 ∈ ownSlots os
    · have hi : q.1 < ρ.length := (List.getElem?_eq_some_iff.mp h3).1
      have hlen : ∀ (n : Nat) (os : List Opn), (ownPos n os).length = (ownSlots os).length := by
        intro n os
        induction os generalizing n with
        | nil => rfl
        | cons o os ih => cases o with
          | dat f => exact ih (n + 1)
          | own k => show _ + 1 = _ + 1; rw [ih (n + 1)]
      obtain ⟨j, d', _, _, h5⟩ := setOuts_in (ρ := ρ) nd (by rw [← hlen 0 os, hr.outs.1]) z hi
      exact ⟨d', h5⟩
    · exact ⟨x, by rw [setOuts_out z]; exact h3⟩
/-- what a call asks -/
theorem args_ok (R : Rel c B G A H σ ρ) {os : List Opn} {as : List D} {ds : List D} {vs : List V} (nd : (ownSlots os).Nodup) (hv : ArgV c G σ os as vs) (hd : rdA os as ρ = some ds) : ArgsOk c (ownPos 0 os) G (callA σ (ownSlots os)) H vs ds := by
  obtain ⟨h1, h2, h3, h4⟩ := argV_at R 0 hv hd
  have aa : ∀ b, callA σ (ownSlots os) b → A b := by
    intro b ⟨k, hk, hs⟩
    have : ∀ {os : List Opn} {as : List D} {vs : List V} {ds : List D}, ArgV c G σ os as vs → rdA os as ρ = some ds → k ∈ ownSlots os → ∃ d, ρ[k]? = some (.own d) := by
      intro os as vs ds hv
      induction hv generalizing ds with
      | nil => intro _ h; cases h
      | @dat f os as vs a v r t ih =>
        intro h hk
        unfold rdA at h
        cases e : rdA os as ρ with
        | none => rw [e] at h; cases h
        | some ds' => exact ih e hk
      | @own k' v os as vs a r t ih =>
        intro h hk
        unfold rdA at h
        cases ek : ρ[k']? with
        | none => simp only [ek] at h; cases h
        | some cl =>
          simp only [ek] at h
          cases cl with
          | no => cases h
          | dat d => cases h
          | own d0 =>
            cases e : rdA os as ρ with
            | none => simp only [e] at h; cases h
            | some ds' =>
              rcases List.mem_cons.mp hk with z | z
              · subst z; exact ⟨d0, ek⟩
              · exact ih e z
    obtain ⟨d, e⟩ := this hv hd hk
    obtain ⟨p, es, hA, _⟩ := R.own k d e
    rw [hs] at es; cases es
    exact hA
  refine ⟨R.same, fun b hb => R.ownA b (aa b hb), h1, fun i d hi hn => h3 i d hi (by rw [Nat.zero_add]; exact hn), fun i d hi hn => ?_, fun i j p hij hi hj e1 e2 => ?_⟩
  · obtain ⟨k, p, q1, q2, q3, q4, q5, q6⟩ := h4 i d hi (by rw [Nat.zero_add]; exact hn)
    exact ⟨p, q4, ⟨k, q1, q2⟩, q6⟩
  · obtain ⟨a, ha⟩ := List.mem_iff_getElem?.mp hi
    obtain ⟨b, hb⟩ := List.mem_iff_getElem?.mp hj
    obtain ⟨k, v, k1, _, k3, k4⟩ := argV_slots 0 hv a i ha
    obtain ⟨l, w, l1, _, l3, l4⟩ := argV_slots 0 hv b j hb
    rw [Nat.sub_zero, e1] at k3; cases k3
    rw [Nat.sub_zero, e2] at l3; cases l3
    have li : i < ds.length := by rw [← h1]; exact (List.getElem?_eq_some_iff.mp e1).1
    have lj : j < ds.length := by rw [← h1]; exact (List.getElem?_eq_some_iff.mp e2).1
    obtain ⟨k', p', _, k6, k7, k8, _⟩ := h4 i _ (List.getElem?_eq_getElem li) (by rw [Nat.zero_add]; exact hi)
    obtain ⟨l', p'', _, l6, l7, l8, _⟩ := h4 j _ (List.getElem?_eq_getElem lj) (by rw [Nat.zero_add]; exact hj)
    rw [e1] at k8; cases k8
    rw [e2] at l8; cases l8
    have kl : k ≠ l := fun z => by
      subst z
      have := nd_ix nd k1 l1
      subst this
      rw [ha] at hb; cases hb; exact hij rfl
    -- both slots own the same address
    have own_at : ∀ (k : Nat), k ∈ ownSlots os → ∃ d, ρ[k]? = some (.own d) := by
      intro k hk
      have : ∀ {os : List Opn} {as : List D} {vs : List V} {ds : List D}, ArgV c G σ os as vs → rdA os as ρ = some ds → k ∈ ownSlots os → ∃ d, ρ[k]? = some (.own d) := by
        intro os as vs ds hv
        induction hv generalizing ds with
        | nil => intro _ h; cases h
        | @dat f os as vs a v r t ih =>
          intro h hk
          unfold rdA at h
          cases e : rdA os as ρ with
          | none => rw [e] at h; cases h
          | some ds' => exact ih e hk
        | @own k' v os as vs a r t ih =>
          intro h hk
          unfold rdA at h
          cases ek : ρ[k']? with
          | none => simp only [ek] at h; cases h
          | some cl =>
            simp only [ek] at h
            cases cl with
            | no => cases h
            | dat d => cases h
            | own d0 =>
              cases e : rdA os as ρ with
              | none => simp only [e] at h; cases h
              | some ds' =>
                rcases List.mem_cons.mp hk with z | z
                · subst z; exact ⟨d0, ek⟩
                · exact ih e z
      exact this hv hd hk
    obtain ⟨d1, f1⟩ := own_at k (List.mem_of_getElem? k1)
    obtain ⟨d2, f2⟩ := own_at l (List.mem_of_getElem? l1)
    exact R.dis k l d1 d2 p kl f1 f2 k4 l4
end
end Fx
set_option Elab.async false
set_option linter.all false
set_option maxRecDepth 100000
set_option maxHeartbeats 4000000
namespace Fx
open PySem L2
section
variable {c : Cf} {B : List (Nat × Addr)} {W : WX} {X : Cx} {G H : Hp} {A : Addr → Prop} {σ : L2.St} {ρ : Cells}
/-- further data behind the arguments -/
theorem ArgsOk.app {bs : List Nat} {vs ws : List V} {ds es : List D} (h : ArgsOk c bs G A H vs ds) (r : RepL c G ws es) (hb : ∀ i ∈ bs, i < ds.length) : ArgsOk c bs G A H (vs ++ ws) (ds ++ es) := by
  refine ⟨h.same, h.ownA, by rw [List.length_append, List.length_append, h.len, r.length], fun i d e n => ?_, fun i d e n => ?_, fun i j p hij hi hj e1 e2 => ?_⟩
  · by_cases hi : i < ds.length
    · rw [List.getElem?_append_left hi] at e
      obtain ⟨v, h1, h2⟩ := h.dat i d e n
      exact ⟨v, by rw [List.getElem?_append_left (by rw [h.len]; exact hi)]; exact h1, h2⟩
    · rw [List.getElem?_append_right (by omega)] at e
      obtain ⟨v, h1, h2⟩ := r.get e
      exact ⟨v, by rw [List.getElem?_append_right (by rw [h.len]; omega), h.len]; exact h1, h2⟩
  · have hi := hb i n
    rw [List.getElem?_append_left hi] at e
    obtain ⟨p, h1, h2⟩ := h.own i d e n
    exact ⟨p, by rw [List.getElem?_append_left (by rw [h.len]; exact hi)]; exact h1, h2⟩
  · rw [List.getElem?_append_left (by rw [h.len]; exact hb i hi)] at e1
    rw [List.getElem?_append_left (by rw [h.len]; exact hb j hj)] at e2
    exact h.dis i j p hij hi hj e1 e2
theorem Ret.app {bs : List Nat} {vs ws : List V} {outs : List D} {G' H' : Hp} (hb : ∀ i ∈ bs, i < vs.length) (h : Ret c bs G A H (vs ++ ws) outs G' H') : Ret c bs G A H vs outs G' H' :=
  ⟨h.gg, h.kp, h.gh, h.ownA, h.outs.1, fun k i d e1 e2 => by
    obtain ⟨p, h1, h2⟩ := h.outs.2 k i d e1 e2
    rw [List.getElem?_append_left (hb i (List.mem_of_getElem? e1))] at h1
    exact ⟨p, h1, h2⟩⟩
theorem ownPos_lt {os : List Opn} : ∀ {n i : Nat}, i ∈ ownPos n os → i < n + os.length := by
  induction os with
  | nil => intro n i h; cases h
  | cons o os ih =>
    intro n i h
    cases o with
    | dat f => have := ih (n := n + 1) h; rw [List.length_cons]; omega
    | own k =>
      rcases List.mem_cons.mp h with e | e
      · rw [List.length_cons]; omega
      · have := ih (n := n + 1) e; rw [List.length_cons]; omega
theorem rdA_len : ∀ {os : List Opn} {as ds : List D} {ρ : Cells}, rdA os as ρ = some ds → ds.length = os.length
  | [], [], _, _, h => by cases h; rfl
  | [], _ :: _, _, _, h => by cases h
  | .dat _ :: _, [], _, _, h => by cases h
  | .own _ :: _, [], _, _, h => by cases h
  | .dat _ :: os, a :: as, ds, ρ, h => by
    unfold rdA at h
    cases e : rdA os as ρ with
    | none => rw [e] at h; cases h
    | some ds' => rw [e] at h; cases h; rw [List.length_cons, List.length_cons, rdA_len e]
  | .own k :: os, _ :: as, ds, ρ, h => by
    unfold rdA at h
    cases ek : ρ[k]? with
    | none => simp only [ek] at h; cases h
    | some cl =>
      simp only [ek] at h
      cases cl with
      | no => cases h
      | dat d => cases h
      | own d0 =>
        cases e : rdA os as ρ with
        | none => simp only [e] at h; cases h
        | some ds' => simp only [e] at h; cases h; rw [List.length_cons, List.length_cons, rdA_len e]
/-- f(e, ..), the defaults behind -/
theorem pm_callF {F : Fn} {os : List Opn} {k n : Nat} {f : Addr} {fd : FuncData} {ps : List Str} {dvs : List V} {vds : List Value} {dds : List D} {x : Str} {p pos : Pos} {e : Expr} {es : List Expr}
    (Fo : FnOk X.prog X.w X.K X.mg X.base (L2.CX X.prog X.w) k f fd ps (spM c (ownPos 0 os) n F)) (hr : Room k X.A) (tk : Takes X W) (hm : X.mg x = some (.ref f)) (hk : PySem.W.keepIn X.K (.ref f) = true) (hb : Binds X.K fd ps vds) (hd : Vals dvs vds) (hdd : ∀ G, RepL c G dvs dds)
    (ha : PA X (e :: es) (tR c B W os)) (nd : (ownSlots os).Nodup := by decide) (hn : os.length + dds.length = n := by rfl) (hg : Gl X x := by rfl) (hdb : (x == ("__debug__" : Str)) = false := by decide)
    (he : starEach (e :: es) X.env = (false, eval e X.env) :: starEach es X.env := by rfl) (hpl : (backTo pos (starEach es X.env)).any (·.1) = false := by rfl) :
    PE X (.Call (.Name x p) (e :: es) [] pos) (tM c B W (mCallF (fun ds => F (ds ++ dds)) os)) :=
  pe_imp (pe_callSD Fo hr hg hm hk hb hd (fun σ => passAt tk σ) ha hdb he hpl) fun σ H Q ⟨G, A, ρ, R, a⟩ => by
    refine ⟨G, A, ρ, R, a.split.imp fun as ρ1 G1 H1 _ _ R1 q vs hv => ?_⟩
    have q : After c B W G1 A H1 σ (match rdA os as ρ1 with
      | none => .stuck
      | some ds => match F (ds ++ dds) with
        | .stuck => .stuck
        | .ret d outs => .ok d (setOuts (ownSlots os) outs ρ1)
        | .exc x outs => .exc x (setOuts (ownSlots os) outs ρ1)) (fun d x G' H' => ∀ v, Rep c G' v d → Q v H') := q
    cases ed : rdA os as ρ1 with
    | none => rw [ed] at q; exact q.elim
    | some ds =>
      rw [ed] at q
      have ok := args_ok R1 nd hv ed
      have hlen := rdA_len ed
      have hlt : ∀ i ∈ ownPos 0 os, i < ds.length := fun i hi => by have := ownPos_lt hi; rw [hlen]; omega
      have hlv : ∀ i ∈ ownPos 0 os, i < vs.length := fun i hi => by rw [ok.len]; exact hlt i hi
      refine ⟨G1, _, ds ++ dds, by rw [List.length_append, hlen]; exact hn, ok.app (hdd G1) hlt, ?_⟩
      cases ef : F (ds ++ dds) with
      | stuck => simp only [ef] at q; exact q.elim
      | ret d outs =>
        simp only [ef] at q
        intro G' H' v r rv
        obtain ⟨s1, k1, R2⟩ := R1.ret nd hv ed (r.app hlv)
        exact q G' H' s1 k1 R2 v rv
      | exc y outs =>
        simp only [ef] at q
        intro G' H' dd r rx
        obtain ⟨s1, k1, R2⟩ := R1.ret nd hv ed (r.app hlv)
        exact q G' H' dd s1 k1 R2 rx
def appF (F : Fn) (ds : List D) : M D := fun ρ => match F ds with
  | .stuck => .stuck
  | .ret d _ => .ok d ρ
  | .exc x _ => .exc x ρ
def mCallK (F : Fn) (g : List D → List D → List D) (fs ks : List (M D)) : M D := (seqM fs).bind fun ds => (seqM ks).bind fun es => appF F (g ds es)
theorem argsOk_rep (s : Same G H) {vs : List V} {ds : List D} (r : RepL c G vs ds) : ArgsOk c [] G (fun _ => False) H vs ds :=
  ⟨s, fun _ h => h.elim, r.length, fun i d e _ => r.get e, fun i d e n => by simp at n, fun i j p _ hi => by simp at hi⟩
theorem Ret.rel (R : Rel c B G A H σ ρ) {vs : List V} {outs : List D} {G' H' : Hp} (r : Ret c [] G (fun _ => False) H vs outs G' H') : Same G G' ∧ Keep A G H G' H' ∧ Rel c B G' A H' σ ρ := by
  have hh : ∀ b o, H b = some o → H' b = some o ∧ G' b = G b := fun b o e => r.kp b o e (fun z => z)
  exact ⟨r.gg, fun b o e _ => hh b o e, R.ext ⟨r.gg, fun b o e => (hh b o e).1, r.gh, fun b o e => (hh b o e).2⟩⟩
end

def initAt (bs : List Nat) : Nat → List D → Cells
  | _, [] => []
  | i, d :: ds => (if bs.contains i = true then Cell.own d else Cell.dat d) :: initAt bs (i + 1) ds
def initC (len : Nat) (bs : List Nat) (ds : List D) : Cells := initAt bs 0 ds ++ List.replicate (len - ds.length) .no
def outAt (ρ : Cells) (i : Nat) : D := match ρ[i]? with
  | some (Cell.own d) => d
  | _ => D.non
def outsOf (bs : List Nat) (ρ : Cells) : List D := bs.map (outAt ρ)
def mkFn (len : Nat) (bs : List Nat) (m : MS) : Fn := fun ds => match m (initC len bs ds) with
  | .next ρ => .ret .non (outsOf bs ρ)
  | .ret d ρ => .ret d (outsOf bs ρ)
  | .exc x ρ => .exc x (outsOf bs ρ)
  | _ => .stuck
theorem initAt_get (bs : List Nat) : ∀ (n i : Nat) (ds : List D) (x : Cell), (initAt bs n ds)[i]? = some x → ∃ d, ds[i]? = some d ∧ x = if bs.contains (n + i) = true then Cell.own d else Cell.dat d
  | n, i, [], x, h => by simp [initAt] at h
  | n, 0, d :: ds, x, h => by
    simp [initAt] at h
    exact ⟨d, rfl, by rw [Nat.add_zero]; simp [← h]⟩
  | n, i + 1, d :: ds, x, h => by
    obtain ⟨e, h1, h2⟩ := initAt_get bs (n + 1) i ds x (by simpa [initAt] using h)
    exact ⟨e, by simpa using h1, by rw [show n + (i + 1) = n + 1 + i by omega]; exact h2⟩
theorem initAt_put (bs : List Nat) : ∀ (n i : Nat) (ds : List D) (d : D), ds[i]? = some d → (initAt bs n ds)[i]? = some (if bs.contains (n + i) = true then Cell.own d else Cell.dat d)
  | n, i, [], d, h => by simp at h
  | n, 0, e :: ds, d, h => by simp at h; subst h; rfl
  | n, i + 1, e :: ds, d, h => by
    have := initAt_put bs (n + 1) i ds d (by simpa using h)
    rw [show n + (i + 1) = n + 1 + i by omega]
    simpa [initAt] using this
theorem initAt_len (bs : List Nat) : ∀ (n : Nat) (ds : List D), (initAt bs n ds).length = ds.length
  | _, [] => rfl
  | n, d :: ds => by unfold initAt; rw [List.length_cons, List.length_cons, initAt_len]
section
variable {c : Cf} {G H : Hp} {A : Addr → Prop}
theorem initC_get {len : Nat} {bs : List Nat} {ds : List D} {i : Nat} {x : Cell} (h : (initC len bs ds)[i]? = some x) (hx : x ≠ .no) : ∃ d, ds[i]? = some d ∧ i < ds.length ∧ x = if bs.contains i = true then Cell.own d else Cell.dat d := by
  unfold initC at h
  by_cases hi : i < ds.length
  · rw [List.getElem?_append_left (by rw [initAt_len]; exact hi)] at h
    obtain ⟨d, h1, h2⟩ := initAt_get bs 0 i ds x h
    exact ⟨d, h1, hi, by rw [Nat.zero_add] at h2; exact h2⟩
  · rw [List.getElem?_append_right (by rw [initAt_len]; omega)] at h
    have := List.mem_of_getElem? h
    exact absurd (List.eq_of_mem_replicate this) hx
/-- the cells at a def's start -/
theorem rel_start {N : List Str} {bs : List Nat} {vs : List V} {ds : List D} (h : ArgsOk c bs G A H vs ds) (hl : vs.length ≤ N.length) (B : List (Nat × Addr)) (hB : ∀ q ∈ B, q.1 ∈ bs ∧ vs[q.1]? = some (.ref q.2)) (hbs : ∀ i ∈ bs, i < ds.length) :
    Rel c B G (fun b => ∃ i ∈ bs, vs[i]? = some (.ref b)) H (L2.start N vs) (initC N.length bs ds) := by
  have st : ∀ (i : Nat) (v : V), vs[i]? = some v → (L2.start N vs)[i]? = some (some v) := fun i v e => by
    have hi := (List.getElem?_eq_some_iff.mp e).1
    unfold L2.start
    rw [List.getElem?_append_left (by rw [List.length_map]; exact hi), List.getElem?_map, e]
    rfl
  have aa : ∀ b, (∃ i ∈ bs, vs[i]? = some (V.ref b)) → A b := fun b ⟨i, hi, e⟩ => by
    have hlt := hbs i hi
    obtain ⟨p, h1, h2, _⟩ := h.own i _ (List.getElem?_eq_getElem hlt) hi
    rw [e] at h1; cases h1; exact h2
  refine ⟨h.same, ?_, fun b hb => h.ownA b (aa b hb), fun i d e => ?_, fun i d e => ?_, fun i j d e p hij h1 h2 h3 h4 => ?_, fun q hq => ?_⟩
  · unfold L2.start initC
    rw [List.length_append, List.length_append, List.length_map, List.length_replicate, List.length_replicate, initAt_len, h.len]
  · obtain ⟨d', h1, hi, h2⟩ := initC_get e (fun z => by cases z)
    by_cases hb : bs.contains i = true
    · rw [if_pos hb] at h2; cases h2
    · rw [if_neg hb] at h2; cases h2
      obtain ⟨v, k1, k2⟩ := h.dat i d h1 (fun z => hb (by simpa using z))
      exact ⟨v, st i v k1, k2⟩
  · obtain ⟨d', h1, hi, h2⟩ := initC_get e (fun z => by cases z)
    by_cases hb : bs.contains i = true
    · rw [if_pos hb] at h2; cases h2
      have hm : i ∈ bs := by simpa using hb
      obtain ⟨p, k1, k2, k3⟩ := h.own i d h1 hm
      exact ⟨p, st i _ k1, ⟨i, hm, k1⟩, k3⟩
    · rw [if_neg hb] at h2; cases h2
  · obtain ⟨d', e1, hi, f1⟩ := initC_get h1 (fun z => by cases z)
    obtain ⟨e', e2, hj, f2⟩ := initC_get h2 (fun z => by cases z)
    have hb1 : bs.contains i = true := by
      by_cases hb : bs.contains i = true
      · exact hb
      · rw [if_neg hb] at f1; cases f1
    have hb2 : bs.contains j = true := by
      by_cases hb : bs.contains j = true
      · exact hb
      · rw [if_neg hb] at f2; cases f2
    have hm1 : i ∈ bs := by simpa using hb1
    have hm2 : j ∈ bs := by simpa using hb2
    obtain ⟨p1, k1, _⟩ := h.own i d' e1 hm1
    obtain ⟨p2, k2, _⟩ := h.own j e' e2 hm2
    have q1 := st i _ k1
    have q2 := st j _ k2
    rw [h3] at q1; cases q1
    rw [h4] at q2; cases q2
    exact h.dis i j p hij hm1 hm2 k1 k2
  · obtain ⟨h1, h2⟩ := hB q hq
    have hlt := hbs q.1 h1
    refine ⟨st _ _ h2, ⟨q.1, h1, h2⟩, ds[q.1], ?_⟩
    · unfold initC
      rw [List.getElem?_append_left (by rw [initAt_len]; exact hlt), initAt_put bs 0 q.1 ds _ (List.getElem?_eq_getElem hlt), Nat.zero_add, if_pos (by simpa using h1)]
/-- behind a body -/
theorem ret_of {bs : List Nat} {vs : List V} {ds : List D} {B : List (Nat × Addr)} {G' H' : Hp} {A' : Addr → Prop} {σ' : L2.St} {ρ' : Cells} (h : ArgsOk c bs G A H vs ds) (hbs : ∀ i ∈ bs, i < ds.length) (hB : ∀ i ∈ bs, ∃ p, (i, p) ∈ B ∧ vs[i]? = some (.ref p))
    (s : Stp G (fun b => ∃ i ∈ bs, vs[i]? = some (.ref b)) H G' A' H') (R : Rel c B G' A' H' σ' ρ') : Ret c bs G A H vs (outsOf bs ρ') G' H' := by
  have aa : ∀ b, (∃ i ∈ bs, vs[i]? = some (V.ref b)) → A b := fun b ⟨i, hi, e⟩ => by
    have hlt := hbs i hi
    obtain ⟨p, h1, h2, _⟩ := h.own i _ (List.getElem?_eq_getElem hlt) hi
    rw [e] at h1; cases h1; exact h2
  refine ⟨s.gg, fun b o e n => s.kp b o e fun z => n (aa b z), R.same, fun b hb => ?_, by unfold outsOf; rw [List.length_map], fun k i d e1 e2 => ?_⟩
  · by_cases z : ∃ i ∈ bs, vs[i]? = some (V.ref b)
    · obtain ⟨i, hi, e⟩ := z
      obtain ⟨p, hp, e'⟩ := hB i hi
      rw [e] at e'; cases e'
      exact R.ownA b (R.byr _ hp).2.1
    · obtain ⟨h1, o, h2⟩ := h.ownA b hb
      obtain ⟨k1, k2⟩ := s.kp b o h2 z
      exact ⟨k2.trans h1, o, k1⟩
  · have hi : i ∈ bs := List.mem_of_getElem? e1
    obtain ⟨p, hp, e⟩ := hB i hi
    obtain ⟨q1, q2, x, q3⟩ := R.byr _ hp
    have ed : d = x := by
      unfold outsOf at e2
      rw [List.getElem?_map, e1] at e2
      have e2 : some (match ρ'[i]? with | some (Cell.own d) => d | _ => D.non) = some d := e2
      have q3 : ρ'[i]? = some (.own x) := q3
      rw [q3] at e2
      exact (Option.some.inj e2).symm
    subst ed
    obtain ⟨p', h1, h2, h3⟩ := R.own i d q3
    rw [show σ'[i]? = some (some (V.ref p)) from q1] at h1
    cases h1
    exact ⟨p, e, h3⟩
end
section
variable {P : Program} {w : World} {K : PySem.W.Frag} {mg : Str → Option Value} {base : Heap} {c : Cf}
theorem fn_core {qual : Str} {st : Stmt} {f : Addr} {N ps : List Str} {m : MS} (bs : List Nat) (hN : ps.length ≤ N.length) (hbs : ∀ i ∈ bs, i < ps.length) {cdv : Value} {A : Around} {outer : List Env} {s : Shared} {H : Hp} {vs : List V} {Q : VK} {E : XK}
    (body : ∀ (B : List (Nat × Addr)), B.map (·.1) = bs → PSs (cxOf (L2.CX P w) P w K mg base N qual (defScope st) f cdv A outer s H E) (defBody st) (tS c B (fun cls d _ H => E cls d H) m)) (h : spM c bs ps.length (mkFn N.length bs m) vs H Q E) :
    ∃ t, PSs (cxOf (L2.CX P w) P w K mg base N qual (defScope st) f cdv A outer s H E) (defBody st) t ∧ t { nx := fun _ H' => Q .non H', rt := Q } (start N vs) H := by
  obtain ⟨G, A0, ds, hn, ok, a⟩ := h
  have hl : vs.length = ps.length := by rw [ok.len, hn]
  have hlt : ∀ i ∈ bs, i < ds.length := fun i hi => by rw [hn]; exact hbs i hi
  -- the addresses of what is handed by reference
  have : ∃ B : List (Nat × Addr), B.map (·.1) = bs ∧ ∀ q ∈ B, vs[q.1]? = some (.ref q.2) := by
    have : ∀ l : List Nat, (∀ i ∈ l, i ∈ bs) → ∃ B : List (Nat × Addr), B.map (·.1) = l ∧ ∀ q ∈ B, vs[q.1]? = some (.ref q.2) := by
      intro l
      induction l with
      | nil => intro _; exact ⟨[], rfl, fun q h => by cases h⟩
      | cons i l ih =>
        intro hi
        obtain ⟨B, h1, h2⟩ := ih fun j hj => hi j (List.mem_cons_of_mem _ hj)
        have him := hi i List.mem_cons_self
        obtain ⟨p, e, _⟩ := ok.own i _ (List.getElem?_eq_getElem (hlt i him)) him
        refine ⟨(i, p) :: B, by rw [List.map_cons, h1], fun q hq => ?_⟩
        rcases List.mem_cons.mp hq with z | z
        · subst z; exact e
        · exact h2 q z
    exact this bs fun _ h => h
  obtain ⟨B, hB1, hB2⟩ := this
  have hBm : ∀ q ∈ B, q.1 ∈ bs ∧ vs[q.1]? = some (.ref q.2) := fun q hq => ⟨by rw [← hB1]; exact List.mem_map_of_mem hq, hB2 q hq⟩
  have hBi : ∀ i ∈ bs, ∃ p, (i, p) ∈ B ∧ vs[i]? = some (.ref p) := fun i hi => by
    rw [← hB1] at hi
    obtain ⟨q, hq, e⟩ := List.mem_map.mp hi
    subst e
    exact ⟨q.2, hq, hB2 q hq⟩
  refine ⟨_, body B hB1, G, _, _, rel_start ok (by rw [hl]; exact hN) B hBm hlt, ?_⟩
  have a : AfterF c bs G A0 H vs (match m (initC N.length bs ds) with
    | .next ρ => .ret .non (outsOf bs ρ)
    | .ret d ρ => .ret d (outsOf bs ρ)
    | .exc x ρ => .exc x (outsOf bs ρ)
    | _ => .stuck) Q E := a
  cases e : m (initC N.length bs ds) with
  | stuck => rw [e] at a; exact a.elim
  | brk ρ => rw [e] at a; exact a.elim
  | cont ρ => rw [e] at a; exact a.elim
  | next ρ => rw [e] at a; exact fun G' A' H' σ' s' R' => a G' H' .non (ret_of ok hlt hBi s' R') .non
  | ret d ρ => rw [e] at a; exact fun G' A' H' σ' v s' R' r => a G' H' v (ret_of ok hlt hBi s' R') r
  | exc x ρ => rw [e] at a; exact fun G' A' H' σ' dd s' R' r => a G' H' dd (ret_of ok hlt hBi s' R') r
/-- THE RULE for a def: its body's meaning is m -/
theorem fn_ok {x qual : Str} {st : Stmt} {f : Addr} {fd : FuncData} {N ps : List Str} {k : Nat} {dvs : List V} {kws : List (Str × V)} {m : MS} (bs : List Nat) (F : FunD K x qual (defArgs st) (defBody st) (defScope st) dvs kws f fd) (S : FnScope N ps (defScope st)) (hN : ps.length ≤ N.length) (hbs : ∀ i ∈ bs, i < ps.length)
    (body : ∀ (B : List (Nat × Addr)), B.map (·.1) = bs → ∀ (cdv : Value) (A : Around) (outer : List Env) (s : Shared) (H : Hp) (E : XK), Room k (A.deeper (PyProof.Rows.envOfC qual (defScope st) s.heap.objs.size f cdv)) →
      PSs (cxOf (L2.CX P w) P w K mg base N qual (defScope st) f cdv A outer s H E) (defBody st) (tS c B (fun cls d _ H => E cls d H) m)) :
    FnOk P w K mg base (L2.CX P w) (k + 1) f fd ps (spM c bs ps.length (mkFn N.length bs m)) :=
  F.ok S (fun vs H Q E h => by
    obtain ⟨G, A, ds, hn, ok, _⟩ := h
    rw [ok.len, hn]) fun cdv A outer s H vs Q E hr h => fn_core bs hN hbs (fun B hB => body B hB cdv A outer s H E hr) h
theorem fn_ok0 {x qual : Str} {st : Stmt} {f : Addr} {fd : FuncData} {N ps : List Str} {k : Nat} {dvs : List V} {kws : List (Str × V)} {m : MS} (F : FunD K x qual (defArgs st) (defBody st) (defScope st) dvs kws f fd) (S : FnScope N ps (defScope st)) (hN : ps.length ≤ N.length)
    (body : ∀ (cdv : Value) (A : Around) (outer : List Env) (s : Shared) (H : Hp) (E : XK), Room k (A.deeper (PyProof.Rows.envOfC qual (defScope st) s.heap.objs.size f cdv)) →
      PSs (cxOf (L2.CX P w) P w K mg base N qual (defScope st) f cdv A outer s H E) (defBody st) (tS c [] (fun cls d _ H => E cls d H) m)) :
    FnOk P w K mg base (L2.CX P w) (k + 1) f fd ps (spM c [] ps.length (mkFn N.length [] m)) :=
  fn_ok [] F S hN (fun i h => by simp at h) fun B hB => by
    have : B = [] := by simpa using hB
    subst this
    exact body
theorem fn_ok1 (i : Nat) {x qual : Str} {st : Stmt} {f : Addr} {fd : FuncData} {N ps : List Str} {k : Nat} {dvs : List V} {kws : List (Str × V)} {m : MS} (F : FunD K x qual (defArgs st) (defBody st) (defScope st) dvs kws f fd) (S : FnScope N ps (defScope st)) (hN : ps.length ≤ N.length) (hi : i < ps.length)
    (body : ∀ (a : Addr) (cdv : Value) (A : Around) (outer : List Env) (s : Shared) (H : Hp) (E : XK), Room k (A.deeper (PyProof.Rows.envOfC qual (defScope st) s.heap.objs.size f cdv)) →
      PSs (cxOf (L2.CX P w) P w K mg base N qual (defScope st) f cdv A outer s H E) (defBody st) (tS c [(i, a)] (fun cls d _ H => E cls d H) m)) :
    FnOk P w K mg base (L2.CX P w) (k + 1) f fd ps (spM c [i] ps.length (mkFn N.length [i] m)) :=
  fn_ok [i] F S hN (fun j h => by simp at h; subst h; exact hi) fun B hB => by
    match B, hB with
    | [(j, a)], hB =>
      have : j = i := by simpa using hB
      subst this
      exact body a
end
end Fx
set_option Elab.async false
set_option linter.all false
set_option maxRecDepth 100000
set_option maxHeartbeats 4000000
namespace Fx
open PySem L2
/-- what the written part says of FarmError -/
structure BaseX (K : PySem.W.Frag) (mg : Str → Option Value) (CB : Addr) : Prop where
  gB : mg "FarmError" = some (.ref CB)
  sB : PySem.W.specialIn K (.ref CB) "__getattribute__" = some (some (.builtin "type.__getattribute__"))
  rB : PySem.W.readsIn K CB (.type "type") = true
  vB : PySem.W.findCls K (.ref CB) (.type "type") "__init__" = some (.val (.builtin "ValueError.__init__"))
section
variable {X : Cx} {o e : Expr} {es : List Expr} {to te : TE} {ta : TA} {f : Str} {p p' p1 p2 pos : Pos}
theorem pe_feinit {CB : Addr} {pl : Sem Bool} (T : BaseX X.K X.mg CB) (ha : PA X (e :: es) ta) (hg : Gl X "FarmError" := by rfl)
    (hc : eval (.Call (.Attribute (.Name "FarmError" p1) "__init__" p2) (e :: es) [] pos) X.env = (do
      let ov ← eval (.Name "FarmError" p1) X.env
      standAt p2.atName
      let (f, first) ← holding [ov] (getMethod ov "__init__" pl)
      callWith pos f first (backTo pos (starEach (e :: es) X.env)) (backToKw pos (keywordEach [] X.env))) := by rfl)
    (he : starEach (e :: es) X.env = (false, eval e X.env) :: starEach es X.env := by rfl) (hpl : (backTo pos (starEach es X.env)).any (·.1) = false := by rfl) :
    PE X (.Call (.Attribute (.Name "FarmError" p1) "__init__" p2) (e :: es) [] pos) (tVeI X.K ta) := by
  refine ⟨fun pins s σ H Q I h => ?_⟩
  refine PySem.W.methodCall_KW (ld_glob I hg T.gB ?_ (by decide)) hc
  refine PySem.W.method_cls I.kIn T.sB (PySem.W.cls_value I.kIn T.rB T.vB (by decide +kernel) ?_)
  show wpAny _ _ (callWith pos (Value.builtin "ValueError.__init__") [] (backTo pos (starEach (e :: es) X.env)) []) _ _ _
  refine PyProof.Rows.callWith_method1 (thn (ha.run pos pins _ σ H _ (I.tok _) h) fun us s1 ⟨vs, H1, I1, r1, a, C, ws, ev, hl, T, ea, q⟩ => ?_) he hpl
  subst ev
  cases r1 with
  | @cons _ u0 _ ur ra rw' =>
    obtain rfl : u0 = Value.ref a := ra
    have hlen : ur.length ≤ sizeLine := by
      rw [← Paired.length rw', sizeLine_eq]
      omega
    exact oinit_ok T I1 ea hlen fun s' J => ⟨.non, H1, J, rfl, q⟩
end
/-- __init__ with one field, with two -/
def spI1 (C : Addr) (f : Str) : Sp := fun vs H Q _ => ∃ a y, vs = [.ref a, y] ∧ H a = some (exo a C none) ∧ ∀ dx, H dx = none → dx ≠ a → Q .non (upd (upd H dx (exd dx [(f, y)])) a (exo a C (some dx)))
def spI2 (C : Addr) (f g : Str) : Sp := fun vs H Q _ => ∃ a y z, vs = [.ref a, y, z] ∧ H a = some (exo a C none) ∧ ∀ dx, H dx = none → dx ≠ a → Q .non (upd (upd (upd H dx (exd dx [(f, y)])) a (exo a C (some dx))) dx (exd dx [(g, z), (f, y)]))
theorem read1 {K : PySem.W.Frag} {C : Addr} {f msg : Str} {N : List Str} (hN : N.length = 2) (T : OexC K C) (hf : PySem.W.findIn K (.ref C) f = some none) {vs : List V} {H : Hp} {Q : VK} {E : XK} (h : spI1 C f vs H Q E) :
    tSeq (tDrop (tVeI K (tCons (tVar 0) (tCons (tC (.str msg)) tNil)))) (tOst K f (tVar 0) (tVar 1)) { nx := fun _ H' => Q .non H', rt := Q } (L2.start N vs) H := by
  obtain ⟨a, y, rfl, ha, k⟩ := h
  have e0 : (L2.start N [V.ref a, y])[0]? = some (some (V.ref a)) := rfl
  have e1 : (L2.start N [V.ref a, y])[1]? = some (some y) := rfl
  exact ⟨_, e0, a, C, [.str msg], rfl, by simp, T, ha, _, e1, _, e0, a, C, rfl, T, hf, .inl ⟨ha, fun dx n ne => k dx n ne⟩⟩
theorem read2 {K : PySem.W.Frag} {C : Addr} {f g msg : Str} {N : List Str} (hN : N.length = 3) (T : OexC K C) (hf : PySem.W.findIn K (.ref C) f = some none) (hg : PySem.W.findIn K (.ref C) g = some none) {vs : List V} {H : Hp} {Q : VK} {E : XK} (h : spI2 C f g vs H Q E) :
    tSeq (tDrop (tVeI K (tCons (tVar 0) (tCons (tC (.str msg)) tNil)))) (tSeq (tOst K f (tVar 0) (tVar 1)) (tOst K g (tVar 0) (tVar 2))) { nx := fun _ H' => Q .non H', rt := Q } (L2.start N vs) H := by
  obtain ⟨a, y, z, rfl, ha, k⟩ := h
  have e0 : (L2.start N [V.ref a, y, z])[0]? = some (some (V.ref a)) := rfl
  have e1 : (L2.start N [V.ref a, y, z])[1]? = some (some y) := rfl
  have e2 : (L2.start N [V.ref a, y, z])[2]? = some (some z) := rfl
  refine ⟨_, e0, a, C, [.str msg], rfl, by simp, T, ha, _, e1, _, e0, a, C, rfl, T, hf, .inl ⟨ha, fun dx n ne => ?_⟩⟩
  exact ⟨_, e2, _, e0, a, C, rfl, T, hg, .inr ⟨dx, _, upd_same, by rw [upd_ne ne, upd_same], by simp, k dx n ne⟩⟩
section
variable {c : Cf} {B : List (Nat × Addr)} {W : WX} {X : Cx} {G H : Hp} {A : Addr → Prop} {σ : L2.St} {ρ : Cells} {Z : Ends}
/-- a class of errors as the written part has it: its code x -/
structure XcK (c : Cf) (K : PySem.W.Frag) (mg : Str → Option Value) (x : Nat) (nm : Str) (fI : Addr) : Prop where
  gC : mg nm = some (.ref (c.exc x))
  oex : OexC K (c.exc x)
  iC : PySem.W.findIn K (.ref (c.exc x)) "__init__" = some (some (.ref fI))
  tI : PySem.W.typeIn K (.ref fI) = some (.type "function")
def mRaise (x : Nat) (fs : List (M D)) : MS := mDo (seqM fs) fun ds ρ => .exc ⟨x, ds.reverse⟩ ρ
theorem raise_end (R : Rel c B G A H σ ρ) {x : Nat} {ds : List D} {d : Addr} {vs : List V} (hd : H d = none) (r : RepL c G vs ds.reverse) (a : AfterS c B W G A H (.exc ⟨x, ds.reverse⟩ ρ) Z) :
    W (.ref (c.exc x)) (some d) σ (upd H d (.xd ((c.flds x).zip vs))) := by
  have e := Ext.upd (o := .xd ((c.flds x).zip vs)) R.same hd
  exact a _ A _ σ d (Stp.same e.gg e.keep) (R.ext e) ⟨vs, upd_same, r.mono e.gg⟩
theorem ps_raise1 {x : Nat} {nm f : Str} {fI : Addr} {k : Nat} {fd : FuncData} {ps : List Str} {e : Expr} {fe : M D} {p pos pos2 : Pos} (hc : X.calm = true) (tk : Takes X W) (T : XcK c X.K X.mg x nm fI) (hf : c.flds x = [f])
    (F1 : FnOk X.prog X.w X.K X.mg X.base (L2.CX X.prog X.w) k fI fd ps (spI1 (c.exc x) f)) (hr : Room (k + 1) X.A) (hb : Binds X.K fd ps []) (ha : PE X e (tM c B W fe)) (hg : Gl X nm := by rfl)
    (hdb : (nm == ("__debug__" : Str)) = false := by decide) (he : starEach (e :: []) X.env = (false, eval e X.env) :: starEach [] X.env := by rfl) (hpl : (backTo pos (starEach [] X.env)).any (·.1) = false := by rfl) :
    PS X (.Raise (some (.Call (.Name nm p) [e] [] pos)) none pos2) (tS c B W (mRaise x [fe])) :=
  ps_imp (ps_raise hc tk (pmk_oex T.oex T.iC T.tI F1 hr hb .nil passL hg T.gC (pd_cons ha pd_nil he) hdb he hpl)) fun Z σ H ⟨G, A, ρ, R, a⟩ => by
    refine ⟨G, A, ρ, R, (a.split R).len.imp fun ds ρ' G' H' _ _ R' ⟨hl, q⟩ vs r => ?_⟩
    match ds, hl with
    | [d1], _ =>
      obtain ⟨v, rfl, rv⟩ := repL1 r
      refine ⟨by simp, fun a na => ⟨a, v, rfl, upd_same, fun dx n ne => ⟨rfl, dx, [(f, v)], upd_same, by rw [upd_ne ne, upd_same], ?_, ?_⟩⟩⟩
      · rw [upd_ne ne] at n; exact n
      · have n' : H' dx = none := by rw [upd_ne ne] at n; exact n
        have z := raise_end (vs := [v]) (ds := [d1]) R' n' (.one rv) q
        rw [hf] at z
        have ee : upd (del (upd (upd (upd H' a (exo a (c.exc x) none)) dx (exd dx [(f, v)])) a (exo a (c.exc x) (some dx))) a) dx (.xd [(f, v)]) = upd H' dx (.xd [(f, v)]) := by
          funext b
          by_cases hb : b = dx
          · subst hb; rw [upd_same, upd_same]
          · rw [upd_ne hb, upd_ne hb]
            by_cases hba : b = a
            · subst hba; rw [del_same, na]
            · rw [del_ne hba, upd_ne hba, upd_ne hb, upd_ne hba]
        rw [ee]
        exact z
theorem ps_raise2 {x : Nat} {nm f g : Str} {fI : Addr} {k : Nat} {fd : FuncData} {ps : List Str} {e e2 : Expr} {fe fe2 : M D} {p pos pos2 : Pos} (hc : X.calm = true) (tk : Takes X W) (T : XcK c X.K X.mg x nm fI) (hf : c.flds x = [g, f])
    (F1 : FnOk X.prog X.w X.K X.mg X.base (L2.CX X.prog X.w) k fI fd ps (spI2 (c.exc x) f g)) (hr : Room (k + 1) X.A) (hb : Binds X.K fd ps []) (ha : PE X e (tM c B W fe)) (ha2 : PE X e2 (tM c B W fe2)) (hg : Gl X nm := by rfl)
    (hdb : (nm == ("__debug__" : Str)) = false := by decide) (he : starEach (e :: [e2]) X.env = (false, eval e X.env) :: starEach [e2] X.env := by rfl) (he2 : starEach [e2] X.env = (false, eval e2 X.env) :: starEach [] X.env := by rfl) (hpl : (backTo pos (starEach [e2] X.env)).any (·.1) = false := by rfl) :
    PS X (.Raise (some (.Call (.Name nm p) [e, e2] [] pos)) none pos2) (tS c B W (mRaise x [fe, fe2])) :=
  ps_imp (ps_raise hc tk (pmk_oex T.oex T.iC T.tI F1 hr hb .nil passL hg T.gC (pd_cons ha (pd_cons ha2 pd_nil he2) he) hdb he hpl)) fun Z σ H ⟨G, A, ρ, R, a⟩ => by
    refine ⟨G, A, ρ, R, (a.split R).len.imp fun ds ρ' G' H' _ _ R' ⟨hl, q⟩ vs r => ?_⟩
    match ds, hl with
    | [d1, d2], _ =>
      cases r with
      | @cons v _ _ _ rv rt =>
        obtain ⟨w, rfl, rw'⟩ := repL1 rt
        refine ⟨by simp, fun a na => ⟨a, v, w, rfl, upd_same, fun dx n ne => ⟨rfl, dx, [(g, w), (f, v)], by rw [upd_ne (Ne.symm ne), upd_same], upd_same, ?_, ?_⟩⟩⟩
        · rw [upd_ne ne] at n; exact n
        · have n' : H' dx = none := by rw [upd_ne ne] at n; exact n
          have z := raise_end (vs := [w, v]) (ds := [d1, d2]) R' n' (.cons rw' (.one rv)) q
          rw [hf] at z
          have ee : upd (del (upd (upd (upd (upd H' a (exo a (c.exc x) none)) dx (exd dx [(f, v)])) a (exo a (c.exc x) (some dx))) dx (exd dx [(g, w), (f, v)])) a) dx (.xd [(g, w), (f, v)]) = upd H' dx (.xd [(g, w), (f, v)]) := by
            funext b
            by_cases hb : b = dx
            · subst hb; rw [upd_same, upd_same]
            · rw [upd_ne hb, upd_ne hb]
              by_cases hba : b = a
              · subst hba; rw [del_same, na]
              · rw [del_ne hba, upd_ne hb, upd_ne hba, upd_ne hb, upd_ne hba]
          rw [ee]
          exact z
end
end Fx
set_option Elab.async false
set_option linter.all false
set_option maxRecDepth 100000
set_option maxHeartbeats 4000000
namespace Fx
open PySem L2
section
variable {c : Cf} {B : List (Nat × Addr)} {W : WX} {X : Cx} {G H : Hp} {A : Addr → Prop} {σ : L2.St} {ρ : Cells} {Z : Ends}
theorem zip_lookup {f : Str} {d : D} : ∀ {ns : List Str} {vs : List V} {ds : List D}, RepL c G vs ds → ns.length = vs.length → (ns.zip ds).lookup f = some d → ∃ v, (ns.zip vs).lookup f = some v ∧ Rep c G v d
  | [], [], _, .nil, _, h => by cases h
  | n :: ns, v :: vs, e :: ds, .cons r t, hl, h => by
    rw [List.zip_cons_cons, List.lookup_cons] at h ⊢
    cases hq : f == n with
    | true => simp only [hq] at h ⊢; cases h; exact ⟨v, rfl, r⟩
    | false => simp only [hq] at h ⊢; exact zip_lookup t (by simpa using hl) h
  | n :: ns, [], _, .nil, hl, _ => by cases hl
def mFld (fe : M D) (f : Str) : M D := fe.bind fun d => match d with
  | .rcd ns ds => M.lift ((ns.zip ds).lookup f)
  | _ => M.stuck
theorem pm_fld {e : Expr} {f : Str} {fe : M D} {pos : Pos} (T : Cls X.K c.farm) (n : NoAttr X.K c.farm f) (he : PE X e (tM c B W fe)) (hb : attributeBase e f X.env (eval e X.env) = eval e X.env := by rfl) : PE X (.Attribute e f pos) (tM c B W (mFld fe f)) :=
  pe_imp (pe_fld he hb) fun σ H Q ⟨G, A, ρ, R, a⟩ => by
    refine ⟨G, A, ρ, R, a.split.imp fun d ρ1 G1 H1 _ _ R1 q v r => ?_⟩
    cases d <;> first | exact q.elim | skip
    obtain ⟨d, e1, q⟩ := q.lift R1
    cases r with
    | rcd h l rl =>
      obtain ⟨v, h1, h2⟩ := zip_lookup rl l e1
      exact ⟨_, _, _, _, v, rfl, R1.same _ _ h, T, n, h1, q v h2⟩
theorem putF_new {f : Str} {v : V} : ∀ {ns : List Str} {vs : List V}, ns.length = vs.length → ns.contains f = false → putF f v (ns.zip vs) = (ns ++ [f]).zip (vs ++ [v])
  | [], [], _, _ => rfl
  | n :: ns, w :: vs, hl, h => by
    have hn : ¬ n = f := fun z => by subst z; simp at h
    rw [List.zip_cons_cons, List.cons_append, List.cons_append, List.zip_cons_cons]
    show (if n = f then (n, v) :: ns.zip vs else (n, w) :: putF f v (ns.zip vs)) = _
    rw [if_neg hn, putF_new (by simpa using hl) (by simp at h ⊢; exact h.2)]
  | [], _ :: _, hl, _ => by cases hl
  | _ :: _, [], hl, _ => by cases hl
def mSetF (i : Nat) (f : Str) (fe : M D) : MS := mDo fe fun d => mDo (ownAt i) fun o ρ => match o with
  | .rcd ns ds => if ns.contains f = false ∧ ns.length < 100 then .next (ρ.set i (.own (.rcd (ns ++ [f]) (ds ++ [d])))) else .stuck
  | _ => .stuck
theorem ps_setF (i : Nat) {x f : Str} {e : Expr} {fe : M D} {np p pos : Pos} (T : Cls X.K c.farm) (n : NoAttr X.K c.farm f) (he : PE X e (tM c B W fe)) (hN : X.N[i]? = some x := by rfl) (hv : Vis X.env.scope x := by first | exact Or.inl rfl | exact Or.inr (Or.inl rfl) | exact Or.inr (Or.inr rfl)) (hd : (x == ("__debug__" : Str)) = false := by decide)
    (hcd : (x == ("__classdict__" : Str)) = false := by decide) (hs : swapsWith e (some (.Attribute (.Name x np) f p)) pos.line X.env = pure false := by rfl) : PS X (.Assign [.Attribute (.Name x np) f p] e pos) (tS c B W (mSetF i f fe)) :=
  ps_imp (ps_fld (pe_var hN hv hd hcd) he hs) fun Z σ H ⟨G, A, ρ, R, a⟩ => by
    refine ⟨G, A, ρ, R, (a.split R).imp fun d ρ1 G1 H1 _ _ R1 q v r => ?_⟩
    unfold mDo ownAt at q
    cases e1 : ρ1[i]? with
    | none => simp only [e1] at q; exact q.elim
    | some cl =>
      simp only [e1] at q
      cases cl with
      | no => exact q.elim
      | dat d => exact q.elim
      | own o =>
        simp only at q
        obtain ⟨p, es, hA, hO⟩ := R1.own i o e1
        cases o <;> first | exact q.elim | skip
        rename_i ns ds
        obtain ⟨dx, xs, h1, h2, h3⟩ := hO
        have q : AfterS c B W G1 A H1 (if ns.contains f = false ∧ ns.length < 100 then .next (ρ1.set i (.own (.rcd (ns ++ [f]) (ds ++ [d])))) else .stuck) Z := q
        split at q
        · rename_i hc
          refine ⟨_, es, p, _, dx, _, rfl, h1, T, n, by rw [List.length_zip]; omega, ?_⟩
          rw [putF_new h2 hc.1]
          obtain ⟨R2, k2, s2⟩ := R1.setOwn (d' := .rcd (ns ++ [f]) (ds ++ [d])) (o := .ins c.farm dx ((ns ++ [f]).zip (xs ++ [v]))) e1 es ⟨dx, _, rfl, by simp [h2], h3.append (.one r)⟩
          exact AfterS.nx (AfterS.of R1.own_there (Stp.same (Same.refl _) k2) q) R2
        · exact q.elim
def mMake (F : Fn) (fs : List (M D)) : M D := (seqM fs).bind fun ds ρ => match F (.rcd [] [] :: ds) with
  | .ret .non [.rcd ns es] => .ok (.rcd ns es) ρ
  | .exc x _ => .exc x ρ
  | _ => .stuck
theorem pm_make {F : Fn} {fs : List (M D)} {k n : Nat} {fI : Addr} {fd : FuncData} {ps : List Str} {E : XK} {x : Str} {p pos : Pos} {e : Expr} {es : List Expr} (Mk' : Mk X.K c.farm fI)
    (Fo : FnOk X.prog X.w X.K X.mg X.base (L2.CX X.prog X.w) k fI fd ps (spM c [0] n F)) (hr : Room (k + 1) X.A) (hx : Passes (L2.CX X.prog X.w) X E) (hm : X.mg x = some (.ref c.farm)) (hb : Binds X.K fd ps [])
    (ha : PA X (e :: es) (tD c B (fun cls d _ H => E cls d H) fs)) (hn : fs.length + 1 = n := by rfl) (hg : Gl X x := by rfl) (hdb : (x == ("__debug__" : Str)) = false := by decide)
    (he : starEach (e :: es) X.env = (false, eval e X.env) :: starEach es X.env := by rfl) (hpl : (backTo pos (starEach es X.env)).any (·.1) = false := by rfl) :
    PE X (.Call (.Name x p) (e :: es) [] pos) (tM c B (fun cls d _ H => E cls d H) (mMake F fs)) :=
  pe_imp (pe_make Mk' Fo hr hg hm hb .nil hx ha hdb he hpl) fun σ H Q ⟨G, A, ρ, R, a⟩ => by
    refine ⟨G, A, ρ, R, a.split.len.imp fun ds ρ1 G1 H1 _ _ R1 ⟨hl, q⟩ vs rv x dx hx hdx hne => ?_⟩
    have hsm : Same H1 (upd (upd H1 dx (.own x)) x (.ins c.farm dx [])) := fun b o e => by
      rw [upd_ne (ne_of_none e hx), upd_ne (ne_of_none e hdx)]; exact e
    have gx : G1 x = none := R1.same.free hx
    refine ⟨G1, fun b => b = x, .rcd [] [] :: ds, by rw [List.length_cons, hl]; exact hn, ⟨R1.same.trans hsm, fun b hb => by rw [hb]; exact ⟨gx, _, upd_same⟩, ?_, fun i d hd hi => ?_, fun i d hd hi => ?_, fun i j p hij hi hj => ?_⟩, ?_⟩
    · rw [List.append_nil, List.length_cons, List.length_cons, rv.length]
    · rw [List.append_nil]
      cases i with
      | zero => simp at hi
      | succ i =>
        obtain ⟨v, h1, h2⟩ := rv.get (i := i) (d := d) (by simpa using hd)
        exact ⟨v, by simpa using h1, h2⟩
    · have hi0 : i = 0 := by simpa using hi
      subst hi0
      have hd' : D.rcd [] [] = d := by simpa using hd
      subst hd'
      exact ⟨x, rfl, rfl, dx, [], upd_same, rfl, .nil⟩
    · have h1 : i = 0 := by simpa using hi
      have h2 : j = 0 := by simpa using hj
      exact absurd (h1.trans h2.symm) hij
    · have q : After c B (fun cls d _ H => E cls d H) G1 A H1 σ (match F (.rcd [] [] :: ds) with
        | .ret .non [.rcd ns es] => .ok (.rcd ns es) ρ1
        | .exc x _ => .exc x ρ1
        | _ => .stuck) (fun d _ G' H' => ∀ v, Rep c G' v d → Q v H') := q
      have ext : ∀ {outs : List D} {G' H' : Hp}, Ret c [0] G1 (fun b => b = x) (upd (upd H1 dx (.own x)) x (.ins c.farm dx [])) (V.ref x :: (vs ++ [])) outs G' H' → ∀ b o, H1 b = some o → H' b = some o ∧ G' b = G1 b := fun {outs G' H'} r b o e => r.kp b o (hsm b o e) (ne_of_none e hx)
      cases ef : F (.rcd [] [] :: ds) with
      | stuck => rw [ef] at q; exact q.elim
      | exc y outs =>
        rw [ef] at q
        intro G' H' dd r rx
        have ee : Ext G1 H1 G' H' := ⟨r.gg, fun b o e => (ext r b o e).1, r.gh, fun b o e => (ext r b o e).2⟩
        exact q G' H' dd r.gg ee.keep (R1.ext ee) rx
      | ret d0 outs =>
        rw [ef] at q
        cases d0 <;> first | exact q.elim | skip
        match outs, q with
        | [.rcd ns es], q =>
          intro G' H' v r rv0
          obtain rfl : v = .non := by cases rv0; rfl
          refine ⟨rfl, ?_⟩
          obtain ⟨p, hp, ho⟩ := r.outs.2 0 0 _ rfl rfl
          have hpx : p = x := by
            have : V.ref x = V.ref p := by simpa using hp
            cases this; rfl
          subst hpx
          obtain ⟨dx', xs, h1, h2, h3⟩ := ho
          have gn : G' p = none := (r.ownA p rfl).1
          have ee : Ext G1 H1 (upd G' p (.ins c.farm dx' (ns.zip xs))) H' := ⟨r.gg.trans (same_upd gn), fun b o e => (ext r b o e).1, fun b o e => by
            by_cases z : b = p
            · subst z; rw [upd_same] at e; cases e; exact h1
            · rw [upd_ne z] at e; exact r.gh b o e, fun b o e => by rw [upd_ne (ne_of_none e hx)]; exact (ext r b o e).2⟩
          exact q _ H' ee.gg ee.keep (R1.ext ee) _ (.rcd upd_same h2 (h3.mono (same_upd gn)))
def noName (m : Str) : D → Bool
  | .rcd ns _ => !ns.contains m
  | _ => false
def mMethF (F : Fn) (m : Str) (fo : M D) (fs : List (M D)) : M D := fo.bind fun d => if noName m d = true then (seqM fs).bind fun ds => appF F (d :: ds) else M.stuck
theorem zip_none {m : Str} : ∀ {ns : List Str} {vs : List V}, ns.contains m = false → (ns.zip vs).lookup m = none
  | [], _, _ => rfl
  | _ :: _, [], _ => rfl
  | n :: ns, v :: vs, h => by
    rw [List.zip_cons_cons, List.lookup_cons]
    simp at h
    have : (m == n) = false := by simpa using h.1
    rw [this]
    exact zip_none (by simpa using h.2)
theorem meth_core {F : Fn} {m : Str} {fo : M D} {fs : List (M D)} {n : Nat} {E : XK} {Q : VK} (hn : fs.length + 1 = n) (h : tM c B (fun cls d _ H => E cls d H) (mMethF F m fo fs) σ H Q) :
    tMeth c.farm m (spM c [] n F) [] E (tM c B (fun cls d _ H => E cls d H) fo) (tD c B (fun cls d _ H => E cls d H) fs) σ H Q := by
  obtain ⟨G, A, ρ, R, a⟩ := h
  refine ⟨G, A, ρ, R, a.split.imp fun d ρ1 G1 H1 _ _ R1 q v r => ?_⟩
  cases hd : noName m d with
  | false => rw [hd, if_neg Bool.false_ne_true] at q; exact q.elim
  | true =>
    rw [hd, if_pos rfl] at q
    cases d <;> first | (cases hd; done) | skip
    rename_i ns ds0
    have r0 := r
    cases r with
    | rcd h l rl =>
      refine ⟨_, _, _, rfl, R1.same _ _ h, zip_none (by simpa [noName] using hd), G1, A, ρ1, R1, q.split.len.imp fun ds ρ2 G2 H2 s2 _ R2 ⟨hl, q2⟩ vs rv => ?_⟩
      simp only [List.append_nil]
      refine ⟨G2, _, .rcd ns ds0 :: ds, by rw [List.length_cons, hl]; exact hn, argsOk_rep R2.same (.cons (r0.mono s2) rv), ?_⟩
      unfold appF at q2
      cases ef : F (.rcd ns ds0 :: ds) with
      | stuck => rw [ef] at q2; exact q2.elim
      | ret d outs =>
        rw [ef] at q2
        intro G' H' v r rv
        obtain ⟨s1, k1, R3⟩ := r.rel R2
        exact q2 G' H' s1 k1 R3 v rv
      | exc y outs =>
        rw [ef] at q2
        intro G' H' dd r rx
        obtain ⟨s1, k1, R3⟩ := r.rel R2
        exact q2 G' H' dd s1 k1 R3 rx
theorem pm_methF {F : Fn} {fs : List (M D)} {fo : M D} {k n : Nat} {f : Addr} {fd : FuncData} {ps : List Str} {E : XK} {m : Str} {apos pos : Pos} {o e : Expr} {es : List Expr} {pl : Sem Bool} (he : PE X o (tM c B (fun cls d _ H => E cls d H) fo)) (T : Cls X.K c.farm) (hm : Meth X.K c.farm m f)
    (Fo : FnOk X.prog X.w X.K X.mg X.base (L2.CX X.prog X.w) k f fd ps (spM c [] n F)) (hr : Room k X.A) (hx : Passes (L2.CX X.prog X.w) X E) (hb : Binds X.K fd ps [])
    (ha : PA X (e :: es) (tD c B (fun cls d _ H => E cls d H) fs)) (hn : fs.length + 1 = n := by rfl)
    (hst : starEach (e :: es) X.env = (false, eval e X.env) :: starEach es X.env := by rfl) (hpl : (backTo pos (starEach es X.env)).any (·.1) = false := by rfl)
    (ht : eval (.Call (.Attribute o m apos) (e :: es) [] pos) X.env = (do
      let ov ← eval o X.env
      standAt apos.atName
      let (f, first) ← holding [ov] (getMethod ov m pl)
      callWith pos f first (backTo pos (starEach (e :: es) X.env)) (backToKw pos (keywordEach [] X.env))) := by rfl) :
    PE X (.Call (.Attribute o m apos) (e :: es) [] pos) (tM c B (fun cls d _ H => E cls d H) (mMethF F m fo fs)) :=
  pe_imp (pe_meth he T hm Fo hr hb .nil hx ha hst hpl ht) fun σ H Q h => meth_core hn h
theorem pm_methF0 {F : Fn} {fo : M D} {k : Nat} {f : Addr} {fd : FuncData} {ps : List Str} {E : XK} {m : Str} {apos pos : Pos} {o : Expr} {pl : Sem Bool} (he : PE X o (tM c B (fun cls d _ H => E cls d H) fo)) (T : Cls X.K c.farm) (hm : Meth X.K c.farm m f)
    (Fo : FnOk X.prog X.w X.K X.mg X.base (L2.CX X.prog X.w) k f fd ps (spM c [] 1 F)) (hr : Room k X.A) (hx : Passes (L2.CX X.prog X.w) X E) (hb : Binds X.K fd ps [])
    (ht : eval (.Call (.Attribute o m apos) [] [] pos) X.env = (do
      let ov ← eval o X.env
      standAt apos.atName
      let (f, first) ← holding [ov] (getMethod ov m pl)
      callWith pos f first (backTo pos (starEach [] X.env)) (backToKw pos (keywordEach [] X.env))) := by rfl) :
    PE X (.Call (.Attribute o m apos) [] [] pos) (tM c B (fun cls d _ H => E cls d H) (mMethF F m fo [])) :=
  pe_imp (pe_meth0 he T hm Fo hr hb .nil hx ht) fun σ H Q h => by
    have h := meth_core (n := 1) rfl h
    obtain ⟨G, A, ρ, R, a⟩ := h
    exact ⟨G, A, ρ, R, a.imp fun d ρ1 G1 H1 _ _ R1 q v r => by
      obtain ⟨a, dx, fs, h1, h2, h3, G2, A2, ρ2, R2, q2⟩ := q v r
      exact ⟨a, dx, fs, h1, h2, h3, After.ok q2 R2 [] .nil⟩⟩
end
end Fx
set_option Elab.async false
set_option linter.all false
set_option maxRecDepth 100000
set_option maxHeartbeats 4000000
namespace Fx
open PySem L2
section
variable {c : Cf} {B : List (Nat × Addr)} {W : WX} {X : Cx} {G H : Hp} {A : Addr → Prop} {σ : L2.St} {ρ : Cells} {Z : Ends}
def mNeg (f : M D) : M D := f.bind fun d => match d with
  | .int i => M.pure (.int (-i))
  | _ => M.stuck
theorem pm_neg {a : Expr} {f : M D} {pos : Pos} (h : PE X a (tM c B W f)) : PE X (.UnaryOp .USub a pos) (tM c B W (mNeg f)) :=
  pe_imp (pe_un un_neg h) fun σ H Q ⟨G, A, ρ, R, a⟩ => by
    refine ⟨G, A, ρ, R, a.split.imp fun d ρ1 G1 H1 _ _ R1 q v r => ?_⟩
    cases d <;> first | exact q.elim | skip
    obtain rfl := rep_int r
    exact ⟨_, rfl, After.ok q R1 _ (.int _)⟩
def mPar (f g : M D) (i j : Nat) : MS := mDo f fun d => mDo g fun e ρ => .next ((ρ.set i (.dat d)).set j (.dat e))
def isRcd : D → Bool
  | .rcd _ _ => true
  | _ => false
def mLenF (F : Fn) (fe : M D) : M D := fe.bind fun d ρ => if isRcd d = true then (match F [d] with
  | .ret (.int n) _ => if 0 ≤ n ∧ n < 2 ^ 63 then .ok (.int n) ρ else .stuck
  | _ => .stuck) else .stuck
theorem pm_lenF {F : Fn} {fe : M D} {k : Nat} {f : Addr} {fd : FuncData} {ps : List Str} {E : XK} {e : Expr} {p pos : Pos} (hs : PySem.W.findIn X.K (.ref c.farm) "__len__" = some (some (.ref f))) (hf : PySem.W.isFn X.K (.ref f) = true)
    (Fo : FnOk X.prog X.w X.K X.mg X.base (L2.CX X.prog X.w) k f fd ps (spM c [] 1 F)) (hr : Room (k + 1) X.A) (tk : Takes X W) (hb : Binds X.K fd ps []) (hm : X.mg "len" = none)
    (he : PE X e (tM c B W fe)) (hg : Gl X "len" := by rfl)
    (hst : starEach [e] X.env = (false, eval e X.env) :: starEach [] X.env := by rfl) (hpl : (backTo pos (starEach [] X.env)).any (·.1) = false := by rfl) :
    PE X (.Call (.Name "len" p) [e] [] pos) (tM c B W (mLenF F fe)) := by
  refine ⟨fun pins s σ H Q I ⟨G, A, ρ, R, a⟩ => ?_⟩
  refine wpAny_Call_Name_kw (ld_blt I hg hm boot_len ?_)
  refine PyProof.Rows.callWith_builtin1 (thn ((pa_cons he pa_nil hst).run pos pins s σ H (fun vs H2 => ∃ v d G' ρ', vs = [v] ∧ Rel c B G' A H2 σ ρ' ∧ Rep c G' v d ∧ After c B W G' A H2 σ (if isRcd d = true then (match F [d] with
    | .ret (.int n) _ => if 0 ≤ n ∧ n < 2 ^ 63 then .ok (.int n) ρ' else .stuck
    | _ => .stuck) else .stuck) fun d _ G' H' => ∀ v, Rep c G' v d → Q v H') I ?_) fun us s1 ⟨vs, H1, I1, r1, q1⟩ => ?_) hst hpl
  · exact ⟨G, A, ρ, R, a.split.imp fun d ρ1 G1 H1 _ _ R1 q v r => ⟨v, d, G1, ρ1, rfl, R1, r, q⟩⟩
  · obtain ⟨v, d, G', ρ', rfl, R', r, q⟩ := q1
    cases d <;> first | exact q.elim | skip
    rename_i ns ds
    have r0 := r
    cases r with
    | rcd h l rl =>
      rename_i x dx xs
      rw [show isRcd (D.rcd ns ds) = true from rfl, if_pos rfl] at q
      cases ef : F [.rcd ns ds] with
      | stuck => rw [ef] at q; exact q.elim
      | exc y outs => rw [ef] at q; exact q.elim
      | ret d0 outs =>
        rw [ef] at q
        cases d0 <;> first | exact q.elim | skip
        rename_i n
        have q : After c B W G' A H1 σ (if 0 ≤ n ∧ n < 2 ^ 63 then .ok (.int n) ρ' else .stuck) fun d _ G' H' => ∀ v, Rep c G' v d → Q v H' := q
        split at q
        · rename_i hn
          cases r1 with
          | cons rv rn =>
            cases rn
            obtain rfl : _ = Value.ref x := rv
            obtain ⟨mA, O, _⟩ := ins_get I1.hok (R'.same _ _ h)
            obtain ⟨od, J, _⟩ := ObjM.look O
            refine Calls.call_function_entry kind_len plain_len entry_len (args_len1 _) ?_
            unfold Builtin.«len»
            refine wpAny_bind (m := oneArg "len" _) (wpAny_pure ?_)
            refine wpAny_bind (m := callSpecial? (.ref x) (Str.ofString "__len__")) (PySem.W.special_fn I1.kIn J hs (beq_iff_eq.mp hf) ?_)
            have hsp : spM c [] 1 F [V.ref x] H1 (fun v H' => v = .int n ∧ Q v H') (fun cls d H => W cls d σ H) := by
              refine ⟨G', _, [.rcd ns ds], rfl, argsOk_rep R'.same (.cons r0 .nil), ?_⟩
              rw [ef]
              intro G2 H2 v r rv
              obtain ⟨s1, k1, R3⟩ := r.rel R'
              obtain rfl := rep_int rv
              exact ⟨rfl, q G2 H2 s1 k1 R3 _ (.int _)⟩
            refine wpAny_call (codeAny_mono (Fo.run X.A.in1 X.stack s1 H1 ⟨[.ref x], []⟩ [.ref x] [.ref x] _ (fun cls d H => W cls d σ H) hr.in1 I1.env0.in1 (hb s1 [.ref x] I1.kIn (Fo.len _ _ _ _ hsp)) (.cons rfl .nil) hsp) fun r s' hq => ?_)
            cases r with
            | error e => exact passAt tk σ pins H1 s1 e s' I1 hq
            | ok fl =>
              cases fl with
              | ret u =>
                obtain ⟨v, H2, I2, ru, ev, qv⟩ := I1.after hq
                subst ev
                obtain ⟨tk2, rfl⟩ := ru
                refine wpAny_bind (wpAny_holding (wpAny_pure ?_))
                refine wpAny_bind (wpAny_letGo ?_)
                show wpAny _ _ (if n < 0 then _ else _) _ _ _
                rw [if_neg (by omega)]
                show wpAny _ _ (if n ≥ 2 ^ 63 then _ else _) _ _ _
                rw [if_neg (by omega)]
                exact wpAny_bind (wpAny_mkInt (wpAny_pure ⟨_, rfl, V.int n, H2, I2.tok _, ⟨_, rfl⟩, qv⟩))
              | next => exact False.elim hq
              | brk => exact False.elim hq
              | cont => exact False.elim hq
        · exact q.elim
end
end Fx
set_option Elab.async false
set_option linter.all false
set_option maxRecDepth 100000
set_option maxHeartbeats 4000000
namespace Fx
open PySem L2
section
variable {c : Cf} {B : List (Nat × Addr)} {W : WX} {X : Cx} {G H : Hp} {A : Addr → Prop} {σ : L2.St} {ρ : Cells} {Z : Ends}
def dedupI : List Int → List Int
  | [] => []
  | a :: l => if l.contains a = true then dedupI l else a :: dedupI l
theorem mem_dedupI {a : Int} : ∀ {l : List Int}, a ∈ dedupI l ↔ a ∈ l
  | [] => Iff.rfl
  | b :: l => by
    unfold dedupI
    split
    · rename_i h
      have h : b ∈ l := by simpa using h
      rw [mem_dedupI]
      constructor
      · exact List.mem_cons_of_mem _
      · intro z
        rcases List.mem_cons.mp z with e | e
        · subst e; exact h
        · exact e
    · rw [List.mem_cons, List.mem_cons, mem_dedupI]
theorem nodup_dedupI : ∀ l : List Int, (dedupI l).Nodup
  | [] => List.nodup_nil
  | b :: l => by
    unfold dedupI
    split
    · exact nodup_dedupI l
    · rename_i h
      exact List.nodup_cons.mpr ⟨fun z => h (by simpa using mem_dedupI.mp z), nodup_dedupI l⟩
theorem len_sub : ∀ {l m : List Int}, l.Nodup → (∀ x ∈ l, x ∈ m) → l.length ≤ m.length
  | [], _, _, _ => Nat.zero_le _
  | a :: l, m, nd, h => by
    obtain ⟨h1, h2⟩ := List.nodup_cons.mp nd
    have ha := h a List.mem_cons_self
    have q := len_sub (l := l) (m := m.erase a) h2 fun x hx => (List.mem_erase_of_ne (fun e => h1 (by rw [← e]; exact hx))).mpr (h x (List.mem_cons_of_mem _ hx))
    rw [List.length_erase_of_mem ha] at q
    have := List.length_pos_of_mem ha
    rw [List.length_cons]
    omega
def sLenSet : D → Option D
  | .tup ds => (intsOf ds).bind fun is => if is.length ≤ 4000 then some (.int (dedupI is).length) else none
  | _ => none
def mLenSet (fe : M D) : M D := fe.bind fun d => M.lift (sLenSet d)
theorem pm_lenSet {a : Expr} {f : M D} {p p2 q pos : Pos} (hc : X.calm = true) (hm : X.mg "len" = none) (hm2 : X.mg "set" = none) (ha : PE X a (tM c B W f)) (hK : c.K = X.K) (hg : Gl X "len" := by rfl) (hg2 : Gl X "set" := by rfl)
    (na : starEach [a] X.env = (false, eval a X.env) :: starEach [] X.env := by rfl) : PE X (.Call (.Name "len" p) [.Call (.Name "set" p2) [a] [] q] [] pos) (tM c B W (mLenSet f)) := by
  refine ⟨fun pins s σ H Q I ⟨G, A, ρ, R, h⟩ => ?_⟩
  refine PyProof.Rows.Call_ (ld_blt I hg hm boot_len ?_)
  refine PyProof.Rows.callWith_builtin1 (PyProof.Rows.args_cons ?_ rfl) rfl rfl
  refine PyProof.Rows.Call_ (ld_blt I hg2 hm2 PyProof.Rows.boot_set ?_)
  refine PyProof.Rows.callWith_type1 (PyProof.Rows.args_cons (thn (ha.run pins s σ H (fun x H2 => ∃ d G' ρ', Rel c B G' A H2 σ ρ' ∧ Rep c G' x d ∧ After c B W G' A H2 σ (M.lift (sLenSet d) ρ') fun d _ G' H' => ∀ v, Rep c G' v d → Q v H') I ?_) fun v s1 ⟨x, H1, I1, r1, q1⟩ => PyProof.Rows.args_nil ?_) na) na rfl
  · exact ⟨G, A, ρ, R, h.split.imp fun d ρ1 G1 H1 _ _ R1 q v r => ⟨d, G1, ρ1, R1, r, q⟩⟩
  · obtain ⟨d, G', ρ', R', r, q⟩ := q1
    obtain ⟨e, he, q⟩ := q.lift R'
    cases d <;> first | (cases he; done) | skip
    rename_i ds
    have he : ((intsOf ds).bind fun is => if is.length ≤ 4000 then some (D.int (dedupI is).length) else none) = some e := he
    cases hi : intsOf ds with
    | none => rw [hi] at he; cases he
    | some ns =>
      rw [hi] at he
      have he : (if ns.length ≤ 4000 then some (D.int (dedupI ns).length) else none) = some e := he
      split at he
      · rename_i hl4
        cases he
        cases r with
        | tup h1 rl =>
          rename_i l xs
          have ex := repI rl hi
          subst ex
          cases r1
          have hS : SqT X.K H1 l (ns.map V.int) := by rw [← hK]; exact (h1.mono R'.same).sq
          obtain ⟨its, rv, pl, hz⟩ := I1.tuple hS
          have hii : PyProof.Rows.IntsAre its.toArray.toList ns := ints_of_vals rv
          refine call_set_tupI ns (I1.ok.hd hc) (show s1.heap.IsTuple l its.toArray from pl) hii (by unfold scanBound; omega) fun h' tk c0 R1 hcn hk => ?_
          refine PyProof.Rows.args_nil ?_
          obtain ⟨o, es, ep, t, ho, hex, hd, g, nd, hm3, hb, hf, hn, _⟩ := R1
          have I2 : Inv X pins σ H1 { s1 with heap := h', toks := tk } := I1.kept fun b o e => hk b o e
          have el : es.size = (dedupI ns).length := by
            have e1 : es.size = (es.toList.map keyOf).length := by simp
            rw [e1]
            have m1 : ∀ k, k ∈ es.toList.map keyOf ↔ k ∈ dedupI ns := fun k => by rw [mem_dedupI, ← hm3 k, decide_eq_true_eq]
            exact Nat.le_antisymm (len_sub nd fun x hx => (m1 x).mp hx) (len_sub (nodup_dedupI ns) fun x hx => (m1 x).mpr hx)
          refine call_len_set ho hex hd hf (by rw [hn]; omega) ⟨.int es.size, H1, I2.tok _, ⟨_, rfl⟩, ?_⟩
          rw [el]
          exact q _ (.int _)
      · cases he
def keyD : D → Option Key
  | .int i => some (.inl i)
  | .str x => some (.inr x)
  | _ => none
theorem rep_key {v : V} {d : D} {k : Key} (r : Rep c G v d) (h : keyD d = some k) : v = kV k := by
  cases r <;> cases h <;> rfl
theorem Opr.dic {v : V} {ks : List Key} {ds : List D} (s : Same G H) (h : Opr c G H v (.dic ks ds)) : ∃ p xs, v = .ref p ∧ Rd H p (.dK (ks.zip xs)) ∧ ks.length = xs.length ∧ RepL c G xs ds := by
  rcases h with h | ⟨p, rfl, xs, h1, h2, h3⟩
  · cases h with
    | dic h1 h2 h3 => exact ⟨_, _, rfl, same_rd s h1, h2, h3⟩
  · exact ⟨p, xs, rfl, .inl h1, h2, h3⟩
theorem Opr.key {x : V} {d : D} {k : Key} (a : Opr c G H x d) (h : keyD d = some k) : x = kV k := by
  refine rep_key (a.rep fun o z => ?_) h
  cases d <;> first | exact z.elim | cases h
end
end Fx
set_option Elab.async false
set_option linter.all false
set_option maxRecDepth 100000
set_option maxHeartbeats 4000000
namespace Fx
open PySem L2
section
variable {c : Cf} {B : List (Nat × Addr)} {W : WX} {X : Cx} {G H : Hp} {A : Addr → Prop} {σ : L2.St} {ρ : Cells} {Z : Ends}
def mCallN (F : Fn) (f : M D) (fs : List (M D)) : M D := f.bind fun d => (seqM fs).bind fun ds ρ => match F (d :: ds) with
  | .stuck => .stuck
  | .ret e _ => .ok e ρ
  | .exc x _ => .exc x ρ
end
section
variable {P : Program} {w : World} {K : PySem.W.Frag} {mg : Str → Option Value} {base : Heap} {c : Cf}
/-- the def that stands under the name nm -/
structure Cal (P : Program) (w : World) (K : PySem.W.Frag) (mg : Str → Option Value) (base : Heap) (c : Cf) (k : Nat) (nm : Str) (bs : List Nat) (n : Nat) (F : Fn) : Prop where
  ex : ∃ f fd ps, FnOk P w K mg base (L2.CX P w) k f fd ps (spM c bs n F) ∧ mg nm = some (.ref f) ∧ PySem.W.keepIn K (.ref f) = true ∧ Binds K fd ps []
theorem Cal.mono {k j : Nat} {nm : Str} {bs : List Nat} {n : Nat} {F : Fn} (h : Cal P w K mg base c k nm bs n F) (hk : k ≤ j) : Cal P w K mg base c j nm bs n F := by
  obtain ⟨f, fd, ps, h1, h2⟩ := h.ex
  exact ⟨f, fd, ps, h1.mono hk, h2⟩
/-- n parameters ahead, one by keyword alone, its default: () -/
structure CalK (P : Program) (w : World) (K : PySem.W.Frag) (mg : Str → Option Value) (base : Heap) (c : Cf) (k : Nat) (nm : Str) (n : Nat) (ky : Str) (F : Fn) : Prop where
  ex : ∃ f fd ps vds dvs, FnOk P w K mg base (L2.CX P w) k f fd ps (spM c [] (n + 1) F) ∧ mg nm = some (.ref f) ∧ PySem.W.keepIn K (.ref f) = true ∧ Binds K fd ps vds ∧ Vals dvs vds ∧ (∀ G, RepL c G dvs [.tup []]) ∧
    KBn K fd ps n [ky] (fun us ws => us ++ ws) (fun vs zs => vs ++ zs)
theorem CalK.mono {k j : Nat} {nm : Str} {n : Nat} {ky : Str} {F : Fn} (h : CalK P w K mg base c k nm n ky F) (hk : k ≤ j) : CalK P w K mg base c j nm n ky F := by
  obtain ⟨f, fd, ps, vds, dvs, h1, h2⟩ := h.ex
  exact ⟨f, fd, ps, vds, dvs, h1.mono hk, h2⟩
end
section
variable {c : Cf} {B : List (Nat × Addr)} {W : WX} {X : Cx}
theorem pm_cal {F : Fn} {os : List Opn} {k j n : Nat} {x : Str} {p pos : Pos} {e : Expr} {es : List Expr} (C : Cal X.prog X.w X.K X.mg X.base c j x (ownPos 0 os) n F) (hr : Room k X.A) (tk : Takes X W) (ha : PA X (e :: es) (tR c B W os)) (hj : j ≤ k := by decide)
    (nd : (ownSlots os).Nodup := by decide) (hn : os.length + 0 = n := by rfl) (hg : Gl X x := by rfl) (hdb : (x == ("__debug__" : Str)) = false := by decide)
    (he : starEach (e :: es) X.env = (false, eval e X.env) :: starEach es X.env := by rfl) (hpl : (backTo pos (starEach es X.env)).any (·.1) = false := by rfl) :
    PE X (.Call (.Name x p) (e :: es) [] pos) (tM c B W (mCallF F os)) := by
  obtain ⟨f, fd, ps, h1, h2, h3, h4⟩ := C.ex
  have q := pm_callF (p := p) (dds := []) h1 (hr.mono hj) tk h2 h3 h4 .nil (fun _ => .nil) ha nd hn hg hdb he hpl
  simp only [List.append_nil] at q
  exact q
end
end Fx
set_option Elab.async false
set_option linter.all false
set_option maxRecDepth 100000
set_option maxHeartbeats 4000000
namespace Fx
open PySem L2
/-- the built-in names that the module has not bound -/
structure Blt (mg : Str → Option Value) : Prop where
  zlen : mg "len" = none
  ztuple : mg "tuple" = none
  zlist : mg "list" = none
  zint : mg "int" = none
  zsum : mg "sum" = none
  zall : mg "all" = none
  zmax : mg "max" = none
  zmin : mg "min" = none
  zsorted : mg "sorted" = none
  zisinstance : mg "isinstance" = none
  zenumerate : mg "enumerate" = none
  zrange : mg "range" = none
  zset : mg "set" = none
  zbool : mg "bool" = none
  zstr : mg "str" = none
section
variable {c : Cf} {B : List (Nat × Addr)} {W : WX} {X : Cx} {G H : Hp} {A : Addr → Prop} {σ : L2.St} {ρ : Cells} {Z : Ends}
theorem takes0 : Takes X W0 := fun u s' ⟨_, _, _, _, _, _, _, _, _, _, _, _, _, _, _, _, w⟩ => w.elim
theorem passE {E : XK} (tk : Takes X (fun cls d _ H => E cls d H)) : Passes (L2.CX X.prog X.w) X E := fun pins σ H s e s' I h => passAt tk σ pins H s e s' I h
theorem o_add {a b : Expr} {oa ob : Opn} {pos : Pos} (ha : PE X a (tO c B W oa)) (hb : PE X b (tO c B W ob)) (hK : c.K = X.K := by rfl) : PE X (.BinOp a .Add b pos) (tM c B W (mOp2 sAdd oa ob)) := pm_op semAdd (by rw [hK]; exact pe_op op_addA ha hb)
theorem o_sub {a b : Expr} {oa ob : Opn} {pos : Pos} (ha : PE X a (tO c B W oa)) (hb : PE X b (tO c B W ob)) : PE X (.BinOp a .Sub b pos) (tM c B W (mOp2 sSub oa ob)) := pm_op semSub (pe_op op_sub ha hb)
theorem o_mul {a b : Expr} {oa ob : Opn} {pos : Pos} (ha : PE X a (tO c B W oa)) (hb : PE X b (tO c B W ob)) : PE X (.BinOp a .Mult b pos) (tM c B W (mOp2 sMul oa ob)) := pm_op semMul (pe_op op_mul ha hb)
theorem o_fdiv {a b : Expr} {oa ob : Opn} {pos : Pos} (ha : PE X a (tO c B W oa)) (hb : PE X b (tO c B W ob)) : PE X (.BinOp a .FloorDiv b pos) (tM c B W (mOp2 sFdiv oa ob)) := pm_op semFdiv (pe_op op_fdivN ha hb)
theorem o_mod {a b : Expr} {oa ob : Opn} {pos : Pos} (ha : PE X a (tO c B W oa)) (hb : PE X b (tO c B W ob)) : PE X (.BinOp a .Mod b pos) (tM c B W (mOp2 sMod oa ob)) := pm_op semMod (pe_op op_modN ha hb)
theorem o_pow {a b : Expr} {oa ob : Opn} {pos : Pos} (ha : PE X a (tO c B W oa)) (hb : PE X b (tO c B W ob)) : PE X (.BinOp a .Pow b pos) (tM c B W (mOp2 sPow oa ob)) := pm_op semPow (pe_op op_pow ha hb)
theorem f_mul {a b : Expr} {oa ob : Opn} {pos : Pos} (ha : PE X a (tO c B W oa)) (hb : PE X b (tO c B W ob)) (hK : c.K = X.K := by rfl) : PE X (.BinOp a .Mult b pos) (tF c B W (mOp2 sMulL oa ob)) := pf_op semMulL (by rw [hK]; exact pe_op op_repR ha hb)
theorem o_ge {a b : Expr} {oa ob : Opn} {pos : Pos} (ha : PE X a (tO c B W oa)) (hb : PE X b (tO c B W ob)) : PE X (.Compare a [.GtE] [b] pos) (tM c B W (mOp2 sGe oa ob)) := pm_op semGe (pe_cmpR op_ge ha hb (nomark _))
theorem o_eq {a b : Expr} {oa ob : Opn} {pos : Pos} (hu : X.A.units + 64 < cLine) (ha : PE X a (tO c B W oa)) (hb : PE X b (tO c B W ob)) (hK : c.K = X.K := by rfl) : PE X (.Compare a [.Eq] [b] pos) (tM c B W (mOp2 sEq oa ob)) := pm_op semEq (by rw [hK]; exact pe_cmpR (op_eqN hu) ha hb (nomark _))
theorem o_chlele {a b d : Expr} {oa ob od : Opn} {pos : Pos} (ha : PE X a (tO c B W oa)) (hb : PE X b (tO c B W ob)) (hd : PE X d (tO c B W od)) (hm : lastMarks [CmpOp.LtE, CmpOp.LtE] [b, d] = false := by with_unfolding_all rfl) : PE X (.Compare a [.LtE, .LtE] [b, d] pos) (tM c B W (mChain sLe sLe oa ob od)) := pm_chain semLe semLe (pe_chain op_le op_le ha hb hd hm)
theorem t_lt {a b : Expr} {oa ob : Opn} {pos : Pos} (ha : PE X a (tO c B W oa)) (hb : PE X b (tO c B W ob)) : PT X (.Compare a [.Lt] [b] pos) (tT c B W (mB (mOp2 sLt oa ob))) := pt_op semLt (pt_cmpR op_lt ha hb (nomark _))
theorem t_gt {a b : Expr} {oa ob : Opn} {pos : Pos} (ha : PE X a (tO c B W oa)) (hb : PE X b (tO c B W ob)) : PT X (.Compare a [.Gt] [b] pos) (tT c B W (mB (mOp2 sGt oa ob))) := pt_op semGt (pt_cmpR op_gt ha hb (nomark _))
theorem t_eq {a b : Expr} {oa ob : Opn} {pos : Pos} (hu : X.A.units + 64 < cLine) (ha : PE X a (tO c B W oa)) (hb : PE X b (tO c B W ob)) (hK : c.K = X.K := by rfl) : PT X (.Compare a [.Eq] [b] pos) (tT c B W (mB (mOp2 sEq oa ob))) := pt_op semEq (by rw [hK]; exact pt_cmpR (op_eqN hu) ha hb (nomark _))
theorem t_ne {a b : Expr} {oa ob : Opn} {pos : Pos} (hu : X.A.units + 64 < cLine) (ha : PE X a (tO c B W oa)) (hb : PE X b (tO c B W ob)) (hK : c.K = X.K := by rfl) : PT X (.Compare a [.NotEq] [b] pos) (tT c B W (mB (mOp2 sNe oa ob))) := pt_op semNe (by rw [hK]; exact pt_cmpR (op_neN hu) ha hb (nomark _))
theorem t_and {a b : Expr} {rest : List Expr} {pos : Pos} {f g : M Bool} (ha : PT X a (tT c B W f)) (hb : PW X (.BoolOp .And (b :: rest) pos) (tT c B W g)) : PT X (.BoolOp .And (a :: b :: rest) pos) (tT c B W (mAnd f g)) := (pw_andM ha hb).pt
theorem t_or {a b : Expr} {rest : List Expr} {pos : Pos} {f g : M Bool} (ha : PT X a (tT c B W f)) (hb : PW X (.BoolOp .Or (b :: rest) pos) (tT c B W g)) : PT X (.BoolOp .Or (a :: b :: rest) pos) (tT c B W (mOr f g)) := (pw_orM ha hb).pt
theorem o_ix {a b : Expr} {oa ob : Opn} {pos : Pos} (ha : PE X a (tO c B W oa)) (hb : PE X b (tO c B W ob)) (hK : c.K = X.K := by rfl) (hs : PlainIx b := by intro _ _; rfl) : PE X (.Subscript a b pos) (tM c B W (mOp2 sIx oa ob)) := pm_op semIx (by rw [hK]; exact pe_ix ix_N ha hb hs)
theorem o_sl {a : Expr} {lo hi : Option Expr} {o : Opn} {l u : Option (M D)} {p2 pos : Pos} (ha : PE X a (tO c B W o)) (hl : L2.PO X lo (tPt c B W l)) (hu : L2.PO X hi (tPt c B W u)) (hK : c.K = X.K := by rfl) : PE X (.Subscript a (.Slice lo hi none p2) pos) (tM c B W (mSl sCut o l u)) := pm_sl semCut (by rw [hK]; exact pe_slice sl_N ha hl hu)
theorem f_sl {a : Expr} {lo hi : Option Expr} {o : Opn} {l u : Option (M D)} {p2 pos : Pos} (ha : PE X a (tO c B W o)) (hl : L2.PO X lo (tPt c B W l)) (hu : L2.PO X hi (tPt c B W u)) (hK : c.K = X.K := by rfl) : PE X (.Subscript a (.Slice lo hi none p2) pos) (tF c B W (mSl sCutL o l u)) := pf_sl semCutL (by rw [hK]; exact pe_slice sl_list ha hl hu)
theorem b_len {e : Expr} {o : Opn} {p pos : Pos} (T : Blt X.mg) (h : PE X e (tO c B W o)) (hK : c.K = X.K := by rfl) (hg : Gl X "len" := by rfl) (hs : starEach [e] X.env = (false, eval e X.env) :: starEach [] X.env := by rfl) (hpl : (backTo pos (starEach [] X.env)).any (·.1) = false := by rfl) : PE X (.Call (.Name "len" p) [e] [] pos) (tM c B W (mCall sLen [o])) := pm_call semLen (by rw [hK]; exact pe_callB call_len_seq hg T.zlen boot_len (pa_consO h pa_nilO hs) (he := hs) (hpl := hpl))
theorem b_tuple {e : Expr} {o : Opn} {p pos : Pos} (T : Blt X.mg) (h : PE X e (tO c B W o)) (hK : c.K = X.K := by rfl) (hg : Gl X "tuple" := by rfl) (hs : starEach [e] X.env = (false, eval e X.env) :: starEach [] X.env := by rfl) (hpl : (backTo pos (starEach [] X.env)).any (·.1) = false := by rfl) : PE X (.Call (.Name "tuple" p) [e] [] pos) (tM c B W (mCall sTuple [o])) := pm_call semTuple (by rw [hK]; exact pe_callTy call_tupleN hg T.ztuple PyProof.Rows.boot_tuple (pa_consO h pa_nilO hs) (he := hs) (hpl := hpl))
theorem b_list {e : Expr} {o : Opn} {p pos : Pos} (T : Blt X.mg) (h : PE X e (tO c B W o)) (hK : c.K = X.K := by rfl) (hg : Gl X "list" := by rfl) (hs : starEach [e] X.env = (false, eval e X.env) :: starEach [] X.env := by rfl) (hpl : (backTo pos (starEach [] X.env)).any (·.1) = false := by rfl) : PE X (.Call (.Name "list" p) [e] [] pos) (tF c B W (mCall sList [o])) := pf_call semList (by rw [hK]; exact pe_callTy call_list_of hg T.zlist PyProof.Rows.boot_list (pa_consO h pa_nilO hs) (he := hs) (hpl := hpl))
theorem b_int {e : Expr} {o : Opn} {p pos : Pos} (T : Blt X.mg) (h : PE X e (tO c B W o)) (hg : Gl X "int" := by rfl) (hs : starEach [e] X.env = (false, eval e X.env) :: starEach [] X.env := by rfl) (hpl : (backTo pos (starEach [] X.env)).any (·.1) = false := by rfl) : PE X (.Call (.Name "int" p) [e] [] pos) (tM c B W (mCall sInt [o])) := pm_call semInt (pe_callTy call_int1 hg T.zint PyProof.Rows.boot_int (pa_consO h pa_nilO hs) (he := hs) (hpl := hpl))
theorem b_all {e : Expr} {o : Opn} {p pos : Pos} (T : Blt X.mg) (hc : X.calm = true) (h : PE X e (tO c B W o)) (hK : c.K = X.K := by rfl) (hg : Gl X "all" := by rfl) (hs : starEach [e] X.env = (false, eval e X.env) :: starEach [] X.env := by rfl) (hpl : (backTo pos (starEach [] X.env)).any (·.1) = false := by rfl) : PE X (.Call (.Name "all" p) [e] [] pos) (tM c B W (mCall sAll [o])) := pm_call semAll (by rw [hK]; exact pe_callB (cr_all hc) hg T.zall PyProof.Rows.boot_all (pa_consO h pa_nilO hs) (he := hs) (hpl := hpl))
theorem b_min {e : Expr} {es : List Expr} {os : List Opn} {p pos : Pos} (T : Blt X.mg) (hc : X.calm = true) (h : PA X (e :: es) (tA c B W os)) (hK : c.K = X.K := by rfl) (hg : Gl X "min" := by rfl) (hs : starEach (e :: es) X.env = (false, eval e X.env) :: starEach es X.env := by rfl) (hpl : (backTo pos (starEach es X.env)).any (·.1) = false := by rfl) : PE X (.Call (.Name "min" p) (e :: es) [] pos) (tM c B W (mCall sMin os)) := pm_call semMin (by rw [hK]; exact pe_callB (call_mn hc) hg T.zmin PyProof.Rows.boot_min h (he := hs) (hpl := hpl))
theorem b_ty {x : Str} {n : String} {pos : Pos} (hm : X.mg x = none) (hv : bootBuiltins x = some (.type n)) (hg : Gl X x := by rfl) (hn : x ≠ "__name__" := by decide) (hdb : (x == ("__debug__" : Str)) = false := by decide) : PE X (.Name x pos) (tM c B W (M.pure (.raw (.ty n)))) :=
  pm_c (v := .ty n) ⟨fun pins s σ H Q I q => ld_blt I hg hm hv ⟨.ty n, H, I, rfl, q⟩ hn hdb⟩ fun _ => .raw _
theorem b_isi {e f : Expr} {o o2 : Opn} {p pos : Pos} (T : Blt X.mg) (h : PE X e (tO c B W o)) (h2 : PE X f (tO c B W o2)) (hK : c.K = X.K := by rfl) (hg : Gl X "isinstance" := by rfl) (hs : starEach [e, f] X.env = (false, eval e X.env) :: starEach [f] X.env := by rfl) (hs2 : starEach [f] X.env = (false, eval f X.env) :: starEach [] X.env := by rfl) (hpl : (backTo pos (starEach [f] X.env)).any (·.1) = false := by rfl) : PE X (.Call (.Name "isinstance" p) [e, f] [] pos) (tM c B W (mCall sIsi [o, o2])) := pm_call semIsi (by rw [hK]; exact pe_callB call_isi hg T.zisinstance PyProof.Rows.boot_isinstance (pa_consO h (pa_consO h2 pa_nilO hs2) hs) (he := hs) (hpl := hpl))
theorem b_lenset {a : Expr} {f : M D} {p p2 q pos : Pos} (T : Blt X.mg) (hc : X.calm = true) (ha : PE X a (tM c B W f)) (hK : c.K = X.K := by rfl) (hg : Gl X "len" := by rfl) (hg2 : Gl X "set" := by rfl) (na : starEach [a] X.env = (false, eval a X.env) :: starEach [] X.env := by rfl) : PE X (.Call (.Name "len" p) [.Call (.Name "set" p2) [a] [] q] [] pos) (tM c B W (mLenSet f)) := pm_lenSet hc T.zlen T.zset ha hK hg hg2 na
end
end Fx
set_option Elab.async false
set_option linter.all false
set_option maxRecDepth 100000
set_option maxHeartbeats 4000000
namespace Fx
open PySem L2
section
variable {c : Cf} {B : List (Nat × Addr)} {W : WX} {X : Cx} {G H : Hp} {A : Addr → Prop} {σ : L2.St} {ρ : Cells} {Z : Ends}
theorem rep_range : ∀ l : List Nat, RepL c G (l.map fun i => V.int (0 + (i : Nat))) (l.map fun (k : Nat) => D.int (0 + (k : Int)))
  | [] => .nil
  | _ :: l => .cons (.int _) (rep_range l)
def mListRg (f : M D) : M D := f.bind fun d => match d with
  | .int n => if -(2 ^ 62) ≤ n ∧ n ≤ 16777216 then M.pure (.lst (rangeD 0 n.toNat)) else M.stuck
  | _ => M.stuck
theorem f_lrange {a : Expr} {f : M D} {p q pos pos2 : Pos} (T : Blt X.mg) (hc : X.calm = true) (ha : PE X a (tM c B W f)) (hg : Gl X "list" := by rfl) (hg2 : Gl X "range" := by rfl)
    (na : starEach [a] X.env = (false, eval a X.env) :: starEach [] X.env := by rfl) (na2 : starEach [.Call (.Name "range" q) [a] [] pos2] X.env = (false, eval (.Call (.Name "range" q) [a] [] pos2) X.env) :: starEach [] X.env := by rfl) :
    PE X (.Call (.Name "list" p) [.Call (.Name "range" q) [a] [] pos2] [] pos) (tF c B W (mListRg f)) :=
  pe_imp (pe_listRg hc hg T.zlist (prg_1 hg2 T.zrange ha na) na2) fun σ H Q ⟨G, A, ρ, R, h⟩ => by
    refine ⟨G, A, ρ, R, h.split.imp fun d ρ1 G1 H1 _ _ R1 q v r => ?_⟩
    cases d <;> first | exact q.elim | skip
    rename_i n
    obtain rfl := rep_int r
    have q : After c B W G1 A H1 σ ((if -(2 ^ 62) ≤ n ∧ n ≤ 16777216 then M.pure (D.lst (rangeD 0 n.toNat)) else M.stuck) ρ1) _ := q
    split at q
    · rename_i hn
      refine ⟨n, rfl, ⟨by omega, by omega, by omega, by omega, by omega⟩, fun p0 hp => ?_⟩
      have q := After.ok q R1
      refine q p0 _ hp (fun b o e => by rw [upd_ne (ne_of_none e hp)]; exact e) ⟨rgV 0 n, upd_same, ?_⟩
      unfold rgV rangeD
      rw [Int.sub_zero]
      exact rep_range _
    · exact q.elim
def mSetIx (i : Nat) (fj fe : M D) : MS := mDo fe fun d => mDo (ownAt i) fun _ => mDo fj fun j => mDo (ownAt i) fun o ρ => match o, j with
  | .lst ds, .int k => match ixN ds.length k with
    | some n => .next (ρ.set i (.own (.lst (ds.set n d))))
    | none => .stuck
  | _, _ => .stuck
theorem AfterS.ownAt {i : Nat} {k : D → MS} (h : AfterS c B W G A H (mDo (ownAt i) k ρ) Z) : ∃ d, ρ[i]? = some (.own d) ∧ AfterS c B W G A H (k d ρ) Z := by
  unfold mDo Fx.ownAt at h
  cases e1 : ρ[i]? with
  | none => simp only [e1] at h; exact h.elim
  | some cl =>
    simp only [e1] at h
    cases cl with
    | no => exact h.elim
    | dat d => exact h.elim
    | own o => exact ⟨o, rfl, h⟩
theorem ps_setIx (i : Nat) {x : Str} {ie e : Expr} {fj fe : M D} {np p pos : Pos} (he : PE X e (tM c B W fe)) (hj : PE X ie (tM c B W fj)) (hN : X.N[i]? = some x := by rfl) (hv : Vis X.env.scope x := by first | exact Or.inl rfl | exact Or.inr (Or.inl rfl) | exact Or.inr (Or.inr rfl)) (hd : (x == ("__debug__" : Str)) = false := by decide)
    (hcd : (x == ("__classdict__" : Str)) = false := by decide) (hs : swapsWithSole [.Subscript (.Name x np) ie p] e pos.line X.env = pure false := by rfl) (hw : swappedStores [.Subscript (.Name x np) ie p] e X.env = pure none := by rfl)
    (h1 : (assignEach [.Subscript (.Name x np) ie p] X.env).map (·.2) = [assign (.Subscript (.Name x np) ie p) X.env] := by rfl)
    (ha : ∀ v, assign (.Subscript (.Name x np) ie p) X.env v = (do
      let ov ← holding [v] (eval (.Name x np) X.env)
      let iv ← holding [v, ov] (eval ie X.env)
      standAt p
      holding [v, ov, iv] (setItem ov iv v)
      release [v, ov, iv] []) := by intro _; rfl) :
    PS X (.Assign [.Subscript (.Name x np) ie p] e pos) (tS c B W (mSetIx i fj fe)) :=
  ps_imp (ps_asg he (pg_sub (pe_var hN hv hd hcd) hj set_list ha) hs hw h1) fun Z σ H ⟨G, A, ρ, R, a⟩ => by
    refine ⟨G, A, ρ, R, (a.split R).imp fun d ρ1 G1 H1 _ _ R1 a1 v r => ?_⟩
    obtain ⟨o1, e1, a1⟩ := a1.ownAt
    obtain ⟨p, es, hA, hO⟩ := R1.own i o1 e1
    refine ⟨_, es, G1, A, ρ1, R1, (a1.split R1).imp fun jd ρ2 G2 H2 s2 _ R2 a2 w rw' => ?_⟩
    obtain ⟨o2, e2, a2⟩ := a2.ownAt
    obtain ⟨p', es', hA', hO'⟩ := R2.own i o2 e2
    rw [es] at es'; cases es'
    cases o2 <;> first | exact a2.elim | skip
    rename_i ds
    cases jd <;> first | exact a2.elim | skip
    rename_i kk _
    obtain rfl := rep_int rw'
    obtain ⟨xs, h2, h3⟩ := hO'
    have a2 : AfterS c B W G2 A H2 (match ixN ds.length kk with
      | some n => .next (ρ2.set i (.own (.lst (ds.set n d))))
      | none => .stuck) Z := a2
    cases ej : ixN ds.length kk with
    | none => rw [ej] at a2; exact a2.elim
    | some n =>
      rw [ej] at a2
      refine ⟨p, xs, kk, n, rfl, rfl, h2, by rw [h3.length]; exact ej, ?_⟩
      obtain ⟨R3, k3, s3⟩ := R2.setOwn (d' := .lst (ds.set n d)) (o := .lst (xs.set n v)) e2 es ⟨_, rfl, h3.set (r.mono s2) n⟩
      exact AfterS.nx (AfterS.of R2.own_there (Stp.same (Same.refl _) k3) a2) R3
theorem m_append (i : Nat) {x : Str} {e : Expr} {fe : M D} {np apos cpos : Pos} (he : PE X e (tM c B W fe)) (hN : X.N[i]? = some x := by rfl) (hv : Vis X.env.scope x := by first | exact Or.inl rfl | exact Or.inr (Or.inl rfl) | exact Or.inr (Or.inr rfl)) (hd : (x == ("__debug__" : Str)) = false := by decide)
    (hcd : (x == ("__classdict__" : Str)) = false := by decide) (hbase : attributeBase (.Name x np) "append" X.env (eval (.Name x np) X.env) = eval (.Name x np) X.env := by rfl)
    (hfew : ((backTo cpos (starEach [e] X.env)).all (fun x => !x.1) && (backToKw cpos (keywordEach [] X.env)).all (fun x => x.1.isSome) && decide ([e].length + ([] : List Keyword).length + (if ([] : List Keyword).isEmpty then 0 else 1) < 30)) = true := by rfl)
    (hline : (apos.endLine == cpos.line) = true := by rfl) (hs : starEach [e] X.env = (false, eval e X.env) :: starEach [] X.env := by rfl) (hplain : (backTo cpos (starEach [] X.env)).any (·.1) = false := by rfl) :
    PE X (.Call (.Attribute (.Name x np) "append" apos) [e] [] cpos) (tM c B W (mMethWR wAppend i [fe])) := pm_methWR i semAppend (pe_bm PySem.F.plainAttrs_list PySem.F.slot_list_append PySem.F.type_list_append mt_append (pe_slot i hN hv hd hcd) (pd_cons he pd_nil hs) hbase hfew hline hs hplain)
theorem m_popAt (i : Nat) {x : Str} {e : Expr} {fe : M D} {np apos cpos : Pos} (he : PE X e (tM c B W fe)) (hN : X.N[i]? = some x := by rfl) (hv : Vis X.env.scope x := by first | exact Or.inl rfl | exact Or.inr (Or.inl rfl) | exact Or.inr (Or.inr rfl)) (hd : (x == ("__debug__" : Str)) = false := by decide)
    (hcd : (x == ("__classdict__" : Str)) = false := by decide) (hbase : attributeBase (.Name x np) "pop" X.env (eval (.Name x np) X.env) = eval (.Name x np) X.env := by rfl)
    (hfew : ((backTo cpos (starEach [e] X.env)).all (fun x => !x.1) && (backToKw cpos (keywordEach [] X.env)).all (fun x => x.1.isSome) && decide ([e].length + ([] : List Keyword).length + (if ([] : List Keyword).isEmpty then 0 else 1) < 30)) = true := by rfl)
    (hline : (apos.endLine == cpos.line) = true := by rfl) (hs : starEach [e] X.env = (false, eval e X.env) :: starEach [] X.env := by rfl) (hplain : (backTo cpos (starEach [] X.env)).any (·.1) = false := by rfl) :
    PE X (.Call (.Attribute (.Name x np) "pop" apos) [e] [] cpos) (tM c B W (mMethWR wPopAt i [fe])) := pm_methWR i semPopAt (pe_bm PySem.F.plainAttrs_list PySem.F.slot_list_pop PySem.F.type_list_pop mt_popAt (pe_slot i hN hv hd hcd) (pd_cons he pd_nil hs) hbase hfew hline hs hplain)
end
end Fx
set_option Elab.async false
set_option linter.all false
set_option maxRecDepth 100000
set_option maxHeartbeats 4000000
namespace Fx
open PySem L2
section
variable {P : Program} {w : World} {K : PySem.W.Frag} {mg : Str → Option Value} {base : Heap} {c : Cf}
/-- Farm(..) -/
structure CalM (P : Program) (w : World) (K : PySem.W.Frag) (mg : Str → Option Value) (base : Heap) (c : Cf) (k : Nat) (nm : Str) (n : Nat) (F : Fn) : Prop where
  ex : ∃ fI fd ps, Mk K c.farm fI ∧ FnOk P w K mg base (L2.CX P w) k fI fd ps (spM c [0] n F) ∧ mg nm = some (.ref c.farm) ∧ Binds K fd ps []
theorem CalM.mono {k j : Nat} {nm : Str} {n : Nat} {F : Fn} (h : CalM P w K mg base c k nm n F) (hk : k ≤ j) : CalM P w K mg base c j nm n F := by
  obtain ⟨f, fd, ps, h1, h2, h3⟩ := h.ex
  exact ⟨f, fd, ps, h1, h2.mono hk, h3⟩
/-- farm.m(..) -/
structure CalF (P : Program) (w : World) (K : PySem.W.Frag) (mg : Str → Option Value) (base : Heap) (c : Cf) (k : Nat) (m : Str) (n : Nat) (F : Fn) : Prop where
  ex : ∃ f fd ps, Meth K c.farm m f ∧ FnOk P w K mg base (L2.CX P w) k f fd ps (spM c [] n F) ∧ Binds K fd ps []
/-- len(farm) -/
structure CalL (P : Program) (w : World) (K : PySem.W.Frag) (mg : Str → Option Value) (base : Heap) (c : Cf) (k : Nat) (F : Fn) : Prop where
  ex : ∃ f fd ps, PySem.W.findIn K (.ref c.farm) "__len__" = some (some (.ref f)) ∧ PySem.W.isFn K (.ref f) = true ∧ FnOk P w K mg base (L2.CX P w) k f fd ps (spM c [] 1 F) ∧ Binds K fd ps []
/-- an error with one field -/
structure CalX1 (P : Program) (w : World) (K : PySem.W.Frag) (mg : Str → Option Value) (base : Heap) (c : Cf) (k : Nat) (x : Nat) (nm f : Str) : Prop where
  ex : ∃ fI fd ps, XcK c K mg x nm fI ∧ FnOk P w K mg base (L2.CX P w) k fI fd ps (spI1 (c.exc x) f) ∧ Binds K fd ps []
  fl : c.flds x = [f]
structure CalX2 (P : Program) (w : World) (K : PySem.W.Frag) (mg : Str → Option Value) (base : Heap) (c : Cf) (k : Nat) (x : Nat) (nm f g : Str) : Prop where
  ex : ∃ fI fd ps, XcK c K mg x nm fI ∧ FnOk P w K mg base (L2.CX P w) k fI fd ps (spI2 (c.exc x) f g) ∧ Binds K fd ps []
  fl : c.flds x = [g, f]
end
section
variable {c : Cf} {B : List (Nat × Addr)} {W : WX} {X : Cx} {E : XK}
theorem pm_calM {F : Fn} {fs : List (M D)} {k j n : Nat} {x : Str} {p pos : Pos} {e : Expr} {es : List Expr} (C : CalM X.prog X.w X.K X.mg X.base c j x n F) (hr : Room k X.A) (tk : Takes X (fun cls d _ H => E cls d H)) (ha : PA X (e :: es) (tD c B (fun cls d _ H => E cls d H) fs)) (hj : j + 1 ≤ k := by decide)
    (hn : fs.length + 1 = n := by rfl) (hg : Gl X x := by rfl) (hdb : (x == ("__debug__" : Str)) = false := by decide)
    (he : starEach (e :: es) X.env = (false, eval e X.env) :: starEach es X.env := by rfl) (hpl : (backTo pos (starEach es X.env)).any (·.1) = false := by rfl) :
    PE X (.Call (.Name x p) (e :: es) [] pos) (tM c B (fun cls d _ H => E cls d H) (mMake F fs)) := by
  obtain ⟨f, fd, ps, h1, h2, h3, h4⟩ := C.ex
  exact pm_make h1 h2 (hr.mono hj) (passE tk) h3 h4 ha hn hg hdb he hpl
theorem pm_calF {F : Fn} {fs : List (M D)} {fo : M D} {k j n : Nat} {m : Str} {apos pos : Pos} {o e : Expr} {es : List Expr} {pl : Sem Bool} (T : Cls X.K c.farm) (C : CalF X.prog X.w X.K X.mg X.base c j m n F) (hr : Room k X.A) (tk : Takes X (fun cls d _ H => E cls d H)) (he : PE X o (tM c B (fun cls d _ H => E cls d H) fo))
    (ha : PA X (e :: es) (tD c B (fun cls d _ H => E cls d H) fs)) (hj : j ≤ k := by decide) (hn : fs.length + 1 = n := by rfl)
    (hst : starEach (e :: es) X.env = (false, eval e X.env) :: starEach es X.env := by rfl) (hpl : (backTo pos (starEach es X.env)).any (·.1) = false := by rfl)
    (ht : eval (.Call (.Attribute o m apos) (e :: es) [] pos) X.env = (do
      let ov ← eval o X.env
      standAt apos.atName
      let (f, first) ← holding [ov] (getMethod ov m pl)
      callWith pos f first (backTo pos (starEach (e :: es) X.env)) (backToKw pos (keywordEach [] X.env))) := by rfl) :
    PE X (.Call (.Attribute o m apos) (e :: es) [] pos) (tM c B (fun cls d _ H => E cls d H) (mMethF F m fo fs)) := by
  obtain ⟨f, fd, ps, h1, h2, h3⟩ := C.ex
  exact pm_methF he T h1 h2 (hr.mono hj) (passE tk) h3 ha hn hst hpl ht
theorem pm_calF0 {F : Fn} {fo : M D} {k j : Nat} {m : Str} {apos pos : Pos} {o : Expr} {pl : Sem Bool} (T : Cls X.K c.farm) (C : CalF X.prog X.w X.K X.mg X.base c j m 1 F) (hr : Room k X.A) (tk : Takes X (fun cls d _ H => E cls d H)) (he : PE X o (tM c B (fun cls d _ H => E cls d H) fo)) (hj : j ≤ k := by decide)
    (ht : eval (.Call (.Attribute o m apos) [] [] pos) X.env = (do
      let ov ← eval o X.env
      standAt apos.atName
      let (f, first) ← holding [ov] (getMethod ov m pl)
      callWith pos f first (backTo pos (starEach [] X.env)) (backToKw pos (keywordEach [] X.env))) := by rfl) :
    PE X (.Call (.Attribute o m apos) [] [] pos) (tM c B (fun cls d _ H => E cls d H) (mMethF F m fo [])) := by
  obtain ⟨f, fd, ps, h1, h2, h3⟩ := C.ex
  exact pm_methF0 he T h1 h2 (hr.mono hj) (passE tk) h3 ht
theorem pm_calL {F : Fn} {fe : M D} {k j : Nat} {p pos : Pos} {e : Expr} (T : Blt X.mg) (C : CalL X.prog X.w X.K X.mg X.base c j F) (hr : Room k X.A) (tk : Takes X W) (he : PE X e (tM c B W fe)) (hj : j + 1 ≤ k := by decide) (hg : Gl X "len" := by rfl)
    (hst : starEach [e] X.env = (false, eval e X.env) :: starEach [] X.env := by rfl) (hpl : (backTo pos (starEach [] X.env)).any (·.1) = false := by rfl) :
    PE X (.Call (.Name "len" p) [e] [] pos) (tM c B W (mLenF F fe)) := by
  obtain ⟨f, fd, ps, h1, h2, h3, h4⟩ := C.ex
  exact pm_lenF (E := fun _ _ _ => False) h1 h2 h3 (hr.mono hj) tk h4 T.zlen he hg hst hpl
theorem ps_x1 {x : Nat} {nm f : Str} {k j : Nat} {e : Expr} {fe : M D} {p pos pos2 : Pos} (C : CalX1 X.prog X.w X.K X.mg X.base c j x nm f) (hc : X.calm = true) (tk : Takes X W) (hr : Room k X.A) (ha : PE X e (tM c B W fe)) (hj : j + 1 ≤ k := by decide) (hg : Gl X nm := by rfl)
    (hdb : (nm == ("__debug__" : Str)) = false := by decide) (he : starEach (e :: []) X.env = (false, eval e X.env) :: starEach [] X.env := by rfl) (hpl : (backTo pos (starEach [] X.env)).any (·.1) = false := by rfl) :
    PS X (.Raise (some (.Call (.Name nm p) [e] [] pos)) none pos2) (tS c B W (mRaise x [fe])) := by
  obtain ⟨f, fd, ps, h1, h2, h3⟩ := C.ex
  exact ps_raise1 hc tk h1 C.fl h2 (hr.mono hj) h3 ha hg hdb he hpl
theorem ps_x2 {x : Nat} {nm f g : Str} {k j : Nat} {e e2 : Expr} {fe fe2 : M D} {p pos pos2 : Pos} (C : CalX2 X.prog X.w X.K X.mg X.base c j x nm f g) (hc : X.calm = true) (tk : Takes X W) (hr : Room k X.A) (ha : PE X e (tM c B W fe)) (ha2 : PE X e2 (tM c B W fe2)) (hj : j + 1 ≤ k := by decide) (hg : Gl X nm := by rfl)
    (hdb : (nm == ("__debug__" : Str)) = false := by decide) (he : starEach (e :: [e2]) X.env = (false, eval e X.env) :: starEach [e2] X.env := by rfl) (he2 : starEach [e2] X.env = (false, eval e2 X.env) :: starEach [] X.env := by rfl) (hpl : (backTo pos (starEach [e2] X.env)).any (·.1) = false := by rfl) :
    PS X (.Raise (some (.Call (.Name nm p) [e, e2] [] pos)) none pos2) (tS c B W (mRaise x [fe, fe2])) := by
  obtain ⟨f, fd, ps, h1, h2, h3⟩ := C.ex
  exact ps_raise2 hc tk h1 C.fl h2 (hr.mono hj) h3 ha ha2 hg hdb he he2 hpl
end
def kFree : NameKind → Bool
  | .free => true
  | _ => false
def kCell : NameKind → Bool
  | .cell => true
  | _ => false
def kLoc : NameKind → Bool
  | .local => true
  | _ => false
def kEq : NameKind → NameKind → Bool
  | .local, .local => true
  | .cell, .cell => true
  | .free, .free => true
  | .globalImplicit, .globalImplicit => true
  | .globalExplicit, .globalExplicit => true
  | _, _ => false
def kFun : ScopeKind → Bool
  | .function => true
  | _ => false
def blkB (N : List Str) (sc scope : Scope) (own : List (Str × Nat)) : Bool :=
  kFun scope.kind && scope.names.all (fun y => match scope.names.lookup y.1 with | some k => kEq k y.2 | none => false) && own.all (fun p => match N[p.2]? with | some x => decide (x = p.1) | none => false) &&
    scope.names.all (fun y => !kFree y.2 || (match sc.names.lookup y.1 with | some k => kCell k || kFree k | none => false)) && scope.names.all (fun y => !(kLoc y.2 || kCell y.2) || (own.any (fun p => decide (p.1 = y.1)) || N.all (fun x => !decide (x = y.1))))
theorem kEq_eq {a b : NameKind} (h : kEq a b = true) : a = b := by cases a <;> cases b <;> first | rfl | cases h
theorem blk_of {N : List Str} {sc scope : Scope} {own : List (Str × Nat)} (h : blkB N sc scope own = true) : BlkOk N sc scope own := by
  unfold blkB at h
  simp only [Bool.and_eq_true, List.all_eq_true] at h
  obtain ⟨⟨⟨⟨h1, h2⟩, h3⟩, h4⟩, h5⟩ := h
  refine ⟨?_, fun y hy => ?_, fun p hp => ?_, fun y hy e => ?_, fun y hy e => ?_⟩
  · cases hk : scope.kind <;> rw [hk] at h1 <;> first | rfl | cases h1
  · have q := h2 y hy
    cases e : scope.names.lookup y.1 with
    | none => rw [e] at q; cases q
    | some k => rw [e] at q; rw [kEq_eq q]
  · have q := h3 p hp
    cases e : N[p.2]? with
    | none => rw [e] at q; cases q
    | some k => rw [e] at q; rw [of_decide_eq_true q]
  · have q := h4 y hy
    rw [e] at q
    simp only [kFree, Bool.not_true, Bool.false_or] at q
    cases e2 : sc.names.lookup y.1 with
    | none => rw [e2] at q; cases q
    | some k => rw [e2] at q; cases k <;> first | exact .inl rfl | exact .inr rfl | cases q
  · have q := h5 y hy
    have hk : (kLoc y.2 || kCell y.2) = true := by rcases e with e | e <;> rw [e] <;> rfl
    rw [hk] at q
    simp only [Bool.not_true, Bool.false_or, Bool.or_eq_true] at q
    rcases q with q | q
    · obtain ⟨p, hp, e3⟩ := List.any_eq_true.mp q
      exact .inl (List.mem_map.mpr ⟨p, hp, of_decide_eq_true e3⟩)
    · refine .inr fun hm => ?_
      have := List.all_eq_true.mp q y.1 hm
      simp at this
end Fx
set_option Elab.async false
set_option linter.all false
set_option maxRecDepth 100000
set_option maxHeartbeats 4000000
namespace Fx
open PySem L2
theorem mro_ok {CB : Addr} : PySem.HandSPX.refsVE [.ref CB, .type "ValueError", .type "Exception", .type "BaseException", .type "object"] = true := by rfl
end Fx
set_option Elab.async false
set_option linter.all false
set_option maxRecDepth 100000
set_option maxHeartbeats 1000000
namespace Fx
open PySem L2
theorem lcM_pure {g : TgM} {tt : M Bool} {fe : M D} {vs : List Nat} {w : Cells} (P : D → Bool) (f : D → D) : ∀ (ds : List D) (ρ : Cells), wipeC ρ vs = w →
    (∀ d ∈ ds, ∃ ρ1, g d w = some ρ1 ∧ tt ρ1 = .ok (P d) ρ1 ∧ (P d = true → fe ρ1 = .ok (f d) ρ1) ∧ wipeC ρ1 vs = w) →
    ∃ ρ', lcM g tt fe vs ds ρ = some ((ds.filter P).map f, ρ') ∧ wipeC ρ' vs = w
  | [], ρ, hw, _ => ⟨ρ, rfl, hw⟩
  | d :: ds, ρ, hw, h => by
    obtain ⟨ρ1, h1, h2, h3, h4⟩ := h d List.mem_cons_self
    obtain ⟨ρ', e, hw'⟩ := lcM_pure P f ds ρ1 h4 fun x hx => h x (List.mem_cons_of_mem _ hx)
    refine ⟨ρ', ?_, hw'⟩
    unfold lcM
    rw [hw]
    simp only [h1, h2]
    cases hP : P d with
    | true => simp [hP, h3 hP, e]
    | false => simp [hP, e]
theorem wipeC_get {ρ : Cells} {vs : List Nat} {i : Nat} (h : i ∉ vs) : (wipeC ρ vs)[i]? = ρ[i]? := wipeC_out h
/-- the cells behind a comprehension are the cells ahead of it -/
theorem unwipe_same {ρ ρ' : Cells} {vs : List Nat} (hw : wipeC ρ' vs = wipeC ρ vs) : unwipe ρ ρ' vs = ρ := by
  have hl : ρ'.length = ρ.length := by
    have := congrArg List.length hw
    rwa [wipeC_len, wipeC_len] at this
  apply List.ext_getElem?
  intro i
  by_cases hi : i ∈ vs
  · by_cases hlt : i < ρ.length
    · rw [unwipe_in (by rw [hl]; exact hlt) hi, List.getElem?_eq_getElem hlt]
      rfl
    · rw [List.getElem?_eq_none (by rw [unwipe_len]; omega), List.getElem?_eq_none (by omega)]
  · rw [unwipe_out hi, ← wipeC_get (ρ := ρ') hi, hw, wipeC_get hi]
theorem mLc_pure {fi : M (List D)} {g : TgM} {tt : M Bool} {fe : M D} {vs : List Nat} {ρ : Cells} {ds : List D} (P : D → Bool) (f : D → D) (hi : fi ρ = .ok ds ρ) (ho : vs.all (fun v => !isOwn ρ[v]?) = true)
    (h : ∀ d ∈ ds, ∃ ρ1, g d (wipeC ρ vs) = some ρ1 ∧ tt ρ1 = .ok (P d) ρ1 ∧ (P d = true → fe ρ1 = .ok (f d) ρ1) ∧ wipeC ρ1 vs = wipeC ρ vs) :
    mLc fi g tt fe vs ρ = .ok (.lst ((ds.filter P).map f)) ρ := by
  obtain ⟨ρ', e, hw⟩ := lcM_pure P f ds ρ rfl h
  unfold mLc M.bind
  rw [hi]
  show (if vs.all (fun v => !isOwn ρ[v]?) = true then _ else _) = _
  rw [if_pos ho, e]
  show Out.ok _ (unwipe ρ ρ' vs) = _
  rw [unwipe_same hw]
theorem loop_inv {g : TgM} {body : MS} (I : Nat → Cells → Prop) : ∀ (ds : List D) (n : Nat) (ρ : Cells), I n ρ →
    (∀ (i : Nat) (d : D) (ρ : Cells), ds[i]? = some d → I (n + i) ρ → ∃ ρ1, g d ρ = some ρ1 ∧ ∃ ρ2, body ρ1 = .next ρ2 ∧ I (n + i + 1) ρ2) →
    ∃ ρ', loopM g body ds ρ = .next ρ' ∧ I (n + ds.length) ρ'
  | [], n, ρ, hI, _ => ⟨ρ, rfl, hI⟩
  | d :: ds, n, ρ, hI, h => by
    obtain ⟨ρ1, h1, ρ2, h2, h3⟩ := h 0 d ρ rfl hI
    obtain ⟨ρ', e, h4⟩ := loop_inv I ds (n + 1) ρ2 h3 fun i x ρ hx hi => by
      have := h (i + 1) x ρ (by simpa using hx) (by rw [show n + (i + 1) = n + 1 + i by omega]; exact hi)
      rwa [show n + (i + 1) + 1 = n + 1 + i + 1 by omega] at this
    refine ⟨ρ', ?_, by rw [List.length_cons, show n + (ds.length + 1) = n + 1 + ds.length by omega]; exact h4⟩
    unfold loopM
    simp only [h1, h2, e]
end Fx
set_option Elab.async false
set_option linter.all false
set_option maxRecDepth 100000
set_option maxHeartbeats 4000000
namespace Fx
open PySem L2
section
variable {c : Cf} {B : List (Nat × Addr)} {W : WX} {X : Cx} {G H : Hp} {A : Addr → Prop} {σ : L2.St} {ρ : Cells} {Z : Ends}
end
end Fx
set_option Elab.async false
set_option linter.all false
set_option maxRecDepth 100000
set_option maxHeartbeats 4000000
namespace Fx
open PySem PyProof.Rows
section
variable {prog : Program} {w : World} {A : Around} {E : Value → Shared → Prop} {s : Shared}
theorem revSlots (xs : Array Value) : ((List.range xs.size).filterMap fun (m : Nat) => xs[((xs.size : Int) - 1 + (m : Int) * -1).toNat]?).toArray = xs.toList.reverse.toArray := by
  have e : (fun (m : Nat) => xs[((xs.size : Int) - 1 + (m : Int) * -1).toNat]?) = (fun m => xs[m]?) ∘ fun m => xs.size - 1 - m := by
    funext m
    have : ((xs.size : Int) - 1 + (m : Int) * -1).toNat = xs.size - 1 - m := by omega
    show xs[((xs.size : Int) - 1 + (m : Int) * -1).toNat]? = xs[xs.size - 1 - m]?
    rw [this]
  rw [e, ← List.filterMap_map, PySem.W.krv_range, List.filterMap_reverse, PySem.W.krv_all]
theorem sliceBack {sl : Addr} {vl vu vs : Value} {n : Nat} {Q : Int × Int × Nat → Shared → Prop} (hs : s.heap.IsSliceOf sl vl vu vs) (pl : IsPart vl none) (pu : IsPart vu none) (pt : IsPart vs (some (-1))) (h : Q ((n : Int) - 1, -1, n) s) :
    wpAny (model prog w) A (Builtin.Slice.sliceApplied (.ref sl) (pure (n : Int))) Q E s := by
  obtain ⟨os, hos, _, hds⟩ := id hs
  unfold Builtin.Slice.sliceApplied Builtin.Slice.sliceFields
  refine wpAny_bind (wpAny_bind (wpAny_field hos hds (x := vl) rfl ?_))
  refine wpAny_bind (wpAny_field hos hds (x := vu) rfl ?_)
  refine wpAny_bind (wpAny_field hos hds (x := vs) rfl (wpAny_pure ?_))
  refine wpAny_bind (HT.slicePart_ pt ?_)
  show wpAny _ _ (if ((-1 : Int) == 0) = true then _ else _) _ _ s
  rw [if_neg (by decide)]
  refine wpAny_bind (HT.slicePart_ pl (wpAny_bind (HT.slicePart_ pu (wpAny_bind (wpAny_pure ?_)))))
  have hp : Builtin.Slice.slicePlaces ((n : Int) - 1) (-1) (-1) = n := by
    unfold Builtin.Slice.slicePlaces
    rw [if_neg (by decide)]
    split
    · rw [show (-(-1) : Int) = 1 by decide, Int.ediv_one]
      omega
    · omega
  show wpAny _ _ (pure ((n : Int) - 1, (-1 : Int), Builtin.Slice.slicePlaces ((n : Int) - 1) (-1) (-1))) _ _ s
  rw [hp]
  exact wpAny_pure h
theorem tupleBack {t sl : Addr} {items : Array Value} {vl vu vs : Value} {Q : Value → Shared → Prop} (ht : IsTup s.heap t items) (hs : s.heap.IsSliceOf sl vl vu vs) (pl : IsPart vl none) (pu : IsPart vu none) (pt : IsPart vs (some (-1)))
    (h : Q (.ref s.heap.objs.size) { s with heap := s.heap.push { cls := .type "tuple", data := .seq items.toList.reverse.toArray } }) (hsz : items.size ≤ sizeLine) : wpAny (model prog w) A (getItem (.ref t) (.ref sl)) Q E s := by
  have hok : sizeOk (.seq items.toList.reverse.toArray) := by
    show items.toList.reverse.toArray.size ≤ sizeLine
    rw [List.size_toArray, List.length_reverse, Array.length_toList]
    exact hsz
  have hTs : s.TypeIs (.ref sl) "slice" := by
    obtain ⟨os, hos, hcs, _⟩ := id hs
    exact ⟨os, hos, hcs⟩
  unfold getItem
  try with_reducible refine wpAny_holding ?_
  first | refine wpAny_bind (wpAny_pure ?_) | skip
  refine wpAny_bind (wpAny_sequenceKey ht.typeIs (by decide) ?_)
  refine wpAny_bind (wpAny_callSpecial?_slot (name := Str.ofString "__getitem__") ht.typeIs slot_tuple_getitem (wpAny_call_entry slot_tuple_getitem ht.typeIs entry_tuple_getitem ?_ (args_tuple_getitem _ _)))
  show wpAny _ _ (Builtin.Tuple.tupleItemsOf (.ref t) >>= _) _ _ s
  refine wpAny_bind (tupleItemsOf_ ht (wpAny_bind (wpAny_typeOf hTs ?_)))
  rw [if_pos (by decide)]
  refine wpAny_bind (sliceBack hs pl pu pt ?_)
  have hno : ¬ ((((items.size : Int) - 1) == 0 && (-1 : Int) == 1 && items.size == items.size) = true) := by
    intro q
    rw [Bool.and_eq_true, Bool.and_eq_true] at q
    exact absurd q.1.2 (by decide)
  show wpAny _ _ (if (((items.size : Int) - 1) == 0 && (-1 : Int) == 1 && items.size == items.size) = true then _ else _) _ _ s
  rw [if_neg hno, revSlots]
  first
    | exact wpAny_bind (m := Builtin.Tuple.tupleExact _) (wpAny_newObj_type (wpAny_pure ⟨_, rfl, wpAny_pure h⟩) hok)
    | exact wpAny_bind (wpAny_bind (m := Builtin.Tuple.tupleExact _) (wpAny_newObj_type (wpAny_pure (wpAny_pure ⟨_, rfl, wpAny_pure h⟩)) hok))
    | exact wpAny_bind (wpAny_bind (m := Builtin.Tuple.tupleExact _) (wpAny_newObj_type (wpAny_pure ⟨_, rfl, wpAny_pure h⟩) hok))
    | exact wpAny_bind (m := Builtin.Tuple.tupleExact _) (wpAny_newObj_type (wpAny_bind (wpAny_pure (wpAny_pure ⟨_, rfl, wpAny_pure h⟩))) hok)
end
end Fx
namespace Fx
open PySem L2 PyProof.Rows
section
variable {c : Cf} {B : List (Nat × Addr)} {W : WX} {X : Cx} {G H : Hp} {A : Addr → Prop} {σ : L2.St} {ρ : Cells} {Z : Ends}
/-- a tuple turned round is a new tuple -/
def tRevT (K : PySem.W.Frag) (te : TE) : TE := fun σ H Q => te σ H fun x H1 => ∃ a xs, x = .ref a ∧ SqT K H1 a xs ∧ ∀ p its, H1 p = none → Q (.ref p) (upd H1 p (.frz (tob its) (.tup xs.reverse)))
theorem pe_revT {e : Expr} {te : TE} {k : Nat} {p1 p2 p3 pos : Pos} (he : PE X e te) : PE X (.Subscript e (.Slice none none (some (.UnaryOp .USub (.Constant (.int 1) k p1) p2)) p3) pos) (tRevT X.K te) := by
  refine ⟨fun pins s σ H Q I h => ?_⟩
  refine Subscript_ (thn (he.run pins s σ H _ I h) fun v s1 ⟨x, H1, I1, r1, q1⟩ => ?_)
  obtain ⟨a, xs, ex, hx, q⟩ := q1
  subst ex
  cases r1
  have hst : PO X (some (.UnaryOp .USub (.Constant (.int 1) k p1) p2)) (tPart (tUn (rU fun i => .int (-i)) (tC (.int 1)))) := po_some (pe_un un_neg pe_int)
  refine wpAny_Slice (thn (po_none.run pins s1 σ H1 (fun o H2 => o = none ∧ H2 = H1) I1 ⟨rfl, rfl⟩) fun vl s2 ⟨l, H2, I2, pl, el, e2⟩ => ?_)
  subst el e2
  refine thn (po_none.run pins s2 σ H2 (fun o H3 => o = none ∧ H3 = H2) I2 ⟨rfl, rfl⟩) fun vu s3 ⟨u, H3, I3, pu, eu, e3⟩ => ?_
  subst eu e3
  refine thn (hst.run pins s3 σ H3 (fun o H4 => o = some (-1) ∧ H4 = H3) I3 ⟨1, rfl, -1, rfl, rfl, rfl⟩) fun vs s4 ⟨o, H4, I4, pt, eo, e4⟩ => ?_
  subst eo e4
  have I5 : Inv X pins σ H4 { s4 with heap := s4.heap.push { cls := .type "slice", data := .fields #[vl, vu, vs] } } := I4.kept (t' := s4.toks) fun b ob q => Heap.get?_push_of_some _ q
  obtain ⟨its, r, ht, hz⟩ := I5.tuple hx
  have hlen := r.length
  show wpAny (model X.prog X.w) X.A (subscriptTail e (.Slice none none (some (.UnaryOp .USub (.Constant (.int 1) k p1) p2)) p3) (.ref a) (.ref s4.heap.objs.size)) (EP X pins σ Q) X.xe { s4 with heap := s4.heap.push { cls := .type "slice", data := .fields #[vl, vu, vs] } }
  refine tail_any (ops := [.ref a, .ref s4.heap.objs.size]) ht.typeIs (PyProof.Rows.slot_tuple_getitem.lookup) ?_ (by with_unfolding_all rfl)
  refine tupleBack ht (Heap.IsSliceOf.new _ vl vu vs) pl pu pt ?_ (by rw [List.size_toArray]; omega)
  have I6 := tnew (t' := s4.toks) I5 r.reverse (by rw [List.length_reverse]; exact hz)
  exact ⟨.ref _, _, I6, rfl, q _ _ (fresh I5)⟩
def sRev : D → Option D
  | .lst ds => some (.lst ds.reverse)
  | _ => none
def sRevT : D → Option D
  | .tup ds => some (.tup ds.reverse)
  | _ => none
/-- x[::-1] -/
def mRev (sem : D → Option D) (o : Opn) : M D := o.pre.bind fun a => (rdM o a).bind fun d => M.lift (sem d)
theorem RepL.rev : ∀ {vs : List V} {ds : List D}, RepL c G vs ds → RepL c G vs.reverse ds.reverse
  | _, _, .nil => .nil
  | _, _, .cons r t => by
    rw [List.reverse_cons, List.reverse_cons]
    exact t.rev.append (.one r)
theorem rev_core {o : Opn} {sem : D → Option D} {Qd : D → Hp → Hp → Prop} (R : Rel c B G A H σ ρ) (a : After c B W G A H σ (mRev sem o ρ) fun d _ G' H' => Qd d G' H') {r : V → Hp → Prop}
    (k : ∀ G' H' x d e, Same G' H' → Opr c G' H' x d → sem d = some e → Qd e G' H' → r x H') : tO c B W o σ H fun x H1 => r x H1 := by
  refine ⟨G, A, ρ, R, a.split.imp fun a0 ρ1 G1 H1 _ _ R1 a1 x fx => ?_⟩
  obtain ⟨d, e1, a2⟩ := a1.rd
  obtain ⟨e, e2, q⟩ := a2.lift R1
  exact k G1 H1 x d e R1.same (fx G1 H1 ρ1 d (Same.refl _) R1 e1) e2 q
theorem f_revL {e : Expr} {o : Opn} {k : Nat} {p1 p2 p3 pos : Pos} (he : PE X e (tO c B W o)) (hK : c.K = X.K := by rfl) : PE X (.Subscript e (.Slice none none (some (.UnaryOp .USub (.Constant (.int 1) k p1) p2)) p3) pos) (tF c B W (mRev sRev o)) :=
  pe_imp (pe_revL he) fun σ H Q ⟨G, A, ρ, R, a⟩ => rev_core R a.k2 fun G' H' x d e s o1 e1 q => by
    cases d <;> first | (cases e1; done) | skip
    cases e1
    obtain ⟨p, us, rfl, hp, r1⟩ := o1.lst s
    rw [← hK]
    exact ⟨p, us, rfl, hp.sq, fun z hz => q.lst hz r1.rev⟩
theorem o_revL {e : Expr} {o : Opn} {k : Nat} {p1 p2 p3 pos : Pos} (he : PE X e (tO c B W o)) (hK : c.K = X.K := by rfl) : PE X (.Subscript e (.Slice none none (some (.UnaryOp .USub (.Constant (.int 1) k p1) p2)) p3) pos) (tM c B W (mRev sRev o)) := pm_of_pf (f_revL he hK)
theorem o_revT {e : Expr} {o : Opn} {k : Nat} {p1 p2 p3 pos : Pos} (he : PE X e (tO c B W o)) (hK : c.K = X.K := by rfl) : PE X (.Subscript e (.Slice none none (some (.UnaryOp .USub (.Constant (.int 1) k p1) p2)) p3) pos) (tM c B W (mRev sRevT o)) :=
  pe_imp (pe_revT he) fun σ H Q ⟨G, A, ρ, R, a⟩ => rev_core R a.k1 fun G' H' x d e s o1 e1 q => by
    cases d <;> first | (cases e1; done) | skip
    cases e1
    obtain ⟨p, us, rfl, hp, r1, _⟩ := o1.tup s
    rw [← hK]
    exact ⟨p, us, rfl, hp.sq, fun z its hz => q.tup s hz r1.rev⟩
end
end Fx
namespace Fx
open PySem L2
section
variable {c : Cf} {B : List (Nat × Addr)} {W : WX} {X : Cx} {G H : Hp} {A : Addr → Prop} {σ : L2.St} {ρ : Cells} {Z : Ends}
def mNew2 (f g : M D) (i j : Nat) : MS := mDo f fun d => mDo g fun e ρ => .next ((ρ.set i (.own d)).set j (.own e))
end
end Fx
set_option Elab.async false
set_option linter.all false
set_option maxRecDepth 100000
set_option maxHeartbeats 4000000
namespace Fx
open PySem L2
section
variable {c : Cf} {B : List (Nat × Addr)} {W : WX} {X : Cx} {G H : Hp} {A : Addr → Prop} {σ : L2.St} {ρ : Cells} {Z : Ends}
end
end Fx
set_option Elab.async false
set_option linter.all false
set_option maxRecDepth 100000
set_option maxHeartbeats 4000000
namespace Fx
open PySem L2
def flatOne : D → D → Bool
  | .non, .non => true
  | .bl a, .bl b => a == b
  | .int a, .int b => a == b
  | .str a, .str b => a == b
  | _, _ => false
def flatAll : List D → List D → Bool
  | [], [] => true
  | a :: as, b :: bs => flatOne a b && flatAll as bs
  | _, _ => false
def flatEq : D → D → Bool
  | .lst a, .lst b => flatAll a b
  | _, _ => false
def flatL : D → Bool
  | .lst ds => ds.all flatD
  | _ => false
def cellsOk (i : Nat) : Nat → Cells → Cells → Bool
  | _, [], [] => true
  | k, x :: ρ, y :: ρ' => (k == i || match x, y with
    | .own d, .own e => flatEq d e
    | .own _, _ => false
    | _, _ => true) && cellsOk i (k + 1) ρ ρ'
  | _, _, _ => false
theorem flatOne_eq {a b : D} (h : flatOne a b = true) : a = b ∧ flatD a = true := by
  cases a <;> cases b <;> first | (cases h; done) | exact ⟨by simpa [flatOne] using h, rfl⟩
theorem flatAll_eq : ∀ {a b : List D}, flatAll a b = true → a = b ∧ a.all flatD = true
  | [], [], _ => ⟨rfl, rfl⟩
  | [], _ :: _, h => by cases h
  | _ :: _, [], h => by cases h
  | a :: as, b :: bs, h => by
    unfold flatAll at h
    rw [Bool.and_eq_true] at h
    obtain ⟨h1, h2⟩ := flatOne_eq h.1
    obtain ⟨h3, h4⟩ := flatAll_eq h.2
    subst h1 h3
    exact ⟨rfl, by simp only [List.all_cons, h2, h4, Bool.and_self]⟩
theorem flatEq_eq {a b : D} (h : flatEq a b = true) : a = b ∧ flatL a = true := by
  cases a <;> cases b <;> first | (cases h; done) | skip
  obtain ⟨h1, h2⟩ := flatAll_eq (show flatAll _ _ = true from h)
  subst h1
  exact ⟨rfl, h2⟩
theorem cellsOk_at {i : Nat} : ∀ {k : Nat} {ρ ρ' : Cells} {j : Nat} {d : D}, cellsOk i k ρ ρ' = true → k + j ≠ i → ρ[j]? = some (.own d) → ρ'[j]? = some (.own d) ∧ flatL d = true
  | k, [], ρ', j, d, h, hj, e => by simp at e
  | k, x :: ρ, [], j, d, h, hj, e => by cases h
  | k, x :: ρ, y :: ρ', 0, d, h, hj, e => by
    unfold cellsOk at h
    rw [Bool.and_eq_true, Bool.or_eq_true] at h
    have e : x = .own d := by simpa using e
    subst e
    rcases h.1 with z | z
    · exact absurd (eq_of_beq z) (by simpa using hj)
    · cases y with
      | own d' =>
        obtain ⟨h1, h2⟩ := flatEq_eq z
        subst h1
        exact ⟨rfl, h2⟩
      | no => cases z
      | dat d' => cases z
  | k, x :: ρ, y :: ρ', j + 1, d, h, hj, e => by
    unfold cellsOk at h
    rw [Bool.and_eq_true] at h
    have := cellsOk_at (k := k + 1) (j := j) h.2 (by omega) (by simpa using e)
    simpa using this
section
variable {c : Cf} {B : List (Nat × Addr)} {W : WX} {X : Cx} {G G' H : Hp} {A : Addr → Prop} {σ : L2.St} {ρ : Cells} {Z : Ends}
theorem rep_flatG {v : V} {d : D} (r : Rep c G v d) (h : flatD d = true) : Rep c G' v d := by
  cases r <;> first | (cases h; done) | constructor
theorem repL_flatG : ∀ {vs : List V} {ds : List D}, RepL c G vs ds → ds.all flatD = true → RepL c G' vs ds
  | _, _, .nil, _ => .nil
  | _, _, .cons r t, h => by
    rw [List.all_cons, Bool.and_eq_true] at h
    exact .cons (rep_flatG r h.1) (repL_flatG t h.2)
theorem own_flat {o : Option HO} {d : D} (h : Own c G o d) (hf : flatL d = true) : Own c G' o d := by
  cases d <;> first | exact h.elim | (cases hf; done) | skip
  obtain ⟨xs, h1, h2⟩ := h
  exact ⟨xs, h1, repL_flatG h2 hf⟩
end
end Fx
set_option Elab.async false
set_option linter.all false
set_option maxRecDepth 100000
set_option maxHeartbeats 4000000
namespace Fx
open PySem L2
section
variable {c : Cf} {B : List (Nat × Addr)} {W : WX} {X : Cx} {G H : Hp} {A : Addr → Prop} {σ : L2.St} {ρ : Cells} {Z : Ends}
end
end Fx
set_option Elab.async false
set_option linter.all false
set_option maxRecDepth 100000
set_option maxHeartbeats 4000000
namespace Fx
open PySem PySem.Spec PyProof.Rows L2
section
variable {X : Cx}
end
section
variable {c : Cf} {B : List (Nat × Addr)} {W : WX} {X : Cx} {G H : Hp} {A : Addr → Prop} {σ : L2.St} {ρ : Cells}
end
end Fx
set_option Elab.async false
set_option linter.all false
set_option maxRecDepth 100000
set_option maxHeartbeats 4000000
namespace Fx
open PySem L2
/-- the class that a clause names: its code x -/
structure CatX (K : PySem.W.Frag) (mg : Str → Option Value) (c : Cf) (x : Nat) (nm : Str) (fs : List Str) : Prop where
  gC : mg nm = some (.ref (c.exc x))
  xf : XfC K (c.exc x)
  ex : PySem.W.exmOne K (.ref (c.exc x)) (.ref (c.exc x)) = some true
  fl : c.flds x = fs
  no : ∀ f ∈ fs, PySem.W.findIn K (.ref (c.exc x)) f = some none
/-- an item of what the clause makes -/
inductive Atm where
  | con (d : D) | fld (f : Str)
def atmD (fs : List Str) (x : Exc) : Atm → Option D
  | .con d => some d
  | .fld f => (fs.zip x.fs).lookup f
def atmsD (fs : List Str) (x : Exc) : List Atm → Option (List D)
  | [] => some []
  | a :: as => (atmD fs x a).bind fun d => (atmsD fs x as).map fun ds => d :: ds
def tupD (fs : List Str) (as : List Atm) (x : Exc) : Option D := (atmsD fs x as).map D.tup
section
variable {c : Cf} {B : List (Nat × Addr)} {W : WX} {X : Cx} {G H : Hp} {A : Addr → Prop} {σ : L2.St} {ρ : Cells} {Z : Ends}
theorem zip_lookup2 {f : Str} {d : D} : ∀ {ns : List Str} {vs : List V} {ds : List D}, RepL c G vs ds → (ns.zip ds).lookup f = some d → ∃ v, (ns.zip vs).lookup f = some v ∧ Rep c G v d
  | [], _, _, _, h => by cases h
  | n :: ns, v :: vs, e :: ds, .cons r t, h => by
    rw [List.zip_cons_cons, List.lookup_cons] at h ⊢
    cases hq : f == n with
    | true => simp only [hq] at h ⊢; cases h; exact ⟨v, rfl, r⟩
    | false => simp only [hq] at h ⊢; exact zip_lookup2 t h
  | n :: ns, [], _, .nil, h => by cases h
/-- what the suite knows of the error -/
structure HasX (c : Cf) (k i : Nat) (a : Addr) (cls : Value) (d : Option Addr) (x : Exc) (G H : Hp) (σ : L2.St) : Prop where
  cls : cls = .ref (c.exc k)
  xc : x.c = k
  at_ : ∃ dd, d = some dd ∧ ExcAt c G x dd
  same : Same G H
  slot : σ[i]? = some (some (.ref a))
def tAs (c : Cf) (k i : Nat) (a : Addr) (cls : Value) (d : Option Addr) (fs : List Str) (as : List Atm) : TA := fun σ H Q => ∃ G x ds, HasX c k i a cls d x G H σ ∧ atmsD fs x as = some ds ∧ ∀ vs, RepL c G vs ds → Q vs H
def tHv (c : Cf) (k i : Nat) (a : Addr) (cls : Value) (d : Option Addr) (hv : Exc → Option D) : TE := fun σ H Q => ∃ G x e, HasX c k i a cls d x G H σ ∧ hv x = some e ∧ K1 c G H e Q
section
variable {a : Addr} {oe : Obj} {cls : Value} {d : Option Addr} {pn : List (Addr × Obj)} {k i : Nat} {nm : Str} {fs : List Str}
theorem px_fld {n f : Str} {np pos : Pos} (C : CatX X.K X.mg c k nm fs) (hz : Zc cls d oe) (hf : ∃ vs, oe.data = .fields vs) (hi : X.N[i]? = some n) (hv : Vis X.env.scope n) (hm : f ∈ fs) (hd : (n == ("__debug__" : Str)) = false := by decide) (hcd : (n == ("__classdict__" : Str)) = false := by decide)
    (hb : attributeBase (.Name n np) f X.env (eval (.Name n np) X.env) = eval (.Name n np) X.env := by rfl) : PE (X.suite a ((a, oe) :: pn)) (.Attribute (.Name n np) f pos) (fun σ H Q => ∃ G x e, HasX c k i a cls d x G H σ ∧ atmD fs x (.fld f) = some e ∧ ∀ v, Rep c G v e → Q v H) :=
  pe_imp (pe_xf (X := X) (C := c.exc k) (n := f) C.xf (C.no f hm) hz hf (pe_var (X := X.suite a ((a, oe) :: pn)) (i := i) (x := n) (pos := np) hi hv hd hcd) hb) fun σ H Q ⟨G, x, e, hx, he, q⟩ => by
    obtain ⟨dd, ed, vs, h1, h2⟩ := hx.at_
    have he' : (fs.zip x.fs).lookup f = some e := he
    obtain ⟨v, l, r⟩ := zip_lookup2 h2 he'
    refine ⟨.ref a, hx.slot, rfl, hx.cls, dd, _, v, ed, hx.same _ _ h1, ?_, q v r⟩
    rw [hx.xc, C.fl]; exact l
theorem px_nil : PA X [] (tAs c k i a cls d fs []) := pa_imp pa_nil fun σ H Q ⟨G, x, ds, hx, he, q⟩ => by cases he; exact q [] .nil
theorem px_con {e : Expr} {es : List Expr} {v : V} {dc : D} {as : List Atm} (h : PE X e (tC v)) (r0 : ∀ G, Rep c G v dc) (hr : PA X es (tAs c k i a cls d fs as)) (hs : starEach (e :: es) X.env = (false, eval e X.env) :: starEach es X.env := by rfl) : PA X (e :: es) (tAs c k i a cls d fs (.con dc :: as)) :=
  pa_imp (pa_cons h hr hs) fun σ H Q ⟨G, x, ds, hx, he, q⟩ => by
    simp only [atmsD, atmD, Option.bind_some, Option.map_eq_some_iff] at he
    obtain ⟨ds', e1, e2⟩ := he
    subst e2
    exact ⟨G, x, ds', hx, e1, fun vs r => q _ (.cons (r0 G) r)⟩
theorem px_fcons {e : Expr} {es : List Expr} {f : Str} {as : List Atm} (h : PE X e (fun σ H Q => ∃ G x e, HasX c k i a cls d x G H σ ∧ atmD fs x (.fld f) = some e ∧ ∀ v, Rep c G v e → Q v H)) (hr : PA X es (tAs c k i a cls d fs as)) (hs : starEach (e :: es) X.env = (false, eval e X.env) :: starEach es X.env := by rfl) :
    PA X (e :: es) (tAs c k i a cls d fs (.fld f :: as)) :=
  pa_imp (pa_cons h hr hs) fun σ H Q ⟨G, x, ds, hx, he, q⟩ => by
    simp only [atmsD, Option.map_eq_some_iff, Option.bind_eq_some_iff] at he
    obtain ⟨d1, e0, ds', e1, e2⟩ := he
    subst e2
    exact ⟨G, x, d1, hx, e0, fun v rv => ⟨G, x, ds', hx, e1, fun vs r => q _ (.cons rv r)⟩⟩
theorem atmsD_len {x : Exc} : ∀ {as : List Atm} {ds : List D}, atmsD fs x as = some ds → ds.length = as.length
  | [], _, h => by cases h; rfl
  | b :: as, _, h => by
    simp only [atmsD, Option.map_eq_some_iff, Option.bind_eq_some_iff] at h
    obtain ⟨d1, _, ds', e1, e2⟩ := h
    subst e2
    rw [List.length_cons, List.length_cons, atmsD_len e1]
theorem px_tup {es : List Expr} {as : List Atm} {pos : Pos} {x1} (h : PA X es (tAs c k i a cls d fs as)) (hl : as.length ≤ 1000 := by decide) : PE X (.Tuple es x1 pos) (tHv c k i a cls d (tupD fs as)) :=
  pe_imp (pe_tupN h) fun σ H Q ⟨G, x, e, hx, he, q⟩ => by
    simp only [tupD, Option.map_eq_some_iff] at he
    obtain ⟨ds, e1, e2⟩ := he
    subst e2
    refine ⟨G, x, ds, hx, e1, fun vs r => ⟨?_, fun p its hp => ?_⟩⟩
    · rw [r.length, atmsD_len e1]; exact Nat.le_of_lt (small1000 hl)
    · exact K1.tup hx.same q hp r
end
section
variable {k i : Nat} {nm n : Str} {fs : List Str} {body : List Stmt} {hs : Stmt} {np pos pos' : Pos} {m : MS} {hv : Exc → Option D}
end
end
end Fx
set_option Elab.async false
set_option linter.all false
set_option maxRecDepth 100000
set_option maxHeartbeats 4000000
namespace Fx
open PySem
section
variable {prog : Program} {w : World} {A : Around} {E : Value → Shared → Prop} {s : Shared}
/-- an iterator over a list or a tuple, at its place, and the items -/
def ItrAt (f : Bool) (h : Heap) (it l : Addr) (k : Nat) (xs : Array Value) : Prop := match f with
  | true => h.IsListIter it l k ∧ h.IsList l xs
  | false => h.IsTupleIter it l k ∧ h.IsTuple l xs
theorem ItrAt.ext {f : Bool} {h h' : Heap} {it l z : Addr} {k : Nat} {xs : Array Value} (a : ItrAt f h it l k xs) (e : Heap.ExtBut z h h') (n1 : it ≠ z) (n2 : l ≠ z) : ItrAt f h' it l k xs := by
  cases f with
  | true => exact ⟨a.1.extBut e n1, a.2.extBut e n2⟩
  | false => exact ⟨a.1.extBut e n1, a.2.extBut e n2⟩
theorem ItrAt.item {f : Bool} {it l : Addr} {k : Nat} {xs : Array Value} {x : Value} {Q : Value → Shared → Prop} (a : ItrAt f s.heap it l k xs) (ne : l ≠ it) (hx : xs[k]? = some x) (hQ : ∀ h', ItrAt f h' it l (k + 1) xs → Heap.SameBut it s.heap h' → Q x { s with heap := h' }) : wpAny (model prog w) A (Builtin.SmallTypes.nextOf (.ref it)) Q E s := by
  cases f with
  | true => exact wpAny_nextOf_list_item a.1 a.2 hx fun h' p' sb => hQ h' ⟨p', a.2.extBut sb.extBut ne⟩ sb
  | false => exact RZ.nextOf_tuple_item a.1 a.2 hx fun h' p' sb => hQ h' ⟨p', a.2.extBut sb.extBut ne⟩ sb
theorem ItrAt.stop {f : Bool} {it l : Addr} {k : Nat} {xs : Array Value} {Q : Value → Shared → Prop} (hh : A.handled = none) (a : ItrAt f s.heap it l k xs) (hx : xs[k]? = none) (hE : ∀ h' e, Heap.ExtBut it s.heap h' → (∃ o, h'.get? e = some o ∧ o.cls = .type "StopIteration") → E (.ref e) { s with heap := h' }) : wpAny (model prog w) A (Builtin.SmallTypes.nextOf (.ref it)) Q E s := by
  cases f with
  | true => exact wpAny_nextOf_list_end hh a.1 a.2 hx hE
  | false => exact RZ.nextOf_tuple_end hh a.1 a.2 hx hE
end
section
variable {prog : Program} {w : World} {A : Around} {E : Value → Shared → Prop} {s : Shared}
end
open PySem.Spec PyProof.Rows L2
end Fx
set_option Elab.async false
set_option linter.all false
set_option maxRecDepth 100000
set_option maxHeartbeats 4000000
namespace Fx
open PySem L2
section
variable {c : Cf} {B : List (Nat × Addr)} {W : WX} {X : Cx} {G H : Hp} {A : Addr → Prop} {σ : L2.St} {ρ : Cells} {Z : Ends}
def AfterSF (c : Cf) (B : List (Nat × Addr)) (W : WX) (G : Hp) (A : Addr → Prop) (H : Hp) (o : OutS) (D : Ends) : Prop := match o with
  | .ret d ρ' => ∀ G' A' H' σ' p H2, Stp G A H G' A' H' → Rel c B G' A' H' σ' ρ' → H' p = none → Same H' H2 → Own c G' (H2 p) d → D.rt (.ref p) H2
  | .exc x ρ' => ∀ G' A' H' σ' dd, Stp G A H G' A' H' → Rel c B G' A' H' σ' ρ' → ExcAt c G' x dd → W (.ref (c.exc x.c)) (some dd) σ' H'
  | _ => False
def tSF (c : Cf) (B : List (Nat × Addr)) (W : WX) (m : MS) : TS := fun D σ H => ∃ G A ρ, Rel c B G A H σ ρ ∧ AfterSF c B W G A H (m ρ) D
theorem AfterSF.of {o : OutS} {G' H' : Hp} {A' : Addr → Prop} (hA : ∀ b, A b → ∃ o, H b = some o) (s : Stp G A H G' A' H') (h : AfterSF c B W G A H o Z) : AfterSF c B W G' A' H' o Z := by
  cases o with
  | stuck => exact h
  | next ρ' => exact h
  | ret d ρ' => exact fun G2 A2 H2 σ2 p H3 s2 R => h G2 A2 H2 σ2 p H3 (s.trans s2 hA) R
  | brk ρ' => exact h
  | cont ρ' => exact h
  | exc x ρ' => exact fun G2 A2 H2 σ2 dd s2 R r => h G2 A2 H2 σ2 dd (s.trans s2 hA) R r
theorem pssF_ret {e : Expr} {f : M D} {pos : Pos} (he : PE X e (tF c B W f)) : PSs X [.Return (some e) pos] (tSF c B W (mRet f)) :=
  pss_imp (pss_one (ps_ret he)) fun D σ H ⟨G, A, ρ, R, a⟩ => by
    refine ⟨G, A, ρ, R, ?_⟩
    unfold mRet mDo at a
    cases e : f ρ with
    | stuck => rw [e] at a; exact a
    | ok d ρ' =>
      rw [e] at a
      exact fun G' H' s k R' p H2 hp hh ho => a G' A H' σ p H2 (Stp.same s k) R' hp hh ho
    | exc x ρ' =>
      rw [e] at a
      exact fun G' H' dd s k R' r => a G' A H' σ dd (Stp.same s k) R' r
/-- what a slot owns goes -/
theorem Rel.drop (R : Rel c B G A H σ ρ) {i : Nat} {d : D} {p : Addr} (e : ρ[i]? = some (.own d)) (es : σ[i]? = some (some (.ref p))) (hb : B.all (fun q => q.1 != i) = true) :
    Rel c B G (fun b => A b ∧ b ≠ p) (fun b => if b = p then none else H b) σ (ρ.set i .no) := by
  obtain ⟨p', es', hA, hO⟩ := R.own i d e
  rw [es] at es'; cases es'
  obtain ⟨gp, _⟩ := R.ownA p hA
  have hi : i < ρ.length := (List.getElem?_eq_some_iff.mp e).1
  have at_ : ∀ b, b ≠ p → (if b = p then none else H b) = H b := fun b hb => if_neg hb
  have g : ∀ (j : Nat) (x : Cell), (ρ.set i .no)[j]? = some x → x ≠ .no → j ≠ i ∧ ρ[j]? = some x := fun j x h hx => by
    by_cases z : j = i
    · subst z; rw [List.getElem?_set_self hi] at h; cases h; exact absurd rfl hx
    · rw [List.getElem?_set_ne (Ne.symm z)] at h; exact ⟨z, h⟩
  refine ⟨fun b w q => ?_, by rw [List.length_set]; exact R.len, fun b ⟨h1, h2⟩ => ?_, fun j x h => ?_, fun j x h => ?_, fun j k x y q hjk h1 h2 h3 h4 => ?_, fun q hq => ?_⟩
  · show (if b = p then none else H b) = some w
    rw [at_ b (ne_of_none q gp)]; exact R.same b w q
  · obtain ⟨h3, o, h4⟩ := R.ownA b h1
    exact ⟨h3, o, by show (if b = p then none else H b) = some o; rw [at_ b h2]; exact h4⟩
  · exact R.dat j x (g j _ h (fun z => by cases z)).2
  · obtain ⟨nj, h'⟩ := g j _ h (fun z => by cases z)
    obtain ⟨q, h1, h2, h3⟩ := R.own j x h'
    have nq : q ≠ p := fun w => R.dis j i x d p nj h' e (by rw [← w]; exact h1) es
    exact ⟨q, h1, ⟨h2, nq⟩, by show Own c G (if q = p then none else H q) x; rw [at_ q nq]; exact h3⟩
  · exact R.dis j k x y q hjk (g j _ h1 (fun z => by cases z)).2 (g k _ h2 (fun z => by cases z)).2 h3 h4
  · obtain ⟨h1, h2, x, h3⟩ := R.byr q hq
    have z : q.1 ≠ i := by
      have := List.all_eq_true.mp hb q hq
      simpa using this
    refine ⟨h1, ⟨h2, fun w => ?_⟩, x, by rw [List.getElem?_set_ne (Ne.symm z)]; exact h3⟩
    exact R.dis q.1 i x d p z h3 e (by rw [← w]; exact h1) es
def AfterFr (c : Cf) (bs : List Nat) (G : Hp) (A : Addr → Prop) (H : Hp) (vs : List V) (o : FOut) (Q : VK) (E : XK) : Prop := match o with
  | .stuck => False
  | .ret d outs => ∀ G' H' p H2, Ret c bs G A H vs outs G' H' → H' p = none → Same H' H2 → Own c G' (H2 p) d → Q (.ref p) H2
  | .exc x outs => ∀ G' H' dd, Ret c bs G A H vs outs G' H' → ExcAt c G' x dd → E (.ref (c.exc x.c)) (some dd) H'
def mkFr (len : Nat) (bs : List Nat) (m : MS) : Fn := fun ds => match m (initC len bs ds) with
  | .ret d ρ => .ret d (outsOf bs ρ)
  | .exc x ρ => .exc x (outsOf bs ρ)
  | _ => .stuck
def spFr (c : Cf) (bs : List Nat) (n : Nat) (F : Fn) : Sp := fun vs H Q E => ∃ G A ds, ds.length = n ∧ ArgsOk c bs G A H vs ds ∧ AfterFr c bs G A H vs (F ds) Q E
end
section
variable {P : Program} {w : World} {K : PySem.W.Frag} {mg : Str → Option Value} {base : Heap} {c : Cf}
theorem fr_ok {x qual : Str} {st : Stmt} {f : Addr} {fd : FuncData} {N ps : List Str} {k : Nat} {dvs : List V} {kws : List (Str × V)} {m : MS} (bs : List Nat) (F : FunD K x qual (defArgs st) (defBody st) (defScope st) dvs kws f fd) (S : FnScope N ps (defScope st)) (hN : ps.length ≤ N.length) (hbs : ∀ i ∈ bs, i < ps.length)
    (body : ∀ (B : List (Nat × Addr)), B.map (·.1) = bs → ∀ (cdv : Value) (A : Around) (outer : List Env) (s : Shared) (H : Hp) (E : XK), Room k (A.deeper (PyProof.Rows.envOfC qual (defScope st) s.heap.objs.size f cdv)) →
      PSs (cxOf (L2.CX P w) P w K mg base N qual (defScope st) f cdv A outer s H E) (defBody st) (tSF c B (fun cls d _ H => E cls d H) m)) :
    FnOk P w K mg base (L2.CX P w) (k + 1) f fd ps (spFr c bs ps.length (mkFr N.length bs m)) := by
  refine F.ok S (fun vs H Q E h => ?_) (fun cdv A outer s H vs Q E hr h => ?_)
  · obtain ⟨G, A, ds, hn, ok, _⟩ := h
    rw [ok.len, hn]
  · obtain ⟨G, A0, ds, hn, ok, a⟩ := h
    have hl : vs.length = ps.length := by rw [ok.len, hn]
    have hlt : ∀ i ∈ bs, i < ds.length := fun i hi => by rw [hn]; exact hbs i hi
    have : ∃ B : List (Nat × Addr), B.map (·.1) = bs ∧ ∀ q ∈ B, vs[q.1]? = some (.ref q.2) := by
      have : ∀ l : List Nat, (∀ i ∈ l, i ∈ bs) → ∃ B : List (Nat × Addr), B.map (·.1) = l ∧ ∀ q ∈ B, vs[q.1]? = some (.ref q.2) := by
        intro l
        induction l with
        | nil => intro _; exact ⟨[], rfl, fun q h => by cases h⟩
        | cons i l ih =>
          intro hi
          obtain ⟨B, h1, h2⟩ := ih fun j hj => hi j (List.mem_cons_of_mem _ hj)
          have him := hi i List.mem_cons_self
          obtain ⟨p, e, _⟩ := ok.own i _ (List.getElem?_eq_getElem (hlt i him)) him
          refine ⟨(i, p) :: B, by rw [List.map_cons, h1], fun q hq => ?_⟩
          rcases List.mem_cons.mp hq with z | z
          · subst z; exact e
          · exact h2 q z
      exact this bs fun _ h => h
    obtain ⟨B, hB1, hB2⟩ := this
    have hBm : ∀ q ∈ B, q.1 ∈ bs ∧ vs[q.1]? = some (.ref q.2) := fun q hq => ⟨by rw [← hB1]; exact List.mem_map_of_mem hq, hB2 q hq⟩
    have hBi : ∀ i ∈ bs, ∃ p, (i, p) ∈ B ∧ vs[i]? = some (.ref p) := fun i hi => by
      rw [← hB1] at hi
      obtain ⟨q, hq, e⟩ := List.mem_map.mp hi
      subst e
      exact ⟨q.2, hq, hB2 q hq⟩
    refine ⟨_, body B hB1 cdv A outer s H E hr, G, _, _, rel_start ok (by rw [hl]; exact hN) B hBm hlt, ?_⟩
    have a : AfterFr c bs G A0 H vs (match m (initC N.length bs ds) with
      | .ret d ρ => .ret d (outsOf bs ρ)
      | .exc x ρ => .exc x (outsOf bs ρ)
      | _ => .stuck) Q E := a
    cases e : m (initC N.length bs ds) with
    | stuck => rw [e] at a; exact a.elim
    | brk ρ => rw [e] at a; exact a.elim
    | cont ρ => rw [e] at a; exact a.elim
    | next ρ => rw [e] at a; exact a.elim
    | ret d ρ => rw [e] at a; exact fun G' A' H' σ' p H2 s' R' hp hh ho => a G' H' p H2 (ret_of ok hlt hBi s' R') hp hh ho
    | exc x ρ => rw [e] at a; exact fun G' A' H' σ' dd s' R' r => a G' H' dd (ret_of ok hlt hBi s' R') r
theorem fr_ok0 {x qual : Str} {st : Stmt} {f : Addr} {fd : FuncData} {N ps : List Str} {k : Nat} {dvs : List V} {kws : List (Str × V)} {m : MS} (F : FunD K x qual (defArgs st) (defBody st) (defScope st) dvs kws f fd) (S : FnScope N ps (defScope st)) (hN : ps.length ≤ N.length)
    (body : ∀ (cdv : Value) (A : Around) (outer : List Env) (s : Shared) (H : Hp) (E : XK), Room k (A.deeper (PyProof.Rows.envOfC qual (defScope st) s.heap.objs.size f cdv)) →
      PSs (cxOf (L2.CX P w) P w K mg base N qual (defScope st) f cdv A outer s H E) (defBody st) (tSF c [] (fun cls d _ H => E cls d H) m)) :
    FnOk P w K mg base (L2.CX P w) (k + 1) f fd ps (spFr c [] ps.length (mkFr N.length [] m)) :=
  fr_ok [] F S hN (fun i h => by simp at h) fun B hB => by
    have : B = [] := by simpa using hB
    subst this
    exact body
end
section
variable {c : Cf} {B : List (Nat × Addr)} {W : WX} {X : Cx} {G H : Hp} {A : Addr → Prop} {σ : L2.St} {ρ : Cells} {Z : Ends}
def zipD : List D → List D → List D
  | d :: ds, e :: es => .tup [d, e] :: zipD ds es
  | _, _ => []
def sZip : D → D → Option (List D)
  | .lst ds, .lst es => some (zipD ds es)
  | .tup ds, .tup es => some (zipD ds es)
  | .lst ds, .tup es => some (zipD ds es)
  | _, _ => none
def mZip (f g : M D) : M (List D) := (seqM [f, g]).bind fun ds => match ds with
  | [d, e] => M.lift (sZip d e)
  | _ => M.stuck
end
end Fx
set_option Elab.async false
set_option linter.all false
set_option maxRecDepth 100000
set_option maxHeartbeats 4000000
namespace Fx
open PySem PySem.Spec PyProof.Rows L2
section
variable {X : Cx}
end
section
variable {c : Cf} {B : List (Nat × Addr)} {W : WX} {X : Cx}
end
end Fx
set_option Elab.async false
set_option linter.all false
set_option maxRecDepth 100000
set_option maxHeartbeats 1000000
namespace Fx
open PySem L2
def SetAt (ρ : Cells) (i : Nat) (x : Cell) (ρ' : Cells) : Prop := ρ.set i x = ρ'
theorem setAt_z {a x : Cell} {l : Cells} : SetAt (a :: l) 0 x (x :: l) := rfl
theorem setAt_s {a x : Cell} {l l' : Cells} {n : Nat} (h : SetAt l n x l') : SetAt (a :: l) (n + 1) x (a :: l') := by
  unfold SetAt at h ⊢
  rw [List.set_cons_succ, h]
def GetAt (ρ : Cells) (i : Nat) (x : Cell) : Prop := ρ[i]? = some x
theorem getAt_z {a : Cell} {l : Cells} : GetAt (a :: l) 0 a := rfl
theorem getAt_s {a x : Cell} {l : Cells} {n : Nat} (h : GetAt l n x) : GetAt (a :: l) (n + 1) x := h
def Put (ks : List Nat) (os : List D) (ρ ρ' : Cells) : Prop := setOuts ks os ρ = ρ'
theorem put_n {os : List D} {ρ : Cells} : Put [] os ρ ρ := by cases os <;> rfl
theorem put_c {k : Nat} {ks : List Nat} {o : D} {os : List D} {ρ ρ1 ρ2 : Cells} (h : SetAt ρ k (.own o) ρ1) (h2 : Put ks os ρ1 ρ2) : Put (k :: ks) (o :: os) ρ ρ2 := by
  unfold Put setOuts
  rw [show ρ.set k (.own o) = ρ1 from h]
  exact h2
def Tg (g : TgM) (d : D) (ρ ρ' : Cells) : Prop := g d ρ = some ρ'
theorem tg_nm {i : Nat} {d : D} {ρ ρ' : Cells} (h : SetAt ρ i (.dat d) ρ') : Tg (gNm i) d ρ ρ' := by
  unfold Tg gNm
  rw [show ρ.set i (.dat d) = ρ' from h]
def Tgs (is : List Nat) (ds : List D) (ρ ρ' : Cells) : Prop := gNms is ds ρ = some ρ'
theorem tgs_n {ρ : Cells} : Tgs [] [] ρ ρ := rfl
theorem tgs_c {i : Nat} {is : List Nat} {d : D} {ds : List D} {ρ ρ1 ρ2 : Cells} (h : SetAt ρ i (.dat d) ρ1) (h2 : Tgs is ds ρ1 ρ2) : Tgs (i :: is) (d :: ds) ρ ρ2 := by
  unfold Tgs gNms
  rw [show ρ.set i (.dat d) = ρ1 from h]
  exact h2
/-- what lies under a name of data -/
def Is (d e : D) : Prop := d = e
theorem f_od {a b : Option D} (h : a = b) : a = b := h
theorem f_ol {a b : Option (List D)} (h : a = b) : a = b := h
theorem f_op {a b : Option (D × D)} (h : a = b) : a = b := h
theorem f_bt {a : Bool} (h : a = true) : a = true := h
theorem f_on {a b : Option Nat} (h : a = b) : a = b := h
theorem f_ld {a b : List D} (h : a = b) : a = b := h
theorem is_r {d : D} : Is d d := rfl
theorem is_id {d e : D} (h : Is d e) : Is d e := h
theorem tg_tp {is : List Nat} {d : D} {ds : List D} {ρ ρ' : Cells} (h0 : Is d (.tup ds)) (h : Tgs is ds ρ ρ') : Tg (gTp is) d ρ ρ' := by
  unfold Tg gTp
  rw [show d = .tup ds from h0]
  exact h
def NB (b b' : Bool) : Prop := b = b'
theorem nb_id {b b' : Bool} (h : NB b b') : NB b b' := h
theorem nb_t {p : Prop} [Decidable p] (h : p) : NB (decide p) true := decide_eq_true h
theorem nb_f {p : Prop} [Decidable p] (h : ¬p) : NB (decide p) false := decide_eq_false h
theorem nb_nt {p : Prop} [Decidable p] (h : ¬p) : NB (!decide p) true := by unfold NB; rw [decide_eq_false h]; rfl
theorem nb_nf {p : Prop} [Decidable p] (h : p) : NB (!decide p) false := by unfold NB; rw [decide_eq_true h]; rfl
theorem nb_lt : NB true true := rfl
theorem nb_lf : NB false false := rfl
theorem nb_ltn : NB (!true) false := rfl
theorem nb_lfn : NB (!false) true := rfl
section
variable {ρ ρ1 ρ2 ρ3 ρ4 : Cells} {d e a b d1 d2 d3 : D}
theorem v_var {i : Nat} (h : GetAt ρ i (.dat d)) : mVar i ρ = .ok d ρ := by
  unfold mVar
  rw [show ρ[i]? = some (.dat d) from h]
theorem v_pure {α : Type} {x : α} : M.pure x ρ = .ok x ρ := rfl
theorem p_dat {f : M D} (h : f ρ = .ok a ρ1) : Opn.pre (.dat f) ρ = .ok a ρ1 := h
theorem p_own {i : Nat} (h : GetAt ρ i (.own d)) : Opn.pre (.own i) ρ = .ok .non ρ := by
  show (match cellD ρ[i]? with | some _ => Out.ok D.non ρ | none => .stuck) = _
  rw [show ρ[i]? = some (.own d) from h]
  rfl
def Rd (o : Opn) (a : D) (ρ : Cells) (d : D) : Prop := o.rd a ρ = some d
theorem r_dat {f : M D} : Rd (.dat f) a ρ a := rfl
theorem r_own {i : Nat} (h : GetAt ρ i (.own d)) : Rd (.own i) a ρ d := by
  show cellD ρ[i]? = some d
  rw [show ρ[i]? = some (.own d) from h]
  rfl
theorem x_op2 {sem : D → D → Option D} {oa ob : Opn} (h1 : oa.pre ρ = .ok a ρ1) (h2 : ob.pre ρ1 = .ok b ρ2) (h3 : Rd oa a ρ2 d1) (h4 : Rd ob b ρ2 d2) (h5 : sem d1 d2 = some d) : mOp2 sem oa ob ρ = .ok d ρ2 := by
  unfold mOp2 M.bind rdM
  simp only [h1, h2, Out.andThen, show oa.rd a ρ2 = some d1 from h3, show ob.rd b ρ2 = some d2 from h4, M.lift, h5]
def Pl (os : List Opn) (ρ : Cells) (as : List D) (ρ' : Cells) : Prop := preL os ρ = .ok as ρ'
theorem pl_n : Pl [] ρ [] ρ := rfl
theorem pl_c {o : Opn} {os : List Opn} {as : List D} (h1 : o.pre ρ = .ok a ρ1) (h2 : Pl os ρ1 as ρ2) : Pl (o :: os) ρ (a :: as) ρ2 := by
  unfold Pl preL M.bind
  simp only [h1, Out.andThen, show preL os ρ1 = .ok as ρ2 from h2, M.pure]
def Rl (os : List Opn) (as : List D) (ρ : Cells) (ds : List D) : Prop := rdL os as ρ = some ds
theorem rl_n : Rl [] [] ρ [] := rfl
theorem rl_c {o : Opn} {os : List Opn} {as ds : List D} (h1 : Rd o a ρ d) (h2 : Rl os as ρ ds) : Rl (o :: os) (a :: as) ρ (d :: ds) := by
  unfold Rl rdL
  rw [show o.rd a ρ = some d from h1, show rdL os as ρ = some ds from h2]
theorem x_call {sem : List D → Option D} {os : List Opn} {as ds : List D} (h1 : Pl os ρ as ρ1) (h2 : Rl os as ρ1 ds) (h3 : sem ds = some d) : mCall sem os ρ = .ok d ρ1 := by
  unfold mCall M.bind rdLM
  simp only [show preL os ρ = .ok as ρ1 from h1, Out.andThen, show rdL os as ρ1 = some ds from h2, M.lift, h3]
def Ra (os : List Opn) (as : List D) (ρ : Cells) (ds : List D) (ks : List Nat) : Prop := rdA os as ρ = some ds ∧ ownSlots os = ks
theorem ra_n : Ra [] [] ρ [] [] := ⟨rfl, rfl⟩
theorem ra_d {f : M D} {os : List Opn} {as ds : List D} {ks : List Nat} (h : Ra os as ρ ds ks) : Ra (.dat f :: os) (a :: as) ρ (a :: ds) ks := by
  refine ⟨?_, h.2⟩
  unfold rdA
  rw [h.1]; rfl
theorem ra_o {i : Nat} {os : List Opn} {as ds : List D} {ks : List Nat} (h0 : GetAt ρ i (.own d)) (h : Ra os as ρ ds ks) : Ra (.own i :: os) (a :: as) ρ (d :: ds) (i :: ks) := by
  refine ⟨?_, by unfold ownSlots; rw [h.2]⟩
  unfold rdA
  rw [show ρ[i]? = some (.own d) from h0]
  simp only [h.1]; rfl
theorem x_callF {F : Fn} {os : List Opn} {as ds outs : List D} {ks : List Nat} (h1 : Pl os ρ as ρ1) (h2 : Ra os as ρ1 ds ks) (h3 : F ds = .ret d outs) (h4 : Put ks outs ρ1 ρ2) : mCallF F os ρ = .ok d ρ2 := by
  unfold mCallF M.bind
  simp only [show preL os ρ = .ok as ρ1 from h1, Out.andThen, h2.1, h3, h2.2]
  rw [show setOuts ks outs ρ1 = ρ2 from h4]
def Sq (fs : List (M D)) (ρ : Cells) (ds : List D) (ρ' : Cells) : Prop := seqM fs ρ = .ok ds ρ'
theorem sq_n : Sq [] ρ [] ρ := rfl
theorem sq_c {f : M D} {fs : List (M D)} {ds : List D} (h1 : f ρ = .ok d ρ1) (h2 : Sq fs ρ1 ds ρ2) : Sq (f :: fs) ρ (d :: ds) ρ2 := by
  unfold Sq seqM M.bind
  simp only [h1, Out.andThen, show seqM fs ρ1 = .ok ds ρ2 from h2, M.pure]
def App (ds es fs : List D) : Prop := ds ++ es = fs
theorem app_n {es : List D} : App [] es es := rfl
theorem app_c {ds es fs : List D} (h : App ds es fs) : App (d :: ds) es (d :: fs) := by
  unfold App at h ⊢
  rw [List.cons_append, h]
theorem x_callK {F : Fn} {fs ks : List (M D)} {ds es as outs : List D} (h1 : Sq fs ρ ds ρ1) (h2 : Sq ks ρ1 es ρ2) (h3 : App ds es as) (h4 : F as = .ret d outs) : mCallK F (fun ds es => ds ++ es) fs ks ρ = .ok d ρ2 := by
  unfold mCallK M.bind
  simp only [show seqM fs ρ = .ok ds ρ1 from h1, Out.andThen, show seqM ks ρ1 = .ok es ρ2 from h2, show ds ++ es = as from h3, appF, h4]
theorem x_callD {F : Fn} {os : List Opn} {as ds es outs : List D} {ks : List Nat} (h1 : Pl os ρ as ρ1) (h2 : Ra os as ρ1 ds ks) (h3 : App ds [.tup []] es) (h4 : F es = .ret d outs) (h5 : Put ks outs ρ1 ρ2) : mCallF (fun ds => F (ds ++ [.tup []])) os ρ = .ok d ρ2 := by
  refine x_callF h1 h2 (d := d) (outs := outs) ?_ h5
  show F (ds ++ [.tup []]) = _
  rw [show ds ++ [.tup []] = es from h3, h4]
theorem x_callN {F : Fn} {f : M D} {fs : List (M D)} {ds outs : List D} (h1 : f ρ = .ok a ρ1) (h2 : Sq fs ρ1 ds ρ2) (h3 : F (a :: ds) = .ret d outs) : mCallN F f fs ρ = .ok d ρ2 := by
  unfold mCallN M.bind
  simp only [h1, Out.andThen, show seqM fs ρ1 = .ok ds ρ2 from h2, h3]
theorem x_make {F : Fn} {fs : List (M D)} {ds : List D} {ns : List Str} {es : List D} (h1 : Sq fs ρ ds ρ1) (h2 : F (.rcd [] [] :: ds) = .ret .non [d]) (h3 : Is d (.rcd ns es)) : mMake F fs ρ = .ok d ρ1 := by
  unfold Is at h3
  subst h3
  unfold mMake M.bind
  simp only [show seqM fs ρ = .ok ds ρ1 from h1, Out.andThen, h2]
theorem x_tup {fs : List (M D)} {ds : List D} (h1 : Sq fs ρ ds ρ1) : mTup fs ρ = .ok (.tup ds) ρ1 := by
  unfold mTup M.bind
  simp only [show seqM fs ρ = .ok ds ρ1 from h1, Out.andThen, M.pure]
theorem x_lst {fs : List (M D)} {ds : List D} (h1 : Sq fs ρ ds ρ1) : mLst fs ρ = .ok (.lst ds) ρ1 := by
  unfold mLst M.bind
  simp only [show seqM fs ρ = .ok ds ρ1 from h1, Out.andThen, M.pure]
theorem x_neg {f : M D} {i : Int} (h1 : f ρ = .ok (.int i) ρ1) : mNeg f ρ = .ok (.int (-i)) ρ1 := by
  unfold mNeg M.bind
  simp only [h1, Out.andThen, M.pure]
theorem x_meth {is : D → Bool} {sem : D → List D → Option D} {o : Opn} {os : List Opn} {as ds : List D} (h1 : o.pre ρ = .ok a ρ1) (h2 : Rd o a ρ1 d1) (h3 : is d1 = true) (h4 : Pl os ρ1 as ρ2) (h5 : Rd o a ρ2 d2) (h6 : Rl os as ρ2 ds) (h7 : sem d2 ds = some d) : mMeth is sem o os ρ = .ok d ρ2 := by
  unfold mMeth M.bind rdM rdLM
  simp only [h1, Out.andThen, show o.rd a ρ1 = some d1 from h2, h3, if_pos, show preL os ρ1 = .ok as ρ2 from h4, show o.rd a ρ2 = some d2 from h5, show rdL os as ρ2 = some ds from h6, M.lift, h7]
theorem x_methWR {sem : D → List D → Option (D × D)} {i : Nat} {fs : List (M D)} {ds : List D} (h1 : GetAt ρ i (.own d1)) (h2 : isLst d1 = true) (h3 : Sq fs ρ ds ρ1) (h4 : GetAt ρ1 i (.own d2)) (h5 : sem d2 ds = some (d, d3)) (h6 : SetAt ρ1 i (.own d3) ρ2) : mMethWR sem i fs ρ = .ok d ρ2 := by
  unfold mMethWR M.bind ownAt setOwn
  simp only [show ρ[i]? = some (.own d1) from h1, Out.andThen, h2, if_pos, show seqM fs ρ = .ok ds ρ1 from h3, show ρ1[i]? = some (.own d2) from h4, M.lift, h5, show ρ1.set i (.own d3) = ρ2 from h6, M.pure]
theorem x_methW {sem : D → List D → Option (D × D)} {i : Nat} {os : List Opn} {as ds : List D} (h1 : GetAt ρ i (.own d1)) (h2 : isLst d1 = true) (h3 : Pl os ρ as ρ1) (h4 : Rl os as ρ1 ds) (h5 : GetAt ρ1 i (.own d2)) (h6 : sem d2 ds = some (d, d3)) (h7 : SetAt ρ1 i (.own d3) ρ2) : mMethW sem i os ρ = .ok d ρ2 := by
  unfold mMethW M.bind ownAt setOwn rdLM
  simp only [show ρ[i]? = some (.own d1) from h1, Out.andThen, h2, if_pos, show preL os ρ = .ok as ρ1 from h3, show rdL os as ρ1 = some ds from h4, show ρ1[i]? = some (.own d2) from h5, M.lift, h6, show ρ1.set i (.own d3) = ρ2 from h7, M.pure]
theorem pt_n : mPart none ρ = .ok none ρ := rfl
theorem pt_s {f : M D} {j : Int} (h : f ρ = .ok (.int j) ρ1) : mPart (some f) ρ = .ok (some j) ρ1 := by
  unfold mPart M.bind
  simp only [h, Out.andThen, M.pure]
theorem x_sl {sem : D → Option Int → Option Int → Option D} {o : Opn} {lo hi : Option (M D)} {l u : Option Int} (h1 : o.pre ρ = .ok a ρ1) (h2 : mPart lo ρ1 = .ok l ρ2) (h3 : mPart hi ρ2 = .ok u ρ3) (h4 : Rd o a ρ3 d1) (h5 : sem d1 l u = some d) : mSl sem o lo hi ρ = .ok d ρ3 := by
  unfold mSl M.bind rdM
  simp only [h1, Out.andThen, h2, h3, show o.rd a ρ3 = some d1 from h4, M.lift, h5]
theorem x_rev {sem : D → Option D} {o : Opn} (h1 : o.pre ρ = .ok a ρ1) (h2 : Rd o a ρ1 d1) (h3 : sem d1 = some d) : mRev sem o ρ = .ok d ρ1 := by
  unfold mRev M.bind rdM
  simp only [h1, Out.andThen, show o.rd a ρ1 = some d1 from h2, M.lift, h3]
theorem x_lrg {f : M D} {k : Int} (h : f ρ = .ok (.int k) ρ1) (h1 : -(2 ^ 62) ≤ k) (h2 : k ≤ 16777216) : mListRg f ρ = .ok (.lst (rangeD 0 k.toNat)) ρ1 := by
  unfold mListRg M.bind
  rw [h]
  show (if -(2 ^ 62) ≤ k ∧ k ≤ 16777216 then M.pure (D.lst (rangeD 0 k.toNat)) else M.stuck) _ = _
  rw [if_pos ⟨h1, h2⟩]
  rfl
theorem x_fld {fe : M D} {f : Str} {ns : List Str} {ds : List D} (h : fe ρ = .ok d ρ1) (h1 : Is d (.rcd ns ds)) (h2 : (ns.zip ds).lookup f = some e) : mFld fe f ρ = .ok e ρ1 := by
  unfold mFld M.bind
  rw [h, show d = .rcd ns ds from h1]
  simp only [Out.andThen, M.lift, h2]
theorem x_lenF {F : Fn} {fe : M D} {k : Int} {outs : List D} (h : fe ρ = .ok d ρ1) (h1 : isRcd d = true) (h2 : F [d] = .ret (.int k) outs) (h3 : 0 ≤ k) (h4 : k < 2 ^ 63) : mLenF F fe ρ = .ok (.int k) ρ1 := by
  unfold mLenF M.bind
  simp only [h, Out.andThen, h1, if_pos, h2]
  rw [if_pos ⟨h3, h4⟩]
theorem x_methF {F : Fn} {m : Str} {fo : M D} {fs : List (M D)} {ds outs : List D} (h : fo ρ = .ok d ρ1) (h1 : noName m d = true) (h2 : Sq fs ρ1 ds ρ2) (h3 : F (d :: ds) = .ret e outs) : mMethF F m fo fs ρ = .ok e ρ2 := by
  unfold mMethF M.bind
  simp only [h, Out.andThen, h1, if_pos, show seqM fs ρ1 = .ok ds ρ2 from h2, appF, h3]
theorem x_lenset {f : M D} (h : f ρ = .ok d ρ1) (h2 : sLenSet d = some e) : mLenSet f ρ = .ok e ρ1 := by
  unfold mLenSet M.bind
  simp only [h, Out.andThen, M.lift, h2]
def chK (b : Bool) (s2 : D → D → Option D) (d2 : D) (ob oc : Opn) (b0 : D) : M D := if b = true then oc.pre.bind fun e => (rdM ob b0).bind fun d2 => (rdM oc e).bind fun d3 => M.lift (s2 d2 d3) else M.pure (.bl false)
theorem chK_f {s2 : D → D → Option D} {ob oc : Opn} : chK false s2 d2 ob oc b ρ = .ok (.bl false) ρ := rfl
theorem chK_t {s2 : D → D → Option D} {ob oc : Opn} (h1 : oc.pre ρ = .ok e ρ1) (h2 : Rd ob b ρ1 d1) (h3 : Rd oc e ρ1 d3) (h4 : s2 d1 d3 = some d) : chK true s2 d2 ob oc b ρ = .ok d ρ1 := by
  unfold chK M.bind rdM
  simp only [if_pos, h1, Out.andThen, show ob.rd b ρ1 = some d1 from h2, show oc.rd e ρ1 = some d3 from h3, M.lift, h4]
theorem x_chain {s1 s2 : D → D → Option D} {oa ob oc : Opn} {z z' : Bool} {o : Out D} (h1 : oa.pre ρ = .ok a ρ1) (h2 : ob.pre ρ1 = .ok b ρ2) (h3 : Rd oa a ρ2 d1) (h4 : Rd ob b ρ2 d2) (h5 : s1 d1 d2 = some (.bl z)) (hz : NB z z') (h6 : chK z' s2 d2 ob oc b ρ2 = o) : mChain s1 s2 oa ob oc ρ = o := by
  rw [← h6]
  unfold mChain M.bind rdM chK
  rw [← show z = z' from hz]
  simp only [h1, h2, Out.andThen, show oa.rd a ρ2 = some d1 from h3, show ob.rd b ρ2 = some d2 from h4, M.lift, h5]
  cases z <;> rfl
theorem i_seq {f : M D} {ds : List D} (h : f ρ = .ok d ρ1) (h2 : itemsOf d = some ds) : mSeqI f ρ = .ok ds ρ1 := by
  unfold mSeqI M.bind
  simp only [h, Out.andThen, M.lift, h2]
theorem i_enum {f : M D} {ds : List D} (h : f ρ = .ok d ρ1) (h2 : itemsOf d = some ds) : mEnum f ρ = .ok (enumD 0 ds) ρ1 := by
  unfold mEnum M.bind
  simp only [h, Out.andThen, M.lift, h2, M.pure]
theorem i_range {f : M D} {k : Int} (h : f ρ = .ok (.int k) ρ1) (h1 : k ≤ 16777216) (h2 : -16777216 ≤ k) : mRange1 f ρ = .ok (rangeD 0 k.toNat) ρ1 := by
  unfold mRange1 M.bind
  simp only [h, Out.andThen]
  rw [if_pos ⟨h1, h2⟩]
  rfl
theorem i_zip {f g : M D} {ds : List D} (h : f ρ = .ok d ρ1) (h2 : g ρ1 = .ok e ρ2) (h3 : sZip d e = some ds) : mZip f g ρ = .ok ds ρ2 := by
  unfold mZip M.bind
  simp only [seqM, M.bind, h, h2, Out.andThen, M.pure, M.lift, h3]
theorem b_b {f : M D} {b : Bool} (h : f ρ = .ok (.bl b) ρ1) : mB f ρ = .ok b ρ1 := by
  unfold mB M.bind
  simp only [h, Out.andThen, M.pure]
theorem b_not {f : M Bool} {b b' : Bool} (h : f ρ = .ok b ρ1) (hb : NB (!b) b') : mNot f ρ = .ok b' ρ1 := by
  unfold mNot M.bind
  simp only [h, Out.andThen, M.pure, show (!b) = b' from hb]
def andK (b : Bool) (g : M Bool) : M Bool := if b = true then g else M.pure false
theorem andK_t {g : M Bool} {o : Out Bool} (h : g ρ = o) : andK true g ρ = o := h
theorem andK_f {g : M Bool} : andK false g ρ = .ok false ρ := rfl
theorem b_and {f g : M Bool} {b b' : Bool} {o : Out Bool} (h : f ρ = .ok b ρ1) (hb : NB b b') (h2 : andK b' g ρ1 = o) : mAnd f g ρ = o := by
  unfold mAnd M.bind
  unfold andK at h2
  rw [h, show b = b' from hb]
  exact h2
def orK (b : Bool) (g : M Bool) : M Bool := if b = true then M.pure true else g
theorem orK_f {g : M Bool} {o : Out Bool} (h : g ρ = o) : orK false g ρ = o := h
theorem orK_t {g : M Bool} : orK true g ρ = .ok true ρ := rfl
theorem b_or {f g : M Bool} {b b' : Bool} {o : Out Bool} (h : f ρ = .ok b ρ1) (hb : NB b b') (h2 : orK b' g ρ1 = o) : mOr f g ρ = o := by
  unfold mOr M.bind
  unfold orK at h2
  rw [h, show b = b' from hb]
  exact h2
def ifK {α : Type} (b : Bool) (f g : M α) : M α := if b = true then f else g
theorem ifK_t {α : Type} {f g : M α} {o : Out α} (h : f ρ = o) : ifK true f g ρ = o := h
theorem ifK_f {α : Type} {f g : M α} {o : Out α} (h : g ρ = o) : ifK false f g ρ = o := h
theorem x_if {α : Type} {t : M Bool} {f g : M α} {b b' : Bool} {o : Out α} (h : t ρ = .ok b ρ1) (hb : NB b b') (h2 : ifK b' f g ρ1 = o) : mIf t f g ρ = o := by
  unfold mIf M.bind
  unfold ifK at h2
  rw [h, show b = b' from hb]
  exact h2
theorem x_andV {f g : M D} {b b' : Bool} {o : Out D} (h : f ρ = .ok (.bl b) ρ1) (hb : NB b b') (h2 : ifK b' g (M.pure (.bl false)) ρ1 = o) : mAndV f g ρ = o := by
  unfold mAndV M.bind
  unfold ifK at h2
  rw [b_b h, show b = b' from hb]
  exact h2
theorem x_orV {f g : M D} {b b' : Bool} {o : Out D} (h : f ρ = .ok (.bl b) ρ1) (hb : NB b b') (h2 : ifK b' (M.pure (.bl true)) g ρ1 = o) : mOrV f g ρ = o := by
  unfold mOrV M.bind
  unfold ifK at h2
  rw [b_b h, show b = b' from hb]
  exact h2
theorem x_notV {f : M D} {b b' : Bool} (h : f ρ = .ok (.bl b) ρ1) (hb : NB (!b) b') : mNotV f ρ = .ok (.bl b') ρ1 := by
  unfold mNotV M.bind
  rw [b_b h]
  simp only [Out.andThen, M.pure, show (!b) = b' from hb]
theorem s_run {m : MS} {len : Nat} {bs : List Nat} {ds outs : List D} {ρ0 : Cells} (h0 : initC len bs ds = ρ0) (h : m ρ0 = .ret d ρ1) (h2 : outsOf bs ρ1 = outs) : mkFn len bs m ds = .ret d outs := by
  unfold mkFn
  rw [h0, h]
  simp only [h2]
theorem s_runN {m : MS} {len : Nat} {bs : List Nat} {ds outs : List D} {ρ0 : Cells} (h0 : initC len bs ds = ρ0) (h : m ρ0 = .next ρ1) (h2 : outsOf bs ρ1 = outs) : mkFn len bs m ds = .ret .non outs := by
  unfold mkFn
  rw [h0, h]
  simp only [h2]
theorem s_runX {m : MS} {len : Nat} {bs : List Nat} {ds outs : List D} {ρ0 : Cells} {x : Exc} (h0 : initC len bs ds = ρ0) (h : m ρ0 = .exc x ρ1) (h2 : outsOf bs ρ1 = outs) : mkFn len bs m ds = .exc x outs := by
  unfold mkFn
  rw [h0, h]
  simp only [h2]
variable {o : OutS} {m n R : MS}
theorem s_one (h : mSeq m mSkip ρ = o) : m ρ = o := by
  rw [← h]
  unfold mSeq mSkip
  cases m ρ <;> rfl
theorem g_seq (h : mSeq m R ρ = o) : mSeq m R ρ = o := h
theorem s_assoc (h : mSeq m (mSeq n R) ρ = o) : mSeq (mSeq m n) R ρ = o := by
  rw [← h]
  unfold mSeq
  cases m ρ <;> rfl
theorem s_skip (h : R ρ = o) : mSeq mSkip R ρ = o := h
theorem s_end : mSkip ρ = .next ρ := rfl
theorem s_step {S : MS} (h1 : S ρ = .next ρ1) (h2 : R ρ1 = o) : mSeq S R ρ = o := by
  unfold mSeq
  rw [h1]
  exact h2
theorem s_retS {S : MS} (h1 : S ρ = .ret d ρ1) : mSeq S R ρ = .ret d ρ1 := by
  unfold mSeq
  rw [h1]
theorem s_asg {f : M D} {g : TgM} (h1 : f ρ = .ok d ρ1) (h2 : Tg g d ρ1 ρ2) (h3 : R ρ2 = o) : mSeq (mAsg f g) R ρ = o := by
  unfold mSeq mAsg mDo
  rw [h1]
  simp only [show g d ρ1 = some ρ2 from h2]
  exact h3
theorem s_new {f : M D} {i : Nat} (h1 : f ρ = .ok d ρ1) (h2 : SetAt ρ1 i (.own d) ρ2) (h3 : R ρ2 = o) : mSeq (mNew f i) R ρ = o := by
  unfold mSeq mNew mDo
  rw [h1]
  simp only [show ρ1.set i (.own d) = ρ2 from h2]
  exact h3
theorem s_expr {f : M D} (h1 : f ρ = .ok d ρ1) (h3 : R ρ1 = o) : mSeq (mExpr f) R ρ = o := by
  unfold mSeq mExpr mDo
  rw [h1]
  exact h3
theorem s_ret {f : M D} (h1 : f ρ = .ok d ρ1) : mSeq (mRet f) R ρ = .ret d ρ1 := by
  unfold mSeq mRet mDo
  rw [h1]
theorem s_retN : mSeq mRetN R ρ = .ret .non ρ := rfl
def ifSK (b : Bool) (m n : MS) : MS := if b = true then m else n
theorem s_t (h : mSeq m R ρ = o) : mSeq (ifSK true m n) R ρ = o := h
theorem s_f (h : mSeq n R ρ = o) : mSeq (ifSK false m n) R ρ = o := h
theorem s_if {t : M Bool} {b b' : Bool} (h : t ρ = .ok b ρ1) (hb : NB b b') (h2 : mSeq (ifSK b' m n) R ρ1 = o) : mSeq (mIfS t m n) R ρ = o := by
  rw [← h2]
  unfold mSeq mIfS mDo ifSK
  rw [h, show b = b' from hb]
  cases b' <;> rfl
theorem s_par {f g : M D} {i j : Nat} (h1 : f ρ = .ok d ρ1) (h2 : g ρ1 = .ok e ρ2) (h3 : SetAt ρ2 i (.dat d) ρ3) (h4 : SetAt ρ3 j (.dat e) ρ4) (h5 : R ρ4 = o) : mSeq (mPar f g i j) R ρ = o := by
  unfold mSeq mPar mDo
  simp only [h1, h2, show ρ2.set i (.dat d) = ρ3 from h3, show ρ3.set j (.dat e) = ρ4 from h4]
  exact h5
theorem s_new2 {f g : M D} {i j : Nat} (h1 : f ρ = .ok d ρ1) (h2 : g ρ1 = .ok e ρ2) (h3 : SetAt ρ2 i (.own d) ρ3) (h4 : SetAt ρ3 j (.own e) ρ4) (h5 : R ρ4 = o) : mSeq (mNew2 f g i j) R ρ = o := by
  unfold mSeq mNew2 mDo
  simp only [h1, h2, show ρ2.set i (.own d) = ρ3 from h3, show ρ3.set j (.own e) = ρ4 from h4]
  exact h5
theorem s_frz {i : Nat} (h1 : GetAt ρ i (.own d)) (h2 : SetAt ρ i (.dat d) ρ1) (h3 : mSeq m R ρ1 = o) : mSeq (mFrz i m) R ρ = o := by
  unfold mSeq mFrz
  simp only [show ρ[i]? = some (.own d) from h1, show ρ.set i (.dat d) = ρ1 from h2]
  exact h3
theorem s_frzD {i : Nat} (h1 : GetAt ρ i (.dat d)) (h3 : mSeq m R ρ = o) : mSeq (mFrz i m) R ρ = o := by
  unfold mSeq mFrz
  simp only [show ρ[i]? = some (.dat d) from h1]
  exact h3
theorem s_for {fi : M (List D)} {g : TgM} {ds : List D} (h1 : fi ρ = .ok ds ρ1) (h2 : loopM g m ds ρ1 = .next ρ2) (h3 : R ρ2 = o) : mSeq (mFor fi g m) R ρ = o := by
  unfold mSeq mFor mDo
  simp only [h1, h2]
  exact h3
theorem s_forR {fi : M (List D)} {g : TgM} {ds : List D} (h1 : fi ρ = .ok ds ρ1) (h2 : loopM g m ds ρ1 = .ret d ρ2) : mSeq (mFor fi g m) R ρ = .ret d ρ2 := by
  unfold mSeq mFor mDo
  simp only [h1, h2]
theorem s_while {t : M Bool} {k : Nat} (h2 : whileM t m k ρ = .next ρ2) (h3 : R ρ2 = o) : mSeq (whileM t m k) R ρ = o := by
  unfold mSeq
  simp only [h2]
  exact h3
theorem s_whileR {t : M Bool} {k : Nat} (h2 : whileM t m k ρ = .ret d ρ2) : mSeq (whileM t m k) R ρ = .ret d ρ2 := by
  unfold mSeq
  simp only [h2]
theorem s_raise {x : Nat} {fs : List (M D)} {ds : List D} (h : Sq fs ρ ds ρ1) : mSeq (mRaise x fs) R ρ = .exc ⟨x, ds.reverse⟩ ρ1 := by
  unfold mSeq mRaise mDo
  simp only [show seqM fs ρ = .ok ds ρ1 from h]
theorem s_setIx {i : Nat} {fj fe : M D} {ds : List D} {k : Int} {kn : Nat} (h1 : fe ρ = .ok d ρ1) (h2 : GetAt ρ1 i (.own d1)) (h3 : fj ρ1 = .ok (.int k) ρ2) (h4 : GetAt ρ2 i (.own (.lst ds))) (h5 : ixN ds.length k = some kn) (h6 : SetAt ρ2 i (.own (.lst (ds.set kn d))) ρ3) (h7 : R ρ3 = o) : mSeq (mSetIx i fj fe) R ρ = o := by
  unfold mSeq mSetIx mDo
  simp only [h1, ownAt, show ρ1[i]? = some (.own d1) from h2, h3, show ρ2[i]? = some (.own (.lst ds)) from h4, h5, show ρ2.set i (.own (.lst (ds.set kn d))) = ρ3 from h6]
  exact h7
end
end Fx
set_option Elab.async false
set_option linter.all false
set_option maxRecDepth 100000
set_option maxHeartbeats 1000000
namespace Fx
open PySem PyProof.Rows L2
section
variable {c : Cf} {B : List (Nat × Addr)} {W : WX} {X : Cx} {G H : Hp} {A : Addr → Prop} {σ : L2.St} {ρ : Cells} {Z : Ends}
def mPar3 (f g h : M D) (i j l : Nat) : MS := mDo f fun d => mDo g fun e => mDo h fun u ρ => .next (((ρ.set i (.dat d)).set j (.dat e)).set l (.dat u))
end
variable {ρ ρ1 ρ2 ρ3 ρ4 ρ5 ρ6 : Cells} {d e u : D} {o : OutS} {R : MS}
theorem s_par3 {f g h : M D} {i j l : Nat} (h1 : f ρ = .ok d ρ1) (h2 : g ρ1 = .ok e ρ2) (h3 : h ρ2 = .ok u ρ3) (h4 : SetAt ρ3 i (.dat d) ρ4) (h5 : SetAt ρ4 j (.dat e) ρ5) (h6 : SetAt ρ5 l (.dat u) ρ6) (h7 : R ρ6 = o) : mSeq (mPar3 f g h i j l) R ρ = o := by
  unfold mSeq mPar3 mDo
  simp only [h1, h2, h3, show ρ3.set i (.dat d) = ρ4 from h4, show ρ4.set j (.dat e) = ρ5 from h5, show ρ5.set l (.dat u) = ρ6 from h6]
  exact h7
end Fx
set_option Elab.async false
set_option linter.all false
set_option maxRecDepth 100000
set_option maxHeartbeats 2000000
namespace Fx
open PySem PyProof.Rows L2
def pick {α : Type} (is : List Nat) (l : List α) : List α := is.filterMap fun i => l[i]?
section
variable {P : Program} {w : World} {K : PySem.W.Frag} {mg : Str → Option Value} {base : Heap} {c : Cf}
end
section
variable {c : Cf} {B : List (Nat × Addr)} {W : WX} {X : Cx} {G H : Hp} {A : Addr → Prop} {σ : L2.St} {ρ : Cells} {Z : Ends}
def mAugV (i : Nat) (fe : M D) : MS := fun ρ => match ρ[i]? with
  | some (.dat (.int a)) => mDo fe (fun d ρ' => match d with
    | .int b => .next (ρ'.set i (.dat (.int (a + b))))
    | _ => .stuck) ρ
  | _ => .stuck
end
theorem s_augV {i : Nat} {fe : M D} {a b : Int} {ρ ρ1 ρ2 : Cells} {o : OutS} {R : MS} (h1 : GetAt ρ i (.dat (.int a))) (h2 : fe ρ = .ok (.int b) ρ1) (h3 : SetAt ρ1 i (.dat (.int (a + b))) ρ2) (h4 : R ρ2 = o) : mSeq (mAugV i fe) R ρ = o := by
  unfold mSeq mAugV mDo
  simp only [show ρ[i]? = some (.dat (.int a)) from h1, h2, show ρ1.set i (.dat (.int (a + b))) = ρ2 from h3]
  exact h4
def Pk (is : List Nat) (l : List D) (as : List D) : Prop := pick is l = as
def At (l : List D) (i : Nat) (a : D) : Prop := l[i]? = some a
theorem at_z {a : D} {l : List D} : At (a :: l) 0 a := rfl
theorem at_s {a x : D} {l : List D} {n : Nat} (h : At l n x) : At (a :: l) (n + 1) x := h
theorem pk_n {l : List D} : Pk [] l [] := rfl
theorem pk_c {i : Nat} {is : List Nat} {l as : List D} {a : D} (h : At l i a) (h2 : Pk is l as) : Pk (i :: is) l (a :: as) := by
  unfold Pk pick at h2 ⊢
  rw [List.filterMap_cons, show l[i]? = some a from h, h2]
theorem x_callW {F : Fn} {fs ks : List (M D)} {is : List Nat} {ds es as bs outs : List D} {d : D} {ρ ρ1 ρ2 : Cells} (h1 : Sq fs ρ ds ρ1) (h2 : Sq ks ρ1 es ρ2) (h3 : App ds es as) (h4 : Pk is as bs) (h5 : F bs = .ret d outs) : mCallK F (fun ds es => pick is (ds ++ es)) fs ks ρ = .ok d ρ2 := by
  unfold mCallK M.bind
  simp only [show seqM fs ρ = .ok ds ρ1 from h1, Out.andThen, show seqM ks ρ1 = .ok es ρ2 from h2, show ds ++ es = as from h3, show pick is as = bs from h4, appF, h5]
end Fx
set_option Elab.async false
set_option linter.all false
set_option maxRecDepth 100000
set_option maxHeartbeats 2000000
namespace Fx
open PySem PyProof.Rows L2
section
variable {c : Cf} {B : List (Nat × Addr)} {W : WX} {X : Cx} {G H : Hp} {A : Addr → Prop} {σ : L2.St} {ρ : Cells} {Z : Ends}
/-- what isinstance asks of the class -/
structure IsFk (K : PySem.W.Frag) (mg : Str → Option Value) (c : Cf) : Prop where
  gl : mg "Farm" = some (.ref c.farm)
  cl : Cls K c.farm
  ha : PySem.W.findIn K (.ref c.farm) "__class__" = some (some (.builtin "object.__class__"))
  hn : PySem.W.specialIn K (.builtin "object.__class__") "__get__" = some (some (.builtin "getset_descriptor.__get__"))
  tk : PySem.W.takesIn K (.builtin "object.__class__") = some true
  mo : PySem.W.mroIn K c.farm (.type "object") = some true
def mIsF (f : M D) : M D := f.bind fun d => if isRcd d = true then M.pure (.bl true) else M.stuck
/-- the farm's own == -/
structure CalE (P : Program) (w : World) (K : PySem.W.Frag) (mg : Str → Option Value) (base : Heap) (c : Cf) (k : Nat) (F : Fn) : Prop where
  ex : ∃ f fd ps, PySem.W.findIn K (.ref c.farm) "__eq__" = some (some (.ref f)) ∧ PySem.W.isFn K (.ref f) = true ∧ FnOk P w K mg base (L2.CX P w) k f fd ps (spM c [] 2 F) ∧ Binds K fd ps []
def mEqF (F : Fn) (f g : M D) : M D := f.bind fun d1 => g.bind fun d2 => fun ρ => if (isRcd d1 && isRcd d2) = true then (match F [d1, d2] with
  | .ret (.bl r) _ => .ok (.bl r) ρ
  | _ => .stuck) else .stuck
theorem pc_eqF {F : Fn} {f g : M D} {k j : Nat} {a b : Expr} (C : CalE X.prog X.w X.K X.mg X.base c j F) (hr : Room k X.A) (tk : Takes X W) (ha : PE X a (tM c B W f)) (hb : PE X b (tM c B W g)) (hj : j ≤ k := by decide) : PC X .Eq a b (tM c B W (mEqF F f g)) := by
  obtain ⟨fa, fd, ps, hs, hf, Fo, hbd⟩ := C.ex
  have hr2 := hr.mono hj
  refine ⟨fun pins s σ H Q I ⟨G, A, ρ, R, h⟩ => ?_⟩
  refine binT ha hb (R := fun x y H2 => ∃ x1 y1 dx dy fs gs, x = .ref x1 ∧ y = .ref y1 ∧ H2 x1 = some (.ins c.farm dx fs) ∧ H2 y1 = some (.ins c.farm dy gs) ∧ spM c [] 2 F [x, y] H2 (fun v H' => (∃ r, v = .bl r) ∧ Q v H') (fun cls d H => W cls d σ H)) I ?_ fun v u s2 x y H2 I2 rx ry q => ?_
  · refine ⟨G, A, ρ, R, h.split.imp fun d1 ρ1 G1 H1 _ _ R1 a1 x rx => ?_⟩
    refine ⟨G1, A, ρ1, R1, a1.split.imp fun d2 ρ2 G2 H2 s2 _ R2 a2 y ry => ?_⟩
    cases d1 <;> first | exact a2.elim | skip
    cases d2 <;> first | exact a2.elim | skip
    rename_i ns1 ds1 ns2 ds2
    have rx := rx.mono s2
    have rx0 := rx
    have ry0 := ry
    cases rx with
    | rcd h1 l1 q1 =>
      cases ry with
      | rcd h2 l2 q2 =>
        refine ⟨_, _, _, _, _, _, rfl, rfl, R2.same _ _ h1, R2.same _ _ h2, G2, _, [.rcd ns1 ds1, .rcd ns2 ds2], rfl, argsOk_rep R2.same (.cons rx0 (.cons ry0 .nil)), ?_⟩
        have a2 : After c B W G2 A H2 σ (match F [.rcd ns1 ds1, .rcd ns2 ds2] with
          | .ret (.bl r) _ => .ok (.bl r) ρ2
          | _ => .stuck) fun d _ G' H' => ∀ v, Rep c G' v d → Q v H' := a2
        cases ef : F [.rcd ns1 ds1, .rcd ns2 ds2] with
        | stuck => rw [ef] at a2; exact a2.elim
        | exc y outs => rw [ef] at a2; exact a2.elim
        | ret d0 outs =>
          rw [ef] at a2
          cases d0 <;> first | exact a2.elim | skip
          rename_i r
          intro G3 H3 v rr rv
          obtain ⟨s1, k1, R3⟩ := rr.rel R2
          obtain rfl := rep_bl rv
          exact ⟨⟨_, rfl⟩, a2 G3 H3 s1 k1 R3 _ (.bl _)⟩
  · obtain ⟨x1, y1, dx, dy, fs, gs, rfl, rfl, h1, h2, hsp⟩ := q
    obtain rfl : v = Value.ref x1 := rx
    obtain rfl : u = Value.ref y1 := ry
    obtain ⟨_, J, _⟩ := ins_get I2.hok h1
    obtain ⟨_, J', _⟩ := ins_get I2.hok h2
    obtain ⟨od, J, _⟩ := J.look
    obtain ⟨od', J', _⟩ := J'.look
    obtain ⟨m, hF⟩ := I2.fr
    show wpAny _ _ (richCompare .Eq _ _) _ _ _
    refine PySem.W.cmp_K (op := .Eq) (tb := .ref c.farm) hr2.units0 hF I2.ok.mod.kin J J'.type (by simp [PySem.W.notFirst]) hs hf ?_
    have hl := Fo.len _ _ _ _ hsp
    refine wpAny_call (codeAny_mono (Fo.run X.A X.stack s2 H2 ⟨[.ref x1, .ref y1], []⟩ [.ref x1, .ref y1] [.ref x1, .ref y1] _ (fun cls d H => W cls d σ H) hr2 I2.env0 (hbd s2 [.ref x1, .ref y1] I2.kIn (by simpa using hl)) (.cons rfl (.cons rfl .nil)) hsp) fun r s' hq => ?_)
    cases r with
    | error e => exact passAt tk σ pins H2 s2 e s' I2 hq
    | ok fl =>
      cases fl with
      | ret w =>
        obtain ⟨z, H', I', rz, ⟨r, ez⟩, qv⟩ := I2.after hq
        subst ez
        cases rz
        exact ⟨.bl r, H', I', rfl, qv⟩
      | next => exact False.elim hq
      | brk => exact False.elim hq
      | cont => exact False.elim hq
theorem pt_eqF {F : Fn} {f g : M D} {k j : Nat} {a b : Expr} {pos : Pos} (C : CalE X.prog X.w X.K X.mg X.base c j F) (hr : Room k X.A) (tk : Takes X W) (ha : PE X a (tM c B W f)) (hb : PE X b (tM c B W g)) (hj : j ≤ k := by decide) : PT X (.Compare a [.Eq] [b] pos) (tT c B W (mB (mEqF F f g))) := pt_imp (pt_cmp (pc_eqF C hr tk ha hb hj) (nomark _)) fun σ H Q h => tB_core h
end
variable {ρ ρ1 ρ2 : Cells} {d d1 d2 : D}
theorem x_isF {f : M D} (h : f ρ = .ok d ρ1) (h2 : isRcd d = true) : mIsF f ρ = .ok (.bl true) ρ1 := by
  unfold mIsF M.bind
  simp only [h, Out.andThen, h2, if_pos, M.pure]
theorem x_eqF {F : Fn} {f g : M D} {b : Bool} {outs : List D} (h1 : f ρ = .ok d1 ρ1) (h2 : g ρ1 = .ok d2 ρ2) (h3 : isRcd d1 = true) (h4 : isRcd d2 = true) (h5 : F [d1, d2] = .ret (.bl b) outs) : mEqF F f g ρ = .ok (.bl b) ρ2 := by
  unfold mEqF M.bind
  simp only [h1, h2, Out.andThen, h3, h4, Bool.and_self, if_pos, h5]
end Fx
set_option Elab.async false
set_option linter.all false
set_option maxRecDepth 100000
set_option maxHeartbeats 4000000
namespace Fx
open PySem L2
def isDic : D → Bool
  | .dic _ _ => true
  | _ => false
section
variable {c : Cf} {B : List (Nat × Addr)} {W : WX} {X : Cx} {G H : Hp} {A : Addr → Prop} {σ : L2.St} {ρ : Cells}
def mMethWD (sem : D → List D → Option (D × D)) (i : Nat) (fs : List (M D)) : M D := (ownAt i).bind fun d0 => if isDic d0 = true then (seqM fs).bind fun ds => (ownAt i).bind fun d => (M.lift (sem d ds)).bind fun r => (setOwn i r.2).bind fun _ => M.pure r.1 else M.stuck
theorem x_methWD {sem : D → List D → Option (D × D)} {i : Nat} {fs : List (M D)} {ds : List D} {d d1 d2 d3 : D} {ρ1 ρ2 : Cells} (h1 : GetAt ρ i (.own d1)) (h2 : isDic d1 = true) (h3 : Sq fs ρ ds ρ1) (h4 : GetAt ρ1 i (.own d2)) (h5 : sem d2 ds = some (d, d3)) (h6 : SetAt ρ1 i (.own d3) ρ2) : mMethWD sem i fs ρ = .ok d ρ2 := by
  unfold mMethWD M.bind ownAt setOwn
  simp only [show ρ[i]? = some (.own d1) from h1, Out.andThen, h2, if_true]
  rw [show seqM fs ρ = .ok ds ρ1 from h3]
  simp only [show ρ1[i]? = some (.own d2) from h4, M.lift, h5, M.pure, show ρ1.set i (.own d3) = ρ2 from h6]
end
end Fx
set_option Elab.async false
set_option linter.all false
set_option maxRecDepth 100000
set_option maxHeartbeats 4000000
namespace Fx
open PySem L2
section
variable {X : Cx} {pins : List (Addr × Obj)} {σ : L2.St} {H : Hp} {s : Shared}
theorem pe_actS {CXg : CXT} {Eg : XK} {Ng : List Str} {qg : Str} {sg : Scope} {g f c' : Addr} {cdg pm ctv : Value} {params : Arguments} {body : Expr} {scope : Scope} {k i : Nat} {a : Str} {pn : List (Addr × Obj)} {xe : Value → Shared → Prop} {W : WX} {tb : XK → TE} {p1 p2 : Pos}
    (I : Inv X pins σ H s) (L : LamX.LamS X.env.scope scope) (hf : s.heap.get? f = some (PySem.W.kla_obj "<lambda>" (X.env.qual ++ "<lambda>") params body scope (cloFrom X.env.cells scope.names []) pm c' ctv)) (hfn : H f = none) (hfr : f ∉ frs X.stack)
    (nobind : bindArgs (PySem.W.kla_fn "<lambda>" (X.env.qual ++ "<lambda>") params body scope (cloFrom X.env.cells scope.names []) pm (.ref c') ctv) ⟨[], []⟩ = pure [])
    (tk : Takes ((cxOf CXg X.prog X.w X.K X.mg X.base Ng qg sg g cdg X.A X.stack s H Eg).tr pn xe) W) (hr : Room (k + 1) (X.A.deeper (PyProof.Rows.envOfC qg sg s.heap.objs.size g cdg)))
    (inner : ∀ (A : Around) (outer : List Env) (s : Shared) (H : Hp) (E : XK), Room k (A.deeper (LamX.lamEnv X scope s.heap.objs.size f c')) → PE (LamX.lamCx X A outer s H E scope f c') body (tb E))
    (hN : Ng[i]? = some a) (hv : Vis sg a) (hd : (a == ("__debug__" : Str)) = false) (hcd : (a == ("__classdict__" : Str)) = false) :
    PE ((cxOf CXg X.prog X.w X.K X.mg X.base Ng qg sg g cdg X.A X.stack s H Eg).tr pn xe) (.Call (.Name a p1) [] [] p2)
      (fun σZ HZ Q => σZ[i]? = some (some (.ref f)) ∧ HZ c' = some (LamX.CodeO c' (X.env.qual ++ "<lambda>")) ∧ tb (fun cls d H' => W cls d σZ H') σ HZ Q) := by
  refine ⟨fun pinsZ sZ σZ HZ Q IZ ⟨hs, hc, ht⟩ => ?_⟩
  refine wpAny_Call_Name_kw (thn ((pe_var (pos := p1) (i := i) hN hv hd hcd).run pinsZ sZ σZ HZ (fun v H1 => v = .ref f ∧ H1 = HZ) IZ ⟨.ref f, hs, rfl, rfl⟩) fun u z1 ⟨v, H1, J1, r1, q1⟩ => ?_)
  obtain ⟨rfl, rfl⟩ := q1
  cases (show u = Value.ref f from r1)
  have of1 := J1.base.keep f _ hf hfn hfr (fun z => nomatch (show f ∈ ([] : List Addr) from z))
  refine PySem.W.callWith_F0 ⟨_, _, _, _, of1⟩ ?_
  have un : Un (frs X.stack) [] H H1 s.heap z1.heap := J1.base
  obtain ⟨⟨oc, vs, t, hoc, hdc, hvc⟩, _, _⟩ := J1.hok c' _ hc
  have rc : codeAny (model X.prog X.w) (X.A.deeper (PyProof.Rows.envOfC qg sg s.heap.objs.size g cdg)) (.call (.ref f) ⟨[], []⟩) (CR (L2.CX X.prog X.w) (PyProof.Rows.envOfC qg sg s.heap.objs.size g cdg :: X.stack) X.prog X.w H1 z1 Q (fun cls d H' => W cls d σZ H')) z1 := by
    refine PySem.W.kla_callFunE hr.depth of1 rfl L.co L.gen rfl ⟨c', oc, vs, t, rfl, hoc, hdc, hvc⟩ ?_
    rw [nobind]
    refine wpAny_pure (wpAny_newFunctionEnv (fun y hy => (L.own y hy).2) (fun y hy => absurd hy (by simp)) (fun h₁ hns hsb => ⟨J1.nolimit.fresh _ hsb, ?_⟩) L.kind)
    show codeAny _ _ (.expr body (LamX.lamEnv X scope z1.heap.objs.size f c')) _ _
    have stays : ∀ b o, z1.heap.get? b = some o → h₁.get? b = some o := fun b o e => hsb.extBut b o (Nat.ne_of_lt (Heap.lt_size e)) (Heap.get?_push_of_some _ e)
    have J := LamX.lam_start2 (A := X.A.deeper (PyProof.Rows.envOfC qg sg s.heap.objs.size g cdg)) (outer := PyProof.Rows.envOfC qg sg s.heap.objs.size g cdg :: X.stack) (E := fun cls d H' => W cls d σZ H') (f := f) (c' := c') (tk := z1.toks + ([] : List (Str × Value)).length) I L J1.env0 hr.hd un hns stays
    refine PySem.W.kla_codeExpr (wpAny_mono ((inner _ _ z1 H1 _ (hr.deeper _)).run [] _ _ H1 Q J ht) (fun v z2 hq => ?_) fun e z2 hq => hq)
    obtain ⟨w', H', J', rv, q⟩ := hq
    exact ⟨w', H', J'.os, J'.bare, J'.base, J'.hok, rv, q⟩
  refine wpAny_call (codeAny_mono rc fun r z2 hq => ?_)
  match r, hq with
  | .error e, hq => exact passAt tk σZ pinsZ H1 z1 e z2 J1 hq
  | .ok (.ret u), hq => exact J1.after hq
  | .ok .next, hq => exact hq.elim
  | .ok .brk, hq => exact hq.elim
  | .ok .cont, hq => exact hq.elim
abbrev LamT := XK → Hp → VK → Prop
/-- the def that is handed the lambda -/
def GivesS (X : Cx) (Ng : List Str) (x : Str) (sg : Scope) (g : Addr) (cdg : Value) (bg : List Stmt) (a : Str) (q : Str) (TT : LamT → Hp → VK → Prop) : Prop :=
  ∀ (f c' : Addr) (s : Shared) (H : Hp) (Q : VK) (tl : LamT),
    (∀ (W : WX) (pn : List (Addr × Obj)) (xe : Value → Shared → Prop) (p1 p2 : Pos), Takes ((cxOf C8.CX0 X.prog X.w X.K X.mg X.base Ng x sg g cdg X.A X.stack s H C8.E0).tr pn xe) W →
      PE ((cxOf C8.CX0 X.prog X.w X.K X.mg X.base Ng x sg g cdg X.A X.stack s H C8.E0).tr pn xe) (.Call (.Name a p1) [] [] p2) (fun σZ HZ Q => σZ[0]? = some (some (.ref f)) ∧ HZ c' = some (LamX.CodeO c' q) ∧ tl (fun cls d H' => W cls d σZ H') HZ Q)) →
    H c' = some (LamX.CodeO c' q) → TT tl H Q →
    ∃ t, PSs (cxOf C8.CX0 X.prog X.w X.K X.mg X.base Ng x sg g cdg X.A X.stack s H C8.E0).nox bg t ∧ t { nx := fun _ H' => Q .non H', rt := Q } (L2.start Ng [.ref f]) H
end
section
variable {X : Cx}
theorem pe_lamS {T : List (Addr × Str)} {TT : LamT → Hp → VK → Prop} {x a : Str} {g c P : Addr} {k : Nat} {pg : Arguments} {bg : List Stmt} {sg : Scope} {dV kV doc pm cdv ct oc : Value} {an od : Option Addr} {osl : Array (Option Value)} {Ng : List Str}
    {params : Arguments} {body : Expr} {scope : Scope} {t : XK → TE} {p lpos pos : Pos} (hg : Gl X x) (hm : X.mg x = some (.ref g)) (hk : PySem.W.keepIn X.K (.ref g) = true)
    (lk : X.K.lookup g = some ⟨oc, od, .func (PySem.W.fnOf x x pg bg sg dV kV doc pm an cdv ct), osl⟩) (hcg : PySem.W.codeIn X.K cdv x = true) (hb : Binds X.K (PySem.W.fnOf x x pg bg sg dV kV doc pm an cdv ct) [a] []) (Sg : FnScope Ng [a] sg) (hNg : Ng[0]? = some a) (hva : Vis sg a)
    (hG : GivesS X Ng x sg g cdv bg a (X.env.qual ++ "<lambda>") TT)
    (TB : LamX.TabB X.base X.mg c P) (hcode : X.env.code = .ref c) (hmT : (P, X.env.qual ++ "<lambda>") ∈ T) (hu : ∀ p ∈ T, p.1 = P → p.2 = X.env.qual ++ "<lambda>") (hr : Room (k + 2) X.A) (L : LamX.LamS X.env.scope scope) (hdef : defaultsOf params X.env = ([], []))
    (nobind : ∀ (q : Str) (cl : List (Str × Addr)) (pm cv ctv : Value), bindArgs (PySem.W.kla_fn "<lambda>" q params body scope cl pm cv ctv) ⟨[], []⟩ = pure [])
    (inner : ∀ (A : Around) (outer : List Env) (s : Shared) (H : Hp) (E : XK) (f c' : Addr), Room k (A.deeper (LamX.lamEnv X scope s.heap.objs.size f c')) → PE (LamX.lamCx X A outer s H E scope f c') body (t E))
    (hdb : (x == ("__debug__" : Str)) = false := by decide) (hd : (a == ("__debug__" : Str)) = false := by decide) (hcd : (a == ("__classdict__" : Str)) = false := by decide) :
    PE X (.Call (.Name x p) [.Lambda params body scope lpos] [] pos) (LamX.tLam T TT t) := by
  refine ⟨fun pins s σ H Q I ⟨hT, h⟩ => ?_⟩
  refine wpAny_Call_Name_kw (ld_glob I hg hm ?_ hdb)
  refine PySem.W.callWith_K (h₀ := X.base) I.ok.mod.kin hk ?_ (by rfl) (by rfl)
  show wpAny _ _ (spliced ((false, eval (.Lambda params body scope lpos) X.env) :: backTo pos (starEach [] X.env))) _ _ s
  refine Calls.spliced_cons (LamX.lam_make2 I TB hcode hmT hu hT hdef (L.has I.ok) fun f c' pm' ctv H1 z1 J1 eN T1 hf hfn hfr hco => ?_)
  refine Calls.spliced_nil ⟨J1.kIn, ?_⟩
  have rc : codeAny (model X.prog X.w) X.A (.call (.ref g) ⟨[.ref f], []⟩) (CR C8.CX0 X.stack X.prog X.w H1 z1 Q C8.E0) z1 := by
    refine LamX.run_ofS (N := Ng) (ps := [a]) (us := [.ref f]) (vs := [.ref f]) lk hcg Sg hr J1.env0 (hb z1 [.ref f] J1.kIn rfl) (.cons rfl .nil) rfl fun hr2 => ?_
    obtain ⟨t', ht', hq'⟩ := hG f c' z1 H1 Q (fun E H' Q' => t E σ H' Q') (fun W pn xe p1 p2 tk => pe_actS (i := 0) J1 L hf hfn hfr (nobind _ _ _ _ _) tk hr2 (fun A outer s H E hr3 => inner A outer s H E f c' hr3) hNg hva hd hcd) hco (h H1 eN T1)
    exact ⟨t', ht'.nox, hq'⟩
  refine wpAny_call (codeAny_mono rc fun r z2 hq => ?_)
  match r, hq with
  | .error e, hq => exact (show False from hq).elim
  | .ok (.ret u), hq => exact J1.after hq
  | .ok .next, hq => exact hq.elim
  | .ok .brk, hq => exact hq.elim
  | .ok .cont, hq => exact hq.elim
end
end Fx
set_option Elab.async false
set_option linter.all false
set_option maxRecDepth 100000
set_option maxHeartbeats 4000000
namespace Fx
open PySem L2
/-- what the cells own -/
def Owd (σ : L2.St) (ρ : Cells) (b : Addr) : Prop := ∃ (i : Nat) (d : D), ρ[i]? = some (.own d) ∧ σ[i]? = some (some (.ref b))
def NoTbl (G : Hp) : Prop := ∀ b ps, G b ≠ some (.tbl ps)
/-- the heap without its tables -/
def strip (G : Hp) : Hp := fun b => match G b with
  | some (.tbl _) => none
  | u => u
theorem strip_some {G : Hp} {b : Addr} {u : HO} (h : G b = some u) (n : ∀ ps, u ≠ .tbl ps) : strip G b = some u := by
  unfold strip
  rw [h]
  cases u <;> first | rfl | exact absurd rfl (n _)
theorem strip_none {G : Hp} {b : Addr} (h : G b = none) : strip G b = none := by
  unfold strip
  rw [h]
theorem strip_inv {G : Hp} {b : Addr} {u : HO} (h : strip G b = some u) : G b = some u ∧ ∀ ps, u ≠ .tbl ps := by
  unfold strip at h
  cases e : G b with
  | none => rw [e] at h; cases h
  | some w =>
    rw [e] at h
    cases w <;> first | (cases h; exact ⟨rfl, fun ps z => by cases z⟩) | cases h
theorem strip_no {G : Hp} : NoTbl (strip G) := fun b ps h => (strip_inv h).2 ps rfl
theorem strip_eq {G : Hp} (n : NoTbl G) (b : Addr) : strip G b = G b := by
  cases e : G b with
  | none => exact strip_none e
  | some u => exact strip_some e fun ps z => n b ps (by rw [e, z])
theorem strip_same {G G' : Hp} (n : NoTbl G) (s : Same G G') : Same G (strip G') := fun b u h => strip_some (s b u h) fun ps z => n b ps (by rw [h, z])
theorem strip_sub {G H : Hp} (s : Same G H) : Same (strip G) H := fun b u h => s b u (strip_inv h).1
section
variable {c : Cf} {G H : Hp}
theorem TupAt.strip {K : PySem.W.Frag} {a : Addr} {xs : List V} (h : TupAt K G a xs) : TupAt K (strip G) a xs := by
  rcases h with ⟨o, h, d⟩ | h
  · exact .inl ⟨o, strip_some h fun ps z => (by cases z), d⟩
  · exact .inr h
theorem rd_strip {a : Addr} {u : HO} (n : ∀ ps, u ≠ .tbl ps) (h : L2.Rd G a u) : L2.Rd (strip G) a u := by
  rcases h with h | ⟨o, h⟩
  · exact .inl (strip_some h n)
  · exact .inr ⟨o, strip_some h fun ps z => (by cases z)⟩
theorem LsG.strip {K : PySem.W.Frag} {a : Addr} {xs : List V} (h : LsG K G a xs) : LsG K (strip G) a xs := by
  rcases h with h | h
  · exact .inl (rd_strip (fun ps z => by cases z) h)
  · exact .inr h
/-- a dict is no code -/
theorem kd_code {P : Program} {w : World} {a b : Addr} {xs : List (NestedKey × Addr)} {q : Str} : KdO P w a xs ≠ LamX.CodeO b q := fun z => by
  unfold KdO LamX.CodeO at z
  have z := HO.ext.inj z
  let oc : Obj := { cls := .none, data := .fields #[.none, .str q 0] }
  let h0 : Heap := { objs := Array.replicate (b + 1) oc }
  have hb : h0.get? b = some oc := by
    unfold Heap.get?
    simp [h0, oc]
  have hz := congrFun z h0
  have hc : ∃ (oc : Obj) (vs : Array Value) (t : Tok), h0.get? b = some oc ∧ oc.data = .fields vs ∧ vs[1]? = some (.str q t) := ⟨oc, _, 0, hb, rfl, rfl⟩
  rw [← hz] at hc
  obtain ⟨_, o, es, ep, h1, _, h2, _⟩ := hc
  unfold Heap.get? at h1
  simp only [h0, Array.getElem?_replicate] at h1
  by_cases y : a < b + 1
  · rw [if_pos y] at h1
    have h1 : some oc = some o := h1
    cases h1
    cases h2
  · rw [if_neg y] at h1
    cases h1
theorem km_code {P : Program} {w : World} {a b : Addr} {xs : List (NestedKey × Addr × Value)} {q : Str} : KmO P w a xs ≠ LamX.CodeO b q := fun z => by
  unfold KmO LamX.CodeO at z
  have z := HO.ext.inj z
  let oc : Obj := { cls := .none, data := .fields #[.none, .str q 0] }
  let h0 : Heap := { objs := Array.replicate (b + 1) oc }
  have hb : h0.get? b = some oc := by
    unfold Heap.get?
    simp [h0, oc]
  have hz := congrFun z h0
  have hc : ∃ (oc : Obj) (vs : Array Value) (t : Tok), h0.get? b = some oc ∧ oc.data = .fields vs ∧ vs[1]? = some (.str q t) := ⟨oc, _, 0, hb, rfl, rfl⟩
  rw [← hz] at hc
  obtain ⟨_, o, es, ep, h1, _, h2, _⟩ := hc
  unfold Heap.get? at h1
  simp only [h0, Array.getElem?_replicate] at h1
  by_cases y : a < b + 1
  · rw [if_pos y] at h1
    have h1 : some oc = some o := h1
    cases h1
    cases h2
  · rw [if_neg y] at h1
    cases h1
theorem KdAt.strip {a : Addr} {k : Nat} {xs : List V} {ks : List NestedKey} (h : KdAt c k (G a) xs ks) : KdAt c k (Fx.strip G a) xs ks := by
  rcases h with ⟨h0, b, ps, h1, h2⟩ | ⟨h0, b, ps, us, vs, h1, h2⟩
  · exact .inl ⟨h0, b, ps, strip_some h1 (fun ps z => by unfold KdO at z; cases z), h2⟩
  · exact .inr ⟨h0, b, ps, us, vs, strip_some h1 (fun ps z => by unfold KmO at z; cases z), h2⟩
mutual
theorem Rep.strip : ∀ {v : V} {d : D}, Rep c G v d → Rep c (Fx.strip G) v d
  | _, _, .non => .non
  | _, _, .bl b => .bl b
  | _, _, .int i => .int i
  | _, _, .str x => .str x
  | _, _, .tup s r => .tup s.strip (RepL.strip r)
  | _, _, .lst s r => .lst s.strip (RepL.strip r)
  | _, _, .dic s l r => .dic (rd_strip (fun ps z => by cases z) s) l (RepL.strip r)
  | _, _, .rcd s l r => .rcd (strip_some s fun ps z => by cases z) l (RepL.strip r)
  | _, _, .raw v => .raw v
  | _, _, .std h r k => .std h.strip (RepL.strip r) k
theorem RepL.strip : ∀ {vs : List V} {ds : List D}, RepL c G vs ds → RepL c (Fx.strip G) vs ds
  | _, _, .nil => .nil
  | _, _, .cons h t => .cons (Rep.strip h) (RepL.strip t)
end
theorem Own.strip {o : Option HO} {d : D} (h : Own c G o d) : Own c (Fx.strip G) o d := by
  cases d <;> first | exact h.elim | skip
  · obtain ⟨xs, h1, h2⟩ := h; exact ⟨xs, h1, h2.strip⟩
  · obtain ⟨xs, h1, h3, h2⟩ := h; exact ⟨xs, h1, h3, h2.strip⟩
  · obtain ⟨dx, xs, h1, h3, h2⟩ := h; exact ⟨dx, xs, h1, h3, h2.strip⟩
  · obtain ⟨xs, ks, h1, h2, h3⟩ := h; exact ⟨xs, ks, h1, h2.strip, h3⟩
/-- what is owned is no table and no code -/
theorem own_kind {o : Option HO} {d : D} (h : Own c G o d) : ∃ u : HO, o = Option.some u ∧ (∀ ps, u ≠ .tbl ps) ∧ ∀ a q, u ≠ LamX.CodeO a q := by
  cases d <;> first | exact h.elim | skip
  · obtain ⟨xs, h1, _⟩ := h; exact ⟨_, h1, fun ps z => (by cases z), fun a q z => (by unfold LamX.CodeO at z; cases z)⟩
  · obtain ⟨xs, h1, _⟩ := h; exact ⟨_, h1, fun ps z => (by cases z), fun a q z => (by unfold LamX.CodeO at z; cases z)⟩
  · obtain ⟨dx, xs, h1, _⟩ := h; exact ⟨_, h1, fun ps z => (by cases z), fun a q z => (by unfold LamX.CodeO at z; cases z)⟩
  · obtain ⟨_, _, h, _⟩ := h
    rcases h with ⟨_, _, _, h1, _⟩ | ⟨_, _, _, _, _, h1, _⟩
    · exact ⟨_, h1, fun ps z => (by unfold KdO at z; cases z), fun a q z => kd_code z⟩
    · exact ⟨_, h1, fun ps z => (by unfold KmO at z; cases z), fun a q z => km_code z⟩
end
section
variable {c : Cf} {B : List (Nat × Addr)} {W : WX} {X : Cx} {G G' H H' : Hp} {A A' : Addr → Prop} {σ σ' : L2.St} {ρ ρ' : Cells} {T : List (Addr × Str)}
theorem Rel.sub (R : Rel c B G A H σ ρ) {b : Addr} (h : Owd σ ρ b) : A b := by
  obtain ⟨i, d, h1, h2⟩ := h
  obtain ⟨p, k1, k2, _⟩ := R.own i d h1
  rw [h2] at k1; cases k1
  exact k2
theorem Rel.small (R : Rel c B G A H σ ρ) : Rel c B G (Owd σ ρ) H σ ρ := by
  refine ⟨R.same, R.len, fun b hb => R.ownA b (R.sub hb), R.dat, fun i d h => ?_, R.dis, fun q hq => ?_⟩
  · obtain ⟨p, h1, _, h3⟩ := R.own i d h
    exact ⟨p, h1, ⟨i, d, h, h1⟩, h3⟩
  · obtain ⟨h1, _, d, h3⟩ := R.byr q hq
    exact ⟨h1, ⟨q.1, d, h3, h1⟩, d, h3⟩
theorem Rel.strip (R : Rel c B G A H σ ρ) : Rel c B (Fx.strip G) A H σ ρ := by
  refine ⟨strip_sub R.same, R.len, fun b hb => ⟨strip_none (R.ownA b hb).1, (R.ownA b hb).2⟩, fun i d h => ?_, fun i d h => ?_, R.dis, R.byr⟩
  · obtain ⟨v, h1, h2⟩ := R.dat i d h
    exact ⟨v, h1, h2.strip⟩
  · obtain ⟨p, h1, h2, h3⟩ := R.own i d h
    exact ⟨p, h1, h2, h3.strip⟩
theorem Rel.okind (R : Rel c B G A H σ ρ) {b : Addr} (h : Owd σ ρ b) : ∃ u, H b = some u ∧ (∀ ps, u ≠ .tbl ps) ∧ ∀ a q, u ≠ LamX.CodeO a q := by
  obtain ⟨i, d, h1, h2⟩ := h
  obtain ⟨p, k1, _, k3⟩ := R.own i d h1
  rw [h2] at k1; cases k1
  exact own_kind k3
/-- the tables as they stand; their code objects are frozen -/
structure TabOk (T : List (Addr × Str)) (G H : Hp) : Prop where
  tabs : ∀ q ∈ T, ∃ ps : Array Value, H q.1 = some (.tbl ps) ∧ TriplesOk ps.toList ∧ ∀ (pos : Pos) (cv : Value), codeAmong pos ps.toList = some cv → ∃ a, cv = .ref a ∧ G a = some (LamX.CodeO a q.2)
  noG : NoTbl G
theorem TabOk.to (t : TabOk T G H) (s : Same G H) : LamX.Tabs T H := fun q hq => by
  obtain ⟨ps, h1, h2, h3⟩ := t.tabs q hq
  refine ⟨ps, h1, h2, fun pos cv h => ?_⟩
  obtain ⟨a, e1, e2⟩ := h3 pos cv h
  exact ⟨a, e1, s _ _ e2⟩
def KeepT (A : Addr → Prop) (G H G' H' : Hp) : Prop := ∀ b o, H b = some o → ¬ A b → (∀ ps, o ≠ .tbl ps) → H' b = some o ∧ ((∀ q, o ≠ LamX.CodeO b q) → G' b = G b)
structure StpT (A : Addr → Prop) (G H G' H' : Hp) (A' : Addr → Prop) : Prop where
  gg : Same G G'
  kp : KeepT A G H G' H'
  aa : ∀ b, A' b → A b ∨ H b = none ∨ ∃ ps, H b = some (.tbl ps)
theorem StpT.refl : StpT A G H G H A := ⟨Same.refl _, fun b o h _ _ => ⟨h, fun _ => rfl⟩, fun b h => .inl h⟩
theorem StpT.trans {G1 H1 G2 H2 : Hp} {A1 A2 : Addr → Prop} (a : StpT A G H G1 H1 A1) (b : StpT A1 G1 H1 G2 H2 A2) : StpT A G H G2 H2 A2 where
  gg := a.gg.trans b.gg
  kp := fun x o h n t => by
    obtain ⟨k1, k2⟩ := a.kp x o h n t
    have n1 : ¬ A1 x := fun z => by
      rcases a.aa x z with y | y | ⟨ps, y⟩
      · exact n y
      · rw [h] at y; cases y
      · rw [h] at y; cases y; exact t ps rfl
    obtain ⟨k3, k4⟩ := b.kp x o k1 n1 t
    exact ⟨k3, fun q => (k4 q).trans (k2 q)⟩
  aa := fun x h => by
    cases e : H x with
    | none => exact .inr (.inl rfl)
    | some o =>
      by_cases n : A x
      · exact .inl n
      · by_cases t : ∃ ps, o = .tbl ps
        · obtain ⟨ps, rfl⟩ := t
          exact .inr (.inr ⟨ps, rfl⟩)
        · have k1 := (a.kp x o e n fun ps z => t ⟨ps, z⟩).1
          rcases b.aa x h with y | y | ⟨ps, y⟩
          · exact (a.aa x y).imp_right fun z => by rwa [e] at z
          · rw [k1] at y; cases y
          · rw [k1] at y; cases y; exact absurd ⟨ps, rfl⟩ t
/-- a step that makes no lambda -/
theorem step_t (R : Rel c B G (Owd σ ρ) H σ ρ) (t : TabOk T G H) (s : Stp G (Owd σ ρ) H G' A' H') (R' : Rel c B G' A' H' σ' ρ') :
    StpT (Owd σ ρ) G H (Fx.strip G') H' (Owd σ' ρ') ∧ Rel c B (Fx.strip G') (Owd σ' ρ') H' σ' ρ' ∧ TabOk T (Fx.strip G') H' := by
  refine ⟨⟨strip_same t.noG s.gg, fun b o h n nt => ?_, fun b h => ?_⟩, R'.strip.small, ⟨fun q hq => ?_, strip_no⟩⟩
  · obtain ⟨k1, k2⟩ := s.kp b o h n
    refine ⟨k1, fun _ => ?_⟩
    have e : Fx.strip G' b = Fx.strip G b := by unfold Fx.strip; rw [k2]
    rw [e, strip_eq t.noG]
  · exact (s.aa b (R'.sub h)).imp_right .inl
  · obtain ⟨ps, h1, h2, h3⟩ := t.tabs q hq
    have n : ¬ Owd σ ρ q.1 := fun z => by
      obtain ⟨u, e, k, _⟩ := R.okind z
      rw [h1] at e; cases e
      exact k ps rfl
    refine ⟨ps, (s.kp _ _ h1 n).1, h2, fun pos cv h => ?_⟩
    obtain ⟨a, e1, e2⟩ := h3 pos cv h
    exact ⟨a, e1, strip_some (s.gg _ _ e2) fun ps z => by unfold LamX.CodeO at z; cases z⟩
def AfterT {α : Type} (T : List (Addr × Str)) (c : Cf) (B : List (Nat × Addr)) (G H : Hp) (σ : L2.St) (ρ : Cells) (o : Out α) (Q : α → Cells → Hp → Hp → Prop) : Prop := match o with
  | .ok a ρ' => ∀ G' H', StpT (Owd σ ρ) G H G' H' (Owd σ ρ') → Rel c B G' (Owd σ ρ') H' σ ρ' → TabOk T G' H' → Q a ρ' G' H'
  | _ => False
def tMT (T : List (Addr × Str)) (c : Cf) (B : List (Nat × Addr)) (f : M D) : TE := fun σ H Q => ∃ G ρ, Rel c B G (Owd σ ρ) H σ ρ ∧ TabOk T G H ∧ AfterT T c B G H σ ρ (f ρ) fun d _ G' H' => ∀ v, Rep c G' v d → Q v H'
def tTT (T : List (Addr × Str)) (c : Cf) (B : List (Nat × Addr)) (f : M Bool) : TT := fun σ H Q => ∃ G ρ, Rel c B G (Owd σ ρ) H σ ρ ∧ TabOk T G H ∧ AfterT T c B G H σ ρ (f ρ) fun b _ _ H' => Q b H'
def AfterST (T : List (Addr × Str)) (c : Cf) (B : List (Nat × Addr)) (G H : Hp) (σ : L2.St) (ρ : Cells) (o : OutS) (D : Ends) : Prop := match o with
  | .next ρ' => ∀ G' H' σ', StpT (Owd σ ρ) G H G' H' (Owd σ' ρ') → Rel c B G' (Owd σ' ρ') H' σ' ρ' → TabOk T G' H' → D.nx σ' H'
  | .ret d ρ' => ∀ G' H' σ' v, StpT (Owd σ ρ) G H G' H' (Owd σ' ρ') → Rel c B G' (Owd σ' ρ') H' σ' ρ' → TabOk T G' H' → Rep c G' v d → D.rt v H'
  | .brk ρ' => ∀ G' H' σ', StpT (Owd σ ρ) G H G' H' (Owd σ' ρ') → Rel c B G' (Owd σ' ρ') H' σ' ρ' → TabOk T G' H' → D.bk σ' H'
  | .cont ρ' => ∀ G' H' σ', StpT (Owd σ ρ) G H G' H' (Owd σ' ρ') → Rel c B G' (Owd σ' ρ') H' σ' ρ' → TabOk T G' H' → D.ct σ' H'
  | _ => False
def tST (T : List (Addr × Str)) (c : Cf) (B : List (Nat × Addr)) (m : MS) : TS := fun D σ H => ∃ G ρ, Rel c B G (Owd σ ρ) H σ ρ ∧ TabOk T G H ∧ AfterST T c B G H σ ρ (m ρ) D
theorem AfterT.of {α : Type} {G1 H1 : Hp} {ρ1 : Cells} {o : Out α} {Q : α → Cells → Hp → Hp → Prop} (s : StpT (Owd σ ρ) G H G1 H1 (Owd σ ρ1)) (h : AfterT T c B G H σ ρ o Q) : AfterT T c B G1 H1 σ ρ1 o Q := by
  cases o with
  | stuck => exact h
  | exc x ρ' => exact h
  | ok a ρ' => exact fun G' H' s' R t => h G' H' (s.trans s') R t
theorem AfterST.of {G1 H1 : Hp} {σ1 : L2.St} {ρ1 : Cells} {o : OutS} {Z : Ends} (s : StpT (Owd σ ρ) G H G1 H1 (Owd σ1 ρ1)) (h : AfterST T c B G H σ ρ o Z) : AfterST T c B G1 H1 σ1 ρ1 o Z := by
  cases o with
  | stuck => exact h
  | exc x ρ' => exact h
  | brk ρ' => exact fun G' H' σ' s' R t => h G' H' σ' (s.trans s') R t
  | cont ρ' => exact fun G' H' σ' s' R t => h G' H' σ' (s.trans s') R t
  | next ρ' => exact fun G' H' σ' s' R t => h G' H' σ' (s.trans s') R t
  | ret d ρ' => exact fun G' H' σ' v s' R t => h G' H' σ' v (s.trans s') R t
theorem AfterT.ok {α : Type} {a : α} {Q : α → Cells → Hp → Hp → Prop} (h : AfterT T c B G H σ ρ (.ok a ρ) Q) (R : Rel c B G (Owd σ ρ) H σ ρ) (t : TabOk T G H) : Q a ρ G H := h G H StpT.refl R t
theorem AfterST.nx {Z : Ends} (h : AfterST T c B G H σ ρ (.next ρ) Z) (R : Rel c B G (Owd σ ρ) H σ ρ) (t : TabOk T G H) : Z.nx σ H := h G H σ StpT.refl R t
theorem AfterT.split {α β : Type} {f : M α} {k : α → M β} {Q : β → Cells → Hp → Hp → Prop} (h : AfterT T c B G H σ ρ ((f.bind k) ρ) Q) : AfterT T c B G H σ ρ (f ρ) fun a ρ' G' H' => AfterT T c B G' H' σ ρ' (k a ρ') Q := by
  unfold M.bind at h
  cases e : f ρ with
  | stuck => rw [e] at h; exact h
  | exc x ρ' => rw [e] at h; exact h
  | ok a ρ' => rw [e] at h; exact fun G' H' s R t => AfterT.of s h
theorem AfterT.imp {α : Type} {o : Out α} {Q Q' : α → Cells → Hp → Hp → Prop} (h : AfterT T c B G H σ ρ o Q) (k : ∀ a ρ' G' H', StpT (Owd σ ρ) G H G' H' (Owd σ ρ') → Rel c B G' (Owd σ ρ') H' σ ρ' → TabOk T G' H' → Q a ρ' G' H' → Q' a ρ' G' H') : AfterT T c B G H σ ρ o Q' := by
  cases o with
  | stuck => exact h
  | exc x ρ' => exact h
  | ok a ρ' => exact fun G' H' s R t => k a ρ' G' H' s R t (h G' H' s R t)
theorem AfterST.split {α : Type} {f : M α} {k : α → MS} {Z : Ends} (h : AfterST T c B G H σ ρ (mDo f k ρ) Z) : AfterT T c B G H σ ρ (f ρ) fun a ρ' G' H' => AfterST T c B G' H' σ ρ' (k a ρ') Z := by
  unfold mDo at h
  cases e : f ρ with
  | stuck => rw [e] at h; exact h
  | exc x ρ' => rw [e] at h; exact h
  | ok a ρ' => rw [e] at h; exact fun G' H' s R t => AfterST.of s h
theorem pe_liftT {e : Expr} {f : M D} (h : PE X e (tM c B W f)) : PE X e (tMT T c B f) := pe_imp h fun σ H Q ⟨G, ρ, R, t, a⟩ => by
  refine ⟨G, _, ρ, R, ?_⟩
  cases e : f ρ with
  | stuck => rw [e] at a; exact a
  | exc x ρ' => rw [e] at a; exact a.elim
  | ok d ρ' =>
    rw [e] at a
    intro G' H' s k R' v r
    obtain ⟨s2, R2, t2⟩ := step_t R t (Stp.same s k) R'
    exact a _ _ s2 R2 t2 v r.strip
theorem ends_liftT {m : MS} {Z : Ends} (R : Rel c B G (Owd σ ρ) H σ ρ) (t : TabOk T G H) (a : AfterST T c B G H σ ρ (m ρ) Z) : AfterS c B W G (Owd σ ρ) H (m ρ) Z := by
  cases e : m ρ with
  | stuck => rw [e] at a; exact a
  | exc x ρ' => rw [e] at a; exact a.elim
  | brk ρ' =>
    rw [e] at a
    intro G' A' H' σ' s R'
    obtain ⟨s2, R2, t2⟩ := step_t R t s R'
    exact a _ _ _ s2 R2 t2
  | cont ρ' =>
    rw [e] at a
    intro G' A' H' σ' s R'
    obtain ⟨s2, R2, t2⟩ := step_t R t s R'
    exact a _ _ _ s2 R2 t2
  | next ρ' =>
    rw [e] at a
    intro G' A' H' σ' s R'
    obtain ⟨s2, R2, t2⟩ := step_t R t s R'
    exact a _ _ _ s2 R2 t2
  | ret d ρ' =>
    rw [e] at a
    intro G' A' H' σ' v s R' r
    obtain ⟨s2, R2, t2⟩ := step_t R t s R'
    exact a _ _ _ v s2 R2 t2 r.strip
theorem ps_liftT {st : Stmt} {m : MS} (h : PS X st (tS c B W m)) : PS X st (tST T c B m) := ps_imp h fun Z σ H ⟨G, ρ, R, t, a⟩ => ⟨G, _, ρ, R, ends_liftT R t a⟩
theorem pss_liftT {st : List Stmt} {m : MS} (h : PSs X st (tS c B W m)) : PSs X st (tST T c B m) := pss_imp h fun Z σ H ⟨G, ρ, R, t, a⟩ => ⟨G, _, ρ, R, ends_liftT R t a⟩
theorem pss_oneT {st : Stmt} {m : MS} (h1 : PS X st (tST T c B m)) : PSs X [st] (tST T c B m) := pss_one h1
theorem pss_consT {st : Stmt} {rest : List Stmt} {m n : MS} (h1 : PS X st (tST T c B m)) (h2 : PSs X rest (tST T c B n)) : PSs X (st :: rest) (tST T c B (mSeq m n)) :=
  pss_imp (pss_cons h1 h2) fun Z σ H ⟨G, ρ, R, t, a⟩ => by
    refine ⟨G, ρ, R, t, ?_⟩
    unfold mSeq at a
    cases e : m ρ with
    | stuck => rw [e] at a; exact a
    | exc x ρ' => rw [e] at a; exact a
    | brk ρ' => rw [e] at a; exact a
    | cont ρ' => rw [e] at a; exact a
    | ret d ρ' => rw [e] at a; exact a
    | next ρ' =>
      rw [e] at a
      exact fun G' H' σ' s R' t' => ⟨G', ρ', R', t', AfterST.of s a⟩
theorem ps_ifT {t : Expr} {a b : List Stmt} {pos : Pos} {f : M Bool} {m n : MS} (ht : PT X t (tTT T c B f)) (ha : PSs X a (tST T c B m)) (hb : PSs X b (tST T c B n)) : PS X (.If t a b pos) (tST T c B (mIfS f m n)) :=
  ps_imp (ps_if ht ha hb) fun Z σ H ⟨G, ρ, R, t, a⟩ => by
    refine ⟨G, ρ, R, t, (AfterST.split a).imp fun x ρ' G' H' _ R' t' q => ite_prop (fun e => ?_) (fun e => ?_)⟩
    · rw [if_pos e] at q; exact ⟨G', ρ', R', t', q⟩
    · rw [if_neg (by rw [e]; exact Bool.false_ne_true)] at q; exact ⟨G', ρ', R', t', q⟩
theorem pt_vT {e : Expr} {f : M D} (h : PE X e (tMT T c B f)) (he : ∀ whole, isTrue e X.env whole = (do let v ← whole; standAt e.pos; holding [v] (truthy v)) := by intro _; rfl) : PT X e (tTT T c B (mB f)) :=
  pt_imp (pt_val h he) fun σ H Q ⟨G, ρ, R, t, a⟩ => by
    refine ⟨G, ρ, R, t, (AfterT.split a).imp fun d ρ' G' H' _ R' t' q v r => ?_⟩
    cases d <;> first | exact q.elim | skip
    exact ⟨_, rep_bl r, AfterT.ok q R' t'⟩
theorem pt_notT {a : Expr} {pos : Pos} {f : M Bool} (ha : PT X a (tTT T c B f)) : PT X (.UnaryOp .Not a pos) (tTT T c B (mNot f)) :=
  pt_imp (pt_not ha) fun σ H Q ⟨G, ρ, R, t, a⟩ => ⟨G, ρ, R, t, (AfterT.split a).imp fun x ρ' G' H' _ R' t' q => AfterT.ok q R' t'⟩
/-- a value ahead of one that makes a lambda, compared -/
def mCmp (sem : D → D → Option D) (f g : M D) : M D := f.bind fun d => g.bind fun e => M.lift (sem d e)
end
end Fx
set_option Elab.async false
set_option linter.all false
set_option maxRecDepth 100000
set_option maxHeartbeats 4000000
namespace Fx
open PySem L2
abbrev Keep0 (G H G' H' : Hp) : Prop := ∀ b o, H b = some o → H' b = some o ∧ G' b = G b
/-- what asking comes to -/
def AskT {α : Type} (c : Cf) (G H : Hp) (o : Out D) (Q : V → Hp → Prop) (E : Exc → Addr → Hp → Hp → Prop) : Prop := match o with
  | .ok d _ => ∀ G' H' v, Same G G' → Keep0 G H G' H' → Same G' H' → Rep c G' v d → Q v H'
  | .exc x _ => ∀ G' H' dd, Same G G' → Keep0 G H G' H' → Same G' H' → ExcAt c G' x dd → E x dd G' H'
  | .stuck => False
def dropOwn (ρ : Cells) : Cells := ρ.map fun cl => match cl with
  | .own _ => .no
  | x => x
section
variable {c : Cf} {B : List (Nat × Addr)} {W : WX} {X : Cx} {G G' H H' : Hp} {A A' : Addr → Prop} {σ σ' : L2.St} {ρ ρ' : Cells} {T : List (Addr × Str)}
theorem dropOwn_get {i : Nat} {x : Cell} (h : (dropOwn ρ)[i]? = some x) : x = .no ∨ ∃ d, x = .dat d ∧ ρ[i]? = some (.dat d) := by
  unfold dropOwn at h
  rw [List.getElem?_map] at h
  cases e : ρ[i]? with
  | none => rw [e] at h; cases h
  | some cl =>
    rw [e] at h
    cases cl with
    | no => exact .inl (Option.some.inj h).symm
    | own d => exact .inl (Option.some.inj h).symm
    | dat d => exact .inr ⟨d, (Option.some.inj h).symm, rfl⟩
theorem Rel.dropOwn (R : Rel c B G A H σ ρ) : Rel c [] G (fun _ => False) H σ (Fx.dropOwn ρ) := by
  refine ⟨R.same, by unfold Fx.dropOwn; rw [List.length_map]; exact R.len, fun b h => h.elim, fun i d h => ?_, fun i d h => ?_, fun i j d e p _ h => ?_, fun q hq => by cases hq⟩
  · rcases dropOwn_get h with z | ⟨d', e, h2⟩
    · cases z
    · cases e; exact R.dat i d h2
  · rcases dropOwn_get h with z | ⟨d', e, h2⟩ <;> first | cases z | cases e
  · rcases dropOwn_get h with z | ⟨d', e, h2⟩ <;> first | cases z | cases e
open Classical in
/-- the frozen part with the codes of the tables -/
noncomputable def withCodes (G H1 : Hp) : Hp := fun b => if ∃ q, H1 b = some (LamX.CodeO b q) then H1 b else G b
theorem codeO_tbl {a : Addr} {q : Str} {ps : Array Value} (h : LamX.CodeO a q = .tbl ps) : False := by unfold LamX.CodeO at h; cases h
/-- a lambda was made -/
theorem lam_step (R : Rel c B G (Owd σ ρ) H σ ρ) (t : TabOk T G H) {H1 : Hp} (eN : LamX.ExtN H H1) (T1 : LamX.Tabs T H1) : StpT (Owd σ ρ) G H (withCodes G H1) H1 (Owd σ ρ) ∧ Rel c B (withCodes G H1) (Owd σ ρ) H1 σ ρ ∧ TabOk T (withCodes G H1) H1 := by
  have up : ∀ b u, G b = some u → H1 b = some u := fun b u h => eN b u (R.same b u h) fun ps z => t.noG b ps (by rw [h, z])
  have s1 : Same G (withCodes G H1) := fun b u h => by
    unfold withCodes
    split
    · exact up b u h
    · exact h
  have s2 : Same (withCodes G H1) H1 := fun b u h => by
    unfold withCodes at h
    split at h
    · exact h
    · exact up b u h
  have own1 : ∀ b, Owd σ ρ b → H1 b = H b ∧ withCodes G H1 b = none := fun b hb => by
    obtain ⟨u, e, k1, k2⟩ := R.okind hb
    have e1 := eN b u e k1
    refine ⟨by rw [e1, e], ?_⟩
    unfold withCodes
    rw [if_neg (fun ⟨q, z⟩ => k2 b q (by rw [e1] at z; exact Option.some.inj z))]
    exact (R.ownA b hb).1
  refine ⟨⟨s1, fun b o h n nt => ⟨eN b o h nt, fun nc => ?_⟩, fun b h => .inl h⟩, ⟨s2, R.len, fun b hb => ?_, fun i d h => ?_, fun i d h => ?_, R.dis, R.byr⟩, ⟨fun q hq => ?_, fun b ps h => ?_⟩⟩
  · unfold withCodes
    rw [if_neg (fun ⟨q, z⟩ => nc q (by rw [eN b o h nt] at z; exact Option.some.inj z))]
  · obtain ⟨_, o, e⟩ := R.ownA b hb
    exact ⟨(own1 b hb).2, o, by rw [(own1 b hb).1]; exact e⟩
  · obtain ⟨v, h1, h2⟩ := R.dat i d h
    exact ⟨v, h1, h2.mono s1⟩
  · obtain ⟨p, h1, h2, h3⟩ := R.own i d h
    exact ⟨p, h1, h2, by rw [(own1 p h2).1]; exact h3.mono s1⟩
  · obtain ⟨ps, h1, h2, h3⟩ := T1 q hq
    refine ⟨ps, h1, h2, fun pos cv h => ?_⟩
    obtain ⟨a, e1, e2⟩ := h3 pos cv h
    refine ⟨a, e1, ?_⟩
    unfold withCodes
    rw [if_pos ⟨q.2, e2⟩]
    exact e2
  · unfold withCodes at h
    split at h
    · rename_i z
      obtain ⟨q, z⟩ := z
      rw [h] at z
      exact codeO_tbl (Option.some.inj z).symm
    · exact t.noG b ps h
structure RetT (c : Cf) (bs : List Nat) (G : Hp) (A : Addr → Prop) (H : Hp) (vs : List V) (outs : List D) (G' H' : Hp) : Prop where
  gg : Same G G'
  kp : KeepT A G H G' H'
  gh : Same G' H'
  outs : Outs c bs G' H' vs outs
  gno : ∀ (i : Nat) (p : Addr), i ∈ bs → vs[i]? = some (.ref p) → G' p = none
def spMT (T : List (Addr × Str)) (c : Cf) (bs : List Nat) (n : Nat) (F : Fn) : Sp := fun vs H Q E => ∃ G A ds, ds.length = n ∧ ArgsOk c bs G A H vs ds ∧ TabOk T G H ∧ match F ds with
  | .ret d outs => ∀ G' H' v, RetT c bs G A H vs outs G' H' → TabOk T G' H' → Rep c G' v d → Q v H'
  | _ => False
end
section
variable {P : Program} {w : World} {K : PySem.W.Frag} {mg : Str → Option Value} {base : Heap} {c : Cf} {T : List (Addr × Str)}
theorem retT_of {G H : Hp} {A : Addr → Prop} {bs : List Nat} {vs : List V} {ds : List D} {B : List (Nat × Addr)} {G' H' : Hp} {A' : Addr → Prop} {σ' : L2.St} {ρ' : Cells} (h : ArgsOk c bs G A H vs ds) (hbs : ∀ i ∈ bs, i < ds.length) (hB : ∀ i ∈ bs, ∃ p, (i, p) ∈ B ∧ vs[i]? = some (.ref p)) {A0 : Addr → Prop} (h0 : ∀ b, A0 b → ∃ i ∈ bs, vs[i]? = some (.ref b))
    (s : StpT A0 G H G' H' A') (R : Rel c B G' A' H' σ' ρ') : RetT c bs G A H vs (outsOf bs ρ') G' H' := by
  refine ⟨s.gg, fun b o e n nt => s.kp b o e (fun z => ?_) nt, R.same, ⟨by unfold outsOf; rw [List.length_map], fun k i d e1 e2 => ?_⟩, fun i p hi e => ?_⟩
  · obtain ⟨i, hi, e⟩ := h0 b z
    obtain ⟨p, h1, h2, _⟩ := h.own i _ (List.getElem?_eq_getElem (hbs i hi)) hi
    rw [e] at h1; cases h1; exact n h2
  · have hi : i ∈ bs := List.mem_of_getElem? e1
    obtain ⟨p, hp, e⟩ := hB i hi
    obtain ⟨q1, q2, x, q3⟩ := R.byr _ hp
    have ed : d = x := by
      unfold outsOf at e2
      rw [List.getElem?_map, e1] at e2
      have e2 : some (match ρ'[i]? with | some (Cell.own d) => d | _ => D.non) = some d := e2
      have q3 : ρ'[i]? = some (.own x) := q3
      rw [q3] at e2
      exact (Option.some.inj e2).symm
    subst ed
    obtain ⟨p', h1, h2, h3⟩ := R.own i d q3
    rw [show σ'[i]? = some (some (V.ref p)) from q1] at h1
    cases h1
    exact ⟨p, e, h3⟩
  · obtain ⟨p', hp, e'⟩ := hB i hi
    rw [e] at e'; cases e'
    obtain ⟨_, q2, _⟩ := R.byr _ hp
    exact (R.ownA _ q2).1
/-- a def whose code stands at cd, with one parameter by reference, or none -/
theorem fn_okT {name qual : Str} {st : Stmt} {f : Addr} {N ps : List Str} {k : Nat} {m : MS} {dV kV doc pm cd ct oc : Value} {an od : Option Addr} {osl : Array (Option Value)} (bs : List Nat) (hb1 : bs = [] ∨ ∃ i, bs = [i])
    (lk : K.lookup f = some ⟨oc, od, .func (PySem.W.fnOf name qual (defArgs st) (defBody st) (defScope st) dV kV doc pm an cd ct), osl⟩) (hcd : PySem.W.codeIn K cd qual = true) (S : FnScope N ps (defScope st)) (hN : ps.length ≤ N.length) (hbs : ∀ i ∈ bs, i < ps.length)
    (body : ∀ (B : List (Nat × Addr)), B.map (·.1) = bs → ∀ (A : Around) (outer : List Env) (s : Shared) (H : Hp) (E : XK), Room k (A.deeper (PyProof.Rows.envOfC qual (defScope st) s.heap.objs.size f cd)) →
      PSs (cxOf (L2.CX P w) P w K mg base N qual (defScope st) f cd A outer s H E) (defBody st) (tST T c B m)) :
    FnOk P w K mg base (L2.CX P w) (k + 1) f (PySem.W.fnOf name qual (defArgs st) (defBody st) (defScope st) dV kV doc pm an cd ct) ps (spMT T c bs ps.length (mkFn N.length bs m)) := by
  refine fn_of lk hcd S (fun vs H Q E h => ?_) (fun A outer s H vs Q E hr h => ?_)
  · obtain ⟨G, A, ds, hn, ok, _⟩ := h
    rw [ok.len, hn]
  · obtain ⟨G, A0, ds, hn, ok, tb, a⟩ := h
    have hl : vs.length = ps.length := by rw [ok.len, hn]
    have hlt : ∀ i ∈ bs, i < ds.length := fun i hi => by rw [hn]; exact hbs i hi
    have : ∃ B : List (Nat × Addr), B.map (·.1) = bs ∧ ∀ q ∈ B, vs[q.1]? = some (.ref q.2) := by
      rcases hb1 with rfl | ⟨i, rfl⟩
      · exact ⟨[], rfl, fun q h => by cases h⟩
      · have hi : i ∈ [i] := by simp
        obtain ⟨p, e, _⟩ := ok.own i _ (List.getElem?_eq_getElem (hlt i hi)) hi
        exact ⟨[(i, p)], rfl, fun q hq => by
          have : q = (i, p) := by simpa using hq
          subst this; exact e⟩
    obtain ⟨B, hB1, hB2⟩ := this
    have hBm : ∀ q ∈ B, q.1 ∈ bs ∧ vs[q.1]? = some (.ref q.2) := fun q hq => ⟨by rw [← hB1]; exact List.mem_map_of_mem hq, hB2 q hq⟩
    have hBi : ∀ i ∈ bs, ∃ p, (i, p) ∈ B ∧ vs[i]? = some (.ref p) := fun i hi => by
      rw [← hB1] at hi
      obtain ⟨q, hq, e⟩ := List.mem_map.mp hi
      subst e
      exact ⟨q.2, hq, hB2 q hq⟩
    have R0 := rel_start ok (by rw [hl]; exact hN) B hBm hlt
    have h0 : ∀ b, Owd (L2.start N vs) (initC N.length bs ds) b → ∃ i ∈ bs, vs[i]? = some (.ref b) := fun b hb => R0.sub hb
    refine ⟨_, body B hB1 A outer s H E hr, G, _, R0.small, tb, ?_⟩
    have a : (match (match m (initC N.length bs ds) with
      | .next ρ => FOut.ret .non (outsOf bs ρ)
      | .ret d ρ => .ret d (outsOf bs ρ)
      | .exc x ρ => .exc x (outsOf bs ρ)
      | _ => .stuck) with
      | .ret d outs => ∀ G' H' v, RetT c bs G A0 H vs outs G' H' → TabOk T G' H' → Rep c G' v d → Q v H'
      | _ => False) := a
    cases e : m (initC N.length bs ds) with
    | stuck => rw [e] at a; exact a.elim
    | brk ρ => rw [e] at a; exact a.elim
    | cont ρ => rw [e] at a; exact a.elim
    | exc x ρ => rw [e] at a; exact a.elim
    | next ρ => rw [e] at a; exact fun G' H' σ' s' R' t' => a G' H' .non (retT_of ok hlt hBi h0 s' R') t' .non
    | ret d ρ => rw [e] at a; exact fun G' H' σ' v s' R' t' r => a G' H' v (retT_of ok hlt hBi h0 s' R') t' r
structure CalT (T : List (Addr × Str)) (P : Program) (w : World) (K : PySem.W.Frag) (mg : Str → Option Value) (base : Heap) (c : Cf) (k : Nat) (nm : Str) (bs : List Nat) (n : Nat) (F : Fn) : Prop where
  ex : ∃ f fd ps, FnOk P w K mg base (L2.CX P w) k f fd ps (spMT T c bs n F) ∧ mg nm = some (.ref f) ∧ PySem.W.keepIn K (.ref f) = true ∧ Binds K fd ps []
end
section
variable {c : Cf} {B : List (Nat × Addr)} {W : WX} {X : Cx} {T : List (Addr × Str)}
/-- x([..]) of such a def -/
theorem pm_calNT {F : Fn} {g : M D} {k j : Nat} {x : Str} {p pos : Pos} {e : Expr} (C : CalT T X.prog X.w X.K X.mg X.base c j x [0] 1 F) (hr : Room k X.A) (tk : Takes X W) (he0 : PE X e (tF c B W g)) (hj : j ≤ k := by decide)
    (hg : Gl X x := by rfl) (hdb : (x == ("__debug__" : Str)) = false := by decide)
    (he : starEach [e] X.env = (false, eval e X.env) :: starEach [] X.env := by rfl) (hpl : (backTo pos (starEach [] X.env)).any (·.1) = false := by rfl) :
    PE X (.Call (.Name x p) [e] [] pos) (tMT T c B (mCallN F g [])) := by
  obtain ⟨f, fd, ps, Fo, hm, hk, hb⟩ := C.ex
  refine pe_imp (pe_callSD (Fo.mono hj) hr hg hm hk hb .nil (fun σ => passAt tk σ) (pa_cons he0 pa_nil he) hdb he hpl) fun σ H Q ⟨G, ρ, R, t, a⟩ => ?_
  unfold mCallN M.bind at a
  refine ⟨G, _, ρ, R, ?_⟩
  cases eg : g ρ with
  | stuck => rw [eg] at a; exact a
  | exc y ρ1 => rw [eg] at a; exact a.elim
  | ok d ρ1 =>
    rw [eg] at a
    intro G1 H1 s1 k1 R1 p0 H2 hp hh ho
    obtain ⟨s2, R2, t2⟩ := step_t R t (Stp.same s1 k1) R1
    have gp : G1 p0 = none := R1.same.free hp
    have sG : Same (strip G1) H2 := R2.same.trans hh
    have t3 : TabOk T (strip G1) H2 := ⟨fun q hq => by
      obtain ⟨pz, h1, h2⟩ := t2.tabs q hq
      exact ⟨pz, hh _ _ h1, h2⟩, t2.noG⟩
    have a : AfterT T c B G H σ ρ (match F [d] with
      | .stuck => .stuck
      | .ret e _ => .ok e ρ1
      | .exc x _ => .exc x ρ1) (fun d _ G' H' => ∀ v, Rep c G' v d → Q v H') := a
    simp only [List.append_nil]
    refine ⟨strip G1, fun b => b = p0, [d], rfl, ⟨sG, fun b hb => by rw [hb]; exact ⟨strip_none gp, ho.some⟩, rfl, fun i d' hd hi => ?_, fun i d' hd hi => ?_, fun i j p hij hi hj => ?_⟩, t3, ?_⟩
    · cases i with
      | zero => simp at hi
      | succ i => simp at hd
    · have hi0 : i = 0 := by simpa using hi
      subst hi0
      have hd' : d = d' := by simpa using hd
      subst hd'
      exact ⟨p0, rfl, rfl, ho.strip⟩
    · have h1 : i = 0 := by simpa using hi
      have h2 : j = 0 := by simpa using hj
      exact absurd (h1.trans h2.symm) hij
    · cases ef : F [d] with
      | stuck => rw [ef] at a; exact a.elim
      | exc y outs => rw [ef] at a; exact a.elim
      | ret e' outs =>
        rw [ef] at a
        intro G' H' v r t4 rv
        have own2 : ∀ b, Owd σ ρ1 b → H' b = H1 b ∧ G' b = none := fun b hb => by
          obtain ⟨u, e1, u1, u2⟩ := R2.okind hb
          have nb : b ≠ p0 := fun z => by rw [z, hp] at e1; cases e1
          obtain ⟨k3, k4⟩ := r.kp b u (hh _ _ e1) nb u1
          exact ⟨by rw [k3, e1], (k4 fun q => u2 b q).trans (R2.ownA b hb).1⟩
        have R5 : Rel c B G' (Owd σ ρ1) H' σ ρ1 := by
          refine ⟨r.gh, R2.len, fun b hb => ?_, fun i d h => ?_, fun i d h => ?_, R2.dis, R2.byr⟩
          · obtain ⟨_, o, e⟩ := R2.ownA b hb
            exact ⟨(own2 b hb).2, o, by rw [(own2 b hb).1]; exact e⟩
          · obtain ⟨v, h1, h2⟩ := R2.dat i d h
            exact ⟨v, h1, h2.mono r.gg⟩
          · obtain ⟨p, h1, h2, h3⟩ := R2.own i d h
            exact ⟨p, h1, h2, by rw [(own2 p h2).1]; exact h3.mono r.gg⟩
        have s5 : StpT (Owd σ ρ1) (strip G1) H1 G' H' (Owd σ ρ1) := ⟨r.gg, fun b o h n nt => by
          have nb : b ≠ p0 := fun z => by rw [z, hp] at h; cases h
          exact r.kp b o (hh _ _ h) nb nt, fun b h => .inl h⟩
        exact a G' H' (s2.trans s5) R5 t4 v rv
end
def spLawT (K : PySem.W.Frag) (cs : List (Addr × Addr)) : Sp := fun vs H Q _ => ∃ (a : Addr) (ns : List Int), vs = [.ref a] ∧ LsG K H a (ns.map V.int) ∧ ns.length ≤ 63 ∧ (∀ p ∈ cs, H p.2 = some (.tbl #[])) ∧ ∀ H', Q (.bl true) H'
theorem law_impT {c : Cf} {F : Fn} {cs : List (Addr × Addr)} {T : List (Addr × Str)} (hT : ∀ q ∈ T, ∃ p ∈ cs, p.2 = q.1) (plain : ∀ ns : List Int, ns.length ≤ 63 → ∃ outs, F [.lst (ns.map .int)] = .ret (.bl true) outs) (vs : List V) (H : Hp) (Q : VK) (E : XK) (h : spLawT c.K cs vs H Q E) : spMT T c [] 1 F vs H Q E := by
  obtain ⟨a, ns, rfl, hL, hl, ht, q⟩ := h
  obtain ⟨outs, e⟩ := plain ns hl
  refine ⟨strip H, fun _ => False, [.lst (ns.map .int)], rfl, argsOk_rep (strip_sub (Same.refl H)) (.one (.lst hL.strip (repInts ns))), ⟨fun z hz => ?_, strip_no⟩, ?_⟩
  · obtain ⟨p, hp, ez⟩ := hT z hz
    refine ⟨#[], by rw [← ez]; exact ht p hp, True.intro, fun pos cv h => ?_⟩
    have z : codeAmong pos [] = some cv := h
    simp [codeAmong] at z
  · rw [e]
    intro G' H' v _ _ rv
    obtain rfl := rep_bl rv
    exact q H'
theorem walk_fxT {l : PySem.W.OpenLaw} {k : Nat} {q : Program} {loose : List Str} {XP : (Str → Option Value) → Heap → Prop} {YP : World → Heap → Prop} {d : DefRec} {K : Params → PySem.W.Frag} {x : Str}
    (hn : l.most = some 63) (hdf : d.params.defaults = []) (hr : Room k callerA) (hY : ∀ (w : World) (h : Heap), YP w h → (K w.params).In h)
    (F : ∀ (w : World) (mg : Str → Option Value) (fa : Addr) (h : Heap), (K w.params).In h → h.Ns mainGlobals mg → mg d.name = some (.ref fa) →
      (∀ (x : Str) (r : DefRec) (c P : Addr), (PyProof.Rows.recsOf q).find? (fun e => e.name == x) = some r → PySem.W.tabIn (K w.params) x = some (c, P) → PySem.W.CodeHd h c P ∧ h.get? P = some (PySem.W.tabObj #[])) →
      ∃ (fd : FuncData) (cs : List (Addr × Addr)), (∀ p ∈ cs, h.get? p.2 = some (PySem.W.tabObj #[])) ∧ (∀ p ∈ cs, (K w.params).lookup p.2 = none) ∧ (∀ p ∈ cs, PySem.W.CodeHd h p.1 p.2) ∧ (∀ (s : Shared) (u : Value), BindsTo s fd ⟨[u], []⟩ [(x, u)]) ∧
        ∀ base : Heap, (K w.params).In base → base.Ns mainGlobals mg → (∀ p ∈ cs, LamX.TabB base mg p.1 p.2) → FnOk l.prog w (K w.params) mg base (L2.CX l.prog w) k fa fd [x] (spLawT (K w.params) cs)) :
    PySem.W.WalkO q loose XP YP l.row.toRowW d [] (fun f vs => PySem.call f vs) := by
  refine Att.attach_callB hn hdf fun w s₀ s₁ mg mb fa o pm cd doc a vs ns G Y ho hd hcd hmg hobj hints hlen hbits hg => ?_
  have KX := hY w _ Y
  obtain ⟨fd, cs, hT, nT, C, hb, hF⟩ := F w mg fa _ KX G.T.g hmg fun x r c P hr ht => PySem.W.tab_of G.T KX hr ht
  refine LamX.law_callTs KX G.T.g G.T.b G.T.builtins G.T.nolimit hg hT nT C G.T.bmain hobj hints (Nat.le_trans hlen (by decide)) hr hF hb (fun H hH hS => ?_) fun H e s' z => ?_
  · refine ⟨a, ns, rfl, ?_, hlen, hH, fun _ => rfl⟩
    rcases hS with hS | ⟨o', its, m, h1, _⟩
    · exact .inl hS
    · have e := KX _ _ h1
      rw [hobj] at e
      cases e
      have rv := vals_ints hints
      refine .inr ⟨vs, _, h1, ?_, rv⟩
      rw [← rv.length, List.length_map]
      exact Nat.le_trans hlen (by decide)
  · obtain ⟨_, _, _, _, _, _, _, _, _, _, _, _, z⟩ := z
    exact z.elim
end Fx
set_option Elab.async false
set_option linter.all false
set_option maxRecDepth 100000
set_option maxHeartbeats 4000000
namespace Fx
open PySem L2
section
variable {prog : Program} {w : World} {A : Around} {E : Value → Shared → Prop} {s : Shared} {K : PySem.W.Frag} {x y C f : Addr} {ox : Obj} {od : Option Obj}
/-- x != y by an own __eq__ alone -/
theorem ne_own {Q : Value → Shared → Prop} (hu : A.units + 1 < cLine) (X : K.In s.heap) (I : PySem.W.InstAt s.heap x ox C od) (hb : PySem.W.Looks (model prog w) s.heap (typeOf (.ref y)) (.ref C)) (hn : PySem.W.findIn K (.ref C) "__ne__" = some (some (.builtin "object.__ne__")))
    (hm : PySem.W.mroIn K C (.type "object") = some true) (he : PySem.W.findIn K (.ref C) "__eq__" = some (some (.ref f))) (hf : PySem.W.isFn K (.ref f) = true)
    (h : wpAny (model prog w) A.in1 (call (.ref f) [.ref x, .ref y]) (fun v s' => ∃ b, v = .bool b ∧ Q (.bool (!b)) s') E s) : wpAny (model prog w) A (richCompare .NotEq (.ref x) (.ref y)) Q E s := by
  have deep : wpAny (model prog w) A (call (.builtin "object.__ne__") [.ref x, .ref y]) (fun v s' => (∃ b, v = .bool b) ∧ Q v s') E s := by
    refine wpAny_call (codeAny_call_builtin PySem.F.cmp_object.ne.plain PySem.F.cmpEntry_ne (PySem.W.check_slot (i := "object.__ne__") (owner := "object") (n := "__ne__") PySem.F.cmpKind_ne PySem.F.cmpSplit_ne (I.type.andThen (PySem.W.looks_mroIn X hm)) (PySem.F.cmpArgs_ne _ _) ?_))
    unfold Builtin.«object.__ne__»
    refine wpAny_bind (m := slotArgs "__ne__" 1 _) (wpAny_pure ?_)
    refine wpAny_bind (m := cRoomFor _ _) (wpAny_cRoomFor hu ?_)
    refine wpAny_bind (m := callSpecialIfBound? (.ref x) (Str.ofString "__eq__") _) (PySem.W.ifBound_K X I he hf (wpAny_mono h (fun v s' hv => ?_) fun _ _ z => z))
    obtain ⟨b, rfl, hq⟩ := hv
    refine wpAny_bind (m := truthy (.bool b)) (wpAny_truthy_bool ?_)
    exact wpAny_pure ⟨⟨_, rfl⟩, hq⟩
  have one : wpAny (model prog w) A (tryCompare (.ref x) "__ne__" (.ref y)) (fun r s' => ∃ v, r = some v ∧ Q v s') E s := by
    unfold tryCompare
    simp only [callSpecialIfBound?, bindSpecialIfBound?]
    refine wpAny_bind (wpAny_holding (wpAny_bind (wpAny_bind (wpAny_bind (I.type.here ((PySem.W.looks_findIn X hn).here ?_))))))
    refine wpAny_bind (wpAny_askSetting (wpAny_ite ?_))
    have got : wpAny (model prog w) A (call (.builtin "object.__ne__") ([.ref x] ++ [.ref y]) >>= fun v => pure (some v)) (fun r s' => ∃ v, r = some v ∧ (∃ b, v = .bool b) ∧ Q v s') E s := wpAny_bind (wpAny_mono deep (fun v s' z => wpAny_pure ⟨v, rfl, z⟩) fun _ _ z => z)
    have bind : ∀ self, bindSpecial (.builtin "object.__ne__") self = pure (.builtin "object.__ne__", [self]) := PySem.F.cmp_object.ne.bind
    split
    · exact wpAny_bind ((PySem.W.Looks.of_pure (bind _)).here (wpAny_pure (wpAny_mono got (fun r s' ⟨v, e1, ⟨b, e2⟩, hq⟩ => by subst e1 e2; exact wpAny_pure ⟨_, rfl, hq⟩) fun _ _ z => z)))
    · exact wpAny_tryCatch (wpAny_bind ((PySem.W.Looks.of_pure (bind _)).here (wpAny_pure (wpAny_mono got (fun r s' ⟨v, e1, ⟨b, e2⟩, hq⟩ => by subst e1 e2; exact wpAny_pure ⟨_, rfl, hq⟩) fun _ _ z => z))))
  unfold richCompare
  simp only [oneThing_ref]
  refine wpAny_holding (wpAny_bind (wpAny_cRoomFor (Nat.lt_of_succ_lt hu) ?_))
  refine wpAny_bind (I.type.here (wpAny_bind (hb.here ?_)))
  rw [if_neg (by simp)]
  refine wpAny_bind (wpAny_pure ?_)
  simp only [Bool.false_eq_true, if_false]
  refine wpAny_bind (wpAny_mono one (fun r s' ⟨v, e, hq⟩ => ?_) fun _ _ z => z)
  subst e
  exact wpAny_pure hq
end
section
variable {c : Cf} {B : List (Nat × Addr)} {W : WX} {X : Cx} {G H : Hp} {A : Addr → Prop} {σ : L2.St} {ρ : Cells} {Z : Ends}
structure CalNE (P : Program) (w : World) (K : PySem.W.Frag) (mg : Str → Option Value) (base : Heap) (c : Cf) (k : Nat) (F : Fn) : Prop where
  eq : CalE P w K mg base c k F
  ne : PySem.W.findIn K (.ref c.farm) "__ne__" = some (some (.builtin "object.__ne__"))
  mo : PySem.W.mroIn K c.farm (.type "object") = some true
def mNeF (F : Fn) (f g : M D) : M D := f.bind fun d1 => g.bind fun d2 => fun ρ => if (isRcd d1 && isRcd d2) = true then (match F [d1, d2] with
  | .ret (.bl r) _ => .ok (.bl (!r)) ρ
  | _ => .stuck) else .stuck
theorem pc_neF {F : Fn} {f g : M D} {k j : Nat} {a b : Expr} (C : CalNE X.prog X.w X.K X.mg X.base c j F) (hr : Room k X.A) (tk : Takes X W) (ha : PE X a (tM c B W f)) (hb : PE X b (tM c B W g)) (hj : j + 1 ≤ k := by decide) : PC X .NotEq a b (tM c B W (mNeF F f g)) := by
  obtain ⟨fa, fd, ps, hs, hf, Fo, hbd⟩ := C.eq.ex
  have hr2 := hr.mono hj
  refine ⟨fun pins s σ H Q I ⟨G, A, ρ, R, h⟩ => ?_⟩
  refine binT ha hb (R := fun x y H2 => ∃ x1 y1 dx dy fs gs, x = .ref x1 ∧ y = .ref y1 ∧ H2 x1 = some (.ins c.farm dx fs) ∧ H2 y1 = some (.ins c.farm dy gs) ∧ spM c [] 2 F [x, y] H2 (fun v H' => ∃ r, v = .bl r ∧ Q (.bl (!r)) H') (fun cls d H => W cls d σ H)) I ?_ fun v u s2 x y H2 I2 rx ry q => ?_
  · refine ⟨G, A, ρ, R, h.split.imp fun d1 ρ1 G1 H1 _ _ R1 a1 x rx => ?_⟩
    refine ⟨G1, A, ρ1, R1, a1.split.imp fun d2 ρ2 G2 H2 s2 _ R2 a2 y ry => ?_⟩
    cases d1 <;> first | exact a2.elim | skip
    cases d2 <;> first | exact a2.elim | skip
    rename_i ns1 ds1 ns2 ds2
    have rx := rx.mono s2
    have rx0 := rx
    have ry0 := ry
    cases rx with
    | rcd h1 l1 q1 =>
      cases ry with
      | rcd h2 l2 q2 =>
        refine ⟨_, _, _, _, _, _, rfl, rfl, R2.same _ _ h1, R2.same _ _ h2, G2, _, [.rcd ns1 ds1, .rcd ns2 ds2], rfl, argsOk_rep R2.same (.cons rx0 (.cons ry0 .nil)), ?_⟩
        have a2 : After c B W G2 A H2 σ (match F [.rcd ns1 ds1, .rcd ns2 ds2] with
          | .ret (.bl r) _ => .ok (.bl (!r)) ρ2
          | _ => .stuck) fun d _ G' H' => ∀ v, Rep c G' v d → Q v H' := a2
        cases ef : F [.rcd ns1 ds1, .rcd ns2 ds2] with
        | stuck => rw [ef] at a2; exact a2.elim
        | exc y outs => rw [ef] at a2; exact a2.elim
        | ret d0 outs =>
          rw [ef] at a2
          cases d0 <;> first | exact a2.elim | skip
          rename_i r
          intro G3 H3 v rr rv
          obtain ⟨s1, k1, R3⟩ := rr.rel R2
          obtain rfl := rep_bl rv
          exact ⟨_, rfl, a2 G3 H3 s1 k1 R3 _ (.bl _)⟩
  · obtain ⟨x1, y1, dx, dy, fs, gs, rfl, rfl, h1, h2, hsp⟩ := q
    obtain rfl : v = Value.ref x1 := rx
    obtain rfl : u = Value.ref y1 := ry
    obtain ⟨_, J, _⟩ := ins_get I2.hok h1
    obtain ⟨_, J', _⟩ := ins_get I2.hok h2
    obtain ⟨od, J, _⟩ := J.look
    obtain ⟨od', J', _⟩ := J'.look
    show wpAny _ _ (richCompare .NotEq _ _) _ _ _
    refine ne_own (by have := hr2.un; omega) I2.kIn J J'.type C.ne C.mo hs hf ?_
    have hl := Fo.len _ _ _ _ hsp
    refine wpAny_call (codeAny_mono (Fo.run X.A.in1 X.stack s2 H2 ⟨[.ref x1, .ref y1], []⟩ [.ref x1, .ref y1] [.ref x1, .ref y1] _ (fun cls d H => W cls d σ H) hr2.in1 I2.env0.in1 (hbd s2 [.ref x1, .ref y1] I2.kIn (by simpa using hl)) (.cons rfl (.cons rfl .nil)) hsp) fun r s' hq => ?_)
    match r, hq with
    | .error e, hq => exact passAt tk σ pins H2 s2 e s' I2 hq
    | .ok (.ret w), hq =>
      obtain ⟨z, H', I', rz, r, ez, qv⟩ := I2.after hq
      subst ez
      cases rz
      exact ⟨r, rfl, .bl (!r), H', I', rfl, qv⟩
    | .ok .next, hq => exact hq.elim
    | .ok .brk, hq => exact hq.elim
    | .ok .cont, hq => exact hq.elim
theorem pm_neF {F : Fn} {f g : M D} {k j : Nat} {a b : Expr} {pos : Pos} (C : CalNE X.prog X.w X.K X.mg X.base c j F) (hr : Room k X.A) (tk : Takes X W) (ha : PE X a (tM c B W f)) (hb : PE X b (tM c B W g)) (hj : j + 1 ≤ k := by decide) : PE X (.Compare a [.NotEq] [b] pos) (tM c B W (mNeF F f g)) := pe_cmp (pc_neF C hr tk ha hb hj) (nomark _)
theorem pt_neF {F : Fn} {f g : M D} {k j : Nat} {a b : Expr} {pos : Pos} (C : CalNE X.prog X.w X.K X.mg X.base c j F) (hr : Room k X.A) (tk : Takes X W) (ha : PE X a (tM c B W f)) (hb : PE X b (tM c B W g)) (hj : j + 1 ≤ k := by decide) : PT X (.Compare a [.NotEq] [b] pos) (tT c B W (mB (mNeF F f g))) := pt_imp (pt_cmp (pc_neF C hr tk ha hb hj) (nomark _)) fun σ H Q h => tB_core h
end
section
variable {P : Program} {w : World} {K : PySem.W.Frag} {mg : Str → Option Value} {base : Heap} {c : Cf}
end
section
variable {c : Cf} {B : List (Nat × Addr)} {W : WX} {X : Cx} {G H : Hp} {A : Addr → Prop} {σ : L2.St} {ρ : Cells} {E : XK}
def mMakeK (F : Fn) (js : List Nat) (gs : List (M D)) : M D := (seqM gs).bind fun es ρ => match F (.rcd [] [] :: pick js es) with
  | .ret .non [.rcd ns ds] => .ok (.rcd ns ds) ρ
  | .exc x _ => .exc x ρ
  | _ => .stuck
def mMethK (F : Fn) (m : Str) (js : List Nat) (fo : M D) (gs : List (M D)) : M D := fo.bind fun d => if noName m d = true then (seqM gs).bind fun es => appF F (d :: pick js es) else M.stuck
end
section
variable {ρ ρ1 ρ2 : Cells} {d d1 d2 : D}
theorem x_neF {F : Fn} {f g : M D} {b : Bool} {outs : List D} (h1 : f ρ = .ok d1 ρ1) (h2 : g ρ1 = .ok d2 ρ2) (h3 : isRcd d1 = true) (h4 : isRcd d2 = true) (h5 : F [d1, d2] = .ret (.bl b) outs) : mNeF F f g ρ = .ok (.bl (!b)) ρ2 := by
  unfold mNeF M.bind
  simp only [h1, h2, Out.andThen, h3, h4, Bool.and_self, if_pos, h5]
theorem x_makeK {F : Fn} {js : List Nat} {gs : List (M D)} {es ds vs : List D} {ns : List Str} (h1 : Sq gs ρ es ρ1) (h2 : Pk js es ds) (h3 : F (.rcd [] [] :: ds) = .ret .non [.rcd ns vs]) : mMakeK F js gs ρ = .ok (.rcd ns vs) ρ1 := by
  unfold mMakeK M.bind
  simp only [show seqM gs ρ = .ok es ρ1 from h1, Out.andThen, show pick js es = ds from h2, h3]
theorem x_methK {F : Fn} {m : Str} {js : List Nat} {fo : M D} {gs : List (M D)} {es ds outs : List D} {e : D} (h1 : fo ρ = .ok d ρ1) (h2 : noName m d = true) (h3 : Sq gs ρ1 es ρ2) (h4 : Pk js es ds) (h5 : F (d :: ds) = .ret e outs) : mMethK F m js fo gs ρ = .ok e ρ2 := by
  unfold mMethK M.bind
  simp only [h1, Out.andThen, h2, if_pos, show seqM gs ρ1 = .ok es ρ2 from h3, show pick js es = ds from h4, appF, h5]
theorem x_cmp {sem : D → D → Option D} {f g : M D} (h1 : f ρ = .ok d1 ρ1) (h2 : g ρ1 = .ok d2 ρ2) (h3 : sem d1 d2 = some d) : mCmp sem f g ρ = .ok d ρ2 := by
  unfold mCmp M.bind
  simp only [h1, h2, Out.andThen, M.lift, h3]
end
end Fx
set_option Elab.async false
set_option linter.all false
set_option maxRecDepth 100000
set_option maxHeartbeats 4000000
namespace Fx
open PySem L2
section
variable {c : Cf} {B : List (Nat × Addr)} {W : WX} {X : Cx} {G G' H H' : Hp} {A A' : Addr → Prop} {σ σ' : L2.St} {ρ ρ' : Cells} {T : List (Addr × Str)}
def tIT (T : List (Addr × Str)) (c : Cf) (B : List (Nat × Addr)) (P : VP) (f : M (List D)) : TI := fun σ H R => ∃ G ρ, Rel c B G (Owd σ ρ) H σ ρ ∧ TabOk T G H ∧ AfterT T c B G H σ ρ (f ρ) fun ds _ G' H' => ∀ J, ItOk c P J ds G' → R J H'
theorem vRep_strip (G H : Hp) (v : V) (d : D) (h : vRep c G H v d) : vRep c (strip G) H v d := Rep.strip h
theorem vAny_strip (G H : Hp) (v : V) (d : D) (h : vAny c G H v d) : vAny c (strip G) H v d := by
  rcases h with h | ⟨a, xs, es, h1, h2, h3, h4⟩
  · exact .inl h.strip
  · exact .inr ⟨a, xs, es, h1, h2, h3, h4.strip⟩
theorem pi_enumT {e : Expr} {f : M D} {p pos tpos : Pos} {elts : List Expr} {kk : Nat} (hK : c.K = X.K) (hm : X.mg "enumerate" = none) (h : PE X e (tM c B W f)) (hg : Gl X "enumerate" := by rfl) (hs : starEach [e] X.env = [(false, eval e X.env)] := by rfl) :
    PI X (.Tuple elts kk tpos) (.Call (.Name "enumerate" p) [e] [] pos) (tIT T c B vAny (mEnum f)) :=
  pi_imp (pi_enumS hg hm (pa_len (pd_cons h pd_nil (by rw [hs]; rfl))) hs) fun σ H R ⟨G, ρ, Rl, t, a⟩ => by
    refine ⟨G, _, ρ, Rl, ?_⟩
    have go : After c B W G (Owd σ ρ) H σ ((seqM [f]) ρ) fun ds _ G' H' => ∀ vs, RepL c G' vs ds → (∀ v ∈ vs, LenOk v H') → ∃ a xs, vs = [V.ref a] ∧ ((SqL X.K H' a xs ∧ R (Ite X.K a) H') ∨ (SqT X.K H' a xs ∧ R (Iet X.K a) H')) := by
      unfold mEnum M.bind at a
      show After c B W G (Owd σ ρ) H σ ((f.bind fun d => M.pure [d]) ρ) _
      unfold M.bind
      cases hf : f ρ with
      | stuck => rw [hf] at a; exact a
      | exc x r => rw [hf] at a; exact a.elim
      | ok d ρ1 =>
        rw [hf] at a
        intro G' H' s k R1 vs rs lo
        obtain ⟨s2, R2, t2⟩ := step_t Rl t (Stp.same s k) R1
        have a : AfterT T c B G H σ ρ ((M.lift (itemsOf d)).bind (fun ds => M.pure (enumD 0 ds)) ρ1) (fun ds _ G' H' => ∀ J, ItOk c vAny J ds G' → R J H') := a
        cases ed : itemsOf d with
        | none => rw [ed] at a; exact a.elim
        | some ds =>
          rw [ed] at a
          have q4 := (show AfterT T c B G H σ ρ (.ok (enumD 0 ds) ρ1) (fun ds _ G' H' => ∀ J, ItOk c vAny J ds G' → R J H') from a) _ _ s2 R2 t2
          obtain ⟨v, rfl, r⟩ := repL1 rs
          obtain ⟨p, us, rfl, rl, hl, hr | hr⟩ := rep_seq R1.same r ed (lo v (by simp))
          · exact ⟨p, us, rfl, .inl ⟨by rw [← hK]; exact (hr.mono R1.same).sq, q4 _ (ite_ok hK rl.strip hl (by rw [← hK]; exact hr.strip))⟩⟩
          · exact ⟨p, us, rfl, .inr ⟨by rw [← hK]; exact (hr.mono R1.same).sq, q4 _ (iet_ok hK rl.strip hl (by rw [← hK]; exact hr.strip))⟩⟩
    exact go
theorem pi_seqT (hK : c.K = X.K) {tg l : Expr} {f : M D} (h : PE X l (tM c B W f)) : PI X tg l (tIT T c B vRep (mSeqI f)) :=
  pi_imp (pi_seq (pe_len h)) fun σ H R ⟨G, ρ, Rl, t, a⟩ => by
    refine ⟨G, _, ρ, Rl, ?_⟩
    unfold mSeqI M.bind at a
    cases hf : f ρ with
    | stuck => rw [hf] at a; exact a
    | exc x r => rw [hf] at a; exact a.elim
    | ok d ρ1 =>
      rw [hf] at a
      intro G' H' s k R1 v r lo
      obtain ⟨s2, R2, t2⟩ := step_t Rl t (Stp.same s k) R1
      have a : AfterT T c B G H σ ρ (M.lift (itemsOf d) ρ1) (fun ds _ G' H' => ∀ J, ItOk c vRep J ds G' → R J H') := a
      cases ed : itemsOf d with
      | none => rw [ed] at a; exact a.elim
      | some ds =>
        rw [ed] at a
        have q4 := (show AfterT T c B G H σ ρ (.ok ds ρ1) (fun ds _ G' H' => ∀ J, ItOk c vRep J ds G' → R J H') from a) _ _ s2 R2 t2
        obtain ⟨p, us, rfl, rl, hl, hr | hr⟩ := rep_seq R1.same r ed lo
        · exact ⟨p, us, rfl, .inl ⟨by rw [← hK]; exact (hr.mono R1.same).sq, q4 _ (itl_ok rl.strip hl (by rw [← hK]; exact hr.strip))⟩⟩
        · exact ⟨p, us, rfl, .inr ⟨by rw [← hK]; exact (hr.mono R1.same).sq, q4 _ (itt_ok hK rl.strip hl (by rw [← hK]; exact hr.strip))⟩⟩
theorem ps_forT {tg iter : Expr} {body : List Stmt} {fi : M (List D)} {P : VP} {ts : List Nat} {g : TgM} {m : MS} {pos : Pos} (hPs : ∀ G H v d, P c G H v d → P c (Fx.strip G) H v d) (hp : PassesOwn (model X.prog X.w) X.A X.env X.xe) (hc : X.calm = true) (hi : PI X tg iter (tIT T c B P fi)) (hg : PG X tg (tG c B P ts g)) (hb : PSs X body (tST T c B m))
    (hs : ∀ x, foldedSetIterable iter X.env x = pure x := by intro _; rfl) : PS X (.For tg iter body [] pos) (tST T c B (mFor fi g m)) :=
  ps_imp (ps_for hp hc hi hg hb hs) fun Z σ H ⟨G, ρ, R, t, a⟩ => by
    have a := AfterST.split a
    refine ⟨G, ρ, R, t, a.imp fun ds ρ1 G0 H1 _ R1 t1 a1 J ok => ?_⟩
    refine ⟨fun i n σ2 H2 => n = ds.length - i ∧ i ≤ ds.length ∧ ∃ G2 ρ2, Same (G0) G2 ∧ Rel c B G2 (Owd σ2 ρ2) H2 σ2 ρ2 ∧ TabOk T G2 H2 ∧ AfterST T c B G2 H2 σ2 ρ2 (loopM g m (ds.drop i) ρ2) Z, ⟨_, rfl, Nat.zero_le _, _, ρ1, Same.refl _, R1, t1, a1⟩, ?_⟩
    rintro i n σ2 H2 ⟨rfl, hi, G2, ρ2, s2, R2, t2, a2⟩
    by_cases hlt : i < ds.length
    · refine .inr ⟨ok.go i H2 hlt (s2.trans R2.same), fun σ3 H3 => ∃ G3 ρ3, Same (G0) G3 ∧ Rel c B G3 (Owd σ3 ρ3) H3 σ3 ρ3 ∧ TabOk T G3 H3 ∧ AfterST T c B G3 H3 σ3 ρ3 (loopM g m (ds.drop (i + 1)) ρ3) Z, fun σ3 H3 q => ⟨_, by omega, rfl, hlt, q⟩, fun x H3 hy => ?_⟩
      obtain ⟨G3, d, e1, x3, pr⟩ := ok.yld i G2 H2 x H3 hlt s2 R2.same hy
      obtain ⟨s3, R3, t3⟩ := step_t R2 t2 (Stp.same x3.gg x3.keep) (R2.ext x3)
      have a3 := AfterST.of s3 a2
      have ed : ds.drop i = d :: ds.drop (i + 1) := by
        rw [List.drop_eq_getElem_cons hlt]
        congr 1
        rw [List.getElem?_eq_getElem hlt] at e1
        exact Option.some.inj e1
      rw [ed] at a3
      unfold loopM at a3
      cases eg : g d ρ2 with
      | none => rw [eg] at a3; exact a3.elim
      | some ρ3 =>
        rw [eg] at a3
        dsimp only at a3
        have sG : Same (G0) (Fx.strip G3) := s2.trans s3.gg
        refine ⟨Fx.strip G3, _, ρ2, d, ρ3, R3, hPs _ _ _ _ pr, eg, fun σ3 R4 _ => ⟨Fx.strip G3, ρ3, R4.small, t3, ?_⟩⟩
        have st : StpT (Owd σ2 ρ2) (Fx.strip G3) H3 (Fx.strip G3) H3 (Owd σ3 ρ3) := ⟨Same.refl _, fun b o h _ _ => ⟨h, fun _ => rfl⟩, fun b h => .inl (R4.sub h)⟩
        cases em : m ρ3 with
        | stuck => rw [em] at a3; exact a3
        | exc x ρ4 => rw [em] at a3; exact a3.elim
        | brk ρ4 => rw [em] at a3; exact fun G5 H5 σ5 s5 R5 t5 => a3 G5 H5 σ5 (st.trans s5) R5 t5
        | cont ρ4 => rw [em] at a3; exact fun G5 H5 σ5 s5 R5 t5 => ⟨G5, ρ4, sG.trans s5.gg, R5, t5, AfterST.of (st.trans s5) a3⟩
        | next ρ4 =>
          rw [em] at a3
          exact fun G5 H5 σ5 s5 R5 t5 => ⟨G5, ρ4, sG.trans s5.gg, R5, t5, AfterST.of (st.trans s5) a3⟩
        | ret d' ρ4 =>
          rw [em] at a3
          exact fun G5 H5 σ5 v s5 R5 t5 r => a3 G5 H5 σ5 v (st.trans s5) R5 t5 r
    · have ei : i = ds.length := by omega
      subst ei
      rw [List.drop_length] at a2
      exact .inl ⟨ok.stop H2 (s2.trans R2.same), AfterST.nx a2 R2 t2⟩
end
/-- the def that is handed lambdas -/
structure AskF (K : PySem.W.Frag) (mg : Str → Option Value) (x : Str) (st : Stmt) (a : Str) : Prop where
  ex : ∃ (g : Addr) (oc : Value) (od : Option Addr) (dV kV doc pm : Value) (an : Option Addr) (cdv ct : Value) (osl : Array (Option Value)), K.lookup g = some ⟨oc, od, .func (PySem.W.fnOf x x (defArgs st) (defBody st) (defScope st) dV kV doc pm an cdv ct), osl⟩ ∧
    mg x = some (.ref g) ∧ PySem.W.keepIn K (.ref g) = true ∧ PySem.W.codeIn K cdv x = true ∧ Binds K (PySem.W.fnOf x x (defArgs st) (defBody st) (defScope st) dV kV doc pm an cdv ct) [a] []
section
variable {c : Cf} {B : List (Nat × Addr)} {X : Cx} {T : List (Addr × Str)}
end
section
variable {P : Program} {w : World} {K : PySem.W.Frag} {mg : Str → Option Value} {base : Heap} {c : Cf} {T : List (Addr × Str)}
theorem fn_okT0 {name qual : Str} {st : Stmt} {f : Addr} {N ps : List Str} {k : Nat} {m : MS} {dV kV doc pm cd ct oc : Value} {an od : Option Addr} {osl : Array (Option Value)}
    (lk : K.lookup f = some ⟨oc, od, .func (PySem.W.fnOf name qual (defArgs st) (defBody st) (defScope st) dV kV doc pm an cd ct), osl⟩) (hcd : PySem.W.codeIn K cd qual = true) (S : FnScope N ps (defScope st)) (hN : ps.length ≤ N.length)
    (body : ∀ (A : Around) (outer : List Env) (s : Shared) (H : Hp) (E : XK), Room k (A.deeper (PyProof.Rows.envOfC qual (defScope st) s.heap.objs.size f cd)) →
      PSs (cxOf (L2.CX P w) P w K mg base N qual (defScope st) f cd A outer s H E) (defBody st) (tST T c [] m)) :
    FnOk P w K mg base (L2.CX P w) (k + 1) f (PySem.W.fnOf name qual (defArgs st) (defBody st) (defScope st) dV kV doc pm an cd ct) ps (spMT T c [] ps.length (mkFn N.length [] m)) :=
  fn_okT [] (.inl rfl) lk hcd S hN (fun i h => by simp at h) fun B hB => by
    have : B = [] := by simpa using hB
    subst this
    exact body
theorem fn_okT1 (i : Nat) {name qual : Str} {st : Stmt} {f : Addr} {N ps : List Str} {k : Nat} {m : MS} {dV kV doc pm cd ct oc : Value} {an od : Option Addr} {osl : Array (Option Value)}
    (lk : K.lookup f = some ⟨oc, od, .func (PySem.W.fnOf name qual (defArgs st) (defBody st) (defScope st) dV kV doc pm an cd ct), osl⟩) (hcd : PySem.W.codeIn K cd qual = true) (S : FnScope N ps (defScope st)) (hN : ps.length ≤ N.length) (hi : i < ps.length)
    (body : ∀ (a : Addr) (A : Around) (outer : List Env) (s : Shared) (H : Hp) (E : XK), Room k (A.deeper (PyProof.Rows.envOfC qual (defScope st) s.heap.objs.size f cd)) →
      PSs (cxOf (L2.CX P w) P w K mg base N qual (defScope st) f cd A outer s H E) (defBody st) (tST T c [(i, a)] m)) :
    FnOk P w K mg base (L2.CX P w) (k + 1) f (PySem.W.fnOf name qual (defArgs st) (defBody st) (defScope st) dV kV doc pm an cd ct) ps (spMT T c [i] ps.length (mkFn N.length [i] m)) :=
  fn_okT [i] (.inr ⟨i, rfl⟩) lk hcd S hN (fun j h => by simp at h; subst h; exact hi) fun B hB => by
    match B, hB with
    | [(j, a)], hB =>
      have : j = i := by simpa using hB
      subst this
      exact body a
end
end Fx
set_option Elab.async false
set_option linter.all false
set_option maxRecDepth 100000
set_option maxHeartbeats 4000000
namespace Fx
open PySem L2
mutual
inductive NkH (K : PySem.W.Frag) (H : Hp) : V → NestedKey → Prop
  | non : NkH K H .non .none
  | bl (b : Bool) : NkH K H (.bl b) (.num (if b = true then 1 else 0))
  | int (i : Int) : NkH K H (.int i) (.num i)
  | str (x : Str) : NkH K H (.str x) (.text x)
  | tup {a : Addr} {xs : List V} {ks : List NestedKey} : SqT K H a xs → NkHL K H xs ks → NkH K H (.ref a) (.tup ks)
inductive NkHL (K : PySem.W.Frag) (H : Hp) : List V → List NestedKey → Prop
  | nil : NkHL K H [] []
  | cons {v : V} {vs : List V} {k : NestedKey} {ks : List NestedKey} : NkH K H v k → NkHL K H vs ks → NkHL K H (v :: vs) (k :: ks)
end
section
variable {X : Cx} {pins : List (Addr × Obj)} {σ : L2.St} {H : Hp} {s : Shared}
mutual
theorem NkH.is (I : Inv X pins σ H s) : ∀ (k : NestedKey) (v : V) (u : Value), NkH X.K H v k → RelV v u → NestedIs s.heap k u
  | .none, _, _, h, r => by
    cases h
    cases r
    exact .none
  | .num i, _, _, h, r => by
    cases h with
    | bl b => cases r; exact .bool rfl
    | int i => obtain ⟨t, rfl⟩ := r; exact .int _ t
  | .text x, _, _, h, r => by
    cases h
    obtain ⟨t, rfl⟩ := r
    exact .text x t
  | .tup ks, _, _, h, r => by
    cases h with
    | tup hs ha =>
      cases r
      obtain ⟨its, rv, ⟨o, ho, hc, n, hd⟩, _⟩ := I.tuple hs
      exact .tup ho hc hd (NkHL.is I ks _ _ ha (by simpa using rv))
theorem NkHL.is (I : Inv X pins σ H s) : ∀ (ks : List NestedKey) (vs : List V) (us : List Value), NkHL X.K H vs ks → Vals vs us → NestedAll s.heap ks us
  | [], _, _, h, r => by
    cases h
    cases r
    exact .nil
  | k :: ks, _, _, h, r => by
    cases h with
    | cons h1 h2 =>
      cases r with
      | cons r1 r2 => exact .cons (NkH.is I k _ _ h1 r1) (NkHL.is I ks _ _ h2 r2)
end
end
section
variable {c : Cf} {G H : Hp}
theorem nkL_cons {d : D} {ds : List D} {ks : List NestedKey} (h : nkL (d :: ds) = some ks) : ∃ k ks', nk d = some k ∧ nkL ds = some ks' ∧ ks = k :: ks' := by
  unfold nkL at h
  cases h1 : nk d with
  | none => simp only [h1] at h; cases h
  | some k =>
    cases h2 : nkL ds with
    | none => simp only [h1, h2] at h; cases h
    | some ks' => simp only [h1, h2] at h; cases h; exact ⟨k, ks', rfl, rfl, rfl⟩
mutual
theorem Rep.nk (s : Same G H) : ∀ {v : V} {d : D} {k : NestedKey}, Rep c G v d → nk d = some k → NkH c.K H v k
  | _, _, _, .non, h => by unfold Fx.nk at h; cases h; exact .non
  | _, _, _, .bl b, h => by unfold Fx.nk at h; cases h; exact .bl b
  | _, _, _, .int i, h => by unfold Fx.nk at h; cases h; exact .int i
  | _, _, _, .str x, h => by unfold Fx.nk at h; cases h; exact .str x
  | _, .tup ds, _, .tup e r, h => by
    unfold Fx.nk at h
    cases h2 : nkL ds with
    | none => simp only [h2] at h; cases h
    | some ks => simp only [h2] at h; cases h; exact .tup (e.mono s).sq (RepL.nk s r h2)
  | _, _, _, .lst .., h => by unfold Fx.nk at h; cases h
  | _, _, _, .dic .., h => by unfold Fx.nk at h; cases h
  | _, _, _, .rcd .., h => by unfold Fx.nk at h; cases h
  | _, _, _, .raw _, h => by unfold Fx.nk at h; cases h
  | _, _, _, .std .., h => by unfold Fx.nk at h; cases h
theorem RepL.nk (s : Same G H) : ∀ {vs : List V} {ds : List D} {ks : List NestedKey}, RepL c G vs ds → nkL ds = some ks → NkHL c.K H vs ks
  | _, _, _, .nil, h => by unfold nkL at h; cases h; exact .nil
  | _, _, _, .cons r t, h => by
    obtain ⟨k, ks', h1, h2, rfl⟩ := nkL_cons h
    exact .cons (Rep.nk s r h1) (RepL.nk s t h2)
end
theorem rep_nk_ref {v : V} {d : D} {ks : List NestedKey} (r : Rep c G v d) (h : nk d = some (.tup ks)) : ∃ p, v = .ref p := by
  cases r <;> first | (unfold nk at h; cases h; done) | exact ⟨_, rfl⟩
end
section
variable {P : Program} {w : World} {H : Hp} {h h' : Heap} {a b : Addr} {xs : List (NestedKey × Addr)}
theorem kd_addr (o : ObjOk P w H h b (KdO P w a xs)) : a = b := by
  obtain ⟨h1, ⟨ob, hb⟩, st⟩ := o
  refine Classical.byContradiction fun ne => ?_
  let oc : Obj := { cls := .none, data := .fields #[] }
  have q := st h { h with objs := h.objs.setIfInBounds a oc } h1 fun o e => by
    unfold Heap.get? at e ⊢
    simp only [Array.getElem?_setIfInBounds, if_neg ne]
    exact e
  obtain ⟨_, o2, es, ep, e1, _, e2, _⟩ := q
  obtain ⟨_, o3, _, _, e3, _⟩ := h1
  have hlt := Heap.lt_size e3
  unfold Heap.get? at e1
  simp only [Array.getElem?_setIfInBounds, if_pos, if_pos hlt] at e1
  have e1 : some oc = some o2 := e1
  cases e1
  cases e2
end
/-- how such a dict stands in an abstract heap -/
structure Kd (K : PySem.W.Frag) (P : Program) (w : World) (H : Hp) (a : Addr) (ps : List Addr) (ks : List NestedKey) : Prop where
  ob : ∃ a0, H a = some (KdO P w a0 (ks.zip ps))
  len : ks.length = ps.length
  nd : ks.Nodup
  dp : ∀ k ∈ ks, k.depth ≤ 8
  at_ : NkHL K H (ps.map V.ref) ks
def trip (x : NestedKey × Addr) : NestedKey × Addr × Value := (x.1, x.2, .bool true)
theorem nkHL_get {K : PySem.W.Frag} {H : Hp} : ∀ {ps : List Addr} {ks : List NestedKey} {k : NestedKey} {p : Addr}, NkHL K H (ps.map V.ref) ks → (k, p) ∈ ks.zip ps → NkH K H (.ref p) k
  | [], ks, k, p, _, h => by simp at h
  | q :: ps, [], k, p, _, h => by simp at h
  | q :: ps, j :: ks, k, p, r, h => by
    rw [List.map_cons] at r
    cases r with
    | cons r1 r2 =>
      rw [List.zip_cons_cons] at h
      rcases List.mem_cons.mp h with e | h
      · cases e; exact r1
      · exact nkHL_get r2 h
theorem zipK {β : Type} : ∀ {ks : List NestedKey} {ps : List β}, ks.length = ps.length → (ks.zip ps).map (·.1) = ks
  | [], [], _ => rfl
  | k :: ks, p :: ps, h => by rw [List.zip_cons_cons, List.map_cons, zipK (by simpa using h)]
section
variable {X : Cx} {pins : List (Addr × Obj)} {σ : L2.St} {H : Hp} {s : Shared} {a : Addr} {ps : List Addr} {ks : List NestedKey}
theorem Kd.dict (I : Inv X pins σ H s) (k : Kd X.K X.prog X.w H a ps ks) : (a == sysModules) = false ∧ s.heap.DictOfH (nestedKind X.prog X.w) a ((ks.zip ps).map trip) := by
  obtain ⟨a0, e⟩ := k.ob
  have o := I.hok _ _ e
  have ea := kd_addr o
  subst ea
  obtain ⟨⟨hd, ob, es, ep, e1, e2, e3, e4⟩, _⟩ := o
  refine ⟨hd, ob, es, ep, e1, e2, e3, ?_, fun x hx => ?_, ?_⟩
  · rw [e4, List.map_map]
    rfl
  · obtain ⟨⟨j, p⟩, hj, rfl⟩ := List.mem_map.mp hx
    refine ⟨NkH.is I _ _ _ (nkHL_get k.at_ hj) rfl, k.dp j ?_⟩
    exact (List.of_mem_zip hj).1
  · rw [List.map_map]
    show ((ks.zip ps).map (·.1)).Nodup
    rw [zipK k.len]
    exact k.nd
end
end Fx
set_option Elab.async false
set_option linter.all false
set_option maxRecDepth 100000
set_option maxHeartbeats 4000000
namespace Fx
open PySem L2
section
variable {X : Cx} {a b : Expr} {ta tb : TE}
end
section
variable {c : Cf} {B : List (Nat × Addr)} {W : WX} {X : Cx} {G H : Hp} {A : Addr → Prop} {σ : L2.St} {ρ : Cells}
theorem KdAt.kd {o : Option HO} {xs : List V} {ks : List NestedKey} {ds : List D} {a : Addr} (s : Same G H) (ho : ∀ u, o = some u → H a = some u) (h : KdAt c 0 o xs ks) (r : RepL c G xs ds) (e : nkL ds = some ks) : ∃ ps, xs = ps.map V.ref ∧ Kd c.K c.P c.w H a ps ks := by
  obtain ⟨a0, ps, h1, h2, rfl, h4, h5, h6⟩ := h.zero
  exact ⟨ps, rfl, ⟨a0, ho _ h1⟩, h2, h4, h6, r.nk s e⟩
theorem Opr.std {v : V} {ds : List D} (s : Same G H) (h : Opr c G H v (.exc 0 ds)) : ∃ a ps ks, v = .ref a ∧ nkL ds = some ks ∧ Kd c.K c.P c.w H a ps ks := by
  rcases h with h | ⟨q, rfl, h⟩
  · cases h with
    | std h r e =>
      obtain ⟨ps, _, k⟩ := h.kd s (fun u hu => s _ _ hu) r e
      exact ⟨_, ps, _, rfl, e, k⟩
  · obtain ⟨xs, ks, h, r, e⟩ := h
    obtain ⟨ps, _, k⟩ := h.kd s (fun u hu => hu) r e
    exact ⟨_, ps, ks, rfl, e, k⟩
theorem Opr.nk {v : V} {d : D} {ks : List NestedKey} (s : Same G H) (h : Opr c G H v d) (e : nk d = some (.tup ks)) : ∃ p, v = .ref p ∧ NkH c.K H (.ref p) (.tup ks) := by
  rcases h with h | ⟨q, rfl, h⟩
  · obtain ⟨p, rfl⟩ := rep_nk_ref h e
    exact ⟨p, rfl, h.nk s e⟩
  · cases d <;> first | exact h.elim | (unfold Fx.nk at e; cases e; done)
end
end Fx
set_option Elab.async false
set_option linter.all false
set_option maxRecDepth 100000
set_option maxHeartbeats 4000000
namespace Fx
open PySem L2
def newS (d : D) : Option D := match nk d with
  | some (.tup k) => if (NestedKey.tup k).depth ≤ 8 then some (.exc 0 [d]) else none
  | _ => none
def mKd (i : Nat) : M D := (mVar i).bind fun d => M.lift (newS d)
def putS : D → D → Option D
  | .exc 0 ds, j => match nk j, nkL ds with
    | some (.tup k), some ks => if (NestedKey.tup k).depth ≤ 8 ∧ NestedKey.tup k ∉ ks ∧ ks.length < 16777216 then some (.exc 0 (ds ++ [j])) else none
    | _, _ => none
  | _, _ => none
def tru : D → Bool
  | .bl b => b
  | _ => false
def mSetS (i : Nat) (fj fe : M D) : MS := mDo fe fun d => mDo (ownAt i) fun _ => mDo fj fun j => mDo (ownAt i) fun o ρ => if tru d = true then (match putS o j with
    | some o' => .next (ρ.set i (.own o'))
    | none => .stuck) else .stuck
section
variable {c : Cf} {B : List (Nat × Addr)} {W : WX} {X : Cx} {G H : Hp} {A : Addr → Prop} {σ : L2.St} {ρ : Cells}
end
section
variable {ρ ρ1 ρ2 ρ3 : Cells} {d d1 d2 : D} {R : MS} {o : OutS}
theorem x_kd {i : Nat} (h1 : GetAt ρ i (.dat d)) (h2 : newS d = some d1) : mKd i ρ = .ok d1 ρ := by
  unfold mKd mVar M.bind
  simp only [show ρ[i]? = some (.dat d) from h1, Out.andThen, M.lift, h2]
theorem s_setS {i : Nat} {fj fe : M D} {j : D} (h1 : fe ρ = .ok (.bl true) ρ1) (h2 : GetAt ρ1 i (.own d1)) (h3 : fj ρ1 = .ok j ρ2) (h4 : GetAt ρ2 i (.own d2)) (h5 : putS d2 j = some d) (h6 : SetAt ρ2 i (.own d) ρ3) (h7 : R ρ3 = o) : mSeq (mSetS i fj fe) R ρ = o := by
  unfold mSeq mSetS mDo ownAt
  simp only [h1, show ρ1[i]? = some (.own d1) from h2, h3, show ρ2[i]? = some (.own d2) from h4, tru, if_true, h5, show ρ2.set i (.own d) = ρ3 from h6, h7]
end
end Fx
set_option Elab.async false
set_option linter.all false
set_option maxRecDepth 100000
set_option maxHeartbeats 4000000
namespace Fx
open PySem L2 PySem.Spec PyProof.Rows
/-- what a def promises where no repr is under way -/
structure FnG (P : Program) (w : World) (K : PySem.W.Frag) (mg : Str → Option Value) (base : Heap) (CX : CXT) (k : Nat) (f : Addr) (fd : FuncData) (ps : List Str) (sp : Sp) : Prop where
  len : ∀ vs H Q E, sp vs H Q E → vs.length = ps.length
  go : ∀ (A : Around) (outer : List Env) (s : Shared) (H : Hp) (args : Args) (us : List Value) (vs : List V) (Q : VK) (E : XK), A.guards = some [] → Room k A → Env0 P w K mg base A outer s H → BindsTo s fd args (ps.zip us) → Vals vs us → sp vs H Q E →
    codeAny (model P w) A (.call (.ref f) args) (CR CX outer P w H s Q E) s
section
variable {P : Program} {w : World} {K : PySem.W.Frag} {mg : Str → Option Value} {base : Heap} {CX : CXT}
theorem FnG.imp {k : Nat} {f : Addr} {fd : FuncData} {ps : List Str} {sp sp' : Sp} (F : FnG P w K mg base CX k f fd ps sp) (h : ∀ vs H Q E, sp' vs H Q E → sp vs H Q E) : FnG P w K mg base CX k f fd ps sp' :=
  ⟨fun vs H Q E q => F.len vs H Q E (h vs H Q E q), fun A outer s H args us vs Q E hg hr e0 b r q => F.go A outer s H args us vs Q E hg hr e0 b r (h vs H Q E q)⟩
theorem FnG.mono {j k : Nat} {f : Addr} {fd : FuncData} {ps : List Str} {sp : Sp} (F : FnG P w K mg base CX j f fd ps sp) (h : j ≤ k) : FnG P w K mg base CX k f fd ps sp :=
  ⟨F.len, fun A outer s H args us vs Q E hg hr => F.go A outer s H args us vs Q E hg (hr.mono h)⟩
end
section
variable {X : Cx} {CX : CXT} {k : Nat} {f : Addr} {fd : FuncData} {ps : List Str} {sp : Sp} {E : L2.St → XK} {x : Str} {p pos : Pos} {e : Expr} {es : List Expr} {t : TA}
end
section
variable {c : Cf} {B : List (Nat × Addr)} {W : WX} {X : Cx} {G H : Hp} {A : Addr → Prop} {σ : L2.St} {ρ : Cells}
end
section
variable {P : Program} {w : World} {K : PySem.W.Frag} {mg : Str → Option Value} {base : Heap} {c : Cf}
end
end Fx
set_option Elab.async false
set_option linter.all false
set_option maxRecDepth 100000
set_option maxHeartbeats 4000000
namespace Fx
open PySem L2
mutual
def noLst : PyData → Bool
  | .none => true
  | .bool _ => true
  | .int _ => true
  | .str _ => true
  | .list _ => false
  | .tuple xs => noLsts xs
  | .dict kvs => kvs.isEmpty
def noLsts : List PyData → Bool
  | [] => true
  | x :: xs => noLst x && noLsts xs
end
mutual
inductive DpE (K : PySem.W.Frag) (H : Hp) : V → PyData → Prop
  | non : DpE K H .non .none
  | bl (b : Bool) : DpE K H (.bl b) (.bool b)
  | int (i : Int) : DpE K H (.int i) (.int i)
  | str (x : Str) : DpE K H (.str x) (.str x)
  | lst {a : Addr} {xs : List V} {ds : List PyData} : SqL K H a xs → DpEL K H xs ds → DpE K H (.ref a) (.list ds)
  | tup {a : Addr} {xs : List V} {ds : List PyData} : SqT K H a xs → DpEL K H xs ds → DpE K H (.ref a) (.tuple ds)
  | dic {a : Addr} : L2.Rd H a (.dK []) → DpE K H (.ref a) (.dict [])
inductive DpEL (K : PySem.W.Frag) (H : Hp) : List V → List PyData → Prop
  | nil : DpEL K H [] []
  | cons {v : V} {vs : List V} {d : PyData} {ds : List PyData} : DpE K H v d → DpEL K H vs ds → DpEL K H (v :: vs) (d :: ds)
end
section
variable {X : Cx} {pins : List (Addr × Obj)} {σ : L2.St} {H : Hp} {s : Shared}
mutual
theorem DpE.reads (I : Inv X pins σ H s) : ∀ (d : PyData) (v : V) (u : Value), DpE X.K H v d → RelV v u → ∃ as, Reads s.heap u d as ∧ (noLst d = true → sysModules ∉ as)
  | .none, _, _, h, r => by
    cases h
    cases r
    exact ⟨_, Reads.none, fun _ z => nomatch z⟩
  | .bool b, _, _, h, r => by
    cases h
    cases r
    exact ⟨_, Reads.bool b, fun _ z => nomatch z⟩
  | .int i, _, _, h, r => by
    cases h
    obtain ⟨t, rfl⟩ := r
    exact ⟨_, Reads.int i t, fun _ z => nomatch z⟩
  | .str x, _, _, h, r => by
    cases h
    obtain ⟨t, rfl⟩ := r
    exact ⟨_, Reads.str x t, fun _ z => nomatch z⟩
  | .list ds, _, _, h, r => by
    cases h with
    | lst hs ha =>
      cases r
      obtain ⟨its, rv, ⟨o, n, ho, hc, _, hd⟩, _⟩ := I.list hs
      obtain ⟨as, hr, _⟩ := DpEL.reads I ds _ its ha rv
      exact ⟨_, Reads.list ho hc hd hr, fun z => by unfold noLst at z; cases z⟩
  | .tuple ds, _, _, h, r => by
    cases h with
    | tup hs ha =>
      cases r
      obtain ⟨its, rv, ⟨o, ho, hc, n, hd⟩, _⟩ := I.tuple hs
      obtain ⟨as, hr, hn⟩ := DpEL.reads I ds _ its ha rv
      exact ⟨_, Reads.tuple ho hc hd hr, fun z => hn (by unfold noLst at z; exact z)⟩
  | .dict kvs, _, _, h, r => by
    cases h with
    | dic hs =>
      cases r
      obtain ⟨_, hd, vs, rel, o, es, ep, h1, h2, h3, _, h5, _⟩ := dk_rd I.hok hs
      cases rel
      have he : es.toList = [] := by
        cases e : es.toList with
        | nil => rfl
        | cons a l => rw [e] at h5; cases h5
      refine ⟨_, Reads.dict (as := []) (bs := []) h1 h2.1 h3 (by rw [he]; exact .nil) (by rw [he]; exact .nil), fun _ z => ?_⟩
      rw [List.append_nil, List.mem_singleton] at z
      rw [← z] at hd
      simp at hd
theorem DpEL.reads (I : Inv X pins σ H s) : ∀ (ds : List PyData) (vs : List V) (us : List Value), DpEL X.K H vs ds → Vals vs us → ∃ as, ReadsAll s.heap us ds as ∧ (noLsts ds = true → sysModules ∉ as)
  | [], _, _, h, r => by
    cases h
    cases r
    exact ⟨_, ReadsAll.nil, fun _ z => nomatch z⟩
  | d :: ds, _, _, h, r => by
    cases h with
    | cons h1 h2 =>
      cases r with
      | cons r1 r2 =>
        obtain ⟨as, q1, n1⟩ := DpE.reads I d _ _ h1 r1
        obtain ⟨bs, q2, n2⟩ := DpEL.reads I ds _ _ h2 r2
        refine ⟨_, ReadsAll.cons q1 q2, fun z hm => ?_⟩
        unfold noLsts at z
        rw [Bool.and_eq_true] at z
        exact (List.mem_append.mp hm).elim (n1 z.1) (n2 z.2)
end
end
section
variable {c : Cf} {G H : Hp}
end
section
variable {c : Cf} {B : List (Nat × Addr)} {W : WX} {X : Cx} {G H : Hp}
/-- {} -/
theorem pf_dic0 {pos : Pos} : PE X (.Dict [] [] pos) (tF c B W (M.pure (.dic [] []))) := pe_imp pe_dnewK fun σ H Q ⟨G, A, ρ, R, a⟩ p hp => by
  have a := After.ok (show After c B W G A H σ (.ok (D.dic [] []) ρ) _ from a) R
  refine a p _ hp (same_upd hp) ⟨[], ?_, rfl, .nil⟩
  rw [upd_same]
  rfl
end
end Fx
set_option Elab.async false
set_option linter.all false
set_option maxRecDepth 100000
set_option maxHeartbeats 4000000
namespace Fx
open PySem L2 PySem.Spec PyProof.Rows
section
variable {P : Program} {w : World} {K : PySem.W.Frag} {mg mb : Str → Option Value} {a : Addr} {s₁ : Shared} {vs : List Value} {ns : List Int}
end
end Fx
set_option Elab.async false
set_option linter.all false
set_option maxRecDepth 100000
set_option maxHeartbeats 4000000
namespace Fx
open PySem L2
section
variable {c : Cf} {B : List (Nat × Addr)} {W : WX} {X : Cx}
end
def sEq0 : D → D → Option D
  | .tup ds, .tup [] => some (.bl ds.isEmpty)
  | _, _ => none
def rEq0 (K : PySem.W.Frag) : R2 := fun x y H Q => ∃ (a b : Addr) (xs : List V), x = .ref a ∧ y = .ref b ∧ SqT K H a xs ∧ SqT K H b [] ∧ Q (.bl xs.isEmpty) H
section
variable {c : Cf} {B : List (Nat × Addr)} {W : WX} {X : Cx} {G H : Hp}
theorem op_eq0 (hu : X.A.units + 64 < cLine) : OpR X (compareOp .Eq) (rEq0 X.K) := by
  intro pins s σ H x y v u Q I rx ry h
  obtain ⟨a, b, xs, rfl, rfl, h1, h2, q⟩ := h
  cases (show v = Value.ref a from rx)
  cases (show u = Value.ref b from ry)
  obtain ⟨its, r1, t1, _⟩ := I.tuple h1
  obtain ⟨its2, r2, t2, _⟩ := I.tuple h2
  cases r2
  refine SeqAt.eq_tupleAt (e := fun _ => true) t1 t2 (by omega) (fun j h1 h2 => absurd h2 (by simp)) ⟨.bl _, H, I, ?_, q⟩
  show Value.bool _ = Value.bool _
  cases r1 with
  | nil => rfl
  | cons h t => simp
theorem semEq0 : Sem2 c (rEq0 c.K) sEq0 := fun G H x y d1 d2 d Q s a b e k => by
  unfold sEq0 at e
  split at e
  · rename_i ds
    cases e
    obtain ⟨p, xs, rfl, h1, h2, _⟩ := a.tup s
    obtain ⟨q, ys, rfl, k1, k2, _⟩ := b.tup s
    cases k2
    refine ⟨p, q, xs, rfl, rfl, h1.sq, k1.sq, ?_⟩
    have : xs.isEmpty = ds.isEmpty := by
      cases h2 with
      | nil => rfl
      | cons h t => rfl
    rw [this]
    exact k.flat s (.bl _)
  · cases e
theorem t_eq0 {a b : Expr} {oa ob : Opn} {pos : Pos} (hu : X.A.units + 64 < cLine) (ha : PE X a (tO c B W oa)) (hb : PE X b (tO c B W ob)) (hK : c.K = X.K := by rfl) : PT X (.Compare a [.Eq] [b] pos) (tT c B W (mB (mOp2 sEq0 oa ob))) := pt_op semEq0 (by rw [hK]; exact pt_cmpR (op_eq0 hu) ha hb (nomark _))
end
end Fx
set_option Elab.async false
set_option linter.all false
set_option maxRecDepth 100000
set_option maxHeartbeats 1000000
namespace Fx
open PySem L2 PyProof.Rows
section
variable {c : Cf} {B : List (Nat × Addr)} {W : WX} {X : Cx}
end
end Fx
set_option Elab.async false
set_option linter.all false
set_option maxRecDepth 100000
set_option maxHeartbeats 1000000
namespace Fx
open PySem L2 PyProof.Rows
section
variable {c : Cf} {B : List (Nat × Addr)} {W : WX} {X : Cx} {G G' H : Hp} {A : Addr → Prop} {σ : L2.St} {ρ : Cells}
end
end Fx
set_option Elab.async false
set_option linter.all false
set_option maxRecDepth 100000
set_option maxHeartbeats 1000000
namespace Fx
open PySem L2 PyProof.Rows
section
variable {c : Cf} {B : List (Nat × Addr)} {W : WX} {X : Cx}
end
end Fx
set_option Elab.async false
set_option linter.all false
set_option maxRecDepth 100000
set_option maxHeartbeats 1000000
namespace Fx
open PySem L2 PyProof.Rows
section
variable {c : Cf} {B : List (Nat × Addr)} {W : WX} {X : Cx}
end
end Fx
set_option Elab.async false
set_option linter.all false
set_option maxRecDepth 100000
set_option maxHeartbeats 1000000
namespace Fx
open PySem L2 PyProof.Rows
section
variable {c : Cf} {G G' H : Hp} {a : Addr} {o0 : Obj} {φ : Heap → Prop}
/-- all but the one address, which holds a locked thing of no shape -/
structure Less (G G' : Hp) (a : Addr) (o0 : Obj) (φ : Heap → Prop) : Prop where
  at_ : G a = some (.frz o0 (.ext φ))
  sm : ∀ b o, G b = some o → b ≠ a → G' b = some o
theorem Less.go (l : Less G G' a o0 φ) {b : Addr} {o : HO} (h : G b = some o) (n : o ≠ .frz o0 (.ext φ)) : G' b = some o := l.sm b o h fun z => by
  subst z
  rw [l.at_] at h
  exact n (Option.some.inj h).symm
end
section
variable {c : Cf} {B : List (Nat × Addr)} {W : WX} {X : Cx}
end
section
variable {c : Cf} {B : List (Nat × Addr)} {W : WX} {X : Cx} {G H : Hp} {A : Addr → Prop} {σ : L2.St} {ρ : Cells}
end
end Fx
set_option Elab.async false
set_option linter.all false
set_option maxRecDepth 100000
set_option maxHeartbeats 1000000
namespace Fx
open PySem L2 PyProof.Rows
section
variable {P : Program} {w : World} {H : Hp} {h h' : Heap} {a b : Addr} {xs : List (NestedKey × Addr × Value)}
theorem km_addr (o : ObjOk P w H h b (KmO P w a xs)) : a = b := by
  obtain ⟨h1, _, st⟩ := o
  refine Classical.byContradiction fun ne => ?_
  let oc : Obj := { cls := .none, data := .fields #[] }
  have q := st h { h with objs := h.objs.setIfInBounds a oc } h1 fun o e => by
    unfold Heap.get? at e ⊢
    simp only [Array.getElem?_setIfInBounds, if_neg ne]
    exact e
  obtain ⟨_, o2, es, ep, e1, _, e2, _⟩ := q
  obtain ⟨_, o3, _, _, e3, _⟩ := h1
  have hlt := Heap.lt_size e3
  unfold Heap.get? at e1
  simp only [Array.getElem?_setIfInBounds, if_pos, if_pos hlt] at e1
  cases (show some oc = some o2 from e1)
  cases e2
end
/-- how such a dict stands in an abstract heap -/
structure Km (K : PySem.W.Frag) (P : Program) (w : World) (H : Hp) (a : Addr) (ps : List Addr) (us : List Value) (vs : List V) (ks : List NestedKey) : Prop where
  ob : ∃ a0, H a = some (KmO P w a0 (ks.zip (ps.zip us)))
  len : ks.length = ps.length
  lenu : us.length = ps.length
  vals : Vals vs us
  nd : ks.Nodup
  sz : ks.length ≤ 16777216
  dp : ∀ k ∈ ks, k.depth ≤ 8
  at_ : NkHL K H (ps.map V.ref) ks
theorem zip3_mem : ∀ {ks : List NestedKey} {ps : List Addr} {us : List Value} {k : NestedKey} {p : Addr} {u : Value}, (k, p, u) ∈ ks.zip (ps.zip us) → (k, p) ∈ ks.zip ps
  | [], _, _, _, _, _, h => by simp at h
  | _ :: _, [], _, _, _, _, h => by simp at h
  | _ :: _, _ :: _, [], _, _, _, h => by simp at h
  | j :: ks, q :: ps, x :: us, k, p, u, h => by
    rw [List.zip_cons_cons, List.zip_cons_cons] at h
    rw [List.zip_cons_cons]
    rcases List.mem_cons.mp h with e | h
    · cases e; exact List.mem_cons_self
    · exact List.mem_cons_of_mem _ (zip3_mem h)
section
variable {X : Cx} {pins : List (Addr × Obj)} {σ : L2.St} {H : Hp} {s : Shared} {a : Addr} {ps : List Addr} {us : List Value} {vs : List V} {ks : List NestedKey}
theorem Km.raw (I : Inv X pins σ H s) (k : Km X.K X.prog X.w H a ps us vs ks) : (a == sysModules) = false ∧ ∃ (o : Obj) (es : Array DictEntry) (ep : Nat), s.heap.get? a = some o ∧ o.ExactDict ∧ o.data = .dict es ep ∧ es.toList = (ks.zip (ps.zip us)).map (entryOfKey (nestedKind X.prog X.w)) := by
  obtain ⟨a0, e⟩ := k.ob
  have o := I.hok _ _ e
  have ea := km_addr o
  subst ea
  exact o.1
theorem Km.dict (I : Inv X pins σ H s) (k : Km X.K X.prog X.w H a ps us vs ks) : (a == sysModules) = false ∧ s.heap.DictOfH (nestedKind X.prog X.w) a (ks.zip (ps.zip us)) := by
  obtain ⟨hd, ob, es, ep, e1, e2, e3, e4⟩ := k.raw I
  refine ⟨hd, ob, es, ep, e1, e2, e3, e4, fun x hx => ?_, ?_⟩
  · obtain ⟨j, p, u⟩ := x
    have hj := zip3_mem hx
    exact ⟨NkH.is I _ _ _ (nkHL_get k.at_ hj) rfl, k.dp j (List.of_mem_zip hj).1⟩
  · rw [zipK (by rw [List.length_zip, k.lenu, Nat.min_self]; exact k.len)]
    exact k.nd
end
section
variable {X : Cx} {a b e : Expr} {ta tb : TE} {pos apos cpos : Pos}
end
end Fx
set_option Elab.async false
set_option linter.all false
set_option maxRecDepth 100000
set_option maxHeartbeats 1000000
namespace Fx
open PySem L2 PyProof.Rows
def hfK (l : List D) : List D := l.take (l.length / 2)
def hfV (l : List D) : List D := l.drop (l.length / 2)
/-- a key, by its depth -/
def nkT (d : D) : Option NestedKey := match nk d with
  | some (.tup k) => if (NestedKey.tup k).depth ≤ 8 then some (.tup k) else none
  | _ => none
theorem nkT_inv {d : D} {k : NestedKey} (h : nkT d = some k) : ∃ ks, k = .tup ks ∧ nk d = some k ∧ k.depth ≤ 8 := by
  unfold nkT at h
  split at h
  · split at h
    · cases h; exact ⟨_, rfl, ‹_›, ‹_›⟩
    · cases h
  · cases h
/-- such a dict's key and keys -/
def mapK : D → D → Option (NestedKey × List NestedKey × List D)
  | .exc 1 l, d => match nkT d, nkL (hfK l) with
    | some k, some ks => some (k, ks, hfV l)
    | _, _ => none
  | _, _ => none
theorem mapK_inv {m d : D} {k : NestedKey} {ks : List NestedKey} {es : List D} (h : mapK m d = some (k, ks, es)) : ∃ l, m = .exc 1 l ∧ nkT d = some k ∧ nkL (hfK l) = some ks ∧ es = hfV l := by
  unfold mapK at h
  split at h
  · split at h
    · cases h; exact ⟨_, rfl, ‹_›, ‹_›, rfl⟩
    · cases h
  · cases h
def newKM (j v : D) : Option D := (nkT j).map fun _ => .exc 1 [j, v]
def putM (m j v : D) : Option D := match m with
  | .exc 1 l => (mapK m j).bind fun r => if r.1 ∉ r.2.1 ∧ r.2.1.length < 16777216 then some (.exc 1 (hfK l ++ [j] ++ (hfV l ++ [v]))) else none
  | _ => none
section
variable {c : Cf} {G H : Hp}
theorem KdAt.km {o : Option HO} {xs : List V} {ks : List NestedKey} {l : List D} {a : Addr} (s : Same G H) (ho : ∀ u, o = some u → H a = some u) (h : KdAt c 1 o xs ks) (r : RepL c G xs l) (e : nkL (keysOf 1 l) = some ks) :
    ∃ ps us vs, xs = ps.map V.ref ++ vs ∧ nkL (hfK l) = some ks ∧ Km c.K c.P c.w H a ps us vs ks ∧ RepL c G (ps.map V.ref) (hfK l) ∧ RepL c G vs (hfV l) := by
  rcases h with ⟨z, _⟩ | ⟨_, a0, ps, us, vs, h1, h2, h3, h4, rfl, h5, h6, h7⟩
  · cases z
  have e : nkL (hfK l) = some ks := e
  have hl : l.length / 2 = ps.length := by
    have q1 := r.length
    have q2 := h4.length
    rw [List.length_append, List.length_map] at q1
    omega
  have r1 : RepL c G (ps.map V.ref) (hfK l) := by
    have q := r.take ps.length
    rw [List.take_left' (by rw [List.length_map])] at q
    unfold hfK
    rw [hl]
    exact q
  have r2 : RepL c G vs (hfV l) := by
    have q := r.drop ps.length
    rw [List.drop_left' (by rw [List.length_map])] at q
    unfold hfV
    rw [hl]
    exact q
  exact ⟨ps, us, vs, rfl, e, ⟨⟨a0, ho _ h1⟩, h2, h3, h4, h5, h6, h7, r1.nk s e⟩, r1, r2⟩
theorem Opr.km {v : V} {l : List D} (s : Same G H) (h : Opr c G H v (.exc 1 l)) : ∃ a ps us vs ks, v = .ref a ∧ nkL (hfK l) = some ks ∧ Km c.K c.P c.w H a ps us vs ks ∧ RepL c G (ps.map V.ref) (hfK l) ∧ RepL c G vs (hfV l) := by
  rcases h with h | ⟨q, rfl, h⟩
  · cases h with
    | std h r e =>
      obtain ⟨ps, us, vs, _, e2, k, r1, r2⟩ := KdAt.km s (fun u hu => s _ _ hu) h r e
      exact ⟨_, ps, us, vs, _, rfl, e2, k, r1, r2⟩
  · obtain ⟨xs, ks, h, r, e⟩ := h
    obtain ⟨ps, us, vs, _, e2, k, r1, r2⟩ := KdAt.km s (fun u hu => hu) h r e
    exact ⟨_, ps, us, vs, ks, rfl, e2, k, r1, r2⟩
theorem Opr.mk {v w : V} {m d : D} {k : NestedKey} {ks : List NestedKey} {es : List D} (s : Same G H) (a : Opr c G H v m) (b : Opr c G H w d) (h : mapK m d = some (k, ks, es)) :
    ∃ a p ps us vs, v = .ref a ∧ w = .ref p ∧ Km c.K c.P c.w H a ps us vs ks ∧ NkH c.K H (.ref p) k ∧ k.depth ≤ 8 ∧ RepL c G vs es := by
  obtain ⟨l, rfl, h1, h2, rfl⟩ := mapK_inv h
  obtain ⟨a0, ps, us, vs, ks', rfl, h3, km, _, r2⟩ := a.km s
  rw [h2] at h3
  cases h3
  obtain ⟨kk, rfl, h4, dp⟩ := nkT_inv h1
  obtain ⟨p, rfl, kn⟩ := b.nk s h4
  exact ⟨a0, p, ps, us, vs, rfl, rfl, km, kn, dp, r2⟩
end
section
variable {c : Cf} {B : List (Nat × Addr)} {W : WX} {X : Cx} {a b : Expr} {oa ob : Opn} {pos p : Pos}
end
end Fx
set_option Elab.async false
set_option linter.all false
set_option maxRecDepth 100000
set_option maxHeartbeats 1000000
namespace Fx
open PySem L2 PyProof.Rows
def mKm (fk fv : M D) : M D := fk.bind fun j => fv.bind fun v => M.lift (newKM j v)
def mSetM (i : Nat) (fj fe : M D) : MS := mDo fe fun d => mDo (ownAt i) fun _ => mDo fj fun j => mDo (ownAt i) fun o ρ => match putM o j d with
  | some o' => .next (ρ.set i (.own o'))
  | none => .stuck
section
variable {c : Cf} {B : List (Nat × Addr)} {W : WX} {X : Cx} {G H : Hp} {A : Addr → Prop} {σ : L2.St} {ρ : Cells}
end
section
variable {ρ ρ1 ρ2 ρ3 : Cells} {d d1 d2 : D} {R : MS} {o : OutS}
theorem x_km {fk fv : M D} {j v : D} (h1 : fk ρ = .ok j ρ1) (h2 : fv ρ1 = .ok v ρ2) (h3 : newKM j v = some d) : mKm fk fv ρ = .ok d ρ2 := by
  unfold mKm M.bind M.lift
  simp only [h1, Out.andThen, h2, h3]
theorem s_setM {i : Nat} {fj fe : M D} {j v : D} (h1 : fe ρ = .ok v ρ1) (h2 : GetAt ρ1 i (.own d1)) (h3 : fj ρ1 = .ok j ρ2) (h4 : GetAt ρ2 i (.own d2)) (h5 : putM d2 j v = some d) (h6 : SetAt ρ2 i (.own d) ρ3) (h7 : R ρ3 = o) : mSeq (mSetM i fj fe) R ρ = o := by
  unfold mSeq mSetM mDo ownAt
  simp only [h1, show ρ1[i]? = some (.own d1) from h2, h3, show ρ2[i]? = some (.own d2) from h4, h5, show ρ2.set i (.own d) = ρ3 from h6, h7]
end
end Fx
set_option Elab.async false
set_option linter.all false
set_option maxRecDepth 100000
set_option maxHeartbeats 1000000
namespace Fx
open PySem L2 PyProof.Rows
/-- n parameters ahead, one by keyword alone, its default: dv -/
structure CalKv (P : Program) (w : World) (K : PySem.W.Frag) (mg : Str → Option Value) (base : Heap) (c : Cf) (k : Nat) (nm : Str) (n : Nat) (ky : Str) (dv : D) (F : Fn) : Prop where
  ex : ∃ f fd ps vds dvs, FnOk P w K mg base (L2.CX P w) k f fd ps (spM c [] (n + 1) F) ∧ mg nm = some (.ref f) ∧ PySem.W.keepIn K (.ref f) = true ∧ Binds K fd ps vds ∧ Vals dvs vds ∧ (∀ G, RepL c G dvs [dv]) ∧
    KBn K fd ps n [ky] (fun us ws => us ++ ws) (fun vs zs => vs ++ zs)
theorem CalKv.mono {P : Program} {w : World} {K : PySem.W.Frag} {mg : Str → Option Value} {base : Heap} {c : Cf} {k j : Nat} {nm : Str} {n : Nat} {ky : Str} {dv : D} {F : Fn} (h : CalKv P w K mg base c k nm n ky dv F) (hk : k ≤ j) : CalKv P w K mg base c j nm n ky dv F := by
  obtain ⟨f, fd, ps, vds, dvs, h1, h2⟩ := h.ex
  exact ⟨f, fd, ps, vds, dvs, h1.mono hk, h2⟩
section
variable {c : Cf} {B : List (Nat × Addr)} {W : WX} {X : Cx} {G H : Hp} {A : Addr → Prop} {σ : L2.St} {ρ : Cells} {Z : Ends}
def AfterSO (c : Cf) (B : List (Nat × Addr)) (W : WX) (G : Hp) (A : Addr → Prop) (H : Hp) (o : OutS) (D : Ends) : Prop := match o with
  | .ret d ρ' => ∀ G' A' H' σ', Stp G A H G' A' H' → Rel c B G' A' H' σ' ρ' → if isLst d = true then (∀ p H2, H' p = none → Same H' H2 → Own c G' (H2 p) d → D.rt (.ref p) H2) else ∀ v, Rep c G' v d → D.rt v H'
  | .exc x ρ' => ∀ G' A' H' σ' dd, Stp G A H G' A' H' → Rel c B G' A' H' σ' ρ' → ExcAt c G' x dd → W (.ref (c.exc x.c)) (some dd) σ' H'
  | _ => False
theorem AfterSO.of {o : OutS} {G' H' : Hp} {A' : Addr → Prop} (hA : ∀ b, A b → ∃ o, H b = some o) (s : Stp G A H G' A' H') (h : AfterSO c B W G A H o Z) : AfterSO c B W G' A' H' o Z := by
  cases o with
  | stuck => exact h
  | next ρ' => exact h
  | ret d ρ' => exact fun G2 A2 H2 σ2 s2 R => h G2 A2 H2 σ2 (s.trans s2 hA) R
  | brk ρ' => exact h
  | cont ρ' => exact h
  | exc x ρ' => exact fun G2 A2 H2 σ2 dd s2 R r => h G2 A2 H2 σ2 dd (s.trans s2 hA) R r
end
section
variable {P : Program} {w : World} {K : PySem.W.Frag} {mg : Str → Option Value} {base : Heap} {c : Cf}
end
def mNewO (f : M D) (i : Nat) : MS := mDo f fun d ρ => if isLst d = true then .next (ρ.set i (.own d)) else .next (ρ.set i (.dat d))
section
variable {c : Cf} {B : List (Nat × Addr)} {W : WX} {X : Cx} {G H : Hp} {A : Addr → Prop} {σ : L2.St} {ρ : Cells} {Z : Ends}
end
section
variable {ρ ρ1 ρ2 : Cells} {d : D} {R : MS} {o : OutS}
theorem s_newO {f : M D} {i : Nat} {ds : List D} (h1 : f ρ = .ok (.lst ds) ρ1) (h2 : SetAt ρ1 i (.own (.lst ds)) ρ2) (h3 : R ρ2 = o) : mSeq (mNewO f i) R ρ = o := by
  unfold mSeq mNewO mDo
  simp only [h1, isLst, if_true, show ρ1.set i (.own (.lst ds)) = ρ2 from h2, h3]
theorem s_newO0 {f : M D} {i : Nat} (h1 : f ρ = .ok .non ρ1) (h2 : SetAt ρ1 i (.dat .non) ρ2) (h3 : R ρ2 = o) : mSeq (mNewO f i) R ρ = o := by
  unfold mSeq mNewO mDo
  simp only [h1, isLst, Bool.false_eq_true, if_false, show ρ1.set i (.dat .non) = ρ2 from h2, h3]
end
end Fx
set_option Elab.async false
set_option linter.all false
set_option maxRecDepth 100000
set_option maxHeartbeats 4000000
namespace Fx.EI
open PySem PySem.W PySem.Calls PyProof.Rows Builtin Builtin.ObjectAttr Builtin.Getset_descriptor
section
variable {pr : Program} {wd : World} {AA : Around} {EE : Value → Shared → Prop} {st : Shared} {KK : Frag} {xa DA : Addr} {oo : Obj}
/-- an object of an own class -/
def ClsAt (oo : Obj) (DA xa : Addr) (hh : Heap) : Prop := hh.get? xa = some oo ∧ oo.cls = .ref DA
theorem ClsAt.type {MM : Model} {hh : Heap} (I : ClsAt oo DA xa hh) : Looks MM hh (typeOf (.ref xa)) (.ref DA) := I.2 ▸ (Looks.ld I.1).andThen .now
end
end Fx.EI
namespace Fx
open PySem PySem.Spec PyProof.Rows L2
end Fx
set_option Elab.async false
set_option linter.all false
set_option maxRecDepth 100000
set_option maxHeartbeats 4000000
namespace Fx
open PySem PyProof.Rows L2
section
variable {c : Cf} {B : List (Nat × Addr)} {X : Cx} {G H : Hp} {A : Addr → Prop} {σ : L2.St} {ρ : Cells} {Z : Ends}
section
variable {a : Addr} {d : Option Addr} {k i : Nat}
theorem HasX.on {x : Exc} {cls : Value} {G' H' : Hp} {σ' : L2.St} (h : HasX c k i a cls d x G H σ) (s : Same G G') (s2 : Same G' H') (e : σ'[i]? = some (some (.ref a))) : HasX c k i a cls d x G' H' σ' := by
  obtain ⟨dd, h1, h2⟩ := h.at_
  exact ⟨h.cls, h.xc, ⟨dd, h1, h2.mono s⟩, s2, e⟩
end
end
end Fx
set_option Elab.async false
set_option linter.all false
set_option maxRecDepth 100000
set_option maxHeartbeats 4000000
namespace Fx
open PySem L2
def AskX (c : Cf) (G H : Hp) (o : Out D) (Q : D → Hp → Hp → Prop) (E : Exc → Addr → Hp → Hp → Prop) : Prop := match o with
  | .ok d _ => ∀ G' H', Same G G' → Keep0 G H G' H' → Same G' H' → Q d G' H'
  | .exc x _ => ∀ G' H' dd, Same G G' → Keep0 G H G' H' → Same G' H' → ExcAt c G' x dd → E x dd G' H'
  | .stuck => False
/-- ok tells what becomes of an answer, hv what of an error -/
def TTx (c : Cf) (ok : D → D) (hv : Exc → Option D) : LamT → Hp → VK → Prop := fun tl H Q => ∃ (G : Hp) (o : Out D), Same G H ∧
  (∀ (E : XK) (Q' : VK), AskT (α := D) c G H o Q' (fun x dd _ H' => E (.ref (c.exc x.c)) (some dd) H') → tl E H Q') ∧
  AskX c G H o (fun d G' H' => K1 c G' H' (ok d) Q) (fun x _ G' H' => ∃ e, hv x = some e ∧ K1 c G' H' e Q)
section
variable {c : Cf} {G H : Hp} {σ : L2.St}
end
def mLamX (ok : D → D) (hv : Exc → Option D) (f : M D) : M D := fun ρ => match f (dropOwn ρ) with
  | .ok d _ => .ok (ok d) ρ
  | .exc x _ => match hv x with
    | some e => .ok e ρ
    | none => .stuck
  | .stuck => .stuck
section
variable {c : Cf} {B : List (Nat × Addr)} {X : Cx} {T : List (Addr × Str)}
theorem pm_lamX {ok : D → D} {hv : Exc → Option D} {a x : Str} {st : Stmt} {cc P : Addr} {k j : Nat} {Ng : List Str} {params : Arguments} {body : Expr} {scope : Scope} {fb : M D} {p lpos pos : Pos} (Ak : AskF X.K X.mg x st a)
    (hG : ∀ (g : Addr) (cdv : Value), GivesS X Ng x (defScope st) g cdv (defBody st) a (X.env.qual ++ "<lambda>") (TTx c ok hv)) (Sg : FnScope Ng [a] (defScope st)) (hNg : Ng[0]? = some a) (hva : Vis (defScope st) a)
    (TB : LamX.TabB X.base X.mg cc P) (hcode : X.env.code = .ref cc) (hmT : (P, X.env.qual ++ "<lambda>") ∈ T) (hu : ∀ p ∈ T, p.1 = P → p.2 = X.env.qual ++ "<lambda>") (hr : Room j X.A)
    (inner : ∀ (A : Around) (outer : List Env) (s : Shared) (H : Hp) (E : XK) (f c' : Addr), Room k (A.deeper (LamX.lamEnv X scope s.heap.objs.size f c')) → PE (LamX.lamCx X A outer s H E scope f c') body (tM c [] (fun cls d _ H => E cls d H) fb))
    (L : LamX.LamS X.env.scope scope) (hj : k + 2 ≤ j := by decide) (hdef : defaultsOf params X.env = ([], []) := by rfl)
    (nobind : ∀ (q : Str) (cl : List (Str × Addr)) (pm cv ctv : Value), bindArgs (PySem.W.kla_fn "<lambda>" q params body scope cl pm cv ctv) ⟨[], []⟩ = pure [] := by intro _ _ _ _ _; rfl)
    (hg : Gl X x := by rfl) (hdb : (x == ("__debug__" : Str)) = false := by decide) (hd : (a == ("__debug__" : Str)) = false := by decide) (hcd : (a == ("__classdict__" : Str)) = false := by decide) :
    PE X (.Call (.Name x p) [.Lambda params body scope lpos] [] pos) (tMT T c B (mLamX ok hv fb)) := by
  obtain ⟨g, oc, od, dV, kV, doc, pm, an, cdv, ct, osl, lk, hm, hk, hcg, hb⟩ := Ak.ex
  refine pe_imp (pe_lamS (t := fun E => tM c [] (fun cls d _ H => E cls d H) fb) hg hm hk lk hcg hb Sg hNg hva (hG g cdv) TB hcode hmT hu (hr.mono hj) L hdef nobind inner hdb hd hcd) fun σ H Q ⟨G, ρ, R, t, q⟩ => ?_
  refine ⟨t.to R.same, fun H1 eN T1 => ?_⟩
  obtain ⟨s1, R1, t1⟩ := lam_step R t eN T1
  have go : ∀ {G' H' : Hp}, Same (withCodes G H1) G' → Keep0 (withCodes G H1) H1 G' H' → Same G' H' → StpT (Owd σ ρ) G H (strip G') H' (Owd σ ρ) ∧ Rel c B (strip G') (Owd σ ρ) H' σ ρ ∧ TabOk T (strip G') H' := fun {G' H'} h1 h2 h3 => by
    obtain ⟨s2, R2, t2⟩ := step_t R1 t1 (Stp.same h1 fun b o e _ => h2 b o e) (R1.ext ⟨h1, fun b o e => (h2 b o e).1, h3, fun b o e => (h2 b o e).2⟩)
    exact ⟨s1.trans s2, R2, t2⟩
  have fin : ∀ {G' H' : Hp} {e : D}, Same (withCodes G H1) G' → Keep0 (withCodes G H1) H1 G' H' → Same G' H' → AfterT T c B G H σ ρ (.ok e ρ) (fun d _ G' H' => ∀ v, Rep c G' v d → Q v H') → K1 c G' H' e Q := fun {G' H' e} h1 h2 h3 q G2 H2 v x2 r => by
    obtain ⟨s2, R2, t2⟩ := go (h1.trans x2.gg) (fun b o z => ⟨x2.hh b o (h2 b o z).1, (x2.new b o (h2 b o z).1).trans (h2 b o z).2⟩) x2.gh
    exact q _ _ s2 R2 t2 v r.strip
  refine ⟨withCodes G H1, fb (dropOwn ρ), R1.same, fun E Q' h => ?_, ?_⟩
  · refine ⟨withCodes G H1, fun _ => False, dropOwn ρ, R1.dropOwn, ?_⟩
    cases e : fb (dropOwn ρ) with
    | stuck => rw [e] at h; exact h
    | ok d ρ' => rw [e] at h; exact fun G' H' s k R' v r => h G' H' v s (fun b o e => k b o e fun z => z) R'.same r
    | exc x ρ' => rw [e] at h; exact fun G' H' dd s k R' r => h G' H' dd s (fun b o e => k b o e fun z => z) R'.same r
  · unfold mLamX at q
    cases e : fb (dropOwn ρ) with
    | stuck => rw [e] at q; exact q
    | ok d ρ' =>
      rw [e] at q
      exact fun G' H' h1 h2 h3 => fin h1 h2 h3 q
    | exc x ρ' =>
      rw [e] at q
      intro G' H' dd h1 h2 h3 hx
      dsimp only at q
      cases ec : hv x with
      | none => rw [ec] at q; exact q.elim
      | some e' => rw [ec] at q; exact ⟨e', rfl, fin h1 h2 h3 q⟩
end
section
variable {ρ ρ1 ρ2 : Cells} {d d1 d2 : D}
end
end Fx
set_option Elab.async false
set_option linter.all false
set_option maxRecDepth 100000
set_option maxHeartbeats 4000000
namespace Fx
open PySem PyProof.Rows L2
section
variable {c : Cf} {B : List (Nat × Addr)} {W : WX} {X : Cx}
end
end Fx
set_option Elab.async false
set_option linter.all false
set_option maxRecDepth 100000
set_option maxHeartbeats 4000000
namespace Fx
open PySem PySem.Spec PyProof PyProof.Rows L2
section
variable {c : Cf} {B : List (Nat × Addr)} {W : WX} {X : Cx}
def mTupRg (f : M D) : M D := f.bind fun d => match d with
  | .int n => if -(2 ^ 62) ≤ n ∧ n ≤ 16777216 then M.pure (.tup (rangeD 0 n.toNat)) else M.stuck
  | _ => M.stuck
end
theorem x_tupRg {ρ ρ1 : Cells} {f : M D} {n : Int} (h : f ρ = .ok (.int n) ρ1) (h0 : -(2 ^ 62) ≤ n ∧ n ≤ 16777216) : mTupRg f ρ = .ok (.tup (rangeD 0 n.toNat)) ρ1 := by
  unfold mTupRg M.bind
  simp only [h, Out.andThen]
  rw [if_pos h0]
  rfl
end Fx
set_option Elab.async false
set_option linter.all false
set_option maxRecDepth 100000
set_option maxHeartbeats 4000000
namespace Fx
open PySem L2
section
variable {c : Cf} {B : List (Nat × Addr)} {W : WX} {X : Cx} {G G' H H' : Hp} {A A' : Addr → Prop} {σ σ' : L2.St} {ρ ρ' : Cells} {T : List (Addr × Str)}
theorem tBT_core {f : M D} {Q : Bool → Hp → Prop} (h : tTT T c B (mB f) σ H Q) : tMT T c B f σ H fun x H1 => ∃ b, x = .bl b ∧ Q b H1 := by
  obtain ⟨G, ρ, R, t, a⟩ := h
  refine ⟨G, ρ, R, t, (AfterT.split a).imp fun d ρ' G' H' _ R' t' q v r => ?_⟩
  cases d <;> first | exact q.elim | skip
  exact ⟨_, rep_bl r, AfterT.ok q R' t'⟩
theorem cmp_coreT {r : R2} {sem : D → D → Option D} {f g : M D} {Q : VK} (hs : Sem2 c r sem) (h : tMT T c B (mCmp sem f g) σ H Q) : tOp r (tMT T c B f) (tMT T c B g) σ H Q := by
  obtain ⟨G, ρ, R, t, a⟩ := h
  refine ⟨G, ρ, R, t, (AfterT.split a).imp fun d1 ρ1 G1 H1 _ R1 t1 a1 x rx => ?_⟩
  refine ⟨G1, ρ1, R1, t1, (AfterT.split a1).imp fun d2 ρ2 G2 H2 s2 R2 t2 a2 y ry => ?_⟩
  have a2 : AfterT T c B G2 H2 σ ρ2 (M.lift (sem d1 d2) ρ2) (fun d _ G' H' => ∀ v, Rep c G' v d → Q v H') := a2
  cases es : sem d1 d2 with
  | none => rw [es] at a2; exact a2.elim
  | some d =>
    rw [es] at a2
    refine hs G2 H2 x y d1 d2 d Q R2.same (.inl (rx.mono s2.gg)) (.inl ry) es fun G3 H3 v x3 r3 => ?_
    obtain ⟨s4, R4, t4⟩ := step_t R2 t2 (Stp.same x3.gg x3.keep) (R2.ext x3)
    exact a2 _ _ s4 R4 t4 v r3.strip
theorem t_neT {a b : Expr} {f g : M D} {pos : Pos} (hu : X.A.units + 64 < cLine) (ha : PE X a (tMT T c B f)) (hb : PE X b (tMT T c B g)) (hK : c.K = X.K := by rfl) : PT X (.Compare a [.NotEq] [b] pos) (tTT T c B (mB (mCmp sNe f g))) :=
  pt_imp (pt_cmpR (op_neN hu) ha hb (nomark _)) fun σ H Q h => cmp_coreT (by rw [← hK]; exact semNe) (tBT_core h)
end
end Fx
set_option Elab.async false
set_option linter.all false
set_option maxRecDepth 100000
set_option maxHeartbeats 400000
namespace Fx.NT
open PySem PySem.SeqAt
open AutoSeq1 (wpAny_loadPart')
open MeetsSeq MeetsSeq2 MeetsSeq3 SeqRoads2
section
variable {pr : Program} {wd : World} {AA : Around} {RR : Result → Shared → Prop}
/-- != of two tuples whose items are equal one by one -/
theorem ne_same (la lb : Addr) (ia ib : Array Value) (na nb : Nat) (da db : Option Addr) (sa sb : Array (Option Value)) (hz : ia.size = ib.size) (JJ : Nat → Shared → Prop)
    (step : ∀ j (h1 : j < ia.size) (h2 : j < ib.size) s, JJ j s → wpAny (model pr wd) AA.in1 (eqBool ia[j] ib[j]) (fun r s' => r = true ∧ JJ (j + 1) s') (fun e s' => RR (.error e) s') s)
    (stop : ∀ s, JJ ia.size s → RR (.ok (.ret (.bool false))) s) {s : Shared} (ga : s.heap.get? la = some { cls := .type "tuple", dict := da, data := .seq ia na, slots := sa }) (gb : s.heap.get? lb = some { cls := .type "tuple", dict := db, data := .seq ib nb, slots := sb }) (h : JJ 0 s) :
    wpAny (model pr wd) AA.in1 (Builtin.«tuple.__ne__» ⟨[.ref la, .ref lb], []⟩) (GQ.FinOf pr wd AA RR) (fun e s' => RR (.error e) s') s := by
  have ff := AutoSeq1.sub_tuple_tuple
  have zl : (ia.toList.zip ib.toList).length = ia.size := by simp [hz]
  have start := h
  rcases s with ⟨h0, g0, d0, t0, o0⟩
  wp_walk using wpAny_loadPart' ga, wpAny_loadPart' gb, wpAny_forIn_list _ (fun rest b s' => b.1 = none ∧ ∃ j, rest = (ia.toList.zip ib.toList).drop j ∧ j ≤ ia.size ∧ JJ j s') _
  case turn =>
    rintro ⟨v, u⟩ rest b s' ⟨hb', j, hr, hj, hJ⟩
    by_cases lt : j < (ia.toList.zip ib.toList).length
    · have l1 : j < ia.size := zl ▸ lt
      have l2 : j < ib.size := hz ▸ l1
      rw [List.drop_eq_getElem_cons lt] at hr
      injection hr with e1 e2
      obtain rfl : v = ia[j] := (congrArg Prod.fst e1).trans (by simp)
      obtain rfl : u = ib[j] := (congrArg Prod.snd e1).trans (by simp)
      apply wpAny_bind
      refine wpAny_mono (step j l1 l2 s' hJ) ?_ (fun _ _ z => z)
      rintro r s2 ⟨rfl, q2⟩
      wp_walk
      exact ⟨rfl, j + 1, e2, l1, q2⟩
    · rw [List.drop_of_length_le (Nat.le_of_not_lt lt)] at hr; cases hr
  case fin =>
    rintro ⟨b1, b2⟩ s' ⟨hb', j, hr, hj, hJ⟩
    cases (show b1 = none from hb')
    have ej : j = ia.size := by
      by_cases lt : j < (ia.toList.zip ib.toList).length
      · rw [List.drop_eq_getElem_cons lt] at hr; cases hr
      · omega
    have q := stop s' (ej ▸ hJ)
    wp_walk
    simpa [Builtin.Tuple.tupleCompareSizes, hz] using q
  case h => exact ⟨rfl, 0, rfl, Nat.zero_le _, start⟩
end
section
variable {pr : Program} {wd : World} {AA : Around} {EE : Value → Shared → Prop} {s : Shared}
theorem rc_ne {la lb : Addr} {ia ib : Array Value} {QQ : Value → Shared → Prop} (hz : ia.size = ib.size) (hu : AA.units < cLine) (JJ : Nat → Shared → Prop) (hl : s.heap.IsTuple la ia) (hb : s.heap.IsTuple lb ib)
    (step : ∀ j (h1 : j < ia.size) (h2 : j < ib.size) s, JJ j s → wpAny (model pr wd) AA.in1 (eqBool ia[j] ib[j]) (fun r s' => r = true ∧ JJ (j + 1) s') EE s)
    (stop : ∀ s, JJ ia.size s → QQ (.bool false) s) (h : JJ 0 s) : wpAny (model pr wd) AA (richCompare .NotEq (.ref la) (.ref lb)) QQ EE s := by
  obtain ⟨⟨ca, da, xa, sa⟩, ga, e1, na, e2⟩ := id hl
  obtain ⟨⟨cb, db, xb, sb⟩, gb, e3, nb, e4⟩ := id hb
  simp only at e1 e2 e3 e4
  subst e1 e2 e3 e4
  exact wpAny_richCompare_same_room (op := .NotEq) ⟨_, ga, rfl⟩ ⟨_, gb, rfl⟩ F.slot_tuple_ne (GQ.call_here F.slot_tuple_ne ⟨_, ga, rfl⟩ F.entry_tuple_ne (F.args_tuple_ne_2 _ _) (ne_same (RR := wants (fun v s' => v ≠ .notImplemented ∧ QQ v s') EE) la lb ia ib na nb da db sa sb hz JJ step (fun s' q => ⟨(fun z => nomatch z), stop s' q⟩) ga gb h)) hu
end
end Fx.NT
namespace Fx
open PySem L2
section
variable {X : Cx} {n : Nat} {DD : Eqv}
def rNeS (DD : Eqv) : R2 := fun x y H Q => DTup X.K DD x y H ∧ ∀ H', L2.Ext H H' → Q (.bl false) H'
theorem op_neG (hD : Mon DD) (h : EqG X n DD) (hr : Room (n + 1) X.A) : OpR X (compareOp .NotEq) (rNeS (X := X) DD) := by
  rintro pins s σ H x y v u Q I rx ry ⟨⟨a, b, xs, ys, rfl, rfl, ha, hb, p⟩, q⟩
  cases rx
  cases ry
  obtain ⟨its, r, e, z⟩ := I.tuple ha
  obtain ⟨its2, r2, e2, z2⟩ := I.tuple hb
  have hz : its.toArray.size = its2.toArray.size := by rw [List.size_toArray, List.size_toArray, ← r.length, ← r2.length]; exact p.1
  show wpAny (model X.prog X.w) X.A (richCompare .NotEq (.ref a) (.ref b)) _ X.xe s
  exact NT.rc_ne hz hr.units0 (fun _ s' => LoopI X pins σ H s') e e2 (fun i h1 h2 s' q => turnG hD h ⟨hr, rfl⟩ p r r2 i h1 h2 s' q) (fun s' ⟨H', I', x⟩ => ⟨.bl false, H', I', rfl, q H' x⟩) ⟨H, I, Ext.rfl'⟩
end
section
variable {c : Cf} {B : List (Nat × Addr)} {W : WX} {X : Cx} {G G' H H' : Hp} {σ : L2.St} {ρ : Cells} {T : List (Addr × Str)}
theorem flat_str {w : Str} {H : Hp} : DFlat (.str w) (.str w) H := ⟨rfl, rfl, by simp [eqV]⟩
end
end Fx
set_option Elab.async false
set_option linter.all false
set_option maxRecDepth 100000
set_option maxHeartbeats 4000000
namespace Fx
open PySem
section
variable {prog : Program} {w : World} {A : Around} {E : Value → Shared → Prop} {s : Shared}
end
open PySem.Spec PyProof.Rows L2
section
variable {c : Cf} {B : List (Nat × Addr)} {W : WX} {X : Cx} {G : Hp}
def sZipN : D → D → Option (List D)
  | .tup ds, .lst es => some (zipD ds es)
  | _, _ => none
def mZipN (f g : M D) : M (List D) := (seqM [f, g]).bind fun ds => match ds with
  | [d, e] => M.lift (sZipN d e)
  | _ => M.stuck
end
theorem i_zipN {ρ ρ1 ρ2 : Cells} {d e : D} {f g : M D} {ds : List D} (h : f ρ = .ok d ρ1) (h2 : g ρ1 = .ok e ρ2) (h3 : sZipN d e = some ds) : mZipN f g ρ = .ok ds ρ2 := by
  unfold mZipN M.bind
  simp only [seqM, M.bind, h, h2, Out.andThen, M.pure, M.lift, h3]
end Fx
set_option Elab.async false
set_option linter.all false
set_option maxRecDepth 100000
set_option maxHeartbeats 1000000
namespace Fx
open PySem PySem.SeqAt
open AutoSeq1 (wpAny_loadPart')
open L2
section
variable {c : Cf} {B : List (Nat × Addr)} {W : WX} {X : Cx} {G H : Hp}
end
end Fx
set_option Elab.async false
set_option linter.all false
set_option maxRecDepth 100000
set_option maxHeartbeats 2000000
namespace Fx
open PySem PySem.Spec PyProof.Rows L2
/-- an exception's wish through several clauses; the name's slot is i -/
def wCl (K : PySem.W.Frag) (i : Nat) (Wo : WX) (D : Ends) : List (Value × (Addr → Value → Option Addr → TS)) → WX
  | [] => Wo
  | (c, ts) :: r => fun cls d σ H => ∃ b, PySem.W.exmOne K cls c = some b ∧ (b = true → ∀ a, H a = none → ts a cls d { nx := fun σ2 H2 => D.nx (σ2.set i none) H2, rt := D.rt, bk := fun σ2 H2 => D.bk (σ2.set i none) H2, ct := fun σ2 H2 => D.ct (σ2.set i none) H2 } (σ.set i (some (.ref a))) H) ∧
    (b = false → wCl K i Wo D r cls d σ H)
inductive Cls3 (X : Cx) (n : Str) : List ExceptHandler → List (Value × (Addr → Value → Option Addr → TS)) → Prop
  | nil : Cls3 X n [] []
  | cons {x : Str} {c : Value} {ts : Addr → Value → Option Addr → TS} {b₀ : Stmt} {suite : List Stmt} {np pz : Pos} {hs : List ExceptHandler} {l : List (Value × (Addr → Value → Option Addr → TS))} (hc : Names X x c)
      (su : ∀ (a : Addr) (oe : Obj) (cls : Value) (d : Option Addr) (pn : List (Addr × Obj)), Zc cls d oe → (∃ vs, oe.data = .fields vs) → PSs (X.suite a ((a, oe) :: pn)) (b₀ :: suite) (ts a cls d)) (r : Cls3 X n hs l) :
      Cls3 X n (.ExceptHandler (some (.Name x np)) (some n) (b₀ :: suite) pz :: hs) ((c, ts) :: l)
section
variable {X : Cx} {body : List Stmt} {h1 : ExceptHandler} {hs : List ExceptHandler} {l : List (Value × (Addr → Value → Option Addr → TS))} {pos : Pos} {tb : WX → TS} {Wo : WX} {n : Str} {i : Nat}
theorem ps_try_cls (est : X.stack = X.env :: X.outer) (efr : X.env.frame = some X.env.locals) (hN : X.N.Nodup) (hi : X.N[i]? = some n) (hln : X.env.kindOf n = some .local) (tk : Takes X Wo)
    (hb : ∀ (W : WX) (pn : List (Addr × Obj)) (xe : Value → Shared → Prop), Takes (X.tr pn xe) W → PassesOwn (model X.prog X.w) X.A X.env xe → PSs (X.tr pn xe) body (tb W))
    (hh : Cls3 X n (h1 :: hs) l) : PS X (.Try body (h1 :: hs) [] [] pos) (fun D σ H => tb (wCl X.K i Wo D l) D σ H) := by
  constructor; intro pins s σ H D I h
  have ok := I.ok
  have frs2 : X.A.frames = some (X.env :: X.outer) := by rw [ok.frames, est]
  have lo : Loc X.env.scope n := .inl hln
  refine wpAny_Try_except ?_
  have run := (hb (wCl X.K i Wo D l) (X.pn ++ pins) (fun e z1 => wpAny (model X.prog X.w) X.A (noteFrame e X.env) (fun _ z2 => wpAny (model X.prog X.w) X.A (setFlight e none) (fun _ z3 => wpAny (model X.prog X.w) X.A (handleBy e X.env (h1 :: hs)) (SP X pins D) X.xe z3) X.xe z2) X.xe z1) (fun u z xx => ?_) PassesOwn.looking).run [] s σ H D (I.toTry _) h
  · refine wpAny_mono run (fun f z1 hsp => ?_) (fun e z1 he => he)
    match f, hsp with
    | .next, ⟨σ', H', J', q⟩ => exact wpAny_execs_nil ⟨σ', H', J'.ofTry ok, q⟩
    | .brk, ⟨σ', H', J', q⟩ => exact ⟨σ', H', J'.ofTry ok, q⟩
    | .cont, ⟨σ', H', J', q⟩ => exact ⟨σ', H', J'.ofTry ok, q⟩
    | .ret u, ⟨v, σ', H', J', r, q⟩ => exact ⟨v, σ', H', J'.ofTry ok, r, q⟩
  obtain ⟨a, BB, sI, pins', σ', H', cls, d, rfl, J', nb, up, sky, na, os, ag, w⟩ := xx
  have J : Inv X pins σ' H' sI := J'.ofTry ok
  have sk2 : Sky BB (X.env :: X.outer) a (Zc cls d) X.env.locals z.heap := by rw [← est]; exact sky
  show wpAny (model X.prog X.w) X.A (noteFrame (.ref a) X.env) _ _ _
  refine Sky.land Zc.steady frs2 efr sk2 fun g3 fl3 up3 => ?_
  have J3 : Inv X pins σ' H' { z with heap := g3 } := J.landed nb fl3.1 (up.trans up3) os ag
  obtain ⟨oe3, vs3, e3, z3, d3⟩ := fl3.there
  have off : a ∉ frs (X.env :: X.outer) := fun hm => by
    obtain ⟨_, o', e', hnf⟩ := fl3.2.2.1.mem hm
    rw [e3] at e'; cases e'
    exact hnf _ d3
  have nL : a ≠ X.env.locals := fun y => off (List.mem_filterMap.mpr ⟨X.env, List.mem_cons_self, by rw [efr, y]⟩)
  have nF : a ∉ X.fs := fun hm => by
    obtain ⟨e, he, q⟩ := List.mem_filterMap.mp hm
    exact off (List.mem_filterMap.mpr ⟨e, List.mem_cons_of_mem _ he, q⟩)
  have S3 := J3.suite e3 d3 na nL nF
  suffices go : ∀ {hs' : List ExceptHandler} {l' : List (Value × (Addr → Value → Option Addr → TS))}, Cls3 X n hs' l' → wCl X.K i Wo D l' cls d σ' H' → wpAny (model X.prog X.w) X.A (handleBy (.ref a) X.env hs') (SP X pins D) X.xe { z with heap := g3 } from go hh w
  intro hs' l' hk
  induction hk with
  | nil =>
    intro w; apply wpAny_handleBy_nil
    obtain ⟨k1, k2, k3, oe, vs, T, oT, ts', he, hz, hd, hv1, hr⟩ := id fl3
    unfold PySem.passOn; apply wpAny_bind; apply wpAny_field he hd hv1
    rw [if_neg (show ¬ ((Value.ref T == Value.none) = true) from by simp)]
    have fin : wpAny (model X.prog X.w) X.A (setFlight (.ref a) X.env.frame) (fun _ s4 => wpAny (model X.prog X.w) X.A (throw (.ref a) : Sem Flow) (SP X pins D) X.xe s4) X.xe { z with heap := g3 } := by
      rw [efr]
      exact HandSPX.setFlight_upZ fl3 fun h4 hh4 up4 => wpAny_throw (tk _ _ ⟨a, BB, sI, pins, σ', H', cls, d, rfl, J, nb, (up.trans up3).trans up4, .inr (.inr (by rw [est]; exact hh4)), na, os, ag, w⟩)
    first
      | exact wpAny_bind (wpAny_pure (wpAny_bind fin))
      | exact wpAny_bind fin
  | @cons x c ts b₀ suite np pz hs2 l2 hc su r ih =>
    rintro ⟨b, hb1, yes, no⟩
    refine wpAny_handleBy_cons (codeAny_handlers_test ?_) (by intro q; cases q)
    have lT : PySem.W.Looks (model X.prog X.w) g3 (typeOf (.ref a)) cls := fun A Q E y k q => wpAny_typeOf_ref (k _ _ e3) (by rw [z3.1]; exact q)
    have lM := PySem.W.exm_one (M := model X.prog X.w) (J3.kIn) lT hb1
    have tst : ∀ {Q : Value → Shared → Prop} {E : Value → Shared → Prop}, Q c { z with heap := g3 } → wpAny (model X.prog X.w) (X.A.mark (some (.ref a))) (eval (.Name x np) X.env) Q E { z with heap := g3 } := fun {Q E} q => by
      rcases hc with ⟨hg, hdb, hm | ⟨hm, hv, hnn⟩⟩
      · exact ld_glob (X := X.suite a ((a, oe3) :: (X.pn ++ pins))) S3 hg hm q hdb
      · exact ld_blt (X := X.suite a ((a, oe3) :: (X.pn ++ pins))) S3 hg hm hv q hnn hdb
    apply tst; apply lM.here
    cases b with
    | false => exact ih (no rfl)
    | true =>
      apply codeAny_handlers_suite_as
      refine HandSPX.lands_againZ fl3 fun g4 fl4 up4 => ?_
      have J4 : Inv X pins σ' H' { z with heap := g4 } := J.landed nb fl4.1 ((up.trans up3).trans up4) os ag
      obtain ⟨oe4, vs4, e4, z4, d4⟩ := fl4.there
      refine store_ok (X := X.suite a ((a, oe4) :: (X.pn ++ pins))) (v := .ref a) (J4.suite e4 d4 na nL nF) hN hi lo rfl (fun s5 S5 => ?_) (.inr hln)
      refine wpAny_mono ((su a oe4 cls d (X.pn ++ pins) z4 ⟨_, d4⟩).run [] s5 _ H' _ S5 (yes rfl a na)) (fun f s6 hsp => ?_) (fun _ _ y => False.elim y)
      have out : ∀ {σ6 : L2.St} {H6 : Hp} {Q : Shared → Prop}, Inv (X.suite a ((a, oe4) :: (X.pn ++ pins))) [] σ6 H6 s6 → (∀ s7, Inv X pins (σ6.set i none) H6 s7 → Q s7) → wpAny (model X.prog X.w) X.A (do bindName X.env n .none; unbindBehindTheSuite X.env n pz) (fun _ s7 => Q s7) X.xe s6 := fun {σ6 H6 Q} S6 hq => gone_ok (S6.unsuite ok) hN hi hln hq
      match f, hsp with
      | .next, ⟨σ6, H6, S6, q6⟩ => exact out S6 fun s7 J7 => ⟨_, _, J7, q6⟩
      | .brk, ⟨σ6, H6, S6, q6⟩ => exact out S6 fun s7 J7 => ⟨_, _, J7, q6⟩
      | .cont, ⟨σ6, H6, S6, q6⟩ => exact out S6 fun s7 J7 => ⟨_, _, J7, q6⟩
      | .ret u, ⟨v6, σ6, H6, S6, r6, q6⟩ => exact out S6 fun s7 J7 => ⟨_, _, _, J7, r6, q6⟩
end
end Fx
set_option Elab.async false
set_option linter.all false
set_option maxRecDepth 100000
set_option maxHeartbeats 2000000
namespace Fx
open PySem L2
/-- one clause's suite: found = what hv makes of the error -/
def TSc (c : Cf) (k : Nat) (hv : Exc → Option D) : Addr → Value → Option Addr → L2.TS := fun a cls d D σ H => tHv c k 2 a cls d hv σ H fun v H' => D.nx (σ.set 1 (some v)) H'
/-- the first clause that takes the error -/
def hvL (ks : List Nat) : List (Nat × (Exc → Option D)) → Exc → Option D
  | [], _ => none
  | q :: cl, x => if x.c ∈ ks then (if x.c = q.1 then q.2 x else hvL ks cl x) else none
theorem wCl_of {K : PySem.W.Frag} {c : Cf} {ks : List Nat} {x : Exc} {e : D} {G H : Hp} {d : Option Addr} {σ : L2.St} {Z : Ends} (hx : ∃ dd, d = some dd ∧ ExcAt c G x dd) (hs : Same G H) (hl : 2 < σ.length) :
    ∀ cl : List (Nat × (Exc → Option D)), (∀ q ∈ cl, PySem.W.exmOne K (.ref (c.exc x.c)) (.ref (c.exc q.1)) = some (x.c == q.1)) → hvL ks cl x = some e → (∀ a, K1 c G H e (fun v H' => Z.nx (((σ.set 2 (some (.ref a))).set 1 (some v)).set 2 none) H')) →
      wCl K 2 W0 Z (cl.map fun q => ((.ref (c.exc q.1) : Value), TSc c q.1 q.2)) (.ref (c.exc x.c)) d σ H
  | [], _, h, _ => by cases h
  | q :: cl, hk, h, hq => by
    unfold hvL at h
    by_cases hin : x.c ∈ ks
    · rw [if_pos hin] at h
      refine ⟨x.c == q.1, hk q List.mem_cons_self, fun hb a ha => ?_, fun hb => ?_⟩
      · have hb := beq_iff_eq.mp hb
        rw [if_pos hb] at h
        exact ⟨G, x, e, ⟨by rw [hb], hb, hx, hs, List.getElem?_set_self hl⟩, h, hq a⟩
      · rw [if_neg (fun z => by rw [z] at hb; simp at hb)] at h
        exact wCl_of hx hs hl cl (fun y hy => hk y (List.mem_cons_of_mem _ hy)) h hq
    · rw [if_neg hin] at h; cases h
theorem hvL_in {ks : List Nat} {x : Exc} {e : D} : ∀ {cl : List (Nat × (Exc → Option D))}, hvL ks cl x = some e → x.c ∈ ks
  | [], h => by cases h
  | q :: cl, h => by
    unfold hvL at h
    by_cases hin : x.c ∈ ks
    · exact hin
    · rw [if_neg hin] at h; cases h
theorem gives_cls {X : Cx} {c : Cf} {ks : List Nat} {cl : List (Nat × (Exc → Option D))} {a nf en x q : Str} {sg : Scope} {g : Addr} {cdg : Value} {j : Nat} {h1 : ExceptHandler} {hs : List ExceptHandler} {p0 p1 p2 p3 p4 p5 p6 p7 p8 : Pos}
    (hex : ∀ k ∈ ks, ∀ q ∈ cl, PySem.W.exmOne X.K (.ref (c.exc k)) (.ref (c.exc q.1)) = some (k == q.1))
    (nd : [a, nf, en].Nodup) (vf : Vis sg nf) (lf : sg.names.lookup nf = some .local) (le : sg.names.lookup en = some .local) (d1 : (nf == ("__debug__" : Str)) = false) (d2 : (nf == ("__classdict__" : Str)) = false)
    (hcl : ∀ (s : Shared) (H : Hp), Cls3 (cxOf C8.CX0 X.prog X.w X.K X.mg X.base [a, nf, en] x sg g cdg X.A X.stack s H C8.E0).nox en (h1 :: hs) (cl.map fun q => ((.ref (c.exc q.1) : Value), TSc c q.1 q.2))) :
    GivesS X [a, nf, en] x sg g cdg [.Assign [.Name nf p0] (.Constant .none j p1) p2, .Try [.Expr (.Call (.Name a p3) [] [] p4) p5] (h1 :: hs) [] [] p6, .Return (some (.Name nf p7)) p8] a q (TTx c (fun _ => .non) (hvL ks cl)) := by
  intro f c' s H Q tl act hc ⟨G, o, hsm, sp, res⟩
  let Z := (cxOf C8.CX0 X.prog X.w X.K X.mg X.base [a, nf, en] x sg g cdg X.A X.stack s H C8.E0).nox
  let TB : WX → L2.TS := fun W D σ H => σ[0]? = some (some (.ref f)) ∧ H c' = some (LamX.CodeO c' q) ∧ tl (fun cls d H' => W cls d σ H') H (fun v H' => D.nx σ H')
  have s1 : PS Z (.Assign [.Name nf p0] (.Constant .none j p1) p2) (tAsg (tC .non) (gName 1)) := ps_asg pe_non (pg_name (i := 1) nd rfl (.inl lf) (.inr lf))
  have HB : ∀ (W : WX) (pn : List (Addr × Obj)) (xe : Value → Shared → Prop), Takes (Z.tr pn xe) W → PassesOwn (model X.prog X.w) Z.A Z.env xe → PSs (Z.tr pn xe) [.Expr (.Call (.Name a p3) [] [] p4) p5] (TB W) := fun W pn xe tk _ =>
    pss_one (ps_imp (ps_expr (act W pn xe p3 p4 tk)) fun D σ H h => h)
  have s2 := ps_try_cls (X := Z) (n := en) (i := 2) (pos := p6) (tb := TB) (Wo := W0) rfl rfl nd rfl le takes0 HB (hcl s H)
  have s3 : PSs Z [.Return (some (.Name nf p7)) p8] _ := pss_one (ps_ret (pe_var (i := 1) rfl vf d1 d2))
  refine ⟨_, pss_cons s1 (pss_cons s2 s3), ?_⟩
  have fin : ∀ (σ : L2.St) (v : V) (H' : Hp), σ.length = 3 → Q v H' → tVar 1 (σ.set 1 (some v)) H' Q := fun σ v H' hl h => ⟨v, List.getElem?_set_self (by omega), h⟩
  refine ⟨rfl, hc, sp _ _ ?_⟩
  cases o with
  | stuck => exact res
  | ok d ρ =>
    intro G' H' v h1 h2 h3 r
    exact fin _ .non H' rfl ((res G' H' h1 h2 h3).flat h3 .non)
  | exc x ρ =>
    intro G' H' dd h1 h2 h3 hx
    obtain ⟨e, he, hk⟩ := res G' H' dd h1 h2 h3 hx
    refine wCl_of (ks := ks) ⟨dd, rfl, hx⟩ h3 (show 2 < ((L2.start [a, nf, en] [V.ref f]).set 1 (some V.non)).length from by rw [List.length_set]; exact Nat.lt_succ_self 2) cl (fun q hq => hex _ (hvL_in he) q hq) he fun b G2 H2 v x2 r => ?_
    exact ⟨v, rfl, hk G2 H2 v x2 r⟩
end Fx
set_option Elab.async false
set_option linter.all false
set_option maxRecDepth 100000
set_option maxHeartbeats 2000000
namespace Fx
open PySem L2
section
variable {c : Cf} {B : List (Nat × Addr)} {W : WX} {X : Cx} {G G' H H' : Hp} {A A' : Addr → Prop} {σ σ' : L2.St} {ρ ρ' : Cells} {T : List (Addr × Str)}
end
/-- how the classes of the clauses and of the errors stand to each other -/
structure AskC (K : PySem.W.Frag) (c : Cf) (ks js : List Nat) : Prop where
  ex : ∀ k ∈ ks, ∀ j ∈ js, PySem.W.exmOne K (.ref (c.exc k)) (.ref (c.exc j)) = some (k == j)
end Fx
set_option Elab.async false
set_option linter.all false
set_option maxRecDepth 100000
set_option maxHeartbeats 2000000
namespace Fx
open PySem L2
section
variable {c : Cf} {B : List (Nat × Addr)} {W : WX} {X : Cx} {G G' H H' : Hp} {A A' : Addr → Prop} {σ σ' : L2.St} {ρ ρ' : Cells} {T : List (Addr × Str)}
end
end Fx
set_option Elab.async false
set_option linter.all false
set_option maxRecDepth 100000
set_option maxHeartbeats 4000000
namespace Fx.SK
open PySem PySem.Calls PyProof.Rows PySem.W
variable {prog : Program} {w : World} {A : Around} {E : Value → Shared → Prop} {s : Shared} {a kS : Addr} {vs : List Value} {keys : Array Value} {e e1 : Nat} {P : PySem.Fin → Shared → Prop} {kz : List PyData}
/-- all but two objects stay -/
def But (a k : Addr) (h h' : Heap) : Prop := ∀ b o, b ≠ a → b ≠ k → h.get? b = some o → h'.get? b = some o
theorem tail {st : SortSt} {out : List Value} (nk : s.heap.get? kS = some (seqObj "list" keys e)) (na : s.heap.get? a = some (seqObj "list" #[] e1)) (hka : kS ≠ a)
    (hsz : keys.size ≤ sizeLine) (hz : out.length ≤ sizeLine) (hfl : failedOf st = none) (ho : (arrOf st).map (·.2) = out.toArray)
    (h : ∀ h' tk c, But a kS s.heap h' → h'.get? a = some (seqObj "list" out.toArray c) → (∃ o, h'.get? kS = some o) → P (.done (.ret .none)) { s with heap := h', toks := tk }) :
    wpAny (model prog w) A (ksk_tail a false e1 (.ref kS) st) P E s := by
  have s1 := Heap.SameBut.update s.heap kS (Obj.mapSeq fun _ => (#[] : Array Value))
  have na1 := (s1.2 a hka.symm).trans na
  obtain ⟨c1, nk1⟩ : ∃ c1, (s.heap.update kS (Obj.mapSeq fun _ => (#[] : Array Value))).get? kS = some (seqObj "list" #[] c1) := ⟨_, get?_update_seq nk fun _ => #[]⟩
  have s2 := Heap.SameBut.update (s.heap.update kS (Obj.mapSeq fun _ => (#[] : Array Value))) a (Obj.mapSeq fun _ => out.toArray)
  obtain ⟨c2, hc2⟩ : ∃ c2, ((s.heap.update kS (Obj.mapSeq fun _ => (#[] : Array Value))).update a (Obj.mapSeq fun _ => out.toArray)).get? a = some (seqObj "list" out.toArray c2) := ⟨_, get?_update_seq na1 fun _ => out.toArray⟩
  unfold ksk_tail
  try dsimp only
  rw [ho]
  refine wpAny_bind (listUpdate_at nk rfl ?_ hsz (Nat.zero_le _))
  refine wpAny_bind (wpAny_letGo ?_)
  refine wpAny_bind (seqEpoch_at na1 rfl ?_)
  refine wpAny_bind (listUpdate_at na1 rfl ?_ (Nat.zero_le _) (by simp only [Bool.false_eq_true, if_false, List.size_toArray]; omega))
  rw [hfl]
  simp only [bne_self_eq_false, Bool.false_eq_true, if_false]
  exact wpAny_pure (h _ _ c2 (fun b o h1 h2 q => (s2.2 b h1).trans ((s1.2 b h2).trans q)) hc2 ⟨_, (s2.2 kS hka).trans nk1⟩)
theorem fin {κ : PyProof.Rows.KeyKind} (nk : s.heap.get? kS = some (seqObj "list" keys e)) (na : s.heap.get? a = some (seqObj "list" #[] e1)) (hka : kS ≠ a) (S : SortsAt prog w A s κ keys.toList) (hsz : keys.size = vs.length) (hZ : vs.length ≤ sizeLine)
    (h : ∀ h' tk c, But a kS s.heap h' → h'.get? a = some (seqObj "list" (sortVals κ false keys.toList vs).toArray c) → (∃ o, h'.get? kS = some o) → P (.done (.ret .none)) { s with heap := h', toks := tk }) :
    wpAny (model prog w) A (ksk_end a false vs.toArray e1 (.ref kS) keys) P E s := by
  obtain ⟨kd, h1, h2⟩ := S.kind
  have hkl : keys.toList.length = vs.length := by rw [Array.length_toList]; exact hsz
  have hK : PyProof.Rows.KeysOf κ (keys.zip vs.toArray) := keysOf_zip S.keys
  have hol : (sortVals κ false keys.toList vs).length = vs.length := sortVals_length false hkl
  have hzs : (keys.zip vs.toArray).size = vs.length := by rw [Array.size_zip, hsz, List.size_toArray, Nat.min_self]
  have done : ∀ st' : SortSt, (arrOf st').Perm (keys.zip vs.toArray) → SortedToK κ (arrOf st') (keys.zip vs.toArray).size → Stable κ (arrOf st') (keys.zip vs.toArray) → (arrOf st').map (·.2) = (sortVals κ false keys.toList vs).toArray := fun st' hp hs ht => by
    have q := congrArg List.toArray (sort_out (rev := false) (keys := keys) (items := vs.toArray) (xs := arrOf st') (κ := κ) hK (by simpa using hp) (by simpa using hs) (by simpa using ht))
    rw [Array.toArray_toList] at q
    simpa using q
  unfold ksk_end
  simp only [Bool.false_eq_true, if_false]
  by_cases hl2 : vs.toArray.size < 2
  · rw [if_pos hl2, if_pos hl2]
    refine wpAny_bind (wpAny_pure ?_)
    rw [StateT.run_pure]
    refine wpAny_bind (wpAny_pure ?_)
    try dsimp only
    refine tail (st := SortSt.mk' general' (keys.zip vs.toArray) #[] 7 none) nk na hka (by rw [hsz]; exact hZ) (by rw [hol]; exact hZ) rfl (done _ (Array.Perm.refl _) ?_ (Stable.refl _)) h
    intro i j hij hj
    rw [hzs] at hj
    rw [List.size_toArray] at hl2
    obtain rfl : i = j := by omega
    exact KeyOrd.kle_refl _
  · rw [if_neg hl2, if_neg hl2]
    rw [List.size_toArray] at hl2
    refine wpAny_bind (h2 (by omega) _ ?_)
    refine wpAny_bind (wpAny_mono (H.wpS_sortRunsSt (κ := κ) (kd := kd) (a₀ := keys.zip vs.toArray) (st := SortSt.mk' kd (keys.zip vs.toArray) #[] 7 none)
      (Q := fun _ st' => failedOf st' = none ∧ (arrOf st').map (·.2) = (sortVals κ false keys.toList vs).toArray)
      h1 hK ⟨Array.Perm.refl _, rfl, rfl⟩ rfl (Stable.refl _) (by rw [hzs]; omega) fun st' a1 a2 a3 a4 => ⟨a2, done st' a1 a3 a4⟩) ?_ fun _ _ e => e)
    rintro ⟨⟨⟩, st'⟩ s' ⟨rfl, hf, ho⟩
    try dsimp only at ho ⊢
    exact tail nk na hka (by rw [hsz]; exact hZ) (by rw [hol]; exact hZ) hf ho h
/-- the turns; J tells what holds of the state when some keys have been made -/
theorem rest {f : Value} (J : List Value → Shared → Prop) (nk : s.heap.get? kS = some (seqObj "list" #[] 0)) (na : s.heap.get? a = some (seqObj "list" #[] e1)) (hka : kS ≠ a) (hZ : vs.length ≤ sizeLine) (j0 : J [] s)
    (stable : ∀ us (s1 : Shared) h', J us s1 → (∃ o, s1.heap.get? kS = some o) → (∃ o, s1.heap.get? a = some o) → But a kS s1.heap h' → (∃ o, h'.get? kS = some o) → (∃ o, h'.get? a = some o) → ∀ tk, J us { s1 with heap := h', toks := tk })
    (turn : ∀ us (v : Value) (s1 : Shared) (ko ao : Obj), vs[us.length]? = some v → J us s1 → s1.heap.get? kS = some ko → s1.heap.get? a = some ao → wpAny (model prog w) A (call f [v]) (fun u s2 => J (us ++ [u]) s2 ∧ s2.heap.get? kS = some ko ∧ s2.heap.get? a = some ao) (fun _ _ => False) s1)
    (last : ∀ us (s1 : Shared), us.length = vs.length → J us s1 → (∃ o, s1.heap.get? kS = some o) → (∃ o, s1.heap.get? a = some o) → ∃ κ, SortsAt prog w A s1 κ us ∧ ∀ h' tk c, But a kS s1.heap h' → h'.get? a = some (seqObj "list" (sortVals κ false us vs).toArray c) → (∃ o, h'.get? kS = some o) → P (.done (.ret .none)) { s1 with heap := h', toks := tk }) :
    wpAny (model prog w) A (ksk_rest a f false vs.toArray e1 (.ref kS)) P E s := by
  unfold ksk_rest
  refine wpAny_bind (wpAny_rule ?_)
  first
    | rw [List.forIn_toArray]
    | (rw [← Array.forIn_toList]; simp only [List.toList_toArray])
    | rw [← Array.forIn_toList]
  refine wpAny_bind (ksk_fold (fun i s' => ∃ kA c, s'.heap.get? kS = some (seqObj "list" kA c) ∧ s'.heap.get? a = some (seqObj "list" #[] e1) ∧ kA.size = i ∧ J kA.toList s') vs 0 s ⟨#[], 0, nk, na, rfl, j0⟩ ?step ?done)
  case step =>
    rintro j x s1 hx ⟨kA, c, nk1, na1, hs, hJ⟩
    have hj : j < vs.length := (List.getElem?_eq_some_iff.mp hx).1
    rw [Nat.zero_add] at hs
    refine wpAny_bind (wpAny_attempt (wpAny_mono (turn kA.toList x s1 _ _ (by rw [Array.length_toList, hs]; exact hx) hJ nk1 na1) (fun u s2 q => ?_) fun _ _ z => z.elim))
    obtain ⟨hJ2, nk2, na2⟩ := q
    try dsimp only
    have s1b := Heap.SameBut.update s2.heap kS (Obj.mapSeq (·.push u))
    obtain ⟨c2, hc2⟩ : ∃ c2, (s2.heap.update kS (Obj.mapSeq (·.push u))).get? kS = some (seqObj "list" (kA.push u) c2) := ⟨_, get?_update_seq nk2 (·.push u)⟩
    refine wpAny_bind (listUpdate_at nk2 rfl ?_ (by omega) (Nat.le_trans (Nat.le_of_eq (Array.size_push ..)) (by omega)))
    have na3 := (s1b.2 a hka.symm).trans na2
    refine wpAny_pure ⟨rfl, kA.push u, c2, hc2, na3, by rw [Array.size_push, hs]; omega, ?_⟩
    have q := stable _ _ (s2.heap.update kS (Obj.mapSeq (·.push u))) hJ2 ⟨_, nk2⟩ ⟨_, na2⟩ (fun b o h1 h2 q => (s1b.2 b h2).trans q) ⟨_, hc2⟩ ⟨_, na3⟩
    rw [show (kA.push u).toList = kA.toList ++ [u] by simp]
    exact q _
  case done =>
    rintro s1 ⟨kA, c, nk1, na1, hs, hJ⟩
    try dsimp only
    rw [Nat.zero_add] at hs
    have hl : kA.toList.length = vs.length := by rw [Array.length_toList]; exact hs
    refine wpAny_bind (listItems_at nk1 rfl ?_)
    obtain ⟨κ, S, h⟩ := last _ _ hl hJ ⟨_, nk1⟩ ⟨_, na1⟩
    exact fin (κ := κ) nk1 na1 hka S hs hZ h
end Fx.SK
set_option Elab.async false
set_option linter.all false
set_option maxRecDepth 100000
set_option maxHeartbeats 4000000
namespace Fx
open PySem L2
inductive RowsOf (K : PySem.W.Frag) (H : Hp) : List V → List (List Int) → Prop
  | nil : RowsOf K H [] []
  | cons {a : Addr} {is : List Int} {ks : List V} {iss : List (List Int)} : SqL K H a (is.map V.int) → RowsOf K H ks iss → RowsOf K H (.ref a :: ks) (is :: iss)
section
variable {X : Cx} {pins : List (Addr × Obj)} {σ : L2.St} {H : Hp} {s : Shared}
end
end Fx
set_option Elab.async false
set_option linter.all false
set_option maxRecDepth 100000
set_option maxHeartbeats 4000000
namespace Fx
open PySem L2
def keyInts : List D → Option (List Int)
  | [] => some []
  | .int i :: r => (keyInts r).map (i :: ·)
  | _ => none
def keyOf (n : Nat) (fb : M D) (d : D) : Option (List Int) := match fb (initC n [] [d]) with
  | .ok (.lst es) _ => keyInts es
  | _ => none
section
variable {c : Cf} {B : List (Nat × Addr)} {W : WX} {X : Cx} {G G' H H' : Hp} {A A' : Addr → Prop} {σ σ' : L2.St} {ρ ρ' : Cells} {T : List (Addr × Str)}
inductive RowsG (K : PySem.W.Frag) (G : Hp) : List V → List (List Int) → Prop
  | nil : RowsG K G [] []
  | snoc {a : Addr} {is : List Int} {ks : List V} {iss : List (List Int)} : RowsG K G ks iss → LsG K G a (is.map V.int) → RowsG K G (ks ++ [.ref a]) (iss ++ [is])
theorem RowsOf.snoc {K : PySem.W.Frag} {H : Hp} {ks : List V} {iss : List (List Int)} (h : RowsOf K H ks iss) {a : Addr} {is : List Int} (q : SqL K H a (is.map V.int)) : RowsOf K H (ks ++ [.ref a]) (iss ++ [is]) := by
  induction h with
  | nil => exact .cons q .nil
  | cons h r ih => exact .cons h ih
theorem RowsG.of {K : PySem.W.Frag} {ks : List V} {iss : List (List Int)} (h : RowsG K G ks iss) (s : Same G H) : RowsOf K H ks iss := by
  induction h with
  | nil => exact .nil
  | snoc _ q ih => exact ih.snoc (q.mono s).sq
theorem RowsG.mono {K : PySem.W.Frag} {ks : List V} {iss : List (List Int)} (h : RowsG K G ks iss) (s : Same G G') : RowsG K G' ks iss := by
  induction h with
  | nil => exact .nil
  | snoc _ q ih => exact ih.snoc (q.mono s)
end
end Fx
set_option Elab.async false
set_option linter.all false
set_option maxRecDepth 100000
set_option maxHeartbeats 4000000
namespace Fx
open PySem L2
section
variable {c : Cf} {B : List (Nat × Addr)} {W : WX} {X : Cx} {G G' H H' : Hp} {A A' : Addr → Prop} {σ σ' : L2.St} {ρ ρ' : Cells} {T : List (Addr × Str)} {Z : Ends}
end
section
variable {P : Program} {w : World} {K : PySem.W.Frag} {mg : Str → Option Value} {base : Heap} {c : Cf} {T : List (Addr × Str)}
end
section
variable {c : Cf} {B : List (Nat × Addr)} {W : WX} {X : Cx} {G G' H H' : Hp} {A A' : Addr → Prop} {σ σ' : L2.St} {ρ ρ' : Cells} {T : List (Addr × Str)} {Z : Ends}
end
end Fx
set_option Elab.async false
set_option linter.all false
set_option maxRecDepth 100000
set_option maxHeartbeats 4000000
namespace Fx
open PySem L2
section
variable {c : Cf} {B : List (Nat × Addr)} {W : WX} {X : Cx} {G H : Hp}
end
end Fx
set_option Elab.async false
set_option linter.all false
set_option maxRecDepth 100000
set_option maxHeartbeats 4000000
namespace L2
open PySem PySem.Spec PyProof.Rows
section
variable {P : Program} {w : World} {A : Around} {E : Value → Shared → Prop} {s : Shared}
end
end L2
namespace Fx
open PySem L2
section
variable {c : Cf} {B : List (Nat × Addr)} {W : WX} {X : Cx} {G H : Hp} {A : Addr → Prop} {σ : L2.St} {ρ : Cells}
end
end Fx
set_option Elab.async false
set_option linter.all false
set_option maxRecDepth 100000
set_option maxHeartbeats 4000000
namespace Fx
open PySem L2
section
variable {c : Cf} {B : List (Nat × Addr)} {W : WX} {X : Cx} {G G' H H' : Hp} {A A' : Addr → Prop} {σ σ' : L2.St} {ρ ρ' : Cells} {T : List (Addr × Str)}
end
end Fx
set_option Elab.async false
set_option linter.all false
set_option maxRecDepth 100000
set_option maxHeartbeats 4000000
namespace Fx
open PySem L2
section
variable {c : Cf} {B : List (Nat × Addr)} {W : WX} {X : Cx} {G H : Hp} {A : Addr → Prop} {σ : L2.St} {ρ : Cells} {Z : Ends}
/-- a method that gives a new list -/
structure CalFr (P : Program) (w : World) (K : PySem.W.Frag) (mg : Str → Option Value) (base : Heap) (c : Cf) (k : Nat) (m : Str) (F : Fn) : Prop where
  ex : ∃ f fd ps, Meth K c.farm m f ∧ FnOk P w K mg base (L2.CX P w) k f fd ps (spFr c [] 1 F) ∧ Binds K fd ps []
theorem pf_calF0 {F : Fn} {fo : M D} {E : XK} {k j : Nat} {m : Str} {apos pos : Pos} {o : Expr} {pl : Sem Bool} (T : Cls X.K c.farm) (C : CalFr X.prog X.w X.K X.mg X.base c j m F) (hr : Room k X.A) (tk : Takes X (fun cls d _ H => E cls d H)) (he : PE X o (tM c B (fun cls d _ H => E cls d H) fo)) (hj : j ≤ k := by decide)
    (ht : eval (.Call (.Attribute o m apos) [] [] pos) X.env = (do
      let ov ← eval o X.env
      standAt apos.atName
      let (f, first) ← holding [ov] (getMethod ov m pl)
      callWith pos f first (backTo pos (starEach [] X.env)) (backToKw pos (keywordEach [] X.env))) := by rfl) :
    PE X (.Call (.Attribute o m apos) [] [] pos) (tF c B (fun cls d _ H => E cls d H) (mMethF F m fo [])) := by
  obtain ⟨f, fd, ps, hm, Fo, hb⟩ := C.ex
  refine pe_imp (pe_meth0 he T hm Fo (hr.mono hj) hb .nil (passE tk) ht) fun σ H Q h => ?_
  obtain ⟨G, A, ρ, R, a⟩ := h
  refine ⟨G, A, ρ, R, a.split.imp fun d ρ1 G1 H1 _ _ R1 q v r => ?_⟩
  cases hd : noName m d with
  | false => rw [hd, if_neg Bool.false_ne_true] at q; exact q.elim
  | true =>
    rw [hd, if_pos rfl] at q
    cases d <;> first | (cases hd; done) | skip
    rename_i ns ds0
    have r0 := r
    cases r with
    | rcd h l rl =>
      refine ⟨_, _, _, rfl, R1.same _ _ h, zip_none (by simpa [noName] using hd), G1, _, [.rcd ns ds0], rfl, argsOk_rep R1.same (.one r0), ?_⟩
      have q : After c B (fun cls d _ H => E cls d H) G1 A H1 σ (appF F [.rcd ns ds0] ρ1) (fun d x G' H' => ∀ p H2, H' p = none → Same H' H2 → Own c G' (H2 p) d → Q (.ref p) H2) := q
      unfold appF at q
      cases ef : F [.rcd ns ds0] with
      | stuck => rw [ef] at q; exact q.elim
      | ret d outs =>
        rw [ef] at q
        intro G' H' p H2 r hp hh ho
        obtain ⟨s1, k1, R3⟩ := r.rel R1
        exact q G' H' s1 k1 R3 p H2 hp hh ho
      | exc y outs =>
        rw [ef] at q
        intro G' H' dd r rx
        obtain ⟨s1, k1, R3⟩ := r.rel R1
        exact q G' H' dd s1 k1 R3 rx
end
end Fx
set_option Elab.async false
set_option linter.all false
set_option maxRecDepth 100000
set_option maxHeartbeats 4000000
namespace Fx
open PySem L2 PyProof.Rows
mutual
def noL : D → Bool
  | .non => true
  | .bl _ => true
  | .int _ => true
  | .str _ => true
  | .tup ds => noLs ds
  | .lst _ => false
  | .dic _ _ => false
  | .rcd _ ds => noLs ds
  | .exc _ _ => false
  | .raw _ => true
def noLs : List D → Bool
  | [] => true
  | d :: ds => noL d && noLs ds
end
section
variable {c : Cf} {B : List (Nat × Addr)} {W : WX} {X : Cx} {G G' H : Hp} {A : Addr → Prop} {σ : L2.St} {ρ : Cells}
mutual
theorem Rep.noL {p : Addr} {xs : List V} (hp : G p = some (.lst xs)) (hG : ∀ b, b ≠ p → G' b = G b) : ∀ {v : V} {d : D}, Rep c G v d → noL d = true → Rep c G' v d
  | _, _, .non, _ => .non
  | _, _, .bl b, _ => .bl b
  | _, _, .int i, _ => .int i
  | _, _, .str x, _ => .str x
  | _, _, .tup s r, h => .tup (by
      rcases s with ⟨o, h1, h2⟩ | s
      · refine .inl ⟨o, ?_, h2⟩
        rw [hG _ (fun z => by rw [z, hp] at h1; cases h1)]
        exact h1
      · exact .inr s) (RepL.noL hp hG r (by simpa [Fx.noL] using h))
  | _, _, .lst _ _, h => by simp [Fx.noL] at h
  | _, _, .dic _ _ _, h => by simp [Fx.noL] at h
  | _, _, .rcd s l r, h => .rcd (by
      rw [hG _ (fun z => by rw [z, hp] at s; cases s)]
      exact s) l (RepL.noL hp hG r (by simpa [Fx.noL] using h))
  | _, _, .raw v, _ => .raw v
  | _, _, .std _ _ _, h => by simp [Fx.noL] at h
theorem RepL.noL {p : Addr} {xs : List V} (hp : G p = some (.lst xs)) (hG : ∀ b, b ≠ p → G' b = G b) : ∀ {vs : List V} {ds : List D}, RepL c G vs ds → noLs ds = true → RepL c G' vs ds
  | _, _, .nil, _ => .nil
  | _, _, .cons r t, h => by
    simp only [Fx.noLs, Bool.and_eq_true] at h
    exact .cons (Rep.noL hp hG r h.1) (RepL.noL hp hG t h.2)
end
def mThawE (i : Nat) (f : M D) : M D := fun ρ => match ρ[i]? with
  | some (.own (.lst ds)) => match f (ρ.set i (.dat (.lst ds))) with
    | .ok e ρ' => if (noL e && cellsOk i 0 ρ ρ') = true then .ok e ρ else .stuck
    | _ => .stuck
  | _ => .stuck
theorem thawE_read {i : Nat} {f : M D} {Q : VK} (hb : B.all (fun q => q.1 != i) = true) : tM c B W (mThawE i f) σ H Q → tM c B W f σ H Q := fun ⟨G, A, ρ, R, a⟩ => by
    unfold mThawE at a
    cases ei : ρ[i]? with
    | none => simp only [ei] at a; exact a.elim
    | some cl =>
      simp only [ei] at a
      cases cl with
      | no => exact a.elim
      | dat d => exact a.elim
      | own d =>
        cases d <;> first | exact a.elim | skip
        rename_i ds
        obtain ⟨p, es, hA, hO⟩ := R.own i _ ei
        obtain ⟨xs, hu, hr⟩ := hO
        obtain ⟨gp, _⟩ := R.ownA p hA
        have R1 := R.freeze ei es hu hb
        refine ⟨_, _, _, R1, ?_⟩
        have a : After c B W G A H σ (match f (ρ.set i (.dat (.lst ds))) with
          | .ok e ρ' => if (noL e && cellsOk i 0 ρ ρ') = true then Out.ok e ρ else .stuck
          | _ => .stuck) (fun d _ G' H' => ∀ v, Rep c G' v d → Q v H') := a
        cases ef : f (ρ.set i (.dat (.lst ds))) with
        | stuck => rw [ef] at a; exact a.elim
        | exc x ρ' => rw [ef] at a; exact a.elim
        | ok e ρ' =>
          rw [ef] at a
          intro G2 H2 s2 k2 R2 v rv
          have a : After c B W G A H σ (if (noL e && cellsOk i 0 ρ ρ') = true then Out.ok e ρ else .stuck) (fun d _ G' H' => ∀ v, Rep c G' v d → Q v H') := a
          split at a
          · rename_i hc
            simp only [Bool.and_eq_true] at hc
            obtain ⟨hn, hc⟩ := hc
            have hp2 : G2 p = some (.lst xs) := s2 p _ upd_same
            have hh2 : H2 p = some (.lst xs) := R2.same p _ hp2
            have g3 : ∀ b, b ≠ p → (fun b => if b = p then none else G2 b) b = G2 b := fun b hb => if_neg hb
            have sG : Same G (fun b => if b = p then none else G2 b) := fun b o h => by
              have hbp : b ≠ p := fun z => by rw [z, gp] at h; cases h
              show (if b = p then none else G2 b) = some o
              rw [if_neg hbp]
              exact s2 b o (by rw [upd_ne hbp]; exact h)
            have R3 : Rel c B (fun b => if b = p then none else G2 b) A H2 σ ρ := by
              refine ⟨fun b o h => ?_, R.len, fun b hb' => ?_, fun j d hj => ?_, fun j d' hj => ?_, R.dis, R.byr⟩
              · have h : (if b = p then none else G2 b) = some o := h
                by_cases z : b = p
                · rw [if_pos z] at h; cases h
                · rw [if_neg z] at h; exact R2.same b o h
              · by_cases z : b = p
                · exact ⟨if_pos z, _, by rw [z]; exact hh2⟩
                · obtain ⟨h1, h2⟩ := R2.ownA b ⟨hb', z⟩
                  exact ⟨(if_neg z).trans h1, h2⟩
              · obtain ⟨v, h1, h2⟩ := R.dat j d hj
                exact ⟨v, h1, h2.mono sG⟩
              · obtain ⟨r, h1, h2, h3⟩ := R.own j d' hj
                refine ⟨r, h1, h2, ?_⟩
                by_cases z : j = i
                · subst z
                  rw [ei] at hj
                  cases hj
                  rw [es] at h1
                  cases h1
                  exact ⟨xs, hh2, hr.mono sG⟩
                · obtain ⟨h4, h5⟩ := cellsOk_at hc (by omega) hj
                  obtain ⟨r', h6, h7, h8⟩ := R2.own j d' h4
                  rw [h1] at h6
                  cases h6
                  exact own_flat h8 h5
            refine a _ H2 sG (fun b o h n => ?_) R3 v (Rep.noL hp2 g3 rv hn)
            have hbp : b ≠ p := fun z => n (by rw [z]; exact hA)
            obtain ⟨k3, k4⟩ := k2 b o h fun z => n z.1
            refine ⟨k3, ?_⟩
            show (if b = p then none else G2 b) = G b
            rw [if_neg hbp, k4, upd_ne hbp]
          · exact a.elim
theorem pm_thawE (i : Nat) {e : Expr} {f : M D} (hb : B.all (fun q => q.1 != i) = true) (h : PE X e (tM c B W f)) : PE X e (tM c B W (mThawE i f)) := pe_imp h fun σ H Q q => thawE_read hb q
end
end Fx
set_option Elab.async false
set_option linter.all false
set_option maxRecDepth 100000
set_option maxHeartbeats 4000000
namespace Fx
open PySem PyProof.Rows L2
section
variable {c : Cf} {B : List (Nat × Addr)} {W : WX} {X : Cx} {G H : Hp} {A : Addr → Prop} {σ : L2.St} {ρ : Cells} {Z : Ends}
theorem tup_tyx (s : Same G H) {v : V} {ds : List D} (r : Rep c G v (.tup ds)) : TyX c.K H v (.type "tuple") := by
  cases r with
  | tup h _ =>
    rcases h with ⟨o, h1, _⟩ | ⟨o, its, n, h1, h2, _⟩
    · exact .fTuple (s _ _ h1)
    · exact .kTuple h1 h2
def mIsFT (f : M D) : M D := f.bind fun d => match d with
  | .rcd _ _ => M.pure (.bl true)
  | .tup _ => M.pure (.bl false)
  | _ => M.stuck
theorem pm_isFT {e : Expr} {f : M D} {p p2 pos : Pos} (T : Blt X.mg) (F : IsFk X.K X.mg c) (KT : PySem.W.kitOne X.K (.type "tuple") (.ref c.farm) = some false) (he : PE X e (tM c B W f)) (hK : c.K = X.K := by rfl) (hg : Gl X "isinstance" := by rfl) (hg2 : Gl X "Farm" := by rfl) (hs : starEach [e, .Name "Farm" p2] X.env = (false, eval e X.env) :: starEach [.Name "Farm" p2] X.env := by rfl)
    (hs2 : starEach [.Name "Farm" p2] X.env = (false, eval (.Name "Farm" p2) X.env) :: starEach [] X.env := by rfl) (hpl : (backTo pos (starEach [.Name "Farm" p2] X.env)).any (·.1) = false := by rfl) :
    PE X (.Call (.Name "isinstance" p) [e, .Name "Farm" p2] [] pos) (tM c B W (mIsFT f)) :=
  pe_imp (pe_callB call_isi hg T.zisinstance boot_isinstance (pa_cons he (pa_cons (pe_glob (v := .ref c.farm) hg2 F.gl rfl) pa_nil hs2) hs) (he := hs) (hpl := hpl)) fun σ H Q ⟨G, A, ρ, R, a⟩ => by
    refine ⟨G, A, ρ, R, a.split.imp fun d ρ1 G1 H1 _ _ R1 q v r => ?_⟩
    cases d <;> first | exact q.elim | skip
    · have ty := tup_tyx R1.same r
      rw [hK] at ty
      exact ⟨_, _, _, _, false, rfl, .own _, ty, KT, After.ok q R1 _ (.bl false)⟩
    · cases r with
      | rcd h l rl =>
        exact ⟨_, _, _, _, true, rfl, .own _, .base (.ins (R1.same _ _ h) F.cl F.ha F.hn F.tk F.mo), by unfold PySem.W.kitOne; rw [if_pos (by simp)], After.ok q R1 _ (.bl true)⟩
def mEqFT (F : Fn) (f g : M D) : M D := f.bind fun d1 => g.bind fun d2 => fun ρ => if (isRcd d1 && isTup d2) = true then (match F [d1, d2] with
  | .ret (.bl r) _ => .ok (.bl r) ρ
  | _ => .stuck) else .stuck
theorem not_first_tup (K : PySem.W.Frag) (C : Addr) : PySem.W.notFirst K C (.type "tuple") = true := by rfl
theorem pc_eqFT {F : Fn} {f g : M D} {k j : Nat} {a b : Expr} (C : CalE X.prog X.w X.K X.mg X.base c j F) (hr : Room k X.A) (tk : Takes X W) (ha : PE X a (tM c B W f)) (hb : PE X b (tM c B W g)) (hK : c.K = X.K := by rfl) (hj : j ≤ k := by decide) : PC X .Eq a b (tM c B W (mEqFT F f g)) := by
  obtain ⟨fa, fd, ps, hs, hf, Fo, hbd⟩ := C.ex
  have hr2 := hr.mono hj
  refine ⟨fun pins s σ H Q I ⟨G, A, ρ, R, h⟩ => ?_⟩
  refine binT ha hb (R := fun x y H2 => ∃ x1 dx fs, x = .ref x1 ∧ H2 x1 = some (.ins c.farm dx fs) ∧ TyX X.K H2 y (.type "tuple") ∧ spM c [] 2 F [x, y] H2 (fun v H' => (∃ r, v = .bl r) ∧ Q v H') (fun cls d H => W cls d σ H)) I ?_ fun v u s2 x y H2 I2 rx ry q => ?_
  · refine ⟨G, A, ρ, R, h.split.imp fun d1 ρ1 G1 H1 _ _ R1 a1 x rx => ?_⟩
    refine ⟨G1, A, ρ1, R1, a1.split.imp fun d2 ρ2 G2 H2 s2 _ R2 a2 y ry => ?_⟩
    cases d1 <;> first | exact a2.elim | skip
    cases d2 <;> first | exact a2.elim | skip
    rename_i ns1 ds1 ds2
    have rx := rx.mono s2
    have rx0 := rx
    have ry0 := ry
    cases rx with
    | rcd h1 l1 q1 =>
      have ty := tup_tyx R2.same ry0
      rw [hK] at ty
      refine ⟨_, _, _, rfl, R2.same _ _ h1, ty, G2, _, [.rcd ns1 ds1, .tup ds2], rfl, argsOk_rep R2.same (.cons rx0 (.cons ry0 .nil)), ?_⟩
      have a2 : After c B W G2 A H2 σ (match F [.rcd ns1 ds1, .tup ds2] with
        | .ret (.bl r) _ => .ok (.bl r) ρ2
        | _ => .stuck) fun d _ G' H' => ∀ v, Rep c G' v d → Q v H' := a2
      cases ef : F [.rcd ns1 ds1, .tup ds2] with
      | stuck => rw [ef] at a2; exact a2.elim
      | exc y outs => rw [ef] at a2; exact a2.elim
      | ret d0 outs =>
        rw [ef] at a2
        cases d0 <;> first | exact a2.elim | skip
        rename_i r
        intro G3 H3 v rr rv
        obtain ⟨s1, k1, R3⟩ := rr.rel R2
        obtain rfl := rep_bl rv
        exact ⟨⟨_, rfl⟩, a2 G3 H3 s1 k1 R3 _ (.bl _)⟩
  · obtain ⟨x1, dx, fs, rfl, h1, ty, hsp⟩ := q
    obtain rfl : v = Value.ref x1 := rx
    obtain ⟨_, J, _⟩ := ins_get I2.hok h1
    obtain ⟨od, J, _⟩ := J.look
    obtain ⟨P, KX, p, _⟩ := kit_of I2 ry ty
    obtain ⟨m, hF⟩ := I2.fr
    show wpAny _ _ (richCompare .Eq _ _) _ _ _
    refine PySem.W.cmp_K (op := .Eq) (tb := .type "tuple") hr2.units0 hF I2.ok.mod.kin J (KX.ty _ _ I2.kIn p) (not_first_tup _ _) hs hf ?_
    have hl := Fo.len _ _ _ _ hsp
    refine wpAny_call (codeAny_mono (Fo.run X.A X.stack s2 H2 ⟨[.ref x1, u], []⟩ [.ref x1, u] [.ref x1, y] _ (fun cls d H => W cls d σ H) hr2 I2.env0 (hbd s2 [.ref x1, u] I2.kIn (by simpa using hl)) (.cons rfl (.cons ry .nil)) hsp) fun r s' hq => ?_)
    cases r with
    | error e => exact passAt tk σ pins H2 s2 e s' I2 hq
    | ok fl =>
      cases fl with
      | ret w =>
        obtain ⟨z, H', I', rz, ⟨r, ez⟩, qv⟩ := I2.after hq
        subst ez
        cases rz
        exact ⟨.bl r, H', I', rfl, qv⟩
      | next => exact False.elim hq
      | brk => exact False.elim hq
      | cont => exact False.elim hq
theorem pt_eqFT {F : Fn} {f g : M D} {k j : Nat} {a b : Expr} {pos : Pos} (C : CalE X.prog X.w X.K X.mg X.base c j F) (hr : Room k X.A) (tk : Takes X W) (ha : PE X a (tM c B W f)) (hb : PE X b (tM c B W g)) (hK : c.K = X.K := by rfl) (hj : j ≤ k := by decide) : PT X (.Compare a [.Eq] [b] pos) (tT c B W (mB (mEqFT F f g))) := pt_imp (pt_cmp (pc_eqFT C hr tk ha hb hK hj) (nomark _)) fun σ H Q h => tB_core h
end
end Fx
set_option Elab.async false
set_option linter.all false
set_option maxRecDepth 100000
set_option maxHeartbeats 400000
namespace Fx
open PySem L2
section
variable {c : Cf} {B : List (Nat × Addr)} {W : WX} {X : Cx} {G G' H H' : Hp} {σ : L2.St} {ρ : Cells} {T : List (Addr × Str)}
/-- two empty dicts -/
def DEmp : Eqv := fun x y H => ∃ a b, x = .ref a ∧ y = .ref b ∧ L2.Rd H a (.dK []) ∧ L2.Rd H b (.dK [])
theorem rd_ext {a : Addr} {u : HO} (e : L2.Ext H H') (h : L2.Rd H a u) : L2.Rd H' a u := by
  rcases h with h | ⟨o, h⟩
  · exact .inl (e _ _ h)
  · exact .inr ⟨o, e _ _ h⟩
theorem mon_emp : Mon DEmp := fun x y H H' e d => by
  obtain ⟨a, b, hx, hy, h1, h2⟩ := d
  exact ⟨a, b, hx, hy, rd_ext e h1, rd_ext e h2⟩
theorem rcG_emp : RcG X 0 DEmp := by
  intro A pins s σ H x y u v sb I rx ry d
  obtain ⟨a, b, rfl, rfl, ha, hb⟩ := d
  cases rx
  cases ry
  obtain ⟨_, ya, va, ra, da⟩ := (show ObjOk X.prog X.w H s.heap a (.dK []) from ha.ok I.hok)
  obtain ⟨_, yb, vb, rb, db⟩ := (show ObjOk X.prog X.w H s.heap b (.dK []) from hb.ok I.hok)
  cases ra
  cases rb
  refine PySem.W.rcP_dicts (knd := mixKind X.prog X.w) (r := true) ya yb da db sb.room.units0 (fun _ => .nil) X.xe _ ?_
  exact ⟨rfl, H, I, Ext.rfl'⟩
theorem eqG_emp : EqG X 0 DEmp := rcG_emp.eqG fun _ _ _ d => let ⟨a, b, hx, hy, _⟩ := d; ⟨a, b, hx, hy⟩
def toldE : D → Option Str
  | .tup [.str w, .dic [] []] => some w
  | _ => none
theorem toldE_some {d : D} {w : Str} (h : toldE d = some w) : d = .tup [.str w, .dic [] []] := by
  unfold toldE at h
  split at h
  · cases h; rfl
  · cases h
/-- != of two answers, empty dicts are equal -/
def sNeC (d1 d2 : D) : Option D := match toldE d1, toldE d2 with
  | some w1, some w2 => if w1 = w2 then some (.bl false) else none
  | _, _ => sNe d1 d2
theorem toldE_rep {v : V} {w : Str} (r : Rep c G v (.tup [.str w, .dic [] []])) : ∃ p a, v = V.ref p ∧ TupAt c.K G p [.str w, .ref a] ∧ L2.Rd G a (.dK []) := by
  cases r with
  | tup hp l =>
    cases l with
    | cons r1 l2 =>
      cases l2 with
      | cons r2 l3 =>
        cases l3
        cases r1
        cases r2 with
        | dic h1 h2 h3 => exact ⟨_, _, rfl, hp, h1⟩
def rTolE (X : Cx) : R2 := fun x y H Q => rEqN X.K true x y H Q ∨ rNeS (X := X) (fun x y H => DFlat x y H ∨ DEmp x y H) x y H Q
theorem neC_core {f g : M D} {Q : VK} (hK : c.K = X.K) (h : tMT T c B (mCmp sNeC f g) σ H Q) :
    tMT T c B f σ H fun x H1 => tMT T c B g σ H1 fun y H2 => rTolE X x y H2 Q := by
  obtain ⟨G, ρ, R, t, a⟩ := h
  refine ⟨G, ρ, R, t, (AfterT.split a).imp fun d1 ρ1 G1 H1 _ R1 t1 a1 x rx => ?_⟩
  refine ⟨G1, ρ1, R1, t1, (AfterT.split a1).imp fun d2 ρ2 G2 H2 s2 R2 t2 a2 y ry => ?_⟩
  have a2 : AfterT T c B G2 H2 σ ρ2 (M.lift (sNeC d1 d2) ρ2) (fun d _ G' H' => ∀ v, Rep c G' v d → Q v H') := a2
  have rx := rx.mono s2.gg
  have plain : sNeC d1 d2 = sNe d1 d2 → rEqN X.K true x y H2 Q := fun e => by
    rw [e] at a2
    cases es : sNe d1 d2 with
    | none => rw [es] at a2; exact a2.elim
    | some d =>
      rw [es] at a2
      have hs : Sem2 c (rEqN c.K true) sNe := semNe
      rw [← hK]
      refine hs G2 H2 x y d1 d2 d Q R2.same (.inl rx) (.inl ry) es fun G3 H3 v x3 r3 => ?_
      obtain ⟨s4, R4, t4⟩ := step_t R2 t2 (Stp.same x3.gg x3.keep) (R2.ext x3)
      exact a2 _ _ s4 R4 t4 v r3.strip
  cases e1 : toldE d1 with
  | none => exact .inl (plain (by unfold sNeC; rw [e1]))
  | some w1 =>
    cases e2 : toldE d2 with
    | none => exact .inl (plain (by unfold sNeC; rw [e1, e2]))
    | some w2 =>
      right
      have a3 := a2
      clear a2 plain
      unfold sNeC at a3
      rw [e1, e2] at a3
      dsimp only at a3
      by_cases hw : w1 = w2
      · subst hw
        rw [if_pos rfl] at a3
        obtain rfl := toldE_some e1
        obtain rfl := toldE_some e2
        obtain ⟨px, xa, rfl, hx, gx⟩ := toldE_rep rx
        obtain ⟨py, ya, rfl, hy, gy⟩ := toldE_rep ry
        have same : ∀ H', L2.Ext H2 H' → Q (.bl false) H' := fun H' xx => by
          have xe : Fx.Ext G2 H2 G2 H' := ⟨Same.refl _, xx, R2.same.trans xx, fun _ _ _ => rfl⟩
          obtain ⟨s4, R4, t4⟩ := step_t R2 t2 (Stp.same xe.gg xe.keep) (R2.ext xe)
          exact a3 _ _ s4 R4 t4 _ (.bl false)
        have sx : SqT X.K H2 px [.str w1, .ref xa] := by rw [← hK]; exact (hx.mono R2.same).sq
        have sy : SqT X.K H2 py [.str w1, .ref ya] := by rw [← hK]; exact (hy.mono R2.same).sq
        have g1 : L2.Rd H2 xa (.dK []) := same_rd R2.same gx
        have g2 : L2.Rd H2 ya (.dK []) := same_rd R2.same gy
        exact ⟨⟨px, py, _, _, rfl, rfl, sx, sy, Prs.cons (.inl flat_str) (Prs.cons (.inr ⟨xa, ya, rfl, rfl, g1, g2⟩) Prs.nil)⟩, same⟩
      · rw [if_neg hw] at a3; exact a3.elim
theorem op_tolE {k : Nat} (hr : Room k X.A) (hk : 2 ≤ k) : OpR X (compareOp .NotEq) (rTolE X) := by
  rintro pins s σ H x y v u Q I rx ry (h | h)
  · exact op_neN hr.units pins s σ H x y v u Q I rx ry h
  · have eq : EqG X 0 (fun x y H => DFlat x y H ∨ DEmp x y H) := eqG_flat.or eqG_emp
    exact op_neG (mon_flat.or mon_emp) eq (hr.mono (by omega)) pins s σ H x y v u Q I rx ry h
theorem t_neTC {k : Nat} {a b : Expr} {f g : M D} {pos : Pos} (hr : Room k X.A) (ha : PE X a (tMT T c B f)) (hb : PE X b (tMT T c B g)) (hk : 2 ≤ k := by decide) (hK : c.K = X.K := by rfl) :
    PT X (.Compare a [.NotEq] [b] pos) (tTT T c B (mB (mCmp sNeC f g))) :=
  pt_imp (pt_cmpR (op_tolE hr hk) ha hb (nomark _)) fun σ H Q h => by
    obtain ⟨G, ρ, R, t, q⟩ := neC_core hK (tBT_core h)
    refine ⟨G, ρ, R, t, q.imp fun d1 ρ1 G1 H1 _ _ _ q1 x rx => ?_⟩
    obtain ⟨G1', ρ1', R1, t1, q2⟩ := q1 x rx
    refine ⟨G1', ρ1', R1, t1, q2.imp fun d2 ρ2 G2 H2 _ _ _ q3 y ry => ?_⟩
    exact q3 y ry
end
theorem x_neE {w : Str} : sNeC (.tup [.str w, .dic [] []]) (.tup [.str w, .dic [] []]) = some (.bl false) := by
  unfold sNeC toldE
  dsimp only
  rw [if_pos rfl]
theorem x_neQ {d1 d2 : D} (h : toldE d1 = none) : sNeC d1 d2 = sNe d1 d2 := by
  unfold sNeC
  rw [h]
end Fx
set_option Elab.async false
set_option linter.all false
set_option maxRecDepth 100000
set_option maxHeartbeats 4000000
noncomputable section
namespace Fx
open PySem L2
def top (i : Nat) : Stmt := PySem.Challenge.pw_stickyservers_k01_farms.main.body.getD i (.Pass ⟨0, 0, 0, 0⟩)
def flK (i : Nat) : List Str := match i with | 0 => ["index", "part"] | 1 => ["session"] | _ => []
def cfK (P : Program) (w : World) (K : PySem.W.Frag) (C0 : Addr) (ex : Nat → Addr) : Cf := ⟨K, C0, ex, flK, P, w⟩
structure Txt (K : PySem.W.Frag) (mg : Str → Option Value) (C0 : Addr) : Prop where
  blt : Blt mg
  cls : Cls K C0
  na_many : NoAttr K C0 "many"
  na_rows : NoAttr K C0 "rows"
  na_most : NoAttr K C0 "most"
  zzip : mg "zip" = none
  zdict : mg "dict" = none
  zrepr : mg "repr" = none
  gMAX_SERVERS : ∃ t, mg "MAX_SERVERS" = some (.int 30 t)
  gMAX_SESSIONS : ∃ t, mg "MAX_SESSIONS" = some (.int 60 t)
section
variable {P : Program} {w : World} {K : PySem.W.Frag} {mg : Str → Option Value} {base : Heap} {C0 : Addr} {ex : Nat → Addr}
abbrev s_is_int : Stmt := top 7
abbrev n_is_int : List Str := ["value"]
theorem sc_is_int : FnScope n_is_int ["value"] (defScope s_is_int) := ⟨rfl, rfl, rfl, by decide +kernel, rfl, by decide +kernel, by decide +kernel⟩
def b_is_int : MS := (mRet (mAndV (mCall sIsi [(.dat (mVar 0)), (.dat (M.pure (.raw (.ty "int"))))]) (mNotV (mCall sIsi [(.dat (mVar 0)), (.dat (M.pure (.raw (.ty "bool"))))]))))
def m_is_int : Fn := mkFn 1 [] b_is_int
theorem ok_is_int {f : Addr} {fd : FuncData} (T : Txt K mg C0)  (F : FunD K "is_int" "is_int" (defArgs s_is_int) (defBody s_is_int) (defScope s_is_int) [] [] f fd) : FnOk P w K mg base (L2.CX P w) 1 f fd ["value"] (spM (cfK P w K C0 ex) [] 1 m_is_int) :=
  fn_ok0 (P := P) (w := w) (K := K) (mg := mg) (base := base) (c := cfK P w K C0 ex) (k := 0) (m := b_is_int) (st := s_is_int) (N := n_is_int) (ps := ["value"]) F sc_is_int (by decide) fun cdv A outer s H E hr =>
    (pss_oneM (ps_retM (pm_andV (b_isi T.blt (po_dat (pm_var 0)) (po_dat (b_ty T.blt.zint PyProof.Rows.boot_int))) (pm_oneV (pm_notV (b_isi T.blt (po_dat (pm_var 0)) (po_dat (b_ty T.blt.zbool PyProof.Rows.boot_bool))))))))
abbrev s_is_from : Stmt := top 8
abbrev n_is_from : List Str := ["value", "low", "high"]
theorem sc_is_from : FnScope n_is_from ["value", "low", "high"] (defScope s_is_from) := ⟨rfl, rfl, rfl, by decide +kernel, rfl, by decide +kernel, by decide +kernel⟩
def b_is_from : MS := (mRet (mAndV (mCallF m_is_int [(.dat (mVar 0))]) (mChain sLe sLe (.dat (mVar 1)) (.dat (mVar 0)) (.dat (mVar 2)))))
def m_is_from : Fn := mkFn 3 [] b_is_from
theorem ok_is_from {f : Addr} {fd : FuncData} (T : Txt K mg C0) (c_is_int : Cal P w K mg base (cfK P w K C0 ex) 1 "is_int" [] 1 m_is_int) (F : FunD K "is_from" "is_from" (defArgs s_is_from) (defBody s_is_from) (defScope s_is_from) [] [] f fd) : FnOk P w K mg base (L2.CX P w) 2 f fd ["value", "low", "high"] (spM (cfK P w K C0 ex) [] 3 m_is_from) :=
  fn_ok0 (P := P) (w := w) (K := K) (mg := mg) (base := base) (c := cfK P w K C0 ex) (k := 1) (m := b_is_from) (st := s_is_from) (N := n_is_from) (ps := ["value", "low", "high"]) F sc_is_from (by decide) fun cdv A outer s H E hr =>
    (pss_oneM (ps_retM (pm_andV (pm_cal c_is_int hr (takes_of rfl rfl rfl rfl) (pr_dat (pm_var 0) pr_nil)) (pm_oneV (o_chlele (po_dat (pm_var 1)) (po_dat (pm_var 0)) (po_dat (pm_var 2)))))))
abbrev s_is_row : Stmt := top 9
abbrev n_is_row : List Str := ["value", "servers", "server"]
theorem sc_is_row : FnScope n_is_row ["value", "servers"] (defScope s_is_row) := ⟨rfl, rfl, rfl, by decide +kernel, rfl, by decide +kernel, by decide +kernel⟩
def b_is_row : MS := (mSeq (mIfS (mOr (mNot (mB (mCall sIsi [(.dat (mVar 0)), (.dat (M.pure (.raw (.ty "tuple"))))]))) (mB (mOp2 sEq (.dat (mVar 0)) (.dat (mTup []))))) (mRet (M.pure (.bl false))) mSkip) (mSeq (mIfS (mNot (mB (mCall sAll [(.dat (mLc (mSeqI (mVar 0)) (gNm 2) (M.pure true) (mCallF m_is_from [(.dat (mVar 2)), (.dat (M.pure (.int 0))), (.dat (mOp2 sSub (.dat (mVar 1)) (.dat (M.pure (.int 1)))))]) [2]))]))) (mRet (M.pure (.bl false))) mSkip) (mRet (mOp2 sEq (.dat (mLenSet (mVar 0))) (.dat (mCall sLen [(.dat (mVar 0))]))))))
def m_is_row : Fn := mkFn 3 [] b_is_row
theorem ok_is_row {f : Addr} {fd : FuncData} (T : Txt K mg C0) (c_is_from : Cal P w K mg base (cfK P w K C0 ex) 2 "is_from" [] 3 m_is_from) (F : FunD K "is_row" "is_row" (defArgs s_is_row) (defBody s_is_row) (defScope s_is_row) [] [] f fd) : FnOk P w K mg base (L2.CX P w) 3 f fd ["value", "servers"] (spM (cfK P w K C0 ex) [] 2 m_is_row) :=
  fn_ok0 (P := P) (w := w) (K := K) (mg := mg) (base := base) (c := cfK P w K C0 ex) (k := 2) (m := b_is_row) (st := s_is_row) (N := n_is_row) (ps := ["value", "servers"]) F sc_is_row (by decide) fun cdv A outer s H E hr =>
    (pss_consM (ps_ifM (t_or (pt_notM (pt_v (b_isi T.blt (po_dat (pm_var 0)) (po_dat (b_ty T.blt.ztuple PyProof.Rows.boot_tuple))))) (pw_and1' (t_eq hr.units (po_dat (pm_var 0)) (po_dat (pm_tup pd_nil))))) (pss_oneM (ps_retM pm_bl)) pss_nilM) (pss_consM (ps_ifM (pt_notM (pt_v (b_all T.blt rfl (po_dat (pm_of_pf (pf_lc [("server", 2)] rfl sc_is_row.nd (pi_seqM rfl (pm_var 0)) (blk_of (by rfl)) (by rfl) (by rfl) (fun s H C cl fp => (pg_nm 2 sc_is_row.nd rfl)) (fun s H C cl fp => pts_nilM) (fun s H C cl fp => (pm_cal c_is_from hr takes0 (pr_dat (pm_var 2) (pr_dat pm_int (pr_dat (o_sub (po_dat (pm_var 1)) (po_dat pm_int)) pr_nil))))))))))) (pss_oneM (ps_retM pm_bl)) pss_nilM) (pss_oneM (ps_retM (o_eq hr.units (po_dat (b_lenset T.blt rfl (pm_var 0))) (po_dat (b_len T.blt (po_dat (pm_var 0)))))))))
abbrev s_Farmdd_initdd : Stmt := inClass (top 10) 0
abbrev n_Farmdd_initdd : List Str := ["self", "servers", "lists", "failures", "index", "row"]
theorem sc_Farmdd_initdd : FnScope n_Farmdd_initdd ["self", "servers", "lists", "failures"] (defScope s_Farmdd_initdd) := ⟨rfl, rfl, rfl, by decide +kernel, rfl, by decide +kernel, by decide +kernel⟩
def b_Farmdd_initdd : MS := (mSeq (mIfS (mNot (mB (mCallF m_is_from [(.dat (mVar 1)), (.dat (M.pure (.int 1))), (.dat (M.pure (.int 30)))]))) (mRaise 0 [(M.pure (.str "servers")), (mNeg (M.pure (.int 1)))]) mSkip) (mSeq (mIfS (mOr (mNot (mB (mCall sIsi [(.dat (mVar 2)), (.dat (M.pure (.raw (.ty "list"))))]))) (mB (mOp2 sGt (.dat (mCall sLen [(.dat (mVar 2))])) (.dat (M.pure (.int 60)))))) (mRaise 0 [(M.pure (.str "lists")), (mNeg (M.pure (.int 1)))]) mSkip) (mSeq (mFor (mEnum (mVar 2)) (gTp [4, 5]) (mIfS (mNot (mB (mCallF m_is_row [(.dat (mVar 5)), (.dat (mVar 1))]))) (mRaise 0 [(M.pure (.str "lists")), (mVar 4)]) mSkip)) (mSeq (mIfS (mNot (mB (mCallF m_is_from [(.dat (mVar 3)), (.dat (M.pure (.int 0))), (.dat (mVar 1))]))) (mRaise 0 [(M.pure (.str "failures")), (mNeg (M.pure (.int 1)))]) mSkip) (mSeq (mSetF 0 "many" (mVar 1)) (mSeq (mSetF 0 "rows" (mCall sTuple [(.dat (mVar 2))])) (mSetF 0 "most" (mVar 3))))))))
def m_Farmdd_initdd : Fn := mkFn 6 [0] b_Farmdd_initdd
theorem ok_Farmdd_initdd {f : Addr} {fd : FuncData} (T : Txt K mg C0) (c_is_from : Cal P w K mg base (cfK P w K C0 ex) 2 "is_from" [] 3 m_is_from) (c_NoFarm : CalX2 P w K mg base (cfK P w K C0 ex) 1 0 "NoFarm" "part" "index") (c_is_row : Cal P w K mg base (cfK P w K C0 ex) 3 "is_row" [] 2 m_is_row) (F : FunD K "__init__" "Farm.__init__" (defArgs s_Farmdd_initdd) (defBody s_Farmdd_initdd) (defScope s_Farmdd_initdd) [] [] f fd) : FnOk P w K mg base (L2.CX P w) 4 f fd ["self", "servers", "lists", "failures"] (spM (cfK P w K C0 ex) [0] 4 m_Farmdd_initdd) :=
  fn_ok1 0 (P := P) (w := w) (K := K) (mg := mg) (base := base) (c := cfK P w K C0 ex) (k := 3) (m := b_Farmdd_initdd) (st := s_Farmdd_initdd) (N := n_Farmdd_initdd) (ps := ["self", "servers", "lists", "failures"]) F sc_Farmdd_initdd (by decide) (by decide) fun aR cdv A outer s H E hr =>
    (pss_consM (ps_ifM (pt_notM (pt_v (pm_cal c_is_from hr (takes_of rfl rfl rfl rfl) (pr_dat (pm_var 1) (pr_dat pm_int (pr_dat (pm_globI T.gMAX_SERVERS.choose_spec) pr_nil)))))) (pss_oneM (ps_x2 c_NoFarm rfl (takes_of rfl rfl rfl rfl) hr pm_str (pm_neg pm_int))) pss_nilM) (pss_consM (ps_ifM (t_or (pt_notM (pt_v (b_isi T.blt (po_dat (pm_var 2)) (po_dat (b_ty T.blt.zlist PyProof.Rows.boot_list))))) (pw_and1' (t_gt (po_dat (b_len T.blt (po_dat (pm_var 2)))) (po_dat (pm_globI T.gMAX_SESSIONS.choose_spec))))) (pss_oneM (ps_x2 c_NoFarm rfl (takes_of rfl rfl rfl rfl) hr pm_str (pm_neg pm_int))) pss_nilM) (pss_consM (ps_forM (passes_of rfl) rfl (pi_enumM rfl T.blt.zenumerate (pm_var 2)) (pg_tpM rfl rfl (pgs_consM (pg_nm 4 sc_Farmdd_initdd.nd rfl) (pgs_consM (pg_nm 5 sc_Farmdd_initdd.nd rfl) pgs_nilM))) (pss_oneM (ps_ifM (pt_notM (pt_v (pm_cal c_is_row hr (takes_of rfl rfl rfl rfl) (pr_dat (pm_var 5) (pr_dat (pm_var 1) pr_nil))))) (pss_oneM (ps_x2 c_NoFarm rfl (takes_of rfl rfl rfl rfl) hr pm_str (pm_var 4))) pss_nilM))) (pss_consM (ps_ifM (pt_notM (pt_v (pm_cal c_is_from hr (takes_of rfl rfl rfl rfl) (pr_dat (pm_var 3) (pr_dat pm_int (pr_dat (pm_var 1) pr_nil)))))) (pss_oneM (ps_x2 c_NoFarm rfl (takes_of rfl rfl rfl rfl) hr pm_str (pm_neg pm_int))) pss_nilM) (pss_consM (ps_setF 0 T.cls T.na_many (pm_var 1)) (pss_consM (ps_setF 0 T.cls T.na_rows (b_tuple T.blt (po_dat (pm_var 2)))) (pss_oneM (ps_setF 0 T.cls T.na_most (pm_var 3)))))))))
abbrev s_Farmdd_eqdd : Stmt := inClass (top 10) 1
abbrev n_Farmdd_eqdd : List Str := ["self", "other"]
theorem sc_Farmdd_eqdd : FnScope n_Farmdd_eqdd ["self", "other"] (defScope s_Farmdd_eqdd) := ⟨rfl, rfl, rfl, by decide +kernel, rfl, by decide +kernel, by decide +kernel⟩
def b_Farmdd_eqdd : MS := (mSeq (mIfS (mNot (mB (mIsFT (mVar 1)))) (mRet (M.pure (.bl false))) mSkip) (mRet (mOp2 sEq (.dat (mTup [(mFld (mVar 0) "many"), (mFld (mVar 0) "rows"), (mFld (mVar 0) "most")])) (.dat (mTup [(mFld (mVar 1) "many"), (mFld (mVar 1) "rows"), (mFld (mVar 1) "most")])))))
def m_Farmdd_eqdd : Fn := mkFn 2 [] b_Farmdd_eqdd
theorem ok_Farmdd_eqdd {f : Addr} {fd : FuncData} (T : Txt K mg C0) (i_Farm : IsFk K mg (cfK P w K C0 ex)) (ki0_tup : PySem.W.kitOne K (.type "tuple") (.ref C0) = some false) (F : FunD K "__eq__" "Farm.__eq__" (defArgs s_Farmdd_eqdd) (defBody s_Farmdd_eqdd) (defScope s_Farmdd_eqdd) [] [] f fd) : FnOk P w K mg base (L2.CX P w) 1 f fd ["self", "other"] (spM (cfK P w K C0 ex) [] 2 m_Farmdd_eqdd) :=
  fn_ok0 (P := P) (w := w) (K := K) (mg := mg) (base := base) (c := cfK P w K C0 ex) (k := 0) (m := b_Farmdd_eqdd) (st := s_Farmdd_eqdd) (N := n_Farmdd_eqdd) (ps := ["self", "other"]) F sc_Farmdd_eqdd (by decide) fun cdv A outer s H E hr =>
    (pss_consM (ps_ifM (pt_notM (pt_v (pm_isFT T.blt i_Farm ki0_tup (pm_var 1)))) (pss_oneM (ps_retM pm_bl)) pss_nilM) (pss_oneM (ps_retM (o_eq hr.units (po_dat (pm_tup (pd_cons (pm_fld T.cls T.na_many (pm_var 0)) (pd_cons (pm_fld T.cls T.na_rows (pm_var 0)) (pd_cons (pm_fld T.cls T.na_most (pm_var 0)) pd_nil))))) (po_dat (pm_tup (pd_cons (pm_fld T.cls T.na_many (pm_var 1)) (pd_cons (pm_fld T.cls T.na_rows (pm_var 1)) (pd_cons (pm_fld T.cls T.na_most (pm_var 1)) pd_nil)))))))))
abbrev s_Farmdd_lendd : Stmt := inClass (top 10) 2
abbrev n_Farmdd_lendd : List Str := ["self"]
theorem sc_Farmdd_lendd : FnScope n_Farmdd_lendd ["self"] (defScope s_Farmdd_lendd) := ⟨rfl, rfl, rfl, by decide +kernel, rfl, by decide +kernel, by decide +kernel⟩
def b_Farmdd_lendd : MS := (mRet (mCall sLen [(.dat (mFld (mVar 0) "rows"))]))
def m_Farmdd_lendd : Fn := mkFn 1 [] b_Farmdd_lendd
theorem ok_Farmdd_lendd {f : Addr} {fd : FuncData} (T : Txt K mg C0)  (F : FunD K "__len__" "Farm.__len__" (defArgs s_Farmdd_lendd) (defBody s_Farmdd_lendd) (defScope s_Farmdd_lendd) [] [] f fd) : FnOk P w K mg base (L2.CX P w) 1 f fd ["self"] (spM (cfK P w K C0 ex) [] 1 m_Farmdd_lendd) :=
  fn_ok0 (P := P) (w := w) (K := K) (mg := mg) (base := base) (c := cfK P w K C0 ex) (k := 0) (m := b_Farmdd_lendd) (st := s_Farmdd_lendd) (N := n_Farmdd_lendd) (ps := ["self"]) F sc_Farmdd_lendd (by decide) fun cdv A outer s H E hr =>
    (pss_oneM (ps_retM (b_len T.blt (po_dat (pm_fld T.cls T.na_rows (pm_var 0))))))
abbrev s_Farm_servers : Stmt := inClass (top 10) 3
abbrev n_Farm_servers : List Str := ["self"]
theorem sc_Farm_servers : FnScope n_Farm_servers ["self"] (defScope s_Farm_servers) := ⟨rfl, rfl, rfl, by decide +kernel, rfl, by decide +kernel, by decide +kernel⟩
def b_Farm_servers : MS := (mRet (mFld (mVar 0) "many"))
def m_Farm_servers : Fn := mkFn 1 [] b_Farm_servers
theorem ok_Farm_servers {f : Addr} {fd : FuncData} (T : Txt K mg C0)  (F : FunD K "servers" "Farm.servers" (defArgs s_Farm_servers) (defBody s_Farm_servers) (defScope s_Farm_servers) [] [] f fd) : FnOk P w K mg base (L2.CX P w) 1 f fd ["self"] (spM (cfK P w K C0 ex) [] 1 m_Farm_servers) :=
  fn_ok0 (P := P) (w := w) (K := K) (mg := mg) (base := base) (c := cfK P w K C0 ex) (k := 0) (m := b_Farm_servers) (st := s_Farm_servers) (N := n_Farm_servers) (ps := ["self"]) F sc_Farm_servers (by decide) fun cdv A outer s H E hr =>
    (pss_oneM (ps_retM (pm_fld T.cls T.na_many (pm_var 0))))
abbrev s_Farm_lists : Stmt := inClass (top 10) 4
abbrev n_Farm_lists : List Str := ["self"]
theorem sc_Farm_lists : FnScope n_Farm_lists ["self"] (defScope s_Farm_lists) := ⟨rfl, rfl, rfl, by decide +kernel, rfl, by decide +kernel, by decide +kernel⟩
def b_Farm_lists : MS := (mRet (mCall sList [(.dat (mFld (mVar 0) "rows"))]))
def m_Farm_lists : Fn := mkFn 1 [] b_Farm_lists
theorem ok_Farm_lists {f : Addr} {fd : FuncData} (T : Txt K mg C0)  (F : FunD K "lists" "Farm.lists" (defArgs s_Farm_lists) (defBody s_Farm_lists) (defScope s_Farm_lists) [] [] f fd) : FnOk P w K mg base (L2.CX P w) 1 f fd ["self"] (spM (cfK P w K C0 ex) [] 1 m_Farm_lists) :=
  fn_ok0 (P := P) (w := w) (K := K) (mg := mg) (base := base) (c := cfK P w K C0 ex) (k := 0) (m := b_Farm_lists) (st := s_Farm_lists) (N := n_Farm_lists) (ps := ["self"]) F sc_Farm_lists (by decide) fun cdv A outer s H E hr =>
    (pss_oneM (ps_retM (pm_of_pf (b_list T.blt (po_dat (pm_fld T.cls T.na_rows (pm_var 0)))))))
def mf_Farm_lists : Fn := mkFr 1 [] (mRet (mCall sList [(.dat (mFld (mVar 0) "rows"))]))
theorem okr_Farm_lists {f : Addr} {fd : FuncData} (T : Txt K mg C0)  (F : FunD K "lists" "Farm.lists" (defArgs s_Farm_lists) (defBody s_Farm_lists) (defScope s_Farm_lists) [] [] f fd) : FnOk P w K mg base (L2.CX P w) 1 f fd ["self"] (spFr (cfK P w K C0 ex) [] 1 mf_Farm_lists) :=
  fr_ok0 (P := P) (w := w) (K := K) (mg := mg) (base := base) (c := cfK P w K C0 ex) (k := 0) (m := (mRet (mCall sList [(.dat (mFld (mVar 0) "rows"))]))) (st := s_Farm_lists) (N := n_Farm_lists) (ps := ["self"]) F sc_Farm_lists (by decide) fun cdv A outer s H E hr =>
    (pssF_ret (b_list T.blt (po_dat (pm_fld T.cls T.na_rows (pm_var 0)))))
abbrev s_Farm_failures : Stmt := inClass (top 10) 5
abbrev n_Farm_failures : List Str := ["self"]
theorem sc_Farm_failures : FnScope n_Farm_failures ["self"] (defScope s_Farm_failures) := ⟨rfl, rfl, rfl, by decide +kernel, rfl, by decide +kernel, by decide +kernel⟩
def b_Farm_failures : MS := (mRet (mFld (mVar 0) "most"))
def m_Farm_failures : Fn := mkFn 1 [] b_Farm_failures
theorem ok_Farm_failures {f : Addr} {fd : FuncData} (T : Txt K mg C0)  (F : FunD K "failures" "Farm.failures" (defArgs s_Farm_failures) (defBody s_Farm_failures) (defScope s_Farm_failures) [] [] f fd) : FnOk P w K mg base (L2.CX P w) 1 f fd ["self"] (spM (cfK P w K C0 ex) [] 1 m_Farm_failures) :=
  fn_ok0 (P := P) (w := w) (K := K) (mg := mg) (base := base) (c := cfK P w K C0 ex) (k := 0) (m := b_Farm_failures) (st := s_Farm_failures) (N := n_Farm_failures) (ps := ["self"]) F sc_Farm_failures (by decide) fun cdv A outer s H E hr =>
    (pss_oneM (ps_retM (pm_fld T.cls T.na_most (pm_var 0))))
abbrev s_Farm_check_session : Stmt := inClass (top 10) 7
abbrev n_Farm_check_session : List Str := ["self", "session"]
theorem sc_Farm_check_session : FnScope n_Farm_check_session ["self", "session"] (defScope s_Farm_check_session) := ⟨rfl, rfl, rfl, by decide +kernel, rfl, by decide +kernel, by decide +kernel⟩
def b_Farm_check_session : MS := (mIfS (mNot (mB (mCallF m_is_from [(.dat (mVar 1)), (.dat (M.pure (.int 0))), (.dat (mOp2 sSub (.dat (mCall sLen [(.dat (mFld (mVar 0) "rows"))])) (.dat (M.pure (.int 1)))))]))) (mRaise 1 [(mVar 1)]) mSkip)
def m_Farm_check_session : Fn := mkFn 2 [] b_Farm_check_session
theorem ok_Farm_check_session {f : Addr} {fd : FuncData} (T : Txt K mg C0) (c_is_from : Cal P w K mg base (cfK P w K C0 ex) 2 "is_from" [] 3 m_is_from) (c_NoSession : CalX1 P w K mg base (cfK P w K C0 ex) 1 1 "NoSession" "session") (F : FunD K "check_session" "Farm.check_session" (defArgs s_Farm_check_session) (defBody s_Farm_check_session) (defScope s_Farm_check_session) [] [] f fd) : FnOk P w K mg base (L2.CX P w) 3 f fd ["self", "session"] (spM (cfK P w K C0 ex) [] 2 m_Farm_check_session) :=
  fn_ok0 (P := P) (w := w) (K := K) (mg := mg) (base := base) (c := cfK P w K C0 ex) (k := 2) (m := b_Farm_check_session) (st := s_Farm_check_session) (N := n_Farm_check_session) (ps := ["self", "session"]) F sc_Farm_check_session (by decide) fun cdv A outer s H E hr =>
    (pss_oneM (ps_ifM (pt_notM (pt_v (pm_cal c_is_from hr (takes_of rfl rfl rfl rfl) (pr_dat (pm_var 1) (pr_dat pm_int (pr_dat (o_sub (po_dat (b_len T.blt (po_dat (pm_fld T.cls T.na_rows (pm_var 0))))) (po_dat pm_int)) pr_nil)))))) (pss_oneM (ps_x1 c_NoSession rfl (takes_of rfl rfl rfl rfl) hr (pm_var 1))) pss_nilM))
abbrev s_law_draw : Stmt := top 12
abbrev n_law_draw : List Str := ["_law_well", "_law_many", "_law_found", "_law_number"]
theorem sc_law_draw : FnScope n_law_draw ["_law_well", "_law_many"] (defScope s_law_draw) := ⟨rfl, rfl, rfl, by decide +kernel, rfl, by decide +kernel, by decide +kernel⟩
def b_law_draw : MS := (mSeq (mIfS (mB (mOp2 sGt (.dat (mOp2 sIx (.own 0) (.dat (M.pure (.int 0))))) (.dat (M.pure (.int 0))))) (mSeq (mAsg (mOp2 sMod (.dat (mOp2 sIx (.own 0) (.dat (M.pure (.int 0))))) (.dat (mVar 1))) (gNm 2)) (mSeq (mSetIx 0 (M.pure (.int 0)) (mOp2 sFdiv (.dat (mOp2 sIx (.own 0) (.dat (M.pure (.int 0))))) (.dat (mVar 1)))) (mRet (mVar 2)))) mSkip) (mSeq (mSetIx 0 (M.pure (.int 2)) (mOp2 sAdd (.dat (mOp2 sIx (.own 0) (.dat (M.pure (.int 2))))) (.dat (M.pure (.int 1))))) (mSeq (mAsg (mOp2 sMod (.dat (mOp2 sMul (.dat (mOp2 sAdd (.dat (mOp2 sAdd (.dat (mOp2 sIx (.own 0) (.dat (M.pure (.int 1))))) (.dat (mOp2 sMul (.dat (M.pure (.int 104729))) (.dat (mOp2 sIx (.own 0) (.dat (M.pure (.int 2))))))))) (.dat (M.pure (.int 1))))) (.dat (M.pure (.int 48271))))) (.dat (M.pure (.int 2147483647)))) (gNm 3)) (mSeq (mAsg (mOp2 sMod (.dat (mOp2 sMul (.dat (mVar 3)) (.dat (mOp2 sAdd (.dat (mOp2 sFdiv (.dat (mVar 3)) (.dat (M.pure (.int 1009))))) (.dat (M.pure (.int 69621))))))) (.dat (M.pure (.int 2147483647)))) (gNm 3)) (mRet (mOp2 sMod (.dat (mOp2 sMod (.dat (mOp2 sMul (.dat (mVar 3)) (.dat (mOp2 sAdd (.dat (mOp2 sFdiv (.dat (mVar 3)) (.dat (M.pure (.int 2003))))) (.dat (M.pure (.int 40692))))))) (.dat (M.pure (.int 2147483399))))) (.dat (mVar 1))))))))
def m_law_draw : Fn := mkFn 4 [0] b_law_draw
theorem ok_law_draw {f : Addr} {fd : FuncData} (T : Txt K mg C0)  (F : FunD K "_law_draw" "_law_draw" (defArgs s_law_draw) (defBody s_law_draw) (defScope s_law_draw) [] [] f fd) : FnOk P w K mg base (L2.CX P w) 1 f fd ["_law_well", "_law_many"] (spM (cfK P w K C0 ex) [0] 2 m_law_draw) :=
  fn_ok1 0 (P := P) (w := w) (K := K) (mg := mg) (base := base) (c := cfK P w K C0 ex) (k := 0) (m := b_law_draw) (st := s_law_draw) (N := n_law_draw) (ps := ["_law_well", "_law_many"]) F sc_law_draw (by decide) (by decide) fun aR cdv A outer s H E hr =>
    (pss_consM (ps_ifM (t_gt (po_dat (o_ix (po_own 0) (po_dat pm_int))) (po_dat pm_int)) (pss_consM (ps_asgM (o_mod (po_dat (o_ix (po_own 0) (po_dat pm_int))) (po_dat (pm_var 1))) (pg_nm 2 sc_law_draw.nd rfl)) (pss_consM (ps_setIx 0 (o_fdiv (po_dat (o_ix (po_own 0) (po_dat pm_int))) (po_dat (pm_var 1))) pm_int) (pss_oneM (ps_retM (pm_var 2))))) pss_nilM) (pss_consM (ps_setIx 0 (o_add (po_dat (o_ix (po_own 0) (po_dat pm_int))) (po_dat pm_int)) pm_int) (pss_consM (ps_asgM (o_mod (po_dat (o_mul (po_dat (o_add (po_dat (o_add (po_dat (o_ix (po_own 0) (po_dat pm_int))) (po_dat (o_mul (po_dat pm_int) (po_dat (o_ix (po_own 0) (po_dat pm_int))))))) (po_dat pm_int))) (po_dat pm_int))) (po_dat pm_int)) (pg_nm 3 sc_law_draw.nd rfl)) (pss_consM (ps_asgM (o_mod (po_dat (o_mul (po_dat (pm_var 3)) (po_dat (o_add (po_dat (o_fdiv (po_dat (pm_var 3)) (po_dat pm_int))) (po_dat pm_int))))) (po_dat pm_int)) (pg_nm 3 sc_law_draw.nd rfl)) (pss_oneM (ps_retM (o_mod (po_dat (o_mod (po_dat (o_mul (po_dat (pm_var 3)) (po_dat (o_add (po_dat (o_fdiv (po_dat (pm_var 3)) (po_dat pm_int))) (po_dat pm_int))))) (po_dat pm_int))) (po_dat (pm_var 1)))))))))
abbrev s_law_farm : Stmt := top 13
abbrev n_law_farm : List Str := ["_law_well", "_law_most", "_law_many", "_law_hosts", "_law_rows", "_law_k", "_law_left", "_law_row", "_law_turn"]
theorem sc_law_farm : FnScope n_law_farm ["_law_well", "_law_most", "_law_many"] (defScope s_law_farm) := ⟨rfl, rfl, rfl, by decide +kernel, rfl, by decide +kernel, by decide +kernel⟩
def b_law_farm : MS := (mSeq (mAsg (mOp2 sAdd (.dat (M.pure (.int 1))) (.dat (mCallF m_law_draw [(.own 0), (.dat (mVar 1))]))) (gNm 3)) (mSeq (mNew (mLst []) 4) (mSeq (mFor (mRange1 (mOp2 sSub (.dat (mVar 2)) (.dat (mOp2 sFdiv (.dat (mCallF m_law_draw [(.own 0), (.dat (mOp2 sAdd (.dat (mVar 2)) (.dat (M.pure (.int 1)))))])) (.dat (mOp2 sIx (.dat (mLst [(M.pure (.int 1)), (M.pure (.int 3))])) (.dat (mCallF m_law_draw [(.own 0), (.dat (M.pure (.int 2)))])))))))) (gNm 5) (mSeq (mNew (mListRg (mVar 3)) 6) (mSeq (mNew (mLst []) 7) (mSeq (mFor (mRange1 (mOp2 sAdd (.dat (M.pure (.int 1))) (.dat (mCallF m_law_draw [(.own 0), (.dat (mVar 3))])))) (gNm 8) (mExpr (mMethWR wAppend 7 [(mMethWR wPopAt 6 [(mOp2 sFdiv (.dat (mCallF m_law_draw [(.own 0), (.dat (mCall sLen [(.own 6)]))])) (.dat (mOp2 sIx (.dat (mLst [(M.pure (.int 1)), (M.pure (.int 2))])) (.dat (mCallF m_law_draw [(.own 0), (.dat (M.pure (.int 2)))])))))])]))) (mSeq (mExpr (mMethWR wAppend 4 [(mCall sTuple [(.own 7)])])) (mIfS (mB (mOp2 sEq (.dat (mCallF m_law_draw [(.own 0), (.dat (M.pure (.int 4)))])) (.dat (M.pure (.int 0))))) (mExpr (mMethWR wAppend 4 [(mCall sTuple [(.dat (mRev sRev (.own 7)))])])) mSkip)))))) (mSeq (mNew (mSl sCutL (.own 4) none (some (mVar 2))) 4) (mFrz 4 (mRet (mTup [(mVar 3), (mVar 4), (mOp2 sIx (.dat (mLst [(mCallF m_law_draw [(.own 0), (.dat (mOp2 sAdd (.dat (mVar 3)) (.dat (M.pure (.int 1)))))]), (mCall sMin [(.dat (M.pure (.int 2))), (.dat (mVar 3))]), (mVar 3)])) (.dat (mCallF m_law_draw [(.own 0), (.dat (M.pure (.int 3)))])))])))))))
def m_law_farm : Fn := mkFn 9 [0] b_law_farm
theorem ok_law_farm {f : Addr} {fd : FuncData} (T : Txt K mg C0) (c_law_draw : Cal P w K mg base (cfK P w K C0 ex) 1 "_law_draw" [0] 2 m_law_draw) (F : FunD K "_law_farm" "_law_farm" (defArgs s_law_farm) (defBody s_law_farm) (defScope s_law_farm) [] [] f fd) : FnOk P w K mg base (L2.CX P w) 2 f fd ["_law_well", "_law_most", "_law_many"] (spM (cfK P w K C0 ex) [0] 3 m_law_farm) :=
  fn_ok1 0 (P := P) (w := w) (K := K) (mg := mg) (base := base) (c := cfK P w K C0 ex) (k := 1) (m := b_law_farm) (st := s_law_farm) (N := n_law_farm) (ps := ["_law_well", "_law_most", "_law_many"]) F sc_law_farm (by decide) (by decide) fun aR cdv A outer s H E hr =>
    (pss_consM (ps_asgM (o_add (po_dat pm_int) (po_dat (pm_cal c_law_draw hr (takes_of rfl rfl rfl rfl) (pr_own 0 (pr_dat (pm_var 1) pr_nil))))) (pg_nm 3 sc_law_farm.nd rfl)) (pss_consM (ps_newM 4 sc_law_farm.nd (pf_lst pd_nil) rfl) (pss_consM (ps_forM (passes_of rfl) rfl (pi_range1M T.blt.zrange (o_sub (po_dat (pm_var 2)) (po_dat (o_fdiv (po_dat (pm_cal c_law_draw hr (takes_of rfl rfl rfl rfl) (pr_own 0 (pr_dat (o_add (po_dat (pm_var 2)) (po_dat pm_int)) pr_nil)))) (po_dat (o_ix (po_dat (pm_of_pf (pf_lst (pd_cons pm_int (pd_cons pm_int pd_nil))))) (po_dat (pm_cal c_law_draw hr (takes_of rfl rfl rfl rfl) (pr_own 0 (pr_dat pm_int pr_nil)))))))))) (pg_nm 5 sc_law_farm.nd rfl) (pss_consM (ps_newM 6 sc_law_farm.nd (f_lrange T.blt rfl (pm_var 3)) rfl) (pss_consM (ps_newM 7 sc_law_farm.nd (pf_lst pd_nil) rfl) (pss_consM (ps_forM (passes_of rfl) rfl (pi_range1M T.blt.zrange (o_add (po_dat pm_int) (po_dat (pm_cal c_law_draw hr (takes_of rfl rfl rfl rfl) (pr_own 0 (pr_dat (pm_var 3) pr_nil)))))) (pg_nm 8 sc_law_farm.nd rfl) (pss_oneM (ps_exprM (m_append 7 (m_popAt 6 (o_fdiv (po_dat (pm_cal c_law_draw hr (takes_of rfl rfl rfl rfl) (pr_own 0 (pr_dat (b_len T.blt (po_own 6)) pr_nil)))) (po_dat (o_ix (po_dat (pm_of_pf (pf_lst (pd_cons pm_int (pd_cons pm_int pd_nil))))) (po_dat (pm_cal c_law_draw hr (takes_of rfl rfl rfl rfl) (pr_own 0 (pr_dat pm_int pr_nil)))))))))))) (pss_consM (ps_exprM (m_append 4 (b_tuple T.blt (po_own 7)))) (pss_oneM (ps_ifM (t_eq hr.units (po_dat (pm_cal c_law_draw hr (takes_of rfl rfl rfl rfl) (pr_own 0 (pr_dat pm_int pr_nil)))) (po_dat pm_int)) (pss_oneM (ps_exprM (m_append 4 (b_tuple T.blt (po_dat (o_revL (po_own 7))))))) pss_nilM))))))) (pss_consM (ps_newM 4 sc_law_farm.nd (f_sl (po_own 4) pp_none (pp_some (pm_var 2))) rfl) (pss_oneM (ps_frz 4 rfl (ps_retM (pm_tup (pd_cons (pm_var 3) (pd_cons (pm_var 4) (pd_cons (o_ix (po_dat (pm_of_pf (pf_lst (pd_cons (pm_cal c_law_draw hr (takes_of rfl rfl rfl rfl) (pr_own 0 (pr_dat (o_add (po_dat (pm_var 3)) (po_dat pm_int)) pr_nil))) (pd_cons (b_min T.blt rfl (pa_consO (po_dat pm_int) (pa_consO (po_dat (pm_var 3)) pa_nilO))) (pd_cons (pm_var 3) pd_nil)))))) (po_dat (pm_cal c_law_draw hr (takes_of rfl rfl rfl rfl) (pr_own 0 (pr_dat pm_int pr_nil))))) pd_nil)))))))))))
abbrev s_law_within : Stmt := top 14
abbrev n_law_within : List Str := ["_law_value", "_law_low", "_law_high"]
theorem sc_law_within : FnScope n_law_within ["_law_value", "_law_low", "_law_high"] (defScope s_law_within) := ⟨rfl, rfl, rfl, by decide +kernel, rfl, by decide +kernel, by decide +kernel⟩
def b_law_within : MS := (mRet (mAndV (mCall sIsi [(.dat (mVar 0)), (.dat (M.pure (.raw (.ty "int"))))]) (mAndV (mNotV (mCall sIsi [(.dat (mVar 0)), (.dat (M.pure (.raw (.ty "bool"))))])) (mChain sLe sLe (.dat (mVar 1)) (.dat (mVar 0)) (.dat (mVar 2))))))
def m_law_within : Fn := mkFn 3 [] b_law_within
theorem ok_law_within {f : Addr} {fd : FuncData} (T : Txt K mg C0)  (F : FunD K "_law_within" "_law_within" (defArgs s_law_within) (defBody s_law_within) (defScope s_law_within) [] [] f fd) : FnOk P w K mg base (L2.CX P w) 1 f fd ["_law_value", "_law_low", "_law_high"] (spM (cfK P w K C0 ex) [] 3 m_law_within) :=
  fn_ok0 (P := P) (w := w) (K := K) (mg := mg) (base := base) (c := cfK P w K C0 ex) (k := 0) (m := b_law_within) (st := s_law_within) (N := n_law_within) (ps := ["_law_value", "_law_low", "_law_high"]) F sc_law_within (by decide) fun cdv A outer s H E hr =>
    (pss_oneM (ps_retM (pm_andV (b_isi T.blt (po_dat (pm_var 0)) (po_dat (b_ty T.blt.zint PyProof.Rows.boot_int))) (pm_andV (pm_notV (b_isi T.blt (po_dat (pm_var 0)) (po_dat (b_ty T.blt.zbool PyProof.Rows.boot_bool)))) (pm_oneV (o_chlele (po_dat (pm_var 1)) (po_dat (pm_var 0)) (po_dat (pm_var 2))))))))
abbrev s_law_bad : Stmt := top 15
abbrev n_law_bad : List Str := ["_law_hosts", "_law_rows", "_law_most", "_law_index", "_law_row", "_law_one"]
theorem sc_law_bad : FnScope n_law_bad ["_law_hosts", "_law_rows", "_law_most"] (defScope s_law_bad) := ⟨rfl, rfl, rfl, by decide +kernel, rfl, by decide +kernel, by decide +kernel⟩
def b_law_bad : MS := (mSeq (mIfS (mNot (mB (mCallF m_law_within [(.dat (mVar 0)), (.dat (M.pure (.int 1))), (.dat (M.pure (.int 30)))]))) (mRet (mTup [(M.pure (.str "servers")), (mNeg (M.pure (.int 1)))])) mSkip) (mSeq (mIfS (mOr (mNot (mB (mCall sIsi [(.dat (mVar 1)), (.dat (M.pure (.raw (.ty "list"))))]))) (mB (mOp2 sGt (.dat (mCall sLen [(.dat (mVar 1))])) (.dat (M.pure (.int 60)))))) (mRet (mTup [(M.pure (.str "lists")), (mNeg (M.pure (.int 1)))])) mSkip) (mSeq (mFor (mEnum (mVar 1)) (gTp [3, 4]) (mSeq (mIfS (mOr (mNot (mB (mCall sIsi [(.dat (mVar 4)), (.dat (M.pure (.raw (.ty "tuple"))))]))) (mB (mOp2 sEq0 (.dat (mVar 4)) (.dat (mTup []))))) (mRet (mTup [(M.pure (.str "lists")), (mVar 3)])) mSkip) (mSeq (mIfS (mB (mOp2 sNe (.dat (mLc (mSeqI (mVar 4)) (gNm 5) (mNot (mB (mCallF m_law_within [(.dat (mVar 5)), (.dat (M.pure (.int 0))), (.dat (mOp2 sSub (.dat (mVar 0)) (.dat (M.pure (.int 1)))))]))) (mVar 5) [5])) (.dat (mLst [])))) (mRet (mTup [(M.pure (.str "lists")), (mVar 3)])) mSkip) (mIfS (mB (mOp2 sLt (.dat (mLenSet (mVar 4))) (.dat (mCall sLen [(.dat (mVar 4))])))) (mRet (mTup [(M.pure (.str "lists")), (mVar 3)])) mSkip)))) (mRet (mOp2 sIx (.dat (mLst [(mTup [(M.pure (.str "failures")), (mNeg (M.pure (.int 1)))]), (M.pure .non)])) (.dat (mCall sInt [(.dat (mCallF m_law_within [(.dat (mVar 2)), (.dat (M.pure (.int 0))), (.dat (mVar 0))]))])))))))
def m_law_bad : Fn := mkFn 6 [] b_law_bad
theorem ok_law_bad {f : Addr} {fd : FuncData} (T : Txt K mg C0) (c_law_within : Cal P w K mg base (cfK P w K C0 ex) 1 "_law_within" [] 3 m_law_within) (F : FunD K "_law_bad" "_law_bad" (defArgs s_law_bad) (defBody s_law_bad) (defScope s_law_bad) [] [] f fd) : FnOk P w K mg base (L2.CX P w) 2 f fd ["_law_hosts", "_law_rows", "_law_most"] (spM (cfK P w K C0 ex) [] 3 m_law_bad) :=
  fn_ok0 (P := P) (w := w) (K := K) (mg := mg) (base := base) (c := cfK P w K C0 ex) (k := 1) (m := b_law_bad) (st := s_law_bad) (N := n_law_bad) (ps := ["_law_hosts", "_law_rows", "_law_most"]) F sc_law_bad (by decide) fun cdv A outer s H E hr =>
    (pss_consM (ps_ifM (pt_notM (pt_v (pm_cal c_law_within hr (takes_of rfl rfl rfl rfl) (pr_dat (pm_var 0) (pr_dat pm_int (pr_dat pm_int pr_nil)))))) (pss_oneM (ps_retM (pm_tup (pd_cons pm_str (pd_cons (pm_neg pm_int) pd_nil))))) pss_nilM) (pss_consM (ps_ifM (t_or (pt_notM (pt_v (b_isi T.blt (po_dat (pm_var 1)) (po_dat (b_ty T.blt.zlist PyProof.Rows.boot_list))))) (pw_and1' (t_gt (po_dat (b_len T.blt (po_dat (pm_var 1)))) (po_dat pm_int)))) (pss_oneM (ps_retM (pm_tup (pd_cons pm_str (pd_cons (pm_neg pm_int) pd_nil))))) pss_nilM) (pss_consM (ps_forM (passes_of rfl) rfl (pi_enumM rfl T.blt.zenumerate (pm_var 1)) (pg_tpM rfl rfl (pgs_consM (pg_nm 3 sc_law_bad.nd rfl) (pgs_consM (pg_nm 4 sc_law_bad.nd rfl) pgs_nilM))) (pss_consM (ps_ifM (t_or (pt_notM (pt_v (b_isi T.blt (po_dat (pm_var 4)) (po_dat (b_ty T.blt.ztuple PyProof.Rows.boot_tuple))))) (pw_and1' (t_eq0 hr.units (po_dat (pm_var 4)) (po_dat (pm_tup pd_nil))))) (pss_oneM (ps_retM (pm_tup (pd_cons pm_str (pd_cons (pm_var 3) pd_nil))))) pss_nilM) (pss_consM (ps_ifM (t_ne hr.units (po_dat (pm_of_pf (pf_lc [("_law_one", 5)] rfl sc_law_bad.nd (pi_seqM rfl (pm_var 4)) (blk_of (by rfl)) (by rfl) (by rfl) (fun s H C cl fp => (pg_nm 5 sc_law_bad.nd rfl)) (fun s H C cl fp => (pts_oneM (pt_notM (pt_v (pm_cal c_law_within hr takes0 (pr_dat (pm_var 5) (pr_dat pm_int (pr_dat (o_sub (po_dat (pm_var 0)) (po_dat pm_int)) pr_nil)))))))) (fun s H C cl fp => (pm_var 5))))) (po_dat (pm_of_pf (pf_lst pd_nil)))) (pss_oneM (ps_retM (pm_tup (pd_cons pm_str (pd_cons (pm_var 3) pd_nil))))) pss_nilM) (pss_oneM (ps_ifM (t_lt (po_dat (b_lenset T.blt rfl (pm_var 4))) (po_dat (b_len T.blt (po_dat (pm_var 4))))) (pss_oneM (ps_retM (pm_tup (pd_cons pm_str (pd_cons (pm_var 3) pd_nil))))) pss_nilM))))) (pss_oneM (ps_retM (o_ix (po_dat (pm_of_pf (pf_lst (pd_cons (pm_tup (pd_cons pm_str (pd_cons (pm_neg pm_int) pd_nil))) (pd_cons pm_non pd_nil))))) (po_dat (b_int T.blt (po_dat (pm_cal c_law_within hr (takes_of rfl rfl rfl rfl) (pr_dat (pm_var 2) (pr_dat pm_int (pr_dat (pm_var 0) pr_nil)))))))))))))
abbrev s_law_raised : Stmt := top 16
abbrev n_law_raised : List Str := ["_law_ask", "_law_found", "e"]
theorem sc_law_raised : FnScope n_law_raised ["_law_ask"] (defScope s_law_raised) := ⟨rfl, rfl, rfl, by decide +kernel, rfl, by decide +kernel, by decide +kernel⟩
def hv_law_raised : Exc → Option D := hvL [0, 1] [(0, tupD ["index", "part"] [.fld "part", .fld "index"]), (1, tupD ["session"] [.con (.str "session"), .fld "session"])]
theorem gv_law_raised {X : Cx} {C0 : Addr} {ex : Nat → Addr} {qx : Str} (T : Txt X.K X.mg C0) (S : AskC X.K (cfK X.prog X.w X.K C0 ex) [0, 1] [0, 1]) (t_NoFarm : CatX X.K X.mg (cfK X.prog X.w X.K C0 ex) 0 "NoFarm" ["index", "part"]) (t_NoSession : CatX X.K X.mg (cfK X.prog X.w X.K C0 ex) 1 "NoSession" ["session"]) (g : Addr) (cdv : Value) : GivesS X n_law_raised "_law_raised" (defScope s_law_raised) g cdv (defBody s_law_raised) "_law_ask" qx (TTx (cfK X.prog X.w X.K C0 ex) (fun _ => D.non) hv_law_raised) :=
  gives_cls (cl := [(0, tupD ["index", "part"] [.fld "part", .fld "index"]), (1, tupD ["session"] [.con (.str "session"), .fld "session"])]) (fun k hk q hq => S.ex k hk q.1 (show q.1 ∈ [0, 1] from List.mem_map_of_mem (f := fun (z : Nat × (Exc → Option D)) => z.1) hq)) sc_law_raised.nd (.inl rfl) rfl rfl (by decide) (by decide) fun s H => (.cons ⟨rfl, by decide, .inl t_NoFarm.gC⟩ (fun a oe cls d pn hz hf => pss_one (ps_imp (ps_asg (px_tup (px_fcons (px_fld (i := 2) t_NoFarm hz hf rfl (by first | exact Or.inl rfl | exact Or.inr (Or.inl rfl) | exact Or.inr (Or.inr rfl)) (by simp)) (px_fcons (px_fld (i := 2) t_NoFarm hz hf rfl (by first | exact Or.inl rfl | exact Or.inr (Or.inl rfl) | exact Or.inr (Or.inr rfl)) (by simp)) px_nil))) (pg_name (i := 1) sc_law_raised.nd rfl (.inl rfl) (.inr rfl))) fun D σ H h => h)) (.cons ⟨rfl, by decide, .inl t_NoSession.gC⟩ (fun a oe cls d pn hz hf => pss_one (ps_imp (ps_asg (px_tup (px_con pe_str (fun _ => .str _) (px_fcons (px_fld (i := 2) t_NoSession hz hf rfl (by first | exact Or.inl rfl | exact Or.inr (Or.inl rfl) | exact Or.inr (Or.inr rfl)) (by simp)) px_nil))) (pg_name (i := 1) sc_law_raised.nd rfl (.inl rfl) (.inr rfl))) fun D σ H h => h)) .nil))
abbrev s_law_bent : Stmt := top 17
abbrev n_law_bent : List Str := ["_law_well", "_law_rows", "_law_hosts", "_law_k", "_law_at", "_law_odd", "_law_turn"]
theorem sc_law_bent : FnScope n_law_bent ["_law_well", "_law_rows", "_law_hosts"] (defScope s_law_bent) := ⟨rfl, rfl, rfl, by decide +kernel, rfl, by decide +kernel, by decide +kernel⟩
def b_law_bent : MS := (mSeq (mFor (mRange1 (mOp2 sAdd (.dat (M.pure (.int 1))) (.dat (mCallF m_law_draw [(.own 0), (.dat (M.pure (.int 2)))])))) (gNm 3) (mSeq (mAsg (mCallF m_law_draw [(.own 0), (.dat (mOp2 sAdd (.dat (mCall sLen [(.dat (mVar 1))])) (.dat (M.pure (.int 1)))))]) (gNm 4)) (mSeq (mAsg (mLst [(mTup []), (mTup [(M.pure (.int 0)), (M.pure (.int 0))]), (mTup [(mVar 2)]), (mTup [(mNeg (M.pure (.int 1)))]), (mTup [(M.pure (.bl true)), (M.pure (.int 0))]), (mLst [(M.pure (.int 0))]), (M.pure .non), (M.pure (.int 0)), (mTup [(M.pure (.str "0"))]), (mTup [(M.pure (.int 0)), (M.pure .non)]), (mTup [(M.pure (.int 0)), (M.pure (.bl false))]), (mTup [(mLst [(M.pure (.int 0))])]), (mTup [(M.pure (.int 0)), (mVar 2)])]) (gNm 5)) (mSeq (mAsg (mCallF m_law_draw [(.own 0), (.dat (M.pure (.int 3)))]) (gNm 6)) (mIfS (mB (mOp2 sEq (.dat (mVar 6)) (.dat (M.pure (.int 0))))) (mAsg (mOp2 sAdd (.dat (mSl sCut (.dat (mVar 1)) none (some (mVar 4)))) (.dat (mSl sCut (.dat (mVar 1)) (some (mOp2 sAdd (.dat (mVar 4)) (.dat (M.pure (.int 1))))) none))) (gNm 1)) (mAsg (mOp2 sAdd (.dat (mOp2 sAdd (.dat (mSl sCut (.dat (mVar 1)) none (some (mVar 4)))) (.dat (mLst [(mOp2 sIx (.dat (mVar 5)) (.dat (mCallF m_law_draw [(.own 0), (.dat (M.pure (.int 13)))])))])))) (.dat (mSl sCut (.dat (mVar 1)) (some (mOp2 sAdd (.dat (mVar 4)) (.dat (mCall sInt [(.dat (mOp2 sEq (.dat (mVar 6)) (.dat (M.pure (.int 1)))))])))) none))) (gNm 1))))))) (mRet (mVar 1)))
def m_law_bent : Fn := mkFn 7 [0] b_law_bent
theorem ok_law_bent {f : Addr} {fd : FuncData} (T : Txt K mg C0) (c_law_draw : Cal P w K mg base (cfK P w K C0 ex) 1 "_law_draw" [0] 2 m_law_draw) (F : FunD K "_law_bent" "_law_bent" (defArgs s_law_bent) (defBody s_law_bent) (defScope s_law_bent) [] [] f fd) : FnOk P w K mg base (L2.CX P w) 2 f fd ["_law_well", "_law_rows", "_law_hosts"] (spM (cfK P w K C0 ex) [0] 3 m_law_bent) :=
  fn_ok1 0 (P := P) (w := w) (K := K) (mg := mg) (base := base) (c := cfK P w K C0 ex) (k := 1) (m := b_law_bent) (st := s_law_bent) (N := n_law_bent) (ps := ["_law_well", "_law_rows", "_law_hosts"]) F sc_law_bent (by decide) (by decide) fun aR cdv A outer s H E hr =>
    (pss_consM (ps_forM (passes_of rfl) rfl (pi_range1M T.blt.zrange (o_add (po_dat pm_int) (po_dat (pm_cal c_law_draw hr (takes_of rfl rfl rfl rfl) (pr_own 0 (pr_dat pm_int pr_nil)))))) (pg_nm 3 sc_law_bent.nd rfl) (pss_consM (ps_asgM (pm_cal c_law_draw hr (takes_of rfl rfl rfl rfl) (pr_own 0 (pr_dat (o_add (po_dat (b_len T.blt (po_dat (pm_var 1)))) (po_dat pm_int)) pr_nil))) (pg_nm 4 sc_law_bent.nd rfl)) (pss_consM (ps_asgM (pm_of_pf (pf_lst (pd_cons (pm_tup pd_nil) (pd_cons (pm_tup (pd_cons pm_int (pd_cons pm_int pd_nil))) (pd_cons (pm_tup (pd_cons (pm_var 2) pd_nil)) (pd_cons (pm_tup (pd_cons (pm_neg pm_int) pd_nil)) (pd_cons (pm_tup (pd_cons pm_bl (pd_cons pm_int pd_nil))) (pd_cons (pm_of_pf (pf_lst (pd_cons pm_int pd_nil))) (pd_cons pm_non (pd_cons pm_int (pd_cons (pm_tup (pd_cons pm_str pd_nil)) (pd_cons (pm_tup (pd_cons pm_int (pd_cons pm_non pd_nil))) (pd_cons (pm_tup (pd_cons pm_int (pd_cons pm_bl pd_nil))) (pd_cons (pm_tup (pd_cons (pm_of_pf (pf_lst (pd_cons pm_int pd_nil))) pd_nil)) (pd_cons (pm_tup (pd_cons pm_int (pd_cons (pm_var 2) pd_nil))) pd_nil))))))))))))))) (pg_nm 5 sc_law_bent.nd rfl)) (pss_consM (ps_asgM (pm_cal c_law_draw hr (takes_of rfl rfl rfl rfl) (pr_own 0 (pr_dat pm_int pr_nil))) (pg_nm 6 sc_law_bent.nd rfl)) (pss_oneM (ps_ifM (t_eq hr.units (po_dat (pm_var 6)) (po_dat pm_int)) (pss_oneM (ps_asgM (o_add (po_dat (o_sl (po_dat (pm_var 1)) pp_none (pp_some (pm_var 4)))) (po_dat (o_sl (po_dat (pm_var 1)) (pp_some (o_add (po_dat (pm_var 4)) (po_dat pm_int))) pp_none))) (pg_nm 1 sc_law_bent.nd rfl))) (pss_oneM (ps_asgM (o_add (po_dat (o_add (po_dat (o_sl (po_dat (pm_var 1)) pp_none (pp_some (pm_var 4)))) (po_dat (pm_of_pf (pf_lst (pd_cons (o_ix (po_dat (pm_var 5)) (po_dat (pm_cal c_law_draw hr (takes_of rfl rfl rfl rfl) (pr_own 0 (pr_dat pm_int pr_nil))))) pd_nil)))))) (po_dat (o_sl (po_dat (pm_var 1)) (pp_some (o_add (po_dat (pm_var 4)) (po_dat (b_int T.blt (po_dat (o_eq hr.units (po_dat (pm_var 6)) (po_dat pm_int))))))) pp_none))) (pg_nm 1 sc_law_bent.nd rfl))))))))) (pss_oneM (ps_retM (pm_var 1))))
abbrev s_law_equal_right : Stmt := top 18
abbrev n_law_equal_right : List Str := ["_law_hosts", "_law_rows", "_law_most", "_law_farm_here", "_law_index", "_law_row", "_law_row_then"]
theorem sc_law_equal_right : FnScope n_law_equal_right ["_law_hosts", "_law_rows", "_law_most"] (defScope s_law_equal_right) := ⟨rfl, rfl, rfl, by decide +kernel, rfl, by decide +kernel, by decide +kernel⟩
def b_law_equal_right : MS := (mSeq (mAsg (mMake m_Farmdd_initdd [(mVar 0), (mVar 1), (mVar 2)]) (gNm 3)) (mSeq (mIfS (mOr (mB (mNeF m_Farmdd_eqdd (mVar 3) (mMake m_Farmdd_initdd [(mVar 0), (mCall sList [(.dat (mVar 1))]), (mVar 2)]))) (mB (mEqFT m_Farmdd_eqdd (mVar 3) (mTup [(mVar 0), (mVar 1), (mVar 2)])))) (mRet (M.pure (.bl false))) mSkip) (mSeq (mIfS (mAnd (mB (mOp2 sLt (.dat (mVar 0)) (.dat (M.pure (.int 30))))) (mB (mEqF m_Farmdd_eqdd (mVar 3) (mMake m_Farmdd_initdd [(mOp2 sAdd (.dat (mVar 0)) (.dat (M.pure (.int 1)))), (mVar 1), (mVar 2)])))) (mRet (M.pure (.bl false))) mSkip) (mSeq (mIfS (mAnd (mB (mOp2 sLt (.dat (mVar 2)) (.dat (mVar 0)))) (mB (mEqF m_Farmdd_eqdd (mVar 3) (mMake m_Farmdd_initdd [(mVar 0), (mVar 1), (mOp2 sAdd (.dat (mVar 2)) (.dat (M.pure (.int 1))))])))) (mRet (M.pure (.bl false))) mSkip) (mSeq (mIfS (mAnd (mB (mOp2 sNe (.dat (mVar 1)) (.dat (mRev sRev (.dat (mVar 1)))))) (mB (mEqF m_Farmdd_eqdd (mVar 3) (mMake m_Farmdd_initdd [(mVar 0), (mRev sRev (.dat (mVar 1))), (mVar 2)])))) (mRet (M.pure (.bl false))) mSkip) (mSeq (mFor (mEnum (mSl sCut (.dat (mVar 1)) none (some (M.pure (.int 4))))) (gTp [4, 5]) (mFor (mSeqI (mLst [(mSl sCut (.dat (mVar 5)) none (some (mNeg (M.pure (.int 1))))), (mRev sRevT (.dat (mVar 5)))])) (gNm 6) (mIfS (mAnd (mB (mOp2 sNe (.dat (mVar 6)) (.dat (mTup [])))) (mB (mOp2 sNe (.dat (mVar 6)) (.dat (mVar 5))))) (mIfS (mB (mEqF m_Farmdd_eqdd (mVar 3) (mMake m_Farmdd_initdd [(mVar 0), (mOp2 sAdd (.dat (mOp2 sAdd (.dat (mSl sCut (.dat (mVar 1)) none (some (mVar 4)))) (.dat (mLst [(mVar 6)])))) (.dat (mSl sCut (.dat (mVar 1)) (some (mOp2 sAdd (.dat (mVar 4)) (.dat (M.pure (.int 1))))) none))), (mVar 2)]))) (mRet (M.pure (.bl false))) mSkip) mSkip))) (mRet (mOrV (mOp2 sEq (.dat (mVar 1)) (.dat (mLst []))) (mNeF m_Farmdd_eqdd (mVar 3) (mMake m_Farmdd_initdd [(mVar 0), (mSl sCut (.dat (mVar 1)) (some (M.pure (.int 1))) none), (mVar 2)]))))))))))
def m_law_equal_right : Fn := mkFn 7 [] b_law_equal_right
theorem ok_law_equal_right {f : Addr} {fd : FuncData} (T : Txt K mg C0) (c_Farm : CalM P w K mg base (cfK P w K C0 ex) 4 "Farm" 4 m_Farmdd_initdd) (n_eq : CalNE P w K mg base (cfK P w K C0 ex) 1 m_Farmdd_eqdd) (c_eq : CalE P w K mg base (cfK P w K C0 ex) 1 m_Farmdd_eqdd) (F : FunD K "_law_equal_right" "_law_equal_right" (defArgs s_law_equal_right) (defBody s_law_equal_right) (defScope s_law_equal_right) [] [] f fd) : FnOk P w K mg base (L2.CX P w) 6 f fd ["_law_hosts", "_law_rows", "_law_most"] (spM (cfK P w K C0 ex) [] 3 m_law_equal_right) :=
  fn_ok0 (P := P) (w := w) (K := K) (mg := mg) (base := base) (c := cfK P w K C0 ex) (k := 5) (m := b_law_equal_right) (st := s_law_equal_right) (N := n_law_equal_right) (ps := ["_law_hosts", "_law_rows", "_law_most"]) F sc_law_equal_right (by decide) fun cdv A outer s H E hr =>
    (pss_consM (ps_asgM (pm_calM c_Farm hr (takes_of rfl rfl rfl rfl) (pd_cons (pm_var 0) (pd_cons (pm_var 1) (pd_cons (pm_var 2) pd_nil)))) (pg_nm 3 sc_law_equal_right.nd rfl)) (pss_consM (ps_ifM (t_or (pt_neF n_eq hr (takes_of rfl rfl rfl rfl) (pm_var 3) (pm_calM c_Farm hr (takes_of rfl rfl rfl rfl) (pd_cons (pm_var 0) (pd_cons (pm_of_pf (b_list T.blt (po_dat (pm_var 1)))) (pd_cons (pm_var 2) pd_nil))))) (pw_and1' (pt_eqFT c_eq hr (takes_of rfl rfl rfl rfl) (pm_var 3) (pm_tup (pd_cons (pm_var 0) (pd_cons (pm_var 1) (pd_cons (pm_var 2) pd_nil))))))) (pss_oneM (ps_retM pm_bl)) pss_nilM) (pss_consM (ps_ifM (t_and (t_lt (po_dat (pm_var 0)) (po_dat pm_int)) (pw_and1' (pt_eqF c_eq hr (takes_of rfl rfl rfl rfl) (pm_var 3) (pm_calM c_Farm hr (takes_of rfl rfl rfl rfl) (pd_cons (o_add (po_dat (pm_var 0)) (po_dat pm_int)) (pd_cons (pm_var 1) (pd_cons (pm_var 2) pd_nil))))))) (pss_oneM (ps_retM pm_bl)) pss_nilM) (pss_consM (ps_ifM (t_and (t_lt (po_dat (pm_var 2)) (po_dat (pm_var 0))) (pw_and1' (pt_eqF c_eq hr (takes_of rfl rfl rfl rfl) (pm_var 3) (pm_calM c_Farm hr (takes_of rfl rfl rfl rfl) (pd_cons (pm_var 0) (pd_cons (pm_var 1) (pd_cons (o_add (po_dat (pm_var 2)) (po_dat pm_int)) pd_nil))))))) (pss_oneM (ps_retM pm_bl)) pss_nilM) (pss_consM (ps_ifM (t_and (t_ne hr.units (po_dat (pm_var 1)) (po_dat (o_revL (po_dat (pm_var 1))))) (pw_and1' (pt_eqF c_eq hr (takes_of rfl rfl rfl rfl) (pm_var 3) (pm_calM c_Farm hr (takes_of rfl rfl rfl rfl) (pd_cons (pm_var 0) (pd_cons (o_revL (po_dat (pm_var 1))) (pd_cons (pm_var 2) pd_nil))))))) (pss_oneM (ps_retM pm_bl)) pss_nilM) (pss_consM (ps_forM (passes_of rfl) rfl (pi_enumM rfl T.blt.zenumerate (o_sl (po_dat (pm_var 1)) pp_none (pp_some pm_int))) (pg_tpM rfl rfl (pgs_consM (pg_nm 4 sc_law_equal_right.nd rfl) (pgs_consM (pg_nm 5 sc_law_equal_right.nd rfl) pgs_nilM))) (pss_oneM (ps_forM (passes_of rfl) rfl (pi_seqM rfl (pm_of_pf (pf_lst (pd_cons (o_sl (po_dat (pm_var 5)) pp_none (pp_some (pm_neg pm_int))) (pd_cons (o_revT (po_dat (pm_var 5))) pd_nil))))) (pg_nm 6 sc_law_equal_right.nd rfl) (pss_oneM (ps_ifM (t_and (t_ne hr.units (po_dat (pm_var 6)) (po_dat (pm_tup pd_nil))) (pw_and1' (t_ne hr.units (po_dat (pm_var 6)) (po_dat (pm_var 5))))) (pss_oneM (ps_ifM (pt_eqF c_eq hr (takes_of rfl rfl rfl rfl) (pm_var 3) (pm_calM c_Farm hr (takes_of rfl rfl rfl rfl) (pd_cons (pm_var 0) (pd_cons (o_add (po_dat (o_add (po_dat (o_sl (po_dat (pm_var 1)) pp_none (pp_some (pm_var 4)))) (po_dat (pm_of_pf (pf_lst (pd_cons (pm_var 6) pd_nil)))))) (po_dat (o_sl (po_dat (pm_var 1)) (pp_some (o_add (po_dat (pm_var 4)) (po_dat pm_int))) pp_none))) (pd_cons (pm_var 2) pd_nil))))) (pss_oneM (ps_retM pm_bl)) pss_nilM)) pss_nilM))))) (pss_oneM (ps_retM (pm_orV (o_eq hr.units (po_dat (pm_var 1)) (po_dat (pm_of_pf (pf_lst pd_nil)))) (pm_oneV (pm_neF n_eq hr (takes_of rfl rfl rfl rfl) (pm_var 3) (pm_calM c_Farm hr (takes_of rfl rfl rfl rfl) (pd_cons (pm_var 0) (pd_cons (o_sl (po_dat (pm_var 1)) (pp_some pm_int) pp_none) (pd_cons (pm_var 2) pd_nil)))))))))))))))
abbrev s_Farm_row : Stmt := inClass (top 10) 6
abbrev n_Farm_row : List Str := ["self", "session"]
theorem sc_Farm_row : FnScope n_Farm_row ["self", "session"] (defScope s_Farm_row) := ⟨rfl, rfl, rfl, by decide +kernel, rfl, by decide +kernel, by decide +kernel⟩
def b_Farm_row : MS := (mSeq (mExpr (mMethF m_Farm_check_session "check_session" (mVar 0) [(mVar 1)])) (mRet (mOp2 sIx (.dat (mFld (mVar 0) "rows")) (.dat (mVar 1)))))
def m_Farm_row : Fn := mkFn 2 [] b_Farm_row
theorem ok_Farm_row {f : Addr} {fd : FuncData} (T : Txt K mg C0) (c_Farm_check_session : CalF P w K mg base (cfK P w K C0 ex) 3 "check_session" 2 m_Farm_check_session) (F : FunD K "row" "Farm.row" (defArgs s_Farm_row) (defBody s_Farm_row) (defScope s_Farm_row) [] [] f fd) : FnOk P w K mg base (L2.CX P w) 4 f fd ["self", "session"] (spM (cfK P w K C0 ex) [] 2 m_Farm_row) :=
  fn_ok0 (P := P) (w := w) (K := K) (mg := mg) (base := base) (c := cfK P w K C0 ex) (k := 3) (m := b_Farm_row) (st := s_Farm_row) (N := n_Farm_row) (ps := ["self", "session"]) F sc_Farm_row (by decide) fun cdv A outer s H E hr =>
    (pss_consM (ps_exprM (pm_calF T.cls c_Farm_check_session hr (takes_of rfl rfl rfl rfl) (pm_var 0) (pd_cons (pm_var 1) pd_nil))) (pss_oneM (ps_retM (o_ix (po_dat (pm_fld T.cls T.na_rows (pm_var 0))) (po_dat (pm_var 1))))))
abbrev s_law_right : Stmt := top 19
abbrev n_law_right : List Str := ["_law_well", "_law_hosts", "_law_rows", "_law_most", "_law_handed", "_law_farm_here", "_law_told", "_law_one", "_law_odd", "_law_bad_here", "_law_some"]
theorem sc_law_right : FnScope n_law_right ["_law_well"] (defScope s_law_right) := ⟨rfl, rfl, rfl, by decide +kernel, rfl, by decide +kernel, by decide +kernel⟩
def b_law_right : MS := (mSeq (mAsg (mCallF m_law_farm [(.own 0), (.dat (mOp2 sIx (.dat (mLst [(M.pure (.int 9)), (M.pure (.int 9)), (M.pure (.int 30))])) (.dat (mCallF m_law_draw [(.own 0), (.dat (M.pure (.int 3)))])))), (.dat (mOp2 sIx (.dat (mLst [(M.pure (.int 9)), (M.pure (.int 9)), (M.pure (.int 60))])) (.dat (mCallF m_law_draw [(.own 0), (.dat (M.pure (.int 3)))]))))]) (gTp [1, 2, 3])) (mSeq (mNew (mCall sList [(.dat (mVar 2))]) 4) (mSeq (mAsg (mThawE 4 (mMake m_Farmdd_initdd [(mVar 1), (mVar 4), (mVar 3)])) (gNm 5)) (mSeq (mIfS (mB (mOp2 sNe (.own 4) (.dat (mVar 2)))) (mRet (M.pure (.bl false))) mSkip) (mSeq (mExpr (mMethWR wAppend 4 [(mTup [(M.pure (.int 0))])])) (mSeq (mNew (mMethF mf_Farm_lists "lists" (mVar 5) []) 6) (mSeq (mExpr (mMethWR wAppend 6 [(mTup [])])) (mSeq (mIfS (mOr (mB (mOp2 sNe (.dat (mMethF m_Farm_lists "lists" (mVar 5) [])) (.dat (mVar 2)))) (mOr (mB (mOp2 sNe (.dat (mMethF m_Farm_servers "servers" (mVar 5) [])) (.dat (mVar 1)))) (mOr (mB (mOp2 sNe (.dat (mMethF m_Farm_failures "failures" (mVar 5) [])) (.dat (mVar 3)))) (mB (mOp2 sNe (.dat (mLenF m_Farmdd_lendd (mVar 5))) (.dat (mCall sLen [(.dat (mVar 2))]))))))) (mRet (M.pure (.bl false))) mSkip) (mSeq (mIfS (mOr (mB (mOp2 sNe (.dat (mLc (mRange1 (mCall sLen [(.dat (mVar 2))])) (gNm 7) (M.pure true) (mMethF m_Farm_row "row" (mVar 5) [(mVar 7)]) [7])) (.dat (mVar 2)))) (mNot (mB (mCallF m_law_equal_right [(.dat (mVar 1)), (.dat (mVar 2)), (.dat (mVar 3))])))) (mRet (M.pure (.bl false))) mSkip) (mSeq (mFor (mSeqI (mLst [(mCall sLen [(.dat (mVar 2))]), (mNeg (M.pure (.int 1))), (M.pure (.bl true)), (M.pure .non), (M.pure (.str "0")), (mLst [(M.pure (.int 0))]), (M.pure (.dic [] []))])) (gNm 8) (mIfS (mB (mCmp sNeC (mLamX (fun _ => D.non) hv_law_raised (mMethF m_Farm_row "row" (mVar 5) [(mVar 8)])) (mTup [(M.pure (.str "session")), (mVar 8)]))) (mRet (M.pure (.bl false))) mSkip)) (mSeq (mAsg (mCallF m_law_bent [(.own 0), (.dat (mVar 2)), (.dat (mVar 1))]) (gNm 9)) (mSeq (mFor (mSeqI (mLst [(mVar 9), (mCall sTuple [(.dat (mVar 2))]), (M.pure .non), (M.pure (.dic [] [])), (mOp2 sMulL (.dat (mLst [(mTup [(M.pure (.int 0))])])) (.dat (M.pure (.int 61)))), (mOp2 sMulL (.dat (mLst [(mTup [(M.pure (.int 0))])])) (.dat (M.pure (.int 60))))])) (gNm 10) (mSeq (mIfS (mB (mCmp sNe (mLamX (fun _ => D.non) hv_law_raised (mMake m_Farmdd_initdd [(mVar 1), (mVar 10), (mVar 3)])) (mCallF m_law_bad [(.dat (mVar 1)), (.dat (mVar 10)), (.dat (mVar 3))]))) (mRet (M.pure (.bl false))) mSkip) (mIfS (mB (mCmp sNe (mLamX (fun _ => D.non) hv_law_raised (mMake m_Farmdd_initdd [(mVar 1), (mVar 10), (M.pure .non)])) (mCallF m_law_bad [(.dat (mVar 1)), (.dat (mVar 10)), (.dat (M.pure .non))]))) (mRet (M.pure (.bl false))) mSkip))) (mSeq (mFor (mSeqI (mLst [(M.pure (.int 0)), (M.pure (.int 31)), (mNeg (M.pure (.int 1))), (M.pure (.bl true)), (M.pure .non), (M.pure (.str "5")), (mLst [(M.pure (.int 1))])])) (gNm 8) (mIfS (mB (mCmp sNe (mLamX (fun _ => D.non) hv_law_raised (mMake m_Farmdd_initdd [(mVar 8), (M.pure .non), (M.pure .non)])) (mTup [(M.pure (.str "servers")), (mNeg (M.pure (.int 1)))]))) (mRet (M.pure (.bl false))) mSkip)) (mSeq (mFor (mSeqI (mLst [(mNeg (M.pure (.int 1))), (mOp2 sAdd (.dat (mVar 1)) (.dat (M.pure (.int 1)))), (M.pure (.bl true)), (M.pure .non), (M.pure (.str "1")), (mLst [(M.pure (.int 0))])])) (gNm 8) (mIfS (mB (mCmp sNe (mLamX (fun _ => D.non) hv_law_raised (mMake m_Farmdd_initdd [(mVar 1), (mVar 2), (mVar 8)])) (mTup [(M.pure (.str "failures")), (mNeg (M.pure (.int 1)))]))) (mRet (M.pure (.bl false))) mSkip)) (mRet (M.pure (.bl true)))))))))))))))))
def m_law_right : Fn := mkFn 11 [0] b_law_right
theorem ok_law_right {TL : List (Addr × Str)} {f : Addr} {dV kV doc pm ct oc : Value} {an od : Option Addr} {osl : Array (Option Value)} (T : Txt K mg C0) (c_law_farm : Cal P w K mg base (cfK P w K C0 ex) 2 "_law_farm" [0] 3 m_law_farm) (c_law_draw : Cal P w K mg base (cfK P w K C0 ex) 1 "_law_draw" [0] 2 m_law_draw) (c_Farm : CalM P w K mg base (cfK P w K C0 ex) 4 "Farm" 4 m_Farmdd_initdd) (r_Farm_lists : CalFr P w K mg base (cfK P w K C0 ex) 1 "lists" mf_Farm_lists) (c_Farm_lists : CalF P w K mg base (cfK P w K C0 ex) 1 "lists" 1 m_Farm_lists) (c_Farm_servers : CalF P w K mg base (cfK P w K C0 ex) 1 "servers" 1 m_Farm_servers) (c_Farm_failures : CalF P w K mg base (cfK P w K C0 ex) 1 "failures" 1 m_Farm_failures) (c_len : CalL P w K mg base (cfK P w K C0 ex) 1 m_Farmdd_lendd) (c_Farm_row : CalF P w K mg base (cfK P w K C0 ex) 4 "row" 2 m_Farm_row) (c_law_equal_right : Cal P w K mg base (cfK P w K C0 ex) 6 "_law_equal_right" [] 3 m_law_equal_right) (ask_law_raised : AskF K mg "_law_raised" s_law_raised "_law_ask") (as_law_raised : AskC K (cfK P w K C0 ex) [0, 1] [0, 1]) (t_NoFarm : CatX K mg (cfK P w K C0 ex) 0 "NoFarm" ["index", "part"]) (t_NoSession : CatX K mg (cfK P w K C0 ex) 1 "NoSession" ["session"]) (c_law_bent : Cal P w K mg base (cfK P w K C0 ex) 2 "_law_bent" [0] 3 m_law_bent) (c_law_bad : Cal P w K mg base (cfK P w K C0 ex) 2 "_law_bad" [] 3 m_law_bad) {cc PP : Addr} (TB : LamX.TabB base mg cc PP) (hmT : (PP, (("_law_right" : Str) ++ ".<locals>." ++ "<lambda>")) ∈ TL) (hu : ∀ p ∈ TL, p.1 = PP → p.2 = (("_law_right" : Str) ++ ".<locals>." ++ "<lambda>")) (lk : K.lookup f = some ⟨oc, od, .func (PySem.W.fnOf "_law_right" "_law_right" (defArgs s_law_right) (defBody s_law_right) (defScope s_law_right) dV kV doc pm an (.ref cc) ct), osl⟩) (hcd : PySem.W.codeIn K (.ref cc) "_law_right" = true) : FnOk P w K mg base (L2.CX P w) 8 f (PySem.W.fnOf "_law_right" "_law_right" (defArgs s_law_right) (defBody s_law_right) (defScope s_law_right) dV kV doc pm an (.ref cc) ct) ["_law_well"] (spMT TL (cfK P w K C0 ex) [0] 1 m_law_right) :=
  fn_okT1 0 (P := P) (w := w) (K := K) (mg := mg) (base := base) (c := cfK P w K C0 ex) (T := TL) (k := 7) (m := b_law_right) (st := s_law_right) (N := n_law_right) (ps := ["_law_well"]) lk hcd sc_law_right (by decide) (by decide) fun aR A outer s H E hr =>
    (pss_consT (ps_liftT (W := W0) (ps_asgM (pm_cal c_law_farm hr takes0 (pr_own 0 (pr_dat (o_ix (po_dat (pm_of_pf (pf_lst (pd_cons pm_int (pd_cons pm_int (pd_cons pm_int pd_nil)))))) (po_dat (pm_cal c_law_draw hr takes0 (pr_own 0 (pr_dat pm_int pr_nil))))) (pr_dat (o_ix (po_dat (pm_of_pf (pf_lst (pd_cons pm_int (pd_cons pm_int (pd_cons pm_int pd_nil)))))) (po_dat (pm_cal c_law_draw hr takes0 (pr_own 0 (pr_dat pm_int pr_nil))))) pr_nil)))) (pg_any (pg_tpM rfl rfl (pgs_consM (pg_nm 1 sc_law_right.nd rfl) (pgs_consM (pg_nm 2 sc_law_right.nd rfl) (pgs_consM (pg_nm 3 sc_law_right.nd rfl) pgs_nilM))))))) (pss_consT (ps_liftT (W := W0) (ps_newM 4 sc_law_right.nd (b_list T.blt (po_dat (pm_var 2))) rfl)) (pss_consT (ps_liftT (W := W0) (ps_asgM (pm_thawE 4 rfl (pm_calM c_Farm hr takes0 (pd_cons (pm_var 1) (pd_cons (pm_var 4) (pd_cons (pm_var 3) pd_nil))))) (pg_nm 5 sc_law_right.nd rfl))) (pss_consT (ps_liftT (W := W0) (ps_ifM (t_ne hr.units (po_own 4) (po_dat (pm_var 2))) (pss_oneM (ps_retM pm_bl)) pss_nilM)) (pss_consT (ps_liftT (W := W0) (ps_exprM (m_append 4 (pm_tup (pd_cons pm_int pd_nil))))) (pss_consT (ps_liftT (W := W0) (ps_newM 6 sc_law_right.nd (pf_calF0 T.cls r_Farm_lists hr takes0 (pm_var 5)) rfl)) (pss_consT (ps_liftT (W := W0) (ps_exprM (m_append 6 (pm_tup pd_nil)))) (pss_consT (ps_liftT (W := W0) (ps_ifM (t_or (t_ne hr.units (po_dat (pm_calF0 T.cls c_Farm_lists hr takes0 (pm_var 5))) (po_dat (pm_var 2))) (pw_orM (t_ne hr.units (po_dat (pm_calF0 T.cls c_Farm_servers hr takes0 (pm_var 5))) (po_dat (pm_var 1))) (pw_orM (t_ne hr.units (po_dat (pm_calF0 T.cls c_Farm_failures hr takes0 (pm_var 5))) (po_dat (pm_var 3))) (pw_and1' (t_ne hr.units (po_dat (pm_calL T.blt c_len hr takes0 (pm_var 5))) (po_dat (b_len T.blt (po_dat (pm_var 2))))))))) (pss_oneM (ps_retM pm_bl)) pss_nilM)) (pss_consT (ps_liftT (W := W0) (ps_ifM (t_or (t_ne hr.units (po_dat (pm_of_pf (pf_lc [("_law_one", 7)] rfl sc_law_right.nd (pi_range1M T.blt.zrange (b_len T.blt (po_dat (pm_var 2)))) (blk_of (by rfl)) (by rfl) (by rfl) (fun s H C cl fp => (pg_nm 7 sc_law_right.nd rfl)) (fun s H C cl fp => pts_nilM) (fun s H C cl fp => (pm_calF T.cls c_Farm_row hr takes0 (pm_var 5) (pd_cons (pm_var 7) pd_nil)))))) (po_dat (pm_var 2))) (pw_and1' (pt_notM (pt_v (pm_cal c_law_equal_right hr takes0 (pr_dat (pm_var 1) (pr_dat (pm_var 2) (pr_dat (pm_var 3) pr_nil)))))))) (pss_oneM (ps_retM pm_bl)) pss_nilM)) (pss_consT (ps_forT vRep_strip (passes_of rfl) rfl (pi_seqT (W := W0) rfl (pm_of_pf (pf_lst (pd_cons (b_len T.blt (po_dat (pm_var 2))) (pd_cons (pm_neg pm_int) (pd_cons pm_bl (pd_cons pm_non (pd_cons pm_str (pd_cons (pm_of_pf (pf_lst (pd_cons pm_int pd_nil))) (pd_cons (pm_of_pf pf_dic0) pd_nil)))))))))) (pg_nm 8 sc_law_right.nd rfl) (pss_oneT (ps_ifT (t_neTC hr (pm_lamX (k := 4) ask_law_raised (fun g cdv => gv_law_raised T as_law_raised t_NoFarm t_NoSession g cdv) sc_law_raised rfl (.inl rfl) TB rfl hmT hu hr (fun A outer s H E f c2 hr => (pm_calF T.cls c_Farm_row hr (takes_of rfl rfl rfl rfl) (pm_var 5) (pd_cons (pm_var 8) pd_nil))) (LamX.lamS_by rfl)) (pe_liftT (W := W0) (pm_tup (pd_cons pm_str (pd_cons (pm_var 8) pd_nil))))) (pss_oneT (ps_liftT (W := W0) (ps_retM pm_bl))) (pss_liftT (W := W0) pss_nilM)))) (pss_consT (ps_liftT (W := W0) (ps_asgM (pm_cal c_law_bent hr takes0 (pr_own 0 (pr_dat (pm_var 2) (pr_dat (pm_var 1) pr_nil)))) (pg_nm 9 sc_law_right.nd rfl))) (pss_consT (ps_forT vRep_strip (passes_of rfl) rfl (pi_seqT (W := W0) rfl (pm_of_pf (pf_lst (pd_cons (pm_var 9) (pd_cons (b_tuple T.blt (po_dat (pm_var 2))) (pd_cons pm_non (pd_cons (pm_of_pf pf_dic0) (pd_cons (pm_of_pf (f_mul (po_dat (pm_of_pf (pf_lst (pd_cons (pm_tup (pd_cons pm_int pd_nil)) pd_nil)))) (po_dat pm_int))) (pd_cons (pm_of_pf (f_mul (po_dat (pm_of_pf (pf_lst (pd_cons (pm_tup (pd_cons pm_int pd_nil)) pd_nil)))) (po_dat pm_int))) pd_nil))))))))) (pg_nm 10 sc_law_right.nd rfl) (pss_consT (ps_ifT (t_neT hr.units (pm_lamX (k := 5) ask_law_raised (fun g cdv => gv_law_raised T as_law_raised t_NoFarm t_NoSession g cdv) sc_law_raised rfl (.inl rfl) TB rfl hmT hu hr (fun A outer s H E f c2 hr => (pm_calM c_Farm hr (takes_of rfl rfl rfl rfl) (pd_cons (pm_var 1) (pd_cons (pm_var 10) (pd_cons (pm_var 3) pd_nil))))) (LamX.lamS_by rfl)) (pe_liftT (W := W0) (pm_cal c_law_bad hr takes0 (pr_dat (pm_var 1) (pr_dat (pm_var 10) (pr_dat (pm_var 3) pr_nil)))))) (pss_oneT (ps_liftT (W := W0) (ps_retM pm_bl))) (pss_liftT (W := W0) pss_nilM)) (pss_oneT (ps_ifT (t_neT hr.units (pm_lamX (k := 5) ask_law_raised (fun g cdv => gv_law_raised T as_law_raised t_NoFarm t_NoSession g cdv) sc_law_raised rfl (.inl rfl) TB rfl hmT hu hr (fun A outer s H E f c2 hr => (pm_calM c_Farm hr (takes_of rfl rfl rfl rfl) (pd_cons (pm_var 1) (pd_cons (pm_var 10) (pd_cons pm_non pd_nil))))) (LamX.lamS_by rfl)) (pe_liftT (W := W0) (pm_cal c_law_bad hr takes0 (pr_dat (pm_var 1) (pr_dat (pm_var 10) (pr_dat pm_non pr_nil)))))) (pss_oneT (ps_liftT (W := W0) (ps_retM pm_bl))) (pss_liftT (W := W0) pss_nilM))))) (pss_consT (ps_forT vRep_strip (passes_of rfl) rfl (pi_seqT (W := W0) rfl (pm_of_pf (pf_lst (pd_cons pm_int (pd_cons pm_int (pd_cons (pm_neg pm_int) (pd_cons pm_bl (pd_cons pm_non (pd_cons pm_str (pd_cons (pm_of_pf (pf_lst (pd_cons pm_int pd_nil))) pd_nil)))))))))) (pg_nm 8 sc_law_right.nd rfl) (pss_oneT (ps_ifT (t_neT hr.units (pm_lamX (k := 5) ask_law_raised (fun g cdv => gv_law_raised T as_law_raised t_NoFarm t_NoSession g cdv) sc_law_raised rfl (.inl rfl) TB rfl hmT hu hr (fun A outer s H E f c2 hr => (pm_calM c_Farm hr (takes_of rfl rfl rfl rfl) (pd_cons (pm_var 8) (pd_cons pm_non (pd_cons pm_non pd_nil))))) (LamX.lamS_by rfl)) (pe_liftT (W := W0) (pm_tup (pd_cons pm_str (pd_cons (pm_neg pm_int) pd_nil))))) (pss_oneT (ps_liftT (W := W0) (ps_retM pm_bl))) (pss_liftT (W := W0) pss_nilM)))) (pss_consT (ps_forT vRep_strip (passes_of rfl) rfl (pi_seqT (W := W0) rfl (pm_of_pf (pf_lst (pd_cons (pm_neg pm_int) (pd_cons (o_add (po_dat (pm_var 1)) (po_dat pm_int)) (pd_cons pm_bl (pd_cons pm_non (pd_cons pm_str (pd_cons (pm_of_pf (pf_lst (pd_cons pm_int pd_nil))) pd_nil))))))))) (pg_nm 8 sc_law_right.nd rfl) (pss_oneT (ps_ifT (t_neT hr.units (pm_lamX (k := 5) ask_law_raised (fun g cdv => gv_law_raised T as_law_raised t_NoFarm t_NoSession g cdv) sc_law_raised rfl (.inl rfl) TB rfl hmT hu hr (fun A outer s H E f c2 hr => (pm_calM c_Farm hr (takes_of rfl rfl rfl rfl) (pd_cons (pm_var 1) (pd_cons (pm_var 2) (pd_cons (pm_var 8) pd_nil))))) (LamX.lamS_by rfl)) (pe_liftT (W := W0) (pm_tup (pd_cons pm_str (pd_cons (pm_neg pm_int) pd_nil))))) (pss_oneT (ps_liftT (W := W0) (ps_retM pm_bl))) (pss_liftT (W := W0) pss_nilM)))) (pss_oneT (ps_liftT (W := W0) (ps_retM pm_bl)))))))))))))))))
abbrev s_law : Stmt := top 20
abbrev n_law : List Str := ["_law_script", "_law_k", "_law_cell"]
theorem sc_law : FnScope n_law ["_law_script"] (defScope s_law) := ⟨rfl, rfl, rfl, by decide +kernel, rfl, by decide +kernel, by decide +kernel⟩
def b_law : MS := (mSeq (mFor (mEnum (mSl sCut (.dat (mOp2 sAdd (.dat (mVar 0)) (.dat (mLst [(M.pure (.int 0))])))) none (some (M.pure (.int 6))))) (gTp [1, 2]) (mIfS (mNot (mB (mCallN m_law_right (mLst [(mOp2 sMul (.dat (mVar 2)) (.dat (mCall sInt [(.dat (mOp2 sGe (.dat (mVar 2)) (.dat (mOp2 sPow (.dat (M.pure (.int 10))) (.dat (M.pure (.int 18)))))))]))), (mOp2 sAdd (.dat (mOp2 sMod (.dat (mVar 2)) (.dat (M.pure (.int 2147483647))))) (.dat (mOp2 sMul (.dat (M.pure (.int 7919))) (.dat (mVar 1))))), (M.pure (.int 0))]) []))) (mRet (M.pure (.bl false))) mSkip)) (mRet (mOp2 sEq (.dat (mMethF m_Farm_lists "lists" (mMake m_Farmdd_initdd [(M.pure (.int 1)), (mLst []), (M.pure (.int 0))]) [])) (.dat (mLst [])))))
def m_law : Fn := mkFn 3 [] b_law
theorem ok_law {TL : List (Addr × Str)} {f : Addr} {dV kV doc pm ct oc : Value} {an od : Option Addr} {osl : Array (Option Value)} (T : Txt K mg C0) (c_law_right : CalT TL P w K mg base (cfK P w K C0 ex) 8 "_law_right" [0] 1 m_law_right) (c_Farm_lists : CalF P w K mg base (cfK P w K C0 ex) 1 "lists" 1 m_Farm_lists) (c_Farm : CalM P w K mg base (cfK P w K C0 ex) 4 "Farm" 4 m_Farmdd_initdd) {cd : Value} (lk : K.lookup f = some ⟨oc, od, .func (PySem.W.fnOf "law" "law" (defArgs s_law) (defBody s_law) (defScope s_law) dV kV doc pm an cd ct), osl⟩) (hcd : PySem.W.codeIn K cd "law" = true) : FnOk P w K mg base (L2.CX P w) 9 f (PySem.W.fnOf "law" "law" (defArgs s_law) (defBody s_law) (defScope s_law) dV kV doc pm an cd ct) ["_law_script"] (spMT TL (cfK P w K C0 ex) [] 1 m_law) :=
  fn_okT0 (P := P) (w := w) (K := K) (mg := mg) (base := base) (c := cfK P w K C0 ex) (T := TL) (k := 8) (m := b_law) (st := s_law) (N := n_law) (ps := ["_law_script"]) lk hcd sc_law (by decide) fun A outer s H E hr =>
    (pss_consT (ps_forT vAny_strip (passes_of rfl) rfl (pi_enumT (W := W0) rfl T.blt.zenumerate (o_sl (po_dat (o_add (po_dat (pm_var 0)) (po_dat (pm_of_pf (pf_lst (pd_cons pm_int pd_nil)))))) pp_none (pp_some pm_int))) (pg_tpM rfl rfl (pgs_consM (pg_nm 1 sc_law.nd rfl) (pgs_consM (pg_nm 2 sc_law.nd rfl) pgs_nilM))) (pss_oneT (ps_ifT (pt_notT (pt_vT (pm_calNT (W := W0) c_law_right hr takes0 (pf_lst (pd_cons (o_mul (po_dat (pm_var 2)) (po_dat (b_int T.blt (po_dat (o_ge (po_dat (pm_var 2)) (po_dat (o_pow (po_dat pm_int) (po_dat pm_int)))))))) (pd_cons (o_add (po_dat (o_mod (po_dat (pm_var 2)) (po_dat pm_int))) (po_dat (o_mul (po_dat pm_int) (po_dat (pm_var 1))))) (pd_cons pm_int pd_nil))))))) (pss_oneT (ps_liftT (W := W0) (ps_retM pm_bl))) (pss_liftT (W := W0) pss_nilM)))) (pss_oneT (ps_liftT (W := W0) (ps_retM (o_eq hr.units (po_dat (pm_calF0 T.cls c_Farm_lists hr takes0 (pm_calM c_Farm hr takes0 (pd_cons pm_int (pd_cons (pm_of_pf (pf_lst pd_nil)) (pd_cons pm_int pd_nil)))))) (po_dat (pm_of_pf (pf_lst pd_nil))))))))
end
end Fx
set_option Elab.async false
set_option linter.all false
set_option maxRecDepth 100000
set_option maxHeartbeats 1000000
namespace Fx
/-- each of S has a next one in S -/
def Cl (R : Int → Int → Prop) (S : List Int) : Prop := ∀ s ∈ S, ∃ o ∈ S, R s o
/-- no such set among l, except for the empty one -/
def NoCore (R : Int → Int → Prop) (l : List Int) : Prop := ∀ S : List Int, (∀ s ∈ S, s ∈ l) → Cl R S → S = []
theorem fun_core (f : Int → Int) : ∀ (n : Nat) (T : List Int), T.length ≤ n → T ≠ [] → (∀ t ∈ T, f t ∈ T) → ∃ T' : List Int, T' ≠ [] ∧ (∀ t ∈ T', t ∈ T) ∧ ∀ t ∈ T', ∃ s ∈ T', f s = t
  | 0, T, hl, h0, _ => absurd (List.length_eq_zero_iff.mp (by omega)) h0
  | n + 1, T, hl, h0, hf => by
    by_cases h : ∀ t ∈ T, ∃ s ∈ T, f s = t
    · exact ⟨T, h0, fun t ht => ht, h⟩
    · let T1 := T.filter fun t => T.any fun s => decide (f s = t)
      have hT1 : ∀ t, t ∈ T1 ↔ t ∈ T ∧ ∃ s ∈ T, f s = t := by
        intro t
        simp [T1, List.mem_filter]
      have hlt : T1.length < T.length := by
        have hle : T1.length ≤ T.length := List.length_filter_le _ _
        rcases Nat.lt_or_ge T1.length T.length with z | z
        · exact z
        · have e : T1.length = T.length := by omega
          have := List.length_filter_eq_length_iff.mp e
          exact absurd (fun t ht => by
            have := this t ht
            simpa using this) h
      obtain ⟨t0, ht0⟩ := List.exists_mem_of_ne_nil T h0
      have h1 : T1 ≠ [] := List.ne_nil_of_mem ((hT1 (f t0)).mpr ⟨hf t0 ht0, t0, ht0, rfl⟩)
      obtain ⟨T', q1, q2, q3⟩ := fun_core f n T1 (by omega) h1 fun t ht => (hT1 _).mpr ⟨hf t ((hT1 t).mp ht).1, t, ((hT1 t).mp ht).1, rfl⟩
      exact ⟨T', q1, fun t ht => ((hT1 t).mp (q2 t ht)).1, q3⟩
theorem Cl.turn {R : Int → Int → Prop} {S : List Int} (h : Cl R S) (h0 : S ≠ []) : ∃ T : List Int, T ≠ [] ∧ (∀ t ∈ T, t ∈ S) ∧ Cl (fun s o => R o s) T := by
  classical
  let f : Int → Int := fun s => if hs : s ∈ S then (h s hs).choose else s
  have hf : ∀ s ∈ S, f s ∈ S ∧ R s (f s) := fun s hs => by
    have : f s = (h s hs).choose := dif_pos hs
    rw [this]
    exact (h s hs).choose_spec
  obtain ⟨T, q1, q2, q3⟩ := fun_core f _ S (Nat.le_refl _) h0 fun t ht => (hf t ht).1
  refine ⟨T, q1, q2, fun t ht => ?_⟩
  obtain ⟨s, hs, e⟩ := q3 t ht
  refine ⟨s, hs, ?_⟩
  rw [← e]
  exact (hf s (q2 s hs)).2
theorem NoCore.turn {R : Int → Int → Prop} {l : List Int} (h : NoCore R l) : NoCore (fun s o => R o s) l := fun S hS hc => by
  rcases Classical.em (S = []) with z | z
  · exact z
  · obtain ⟨T, q1, q2, q3⟩ := Cl.turn hc z
    exact absurd (h T (fun t ht => hS t (q2 t ht)) q3) q1
/-- what is left holds all that can't be peeled -/
def Keeps (R : Int → Int → Prop) (M l : List Int) : Prop := (∀ s ∈ l, s ∈ M) ∧ ∀ S : List Int, (∀ s ∈ S, s ∈ M) → Cl R S → ∀ s ∈ S, s ∈ l
theorem Keeps.start {R : Int → Int → Prop} {M : List Int} : Keeps R M M := ⟨fun _ h => h, fun _ h _ => h⟩
theorem Keeps.step {R : Int → Int → Prop} {M l l' : List Int} (h : Keeps R M l) (h' : ∀ s, s ∈ l' ↔ s ∈ l ∧ ∃ o ∈ l, R s o) : Keeps R M l' := by
  refine ⟨fun s hs => h.1 s ((h' s).mp hs).1, fun S hS hc s hs => (h' s).mpr ⟨h.2 S hS hc s hs, ?_⟩⟩
  obtain ⟨o, ho, r⟩ := hc s hs
  exact ⟨o, h.2 S hS hc o ho, r⟩
theorem Keeps.empty {R : Int → Int → Prop} {M : List Int} (h : Keeps R M []) : NoCore R M := fun S hS hc => by
  cases S with
  | nil => rfl
  | cons s S => exact nomatch h.2 _ hS hc s List.mem_cons_self
/-- pigeons -/
theorem pigeon : ∀ (l m : List Int), l.Nodup → (∀ x ∈ l, x ∈ m) → l.length ≤ m.length
  | [], m, _, _ => Nat.zero_le _
  | a :: l, m, hn, h => by
    obtain ⟨h1, h2⟩ := List.nodup_cons.mp hn
    have ha : a ∈ m := h a List.mem_cons_self
    have := pigeon l (m.erase a) h2 fun x hx => (List.mem_erase_of_ne (fun e => h1 (by rw [← e]; exact hx))).mpr (h x (List.mem_cons_of_mem _ hx))
    rw [List.length_erase_of_mem ha] at this
    have hp := List.length_pos_of_mem ha
    rw [List.length_cons]
    omega
end Fx
set_option Elab.async false
set_option linter.all false
set_option maxRecDepth 100000
set_option maxHeartbeats 1000000
namespace Fx
open PySem L2
section
def rowD (r : List Int) : D := .tup (r.map .int)
def farmD (n : Int) (rows : List (List Int)) (t : Int) : D := .rcd ["many", "rows", "most"] [.int n, .tup (rows.map rowD), .int t]
def optD : Option Int → D
  | none => .non
  | some i => .int i
def plcD (p : List (Option Int)) : D := .tup (p.map optD)
theorem kit_int : kitB "int" "int" = some true := by decide
theorem kit_ib : kitB "int" "bool" = some false := by decide
theorem kit_tt : kitB "tuple" "tuple" = some true := by decide
theorem kit_ll : kitB "list" "list" = some true := by decide
theorem lay_ints : ∀ l : List Int, PyData.canLayAll0 (toPys (l.map .int)) = true
  | [] => by simp [toPys, PyData.canLayAll0]
  | a :: l => by simp [toPys, toPy, PyData.canLayAll0, PyData.canLay0, lay_ints l]
theorem dep_ints : ∀ l : List Int, PyData.depthAll (toPys (l.map .int)) = 0
  | [] => by simp [toPys, PyData.depthAll]
  | a :: l => by simp [toPys, toPy, PyData.depthAll, PyData.depth, dep_ints l]
theorem eqv_ints : ∀ l m : List Int, PyData.eqvAll (toPys (l.map .int)) (toPys (m.map .int)) = decide (l = m)
  | [], [] => by simp [toPys, PyData.eqvAll]
  | [], _ :: _ => by simp [toPys, PyData.eqvAll]
  | _ :: _, [] => by simp [toPys, PyData.eqvAll]
  | a :: l, b :: m => by
    simp only [List.map_cons, toPys, toPy, PyData.eqvAll, PyData.eqv, eqv_ints l m, List.cons.injEq]
    by_cases h : a = b <;> by_cases k : l = m <;> simp [h, k]
theorem sEq_tup (l m : List Int) : sEq (.tup (l.map .int)) (.tup (m.map .int)) = some (.bl (decide (l = m))) := by
  simp [sEq, plain, toPy, PyData.canLay0, lay_ints, PyData.depth, dep_ints, eqD, PyData.eqv, eqv_ints]
theorem sEq_lst (l m : List Int) : sEq (.lst (l.map .int)) (.lst (m.map .int)) = some (.bl (decide (l = m))) := by
  simp [sEq, plain, toPy, PyData.canLay0, lay_ints, PyData.depth, dep_ints, eqD, PyData.eqv, eqv_ints]
theorem sNe_lst (l m : List Int) : sNe (.lst (l.map .int)) (.lst (m.map .int)) = some (.bl (!decide (l = m))) := by
  simp [sNe, plain, toPy, PyData.canLay0, lay_ints, PyData.depth, dep_ints, eqD, PyData.eqv, eqv_ints]
theorem sEq_int (a b : Int) : sEq (.int a) (.int b) = some (.bl (decide (a = b))) := by
  simp [sEq, plain, toPy, PyData.canLay0, PyData.depth, eqD, PyData.eqv]
  rfl
theorem sNe_int (a b : Int) : sNe (.int a) (.int b) = some (.bl (!decide (a = b))) := by
  simp [sNe, plain, toPy, PyData.canLay0, PyData.depth, eqD, PyData.eqv]
  rfl
theorem eqD_int (a b : Int) : eqD (.int a) (.int b) = decide (a = b) := by
  simp [eqD, toPy, PyData.eqv]
  rfl
theorem inD_ints (a : Int) : ∀ l : List Int, inD (.int a) (l.map .int) = decide (a ∈ l)
  | [] => by simp [inD]
  | b :: l => by
    have h := inD_ints a l
    simp only [inD, List.map_cons, List.any_cons] at h ⊢
    rw [h, eqD_int]
    by_cases e : b = a
    · simp [e]
    · have e2 : ¬ a = b := fun z => e z.symm
      simp [e, e2]
theorem sIn_tup (a : Int) (l : List Int) : sIn (.int a) (.tup (l.map .int)) = some (.bl (decide (a ∈ l))) := by
  simp [sIn, itemsOf, plain, toPy, PyData.canLay0, lay_ints, dep_ints, PyData.depth, inD_ints]
theorem sIn_lst (a : Int) (l : List Int) : sIn (.int a) (.lst (l.map .int)) = some (.bl (decide (a ∈ l))) := by
  simp [sIn, itemsOf, plain, toPy, PyData.canLay0, lay_ints, dep_ints, PyData.depth, inD_ints]
theorem sNin_tup (a : Int) (l : List Int) : sNin (.int a) (.tup (l.map .int)) = some (.bl (!decide (a ∈ l))) := by
  simp [sNin, itemsOf, plain, toPy, PyData.canLay0, lay_ints, dep_ints, PyData.depth, inD_ints]
theorem sNin_lst (a : Int) (l : List Int) : sNin (.int a) (.lst (l.map .int)) = some (.bl (!decide (a ∈ l))) := by
  simp [sNin, itemsOf, plain, toPy, PyData.canLay0, lay_ints, dep_ints, PyData.depth, inD_ints]
theorem e_is_int (v : Int) : m_is_int [.int v] = .ret (.bl true) [] := by
  simp [m_is_int, b_is_int, mkFn, mSeq, mIfS, mDo, mRet, mRetN, mSkip, mExpr, mAsg, mAnd, mOr, mNot, mAndV, mOrV, mNotV, mB, mIf, mV, mNeg, mCall, mOp2, mTup, mLst, mMeth, mSl, mPart, preL, seqM, M.bind, M.pure, M.lift, M.stuck, Out.andThen, mVar, Opn.pre, Opn.rd, rdM, rdLM, rdL, cellD, initC, initAt, outsOf, outAt, gNm, gTp, gNms, mNew, mFrz, mPar, mFld, mCallF, mCallK, mCallN, appF, rdA, setOuts, ownSlots, ownPos, mSeqI, mEnum, mRange1, itemsOf, sIsi, tyName, kit_int, kit_ib]
theorem e_is_from (v lo hi : Int) : m_is_from [.int v, .int lo, .int hi] = .ret (.bl (decide (lo ≤ v) && decide (v ≤ hi))) [] := by
  by_cases h1 : lo ≤ v <;> simp [m_is_from, b_is_from, mkFn, mSeq, mIfS, mDo, mRet, mRetN, mSkip, mExpr, mAsg, mAnd, mOr, mNot, mAndV, mOrV, mNotV, mB, mIf, mV, mNeg, mCall, mOp2, mTup, mLst, mMeth, mSl, mPart, preL, seqM, M.bind, M.pure, M.lift, M.stuck, Out.andThen, mVar, Opn.pre, Opn.rd, rdM, rdLM, rdL, cellD, initC, initAt, outsOf, outAt, gNm, gTp, gNms, mNew, mFrz, mPar, mFld, mCallF, mCallK, mCallN, appF, rdA, setOuts, ownSlots, ownPos, mSeqI, mEnum, mRange1, itemsOf, e_is_int, mChain, sLe, h1]
theorem lk_rows {a b d : D} : List.lookup ("rows" : Str) [(("many" : Str), a), (("rows" : Str), b), (("most" : Str), d)] = some b := by
  have h : (("rows" : Str) == ("many" : Str)) = false := by decide
  simp [List.lookup, h]
theorem e_len (n : Int) (rows : List (List Int)) (t : Int) : m_Farmdd_lendd [farmD n rows t] = .ret (.int rows.length) [] := by
  simp [m_Farmdd_lendd, b_Farmdd_lendd, mkFn, mSeq, mIfS, mDo, mRet, mRetN, mSkip, mExpr, mAsg, mAnd, mOr, mNot, mAndV, mOrV, mNotV, mB, mIf, mV, mNeg, mCall, mOp2, mTup, mLst, mMeth, mSl, mPart, preL, seqM, M.bind, M.pure, M.lift, M.stuck, Out.andThen, mVar, Opn.pre, Opn.rd, rdM, rdLM, rdL, cellD, initC, initAt, outsOf, outAt, gNm, gTp, gNms, mNew, mFrz, mPar, mFld, mCallF, mCallK, mCallN, appF, rdA, setOuts, ownSlots, ownPos, mSeqI, mEnum, mRange1, itemsOf, farmD, sLen, lk_rows]
theorem e_lists (n : Int) (rows : List (List Int)) (t : Int) : m_Farm_lists [farmD n rows t] = .ret (.lst (rows.map rowD)) [] := by
  simp [m_Farm_lists, b_Farm_lists, mkFn, mSeq, mIfS, mDo, mRet, mRetN, mSkip, mExpr, mAsg, mAnd, mOr, mNot, mAndV, mOrV, mNotV, mB, mIf, mV, mNeg, mCall, mOp2, mTup, mLst, mMeth, mSl, mPart, preL, seqM, M.bind, M.pure, M.lift, M.stuck, Out.andThen, mVar, Opn.pre, Opn.rd, rdM, rdLM, rdL, cellD, initC, initAt, outsOf, outAt, gNm, gTp, gNms, mNew, mFrz, mPar, mFld, mCallF, mCallK, mCallN, appF, rdA, setOuts, ownSlots, ownPos, mSeqI, mEnum, mRange1, itemsOf, farmD, sList, lk_rows]
theorem dedup_nodup : ∀ {l : List Int}, l.Nodup → dedupI l = l
  | [], _ => rfl
  | a :: l, h => by
    obtain ⟨h1, h2⟩ := List.nodup_cons.mp h
    unfold dedupI
    rw [if_neg (by simpa using h1), dedup_nodup h2]
theorem blsOf_map : ∀ l : List Bool, blsOf (l.map .bl) = some l
  | [] => rfl
  | b :: l => by simp [blsOf, blsOf_map l]
theorem e_is_row {n : Int} {r : List Int} (h0 : r ≠ []) (h1 : ∀ v ∈ r, 0 ≤ v ∧ v < n) (hn : r.Nodup) (hl : r.length ≤ 4000) : m_is_row [rowD r, .int n] = .ret (.bl true) [] := by
  have e1 : mLc (mSeqI (mVar 0)) (gNm 2) (M.pure true) (mCallF m_is_from [(.dat (mVar 2)), (.dat (M.pure (.int 0))), (.dat (mOp2 sSub (.dat (mVar 1)) (.dat (M.pure (.int 1)))))]) [2] [.dat (rowD r), .dat (.int n), .no] = .ok (.lst (r.map fun _ => .bl true)) [.dat (rowD r), .dat (.int n), .no] := by
    have := mLc_pure (fi := mSeqI (mVar 0)) (g := gNm 2) (tt := M.pure true) (fe := mCallF m_is_from [(.dat (mVar 2)), (.dat (M.pure (.int 0))), (.dat (mOp2 sSub (.dat (mVar 1)) (.dat (M.pure (.int 1)))))]) (vs := [2]) (ρ := [.dat (rowD r), .dat (.int n), .no]) (ds := r.map .int) (fun _ => true) (fun _ => .bl true) (by simp [mkFn, mSeq, mIfS, mDo, mRet, mRetN, mSkip, mExpr, mAsg, mAnd, mOr, mNot, mAndV, mOrV, mNotV, mB, mIf, mV, mNeg, mCall, mOp2, mTup, mLst, mMeth, mSl, mPart, preL, seqM, M.bind, M.pure, M.lift, M.stuck, Out.andThen, mVar, Opn.pre, Opn.rd, rdM, rdLM, rdL, cellD, initC, initAt, outsOf, outAt, gNm, gTp, gNms, mNew, mFrz, mPar, mFld, mCallF, mCallK, mCallN, appF, rdA, setOuts, ownSlots, ownPos, mSeqI, mEnum, mRange1, itemsOf, rowD]) (by simp [isOwn]) (fun d hd => by
      obtain ⟨v, hv, rfl⟩ := List.mem_map.mp hd
      obtain ⟨q1, q2⟩ := h1 v hv
      have q3 : v ≤ n - 1 := by omega
      refine ⟨[.dat (rowD r), .dat (.int n), .dat (.int v)], by simp [gNm, wipeC], by simp [M.pure], fun _ => ?_, by simp [wipeC]⟩
      simp [mkFn, mSeq, mIfS, mDo, mRet, mRetN, mSkip, mExpr, mAsg, mAnd, mOr, mNot, mAndV, mOrV, mNotV, mB, mIf, mV, mNeg, mCall, mOp2, mTup, mLst, mMeth, mSl, mPart, preL, seqM, M.bind, M.pure, M.lift, M.stuck, Out.andThen, mVar, Opn.pre, Opn.rd, rdM, rdLM, rdL, cellD, initC, initAt, outsOf, outAt, gNm, gTp, gNms, mNew, mFrz, mPar, mFld, mCallF, mCallK, mCallN, appF, rdA, setOuts, ownSlots, ownPos, mSeqI, mEnum, mRange1, itemsOf, sSub, e_is_from, q1, q3])
    rw [this, List.filter_eq_self.mpr (fun _ _ => rfl), List.map_map]
    rfl
  have e2 : sEq (rowD r) (.tup []) = some (.bl false) := by
    have := sEq_tup r []
    rw [decide_eq_false h0] at this
    exact this
  have e3 : blsOf (r.map fun _ => D.bl true) = some (r.map fun _ => true) := by
    have := blsOf_map (r.map fun _ => true)
    rwa [List.map_map] at this
  have e4 : sAll [D.lst (r.map fun _ => D.bl true)] = some (.bl true) := by
    simp [sAll, e3]
  have e5 : sLenSet (rowD r) = some (.int r.length) := by
    simp [sLenSet, rowD, intsOf_map, hl, dedup_nodup hn]
  have e6 : tyName (rowD r) = some "tuple" := rfl
  have e7 : sLen [rowD r] = some (.int r.length) := by simp [sLen, rowD]
  simp [m_is_row, b_is_row, mkFn, mSeq, mIfS, mDo, mRet, mRetN, mSkip, mExpr, mAsg, mAnd, mOr, mNot, mAndV, mOrV, mNotV, mB, mIf, mV, mNeg, mCall, mOp2, mTup, mLst, mMeth, mSl, mPart, preL, seqM, M.bind, M.pure, M.lift, M.stuck, Out.andThen, mVar, Opn.pre, Opn.rd, rdM, rdLM, rdL, cellD, initC, initAt, outsOf, outAt, gNm, gTp, gNms, mNew, mFrz, mPar, mFld, mCallF, mCallK, mCallN, appF, rdA, setOuts, ownSlots, ownPos, mSeqI, mEnum, mRange1, itemsOf, sIsi, e6, kit_tt, e2]
  simp [mkFn, mSeq, mIfS, mDo, mRet, mRetN, mSkip, mExpr, mAsg, mAnd, mOr, mNot, mAndV, mOrV, mNotV, mB, mIf, mV, mNeg, mCall, mOp2, mTup, mLst, mMeth, mSl, mPart, preL, seqM, M.bind, M.pure, M.lift, M.stuck, Out.andThen, mVar, Opn.pre, Opn.rd, rdM, rdLM, rdL, cellD, initC, initAt, outsOf, outAt, gNm, gTp, gNms, mNew, mFrz, mPar, mFld, mCallF, mCallK, mCallN, appF, rdA, setOuts, ownSlots, ownPos, mSeqI, mEnum, mRange1, itemsOf] at e1
  simp [e1, e4, mLenSet, mkFn, mSeq, mIfS, mDo, mRet, mRetN, mSkip, mExpr, mAsg, mAnd, mOr, mNot, mAndV, mOrV, mNotV, mB, mIf, mV, mNeg, mCall, mOp2, mTup, mLst, mMeth, mSl, mPart, preL, seqM, M.bind, M.pure, M.lift, M.stuck, Out.andThen, mVar, Opn.pre, Opn.rd, rdM, rdLM, rdL, cellD, initC, initAt, outsOf, outAt, gNm, gTp, gNms, mNew, mFrz, mPar, mFld, mCallF, mCallK, mCallN, appF, rdA, setOuts, ownSlots, ownPos, mSeqI, mEnum, mRange1, itemsOf, e5, e7, sEq_int]
theorem mSeq_next {m n : MS} {ρ ρ' : Cells} (h : m ρ = .next ρ') : mSeq m n ρ = n ρ' := by simp [mSeq, h]
theorem mSeq_ret {m n : MS} {ρ ρ' : Cells} {d : D} (h : m ρ = .ret d ρ') : mSeq m n ρ = .ret d ρ' := by simp [mSeq, h]
theorem mkFn_next {k : Nat} {bs : List Nat} {m : MS} {ds : List D} {ρ : Cells} (h : m (initC k bs ds) = .next ρ) : mkFn k bs m ds = .ret .non (outsOf bs ρ) := by simp [mkFn, h]
theorem mkFn_ret {k : Nat} {bs : List Nat} {m : MS} {ds : List D} {ρ : Cells} {d : D} (h : m (initC k bs ds) = .ret d ρ) : mkFn k bs m ds = .ret d (outsOf bs ρ) := by simp [mkFn, h]
theorem mIfS_f {t : M Bool} {m n : MS} {ρ ρ' : Cells} (h : t ρ = .ok false ρ') : mIfS t m n ρ = n ρ' := by simp [mIfS, mDo, h]
theorem mIfS_t {t : M Bool} {m n : MS} {ρ ρ' : Cells} (h : t ρ = .ok true ρ') : mIfS t m n ρ = m ρ' := by simp [mIfS, mDo, h]
theorem mFor_next {fi : M (List D)} {g : TgM} {b : MS} {ρ ρ1 : Cells} {ds : List D} (h : fi ρ = .ok ds ρ1) : mFor fi g b ρ = loopM g b ds ρ1 := by simp [mFor, mDo, h]
theorem enumD_inv : ∀ (n i : Nat) (ds : List D) (e : D), (enumD n ds)[i]? = some e → ∃ d, ds[i]? = some d ∧ e = .tup [.int ((n + i : Nat) : Int), d]
  | n, i, [], e, h => by simp [enumD] at h
  | n, 0, d :: ds, e, h => by
    simp [enumD] at h
    exact ⟨d, rfl, by rw [← h]; rfl⟩
  | n, i + 1, d :: ds, e, h => by
    obtain ⟨x, h1, h2⟩ := enumD_inv (n + 1) i ds e (by simpa [enumD] using h)
    exact ⟨x, by simpa using h1, by rw [h2, show n + 1 + i = n + (i + 1) by omega]⟩
def RowOk (n : Int) (r : List Int) : Prop := r ≠ [] ∧ (∀ v ∈ r, 0 ≤ v ∧ v < n) ∧ r.Nodup ∧ r.length ≤ 4000
theorem e_is_row' {n : Int} {r : List Int} (h : RowOk n r) : m_is_row [rowD r, .int n] = .ret (.bl true) [] := e_is_row h.1 h.2.1 h.2.2.1 h.2.2.2
theorem e_make {n t : Int} {rows : List (List Int)} (h1 : 1 ≤ n) (h2 : n ≤ 30) (h3 : rows.length ≤ 60) (h4 : ∀ r ∈ rows, RowOk n r) (h5 : 0 ≤ t) (h6 : t ≤ n) :
    m_Farmdd_initdd [.rcd [] [], .int n, .lst (rows.map rowD), .int t] = .ret .non [farmD n rows t] := by
  have e0 : initC 6 [0] [.rcd [] [], .int n, .lst (rows.map rowD), .int t] = [.own (.rcd [] []), .dat (.int n), .dat (.lst (rows.map rowD)), .dat (.int t), .no, .no] := by rfl
  obtain ⟨ρ', e1, x, y, e2⟩ := loop_inv (g := gTp [4, 5]) (body := mIfS (mNot (mB (mCallF m_is_row [(.dat (mVar 5)), (.dat (mVar 1))]))) (mRaise 0 [(M.pure (.str "lists")), (mVar 4)]) mSkip)
    (fun _ ρ => ∃ x y, ρ = [.own (.rcd [] []), .dat (.int n), .dat (.lst (rows.map rowD)), .dat (.int t), x, y]) (enumD 0 (rows.map rowD)) 0 _ ⟨.no, .no, rfl⟩ (fun i d ρ hd ⟨x, y, e⟩ => by
      obtain ⟨d', h7, rfl⟩ := enumD_inv 0 i _ _ hd
      rw [List.getElem?_map] at h7
      cases hr : rows[i]? with
      | none => rw [hr] at h7; cases h7
      | some r =>
        rw [hr] at h7
        cases h7
        have q := e_is_row' (h4 r (List.mem_of_getElem? hr))
        subst e
        refine ⟨[.own (.rcd [] []), .dat (.int n), .dat (.lst (rows.map rowD)), .dat (.int t), .dat (.int ((0 + i : Nat) : Int)), .dat (rowD r)], by simp [gTp, gNms], [.own (.rcd [] []), .dat (.int n), .dat (.lst (rows.map rowD)), .dat (.int t), .dat (.int ((0 + i : Nat) : Int)), .dat (rowD r)], by simp [mkFn, mSeq, mIfS, mDo, mRet, mRetN, mSkip, mExpr, mAsg, mAnd, mOr, mNot, mAndV, mOrV, mNotV, mB, mIf, mV, mNeg, mCall, mOp2, mTup, mLst, mMeth, mSl, mPart, preL, seqM, M.bind, M.pure, M.lift, M.stuck, Out.andThen, mVar, Opn.pre, Opn.rd, rdM, rdLM, rdL, cellD, initC, initAt, outsOf, outAt, gNm, gTp, gNms, mNew, mFrz, mPar, mFld, mCallF, mCallK, mCallN, appF, rdA, setOuts, ownSlots, ownPos, mSeqI, mEnum, mRange1, itemsOf, q], _, _, rfl⟩)
  subst e2
  have e3 : b_Farmdd_initdd (initC 6 [0] [.rcd [] [], .int n, .lst (rows.map rowD), .int t]) = .next [.own (farmD n rows t), .dat (.int n), .dat (.lst (rows.map rowD)), .dat (.int t), x, y] := by
    rw [e0]
    unfold b_Farmdd_initdd
    rw [mSeq_next (ρ' := [.own (.rcd [] []), .dat (.int n), .dat (.lst (rows.map rowD)), .dat (.int t), .no, .no]) (by simp [mkFn, mSeq, mIfS, mDo, mRet, mRetN, mSkip, mExpr, mAsg, mAnd, mOr, mNot, mAndV, mOrV, mNotV, mB, mIf, mV, mNeg, mCall, mOp2, mTup, mLst, mMeth, mSl, mPart, preL, seqM, M.bind, M.pure, M.lift, M.stuck, Out.andThen, mVar, Opn.pre, Opn.rd, rdM, rdLM, rdL, cellD, initC, initAt, outsOf, outAt, gNm, gTp, gNms, mNew, mFrz, mPar, mFld, mCallF, mCallK, mCallN, appF, rdA, setOuts, ownSlots, ownPos, mSeqI, mEnum, mRange1, itemsOf, e_is_from, h1, h2])]
    have g1 : sIsi [.lst (rows.map rowD), .raw (.ty "list")] = some (.bl true) := by simp [sIsi, tyName, kit_ll]
    have g2 : ¬ ((60 : Int) < (rows.length : Int)) := by omega
    rw [mSeq_next (ρ' := [.own (.rcd [] []), .dat (.int n), .dat (.lst (rows.map rowD)), .dat (.int t), .no, .no]) (by simp [mkFn, mSeq, mIfS, mDo, mRet, mRetN, mSkip, mExpr, mAsg, mAnd, mOr, mNot, mAndV, mOrV, mNotV, mB, mIf, mV, mNeg, mCall, mOp2, mTup, mLst, mMeth, mSl, mPart, preL, seqM, M.bind, M.pure, M.lift, M.stuck, Out.andThen, mVar, Opn.pre, Opn.rd, rdM, rdLM, rdL, cellD, initC, initAt, outsOf, outAt, gNm, gTp, gNms, mNew, mFrz, mPar, mFld, mCallF, mCallK, mCallN, appF, rdA, setOuts, ownSlots, ownPos, mSeqI, mEnum, mRange1, itemsOf, g1, sLen, sGt, g2])]
    rw [mSeq_next (by rw [mFor_next (ds := enumD 0 (rows.map rowD)) (ρ1 := [.own (.rcd [] []), .dat (.int n), .dat (.lst (rows.map rowD)), .dat (.int t), .no, .no]) (by simp [mkFn, mSeq, mIfS, mDo, mRet, mRetN, mSkip, mExpr, mAsg, mAnd, mOr, mNot, mAndV, mOrV, mNotV, mB, mIf, mV, mNeg, mCall, mOp2, mTup, mLst, mMeth, mSl, mPart, preL, seqM, M.bind, M.pure, M.lift, M.stuck, Out.andThen, mVar, Opn.pre, Opn.rd, rdM, rdLM, rdL, cellD, initC, initAt, outsOf, outAt, gNm, gTp, gNms, mNew, mFrz, mPar, mFld, mCallF, mCallK, mCallN, appF, rdA, setOuts, ownSlots, ownPos, mSeqI, mEnum, mRange1, itemsOf])]; exact e1)]
    rw [mSeq_next (ρ' := [.own (.rcd [] []), .dat (.int n), .dat (.lst (rows.map rowD)), .dat (.int t), x, y]) (by simp [mkFn, mSeq, mIfS, mDo, mRet, mRetN, mSkip, mExpr, mAsg, mAnd, mOr, mNot, mAndV, mOrV, mNotV, mB, mIf, mV, mNeg, mCall, mOp2, mTup, mLst, mMeth, mSl, mPart, preL, seqM, M.bind, M.pure, M.lift, M.stuck, Out.andThen, mVar, Opn.pre, Opn.rd, rdM, rdLM, rdL, cellD, initC, initAt, outsOf, outAt, gNm, gTp, gNms, mNew, mFrz, mPar, mFld, mCallF, mCallK, mCallN, appF, rdA, setOuts, ownSlots, ownPos, mSeqI, mEnum, mRange1, itemsOf, e_is_from, h5, h6])]
    rw [mSeq_next (ρ' := [.own (.rcd ["many"] [.int n]), .dat (.int n), .dat (.lst (rows.map rowD)), .dat (.int t), x, y]) (by simp [mSetF, mkFn, mSeq, mIfS, mDo, mRet, mRetN, mSkip, mExpr, mAsg, mAnd, mOr, mNot, mAndV, mOrV, mNotV, mB, mIf, mV, mNeg, mCall, mOp2, mTup, mLst, mMeth, mSl, mPart, preL, seqM, M.bind, M.pure, M.lift, M.stuck, Out.andThen, mVar, Opn.pre, Opn.rd, rdM, rdLM, rdL, cellD, initC, initAt, outsOf, outAt, gNm, gTp, gNms, mNew, mFrz, mPar, mFld, mCallF, mCallK, mCallN, appF, rdA, setOuts, ownSlots, ownPos, mSeqI, mEnum, mRange1, itemsOf, ownAt])]
    have n1 : ¬ ("rows" : Str) = ("many" : Str) := by decide
    have n2 : ¬ ("most" : Str) = ("many" : Str) := by decide
    have n3 : ¬ ("most" : Str) = ("rows" : Str) := by decide
    rw [mSeq_next (ρ' := [.own (.rcd ["many", "rows"] [.int n, .tup (rows.map rowD)]), .dat (.int n), .dat (.lst (rows.map rowD)), .dat (.int t), x, y]) (by simp [mSetF, mkFn, mSeq, mIfS, mDo, mRet, mRetN, mSkip, mExpr, mAsg, mAnd, mOr, mNot, mAndV, mOrV, mNotV, mB, mIf, mV, mNeg, mCall, mOp2, mTup, mLst, mMeth, mSl, mPart, preL, seqM, M.bind, M.pure, M.lift, M.stuck, Out.andThen, mVar, Opn.pre, Opn.rd, rdM, rdLM, rdL, cellD, initC, initAt, outsOf, outAt, gNm, gTp, gNms, mNew, mFrz, mPar, mFld, mCallF, mCallK, mCallN, appF, rdA, setOuts, ownSlots, ownPos, mSeqI, mEnum, mRange1, itemsOf, ownAt, sTuple, n1])]
    simp [mSetF, mkFn, mSeq, mIfS, mDo, mRet, mRetN, mSkip, mExpr, mAsg, mAnd, mOr, mNot, mAndV, mOrV, mNotV, mB, mIf, mV, mNeg, mCall, mOp2, mTup, mLst, mMeth, mSl, mPart, preL, seqM, M.bind, M.pure, M.lift, M.stuck, Out.andThen, mVar, Opn.pre, Opn.rd, rdM, rdLM, rdL, cellD, initC, initAt, outsOf, outAt, gNm, gTp, gNms, mNew, mFrz, mPar, mFld, mCallF, mCallK, mCallN, appF, rdA, setOuts, ownSlots, ownPos, mSeqI, mEnum, mRange1, itemsOf, ownAt, n2, n3, farmD]
  unfold m_Farmdd_initdd
  rw [mkFn_next e3]
  rfl
structure FarmOk (n : Int) (rows : List (List Int)) : Prop where
  n1 : 1 ≤ n
  n2 : n ≤ 30
  len : rows.length ≤ 60
  row : ∀ r ∈ rows, RowOk n r
theorem atI_nat {α : Type} (l : List α) (s : Nat) : atI l (s : Int) = l[s]? := by
  unfold atI ixN
  rw [if_pos (Int.natCast_nonneg s)]
  by_cases h : s < l.length
  · rw [if_pos (by omega)]
    simp
  · rw [if_neg (by omega), List.getElem?_eq_none (by omega)]
    rfl
theorem cut_take (l : List D) (k : Nat) : cutD l none (some (k : Int)) = l.take k := by
  unfold cutD
  rw [HT.sIx_none, HT.sIx_nat, Nat.sub_zero, List.drop_zero]
  by_cases h : k ≤ l.length
  · rw [Nat.min_eq_left h]
  · rw [Nat.min_eq_right (by omega), List.take_length, List.take_of_length_le (by omega)]
def mvF (st : List Int) : Nat → List (Option Int) → List Int
  | _, [] => []
  | n, none :: p => mvF st (n + 1) p
  | n, some _ :: p => if (n : Int) ∈ st then mvF st (n + 1) p else (n : Int) :: mvF st (n + 1) p
def wellD (a b d : Int) : D := .lst [.int a, .int b, .int d]
theorem ix0 {x y z : D} : sIx (.lst [x, y, z]) (.int 0) = some x := by rfl
theorem ix1 {x y z : D} : sIx (.lst [x, y, z]) (.int 1) = some y := by rfl
theorem ix2 {x y z : D} : sIx (.lst [x, y, z]) (.int 2) = some z := by rfl
theorem fmod_in {a n : Int} (h : 0 < n) : 0 ≤ a.fmod n ∧ a.fmod n < n := by
  rw [Int.fmod_eq_emod_of_nonneg _ (Int.le_of_lt h)]
  exact ⟨Int.emod_nonneg _ (by omega), Int.emod_lt_of_pos _ h⟩
theorem sMul_l {i j : Int} (h : inR i = true) : sMul (.int i) (.int j) = some (.int (i * j)) := by simp [sMul, h]
theorem sMul_r {i j : Int} (h : inR j = true) : sMul (.int i) (.int j) = some (.int (i * j)) := by simp [sMul, h]
theorem inR_fmod {a n : Int} (h : 0 < n) (h2 : n ≤ 2147483647) : inR (a.fmod n) = true := by
  have := fmod_in (a := a) h
  simp [inR]
  omega
theorem e_draw (a b d : Int) {lim : Int} (h : 0 < lim) (h2 : lim < 1000000) : ∃ r a' b' d', m_law_draw [wellD a b d, .int lim] = .ret (.int r) [wellD a' b' d'] ∧ 0 ≤ r ∧ r < lim := by
  have hl : lim ≠ 0 := by omega
  have hb : lim.natAbs < 1073741824 := by omega
  by_cases ha : 0 < a
  · refine ⟨a.fmod lim, a.fdiv lim, b, d, ?_, fmod_in h⟩
    unfold m_law_draw
    rw [mkFn_ret (d := .int (a.fmod lim)) (ρ := [.own (wellD (a.fdiv lim) b d), .dat (.int lim), .dat (.int (a.fmod lim)), .no]) (by
      show b_law_draw [.own (wellD a b d), .dat (.int lim), .no, .no] = _
      unfold b_law_draw
      rw [mSeq_ret]
      rw [mIfS_t (ρ' := [.own (wellD a b d), .dat (.int lim), .no, .no]) (by simp [mkFn, mSeq, mIfS, mDo, mRet, mRetN, mSkip, mExpr, mAsg, mAnd, mOr, mNot, mAndV, mOrV, mNotV, mB, mIf, mV, mNeg, mCall, mOp2, mTup, mLst, mMeth, mSl, mPart, preL, seqM, M.bind, M.pure, M.lift, M.stuck, Out.andThen, mVar, Opn.pre, Opn.rd, rdM, rdLM, rdL, cellD, initC, initAt, outsOf, outAt, gNm, gTp, gNms, mNew, mFrz, mPar, mFld, mCallF, mCallK, mCallN, appF, rdA, setOuts, ownSlots, ownPos, mSeqI, mEnum, mRange1, itemsOf, wellD, ix0, sGt, ha])]
      simp [mkFn, mSeq, mIfS, mDo, mRet, mRetN, mSkip, mExpr, mAsg, mAnd, mOr, mNot, mAndV, mOrV, mNotV, mB, mIf, mV, mNeg, mCall, mOp2, mTup, mLst, mMeth, mSl, mPart, preL, seqM, M.bind, M.pure, M.lift, M.stuck, Out.andThen, mVar, Opn.pre, Opn.rd, rdM, rdLM, rdL, cellD, initC, initAt, outsOf, outAt, gNm, gTp, gNms, mNew, mFrz, mPar, mFld, mCallF, mCallK, mCallN, appF, rdA, setOuts, ownSlots, ownPos, mSeqI, mEnum, mRange1, itemsOf, wellD, ix0, sMod, sFdiv, hl, hb, mSetIx, ownAt, ixN])]
    rfl
  · let x0 := (b + 104729 * (d + 1) + 1)
    let x1 := (x0 * 48271).fmod 2147483647
    let x2 := (x1 * (x1.fdiv 1009 + 69621)).fmod 2147483647
    let x3 := (x2 * (x2.fdiv 2003 + 40692)).fmod 2147483399
    refine ⟨x3.fmod lim, a, b, d + 1, ?_, fmod_in h⟩
    have r1 : inR x1 = true := inR_fmod (by omega) (by omega)
    have r2 : inR x2 = true := inR_fmod (by omega) (by omega)
    unfold m_law_draw
    rw [mkFn_ret (d := .int (x3.fmod lim)) (ρ := [.own (wellD a b (d + 1)), .dat (.int lim), .no, .dat (.int x2)]) (by
      show b_law_draw [.own (wellD a b d), .dat (.int lim), .no, .no] = _
      unfold b_law_draw
      rw [mSeq_next (ρ' := [.own (wellD a b d), .dat (.int lim), .no, .no]) (by
        rw [mIfS_f (ρ' := [.own (wellD a b d), .dat (.int lim), .no, .no]) (by simp [mkFn, mSeq, mIfS, mDo, mRet, mRetN, mSkip, mExpr, mAsg, mAnd, mOr, mNot, mAndV, mOrV, mNotV, mB, mIf, mV, mNeg, mCall, mOp2, mTup, mLst, mMeth, mSl, mPart, preL, seqM, M.bind, M.pure, M.lift, M.stuck, Out.andThen, mVar, Opn.pre, Opn.rd, rdM, rdLM, rdL, cellD, initC, initAt, outsOf, outAt, gNm, gTp, gNms, mNew, mFrz, mPar, mFld, mCallF, mCallK, mCallN, appF, rdA, setOuts, ownSlots, ownPos, mSeqI, mEnum, mRange1, itemsOf, wellD, ix0, sGt, ha])]
        simp [mkFn, mSeq, mIfS, mDo, mRet, mRetN, mSkip, mExpr, mAsg, mAnd, mOr, mNot, mAndV, mOrV, mNotV, mB, mIf, mV, mNeg, mCall, mOp2, mTup, mLst, mMeth, mSl, mPart, preL, seqM, M.bind, M.pure, M.lift, M.stuck, Out.andThen, mVar, Opn.pre, Opn.rd, rdM, rdLM, rdL, cellD, initC, initAt, outsOf, outAt, gNm, gTp, gNms, mNew, mFrz, mPar, mFld, mCallF, mCallK, mCallN, appF, rdA, setOuts, ownSlots, ownPos, mSeqI, mEnum, mRange1, itemsOf])]
      rw [mSeq_next (ρ' := [.own (wellD a b (d + 1)), .dat (.int lim), .no, .no]) (by simp [mkFn, mSeq, mIfS, mDo, mRet, mRetN, mSkip, mExpr, mAsg, mAnd, mOr, mNot, mAndV, mOrV, mNotV, mB, mIf, mV, mNeg, mCall, mOp2, mTup, mLst, mMeth, mSl, mPart, preL, seqM, M.bind, M.pure, M.lift, M.stuck, Out.andThen, mVar, Opn.pre, Opn.rd, rdM, rdLM, rdL, cellD, initC, initAt, outsOf, outAt, gNm, gTp, gNms, mNew, mFrz, mPar, mFld, mCallF, mCallK, mCallN, appF, rdA, setOuts, ownSlots, ownPos, mSeqI, mEnum, mRange1, itemsOf, wellD, ix2, sAdd, mSetIx, ownAt, ixN])]
      have k1 : sMul (.int 104729) (.int (d + 1)) = some (.int (104729 * (d + 1))) := sMul_l (by decide)
      have k2 : sMul (.int x0) (.int 48271) = some (.int (x0 * 48271)) := sMul_r (by decide)
      rw [mSeq_next (ρ' := [.own (wellD a b (d + 1)), .dat (.int lim), .no, .dat (.int x1)]) (by simp [mkFn, mSeq, mIfS, mDo, mRet, mRetN, mSkip, mExpr, mAsg, mAnd, mOr, mNot, mAndV, mOrV, mNotV, mB, mIf, mV, mNeg, mCall, mOp2, mTup, mLst, mMeth, mSl, mPart, preL, seqM, M.bind, M.pure, M.lift, M.stuck, Out.andThen, mVar, Opn.pre, Opn.rd, rdM, rdLM, rdL, cellD, initC, initAt, outsOf, outAt, gNm, gTp, gNms, mNew, mFrz, mPar, mFld, mCallF, mCallK, mCallN, appF, rdA, setOuts, ownSlots, ownPos, mSeqI, mEnum, mRange1, itemsOf, wellD, ix1, ix2, sAdd, sMod, k1]; simp [x0] at k2; simp [k2, x1, x0, sMod])]
      have k3 : sMul (.int x1) (.int (x1.fdiv 1009 + 69621)) = some (.int (x1 * (x1.fdiv 1009 + 69621))) := sMul_l r1
      rw [mSeq_next (ρ' := [.own (wellD a b (d + 1)), .dat (.int lim), .no, .dat (.int x2)]) (by simp [mkFn, mSeq, mIfS, mDo, mRet, mRetN, mSkip, mExpr, mAsg, mAnd, mOr, mNot, mAndV, mOrV, mNotV, mB, mIf, mV, mNeg, mCall, mOp2, mTup, mLst, mMeth, mSl, mPart, preL, seqM, M.bind, M.pure, M.lift, M.stuck, Out.andThen, mVar, Opn.pre, Opn.rd, rdM, rdLM, rdL, cellD, initC, initAt, outsOf, outAt, gNm, gTp, gNms, mNew, mFrz, mPar, mFld, mCallF, mCallK, mCallN, appF, rdA, setOuts, ownSlots, ownPos, mSeqI, mEnum, mRange1, itemsOf, sAdd, sMod, sFdiv, k3]; rfl)]
      have k4 : sMul (.int x2) (.int (x2.fdiv 2003 + 40692)) = some (.int (x2 * (x2.fdiv 2003 + 40692))) := sMul_l r2
      simp [mkFn, mSeq, mIfS, mDo, mRet, mRetN, mSkip, mExpr, mAsg, mAnd, mOr, mNot, mAndV, mOrV, mNotV, mB, mIf, mV, mNeg, mCall, mOp2, mTup, mLst, mMeth, mSl, mPart, preL, seqM, M.bind, M.pure, M.lift, M.stuck, Out.andThen, mVar, Opn.pre, Opn.rd, rdM, rdLM, rdL, cellD, initC, initAt, outsOf, outAt, gNm, gTp, gNms, mNew, mFrz, mPar, mFld, mCallF, mCallK, mCallN, appF, rdA, setOuts, ownSlots, ownPos, mSeqI, mEnum, mRange1, itemsOf, sAdd, sMod, sFdiv, k4, hl]
      rfl)]
    rfl
theorem eraseIdx_map (l : List Int) (k : Nat) : (l.map D.int).eraseIdx k = (l.eraseIdx k).map D.int := erase_mapD l k
theorem mMethWR1 {sem : D → List D → Option (D × D)} {i : Nat} {f : M D} {ρ ρ1 : Cells} {x0 : List D} {d e : D} {r : D × D} (h0 : ρ[i]? = some (.own (.lst x0))) (h1 : f ρ = .ok e ρ1) (h2 : ρ1[i]? = some (.own d)) (h3 : sem d [e] = some r) : mMethWR sem i [f] ρ = .ok r.1 (ρ1.set i (.own r.2)) := by
  unfold mMethWR
  simp [ownAt, M.bind, M.pure, M.lift, Out.andThen, seqM, isLst, h0, h1, h2, h3, setOwn]
theorem cons_erase : ∀ {l : List Int} {i : Nat} {x : Int}, l[i]? = some x → (x :: l.eraseIdx i).Perm l
  | [], i, x, h => by simp at h
  | a :: l, 0, x, h => by
    simp at h
    subst h
    exact List.Perm.refl _
  | a :: l, i + 1, x, h => by
    rw [List.eraseIdx_cons_succ]
    exact (List.Perm.swap a x _).trans ((cons_erase (l := l) (by simpa using h)).cons a)
def rng (k : Nat) : List Int := (List.range k).map fun (i : Nat) => 0 + (i : Int)
theorem rng_D (k : Nat) : rangeD 0 k = (rng k).map .int := by
  unfold rangeD rng
  rw [List.map_map]
  rfl
theorem rng_len (k : Nat) : (rng k).length = k := by simp [rng]
theorem rng_nd (k : Nat) : (rng k).Nodup := by
  unfold rng
  rw [List.Nodup, List.pairwise_map]
  exact List.Pairwise.imp (fun h => by omega) List.nodup_range
theorem rng_mem {k : Nat} {v : Int} (h : v ∈ rng k) : 0 ≤ v ∧ v < k := by
  obtain ⟨i, hi, rfl⟩ := List.mem_map.mp h
  have := List.mem_range.mp hi
  omega
theorem cut_take' (l : List D) (k : Int) (hk : 0 ≤ k) : cutD l none (some k) = l.take k.toNat := by
  have := cut_take l k.toNat
  rwa [Int.toNat_of_nonneg hk] at this
def PlOk (rows : List (List Int)) (p : List (Option Int)) : Prop := ∀ (s : Nat) (v : Int), p[s]? = some (some v) → ∃ r, rows[s]? = some r ∧ v ∈ r
theorem mem_mvF {st : List Int} : ∀ {n : Nat} {p : List (Option Int)} {v : Int}, v ∈ mvF st n p ↔ ∃ (i : Nat) (x : Int), v = ((n + i : Nat) : Int) ∧ p[i]? = some (some x) ∧ v ∉ st
  | n, [], v => by simp [mvF]
  | n, none :: p, v => by
    unfold mvF
    rw [mem_mvF]
    constructor
    · rintro ⟨i, x, h1, h2, h3⟩
      exact ⟨i + 1, x, by omega, by simpa using h2, h3⟩
    · rintro ⟨i, x, h1, h2, h3⟩
      cases i with
      | zero => simp at h2
      | succ i => exact ⟨i, x, by omega, by simpa using h2, h3⟩
  | n, some y :: p, v => by
    unfold mvF
    split
    · rename_i hst
      rw [mem_mvF]
      constructor
      · rintro ⟨i, x, h1, h2, h3⟩
        exact ⟨i + 1, x, by omega, by simpa using h2, h3⟩
      · rintro ⟨i, x, h1, h2, h3⟩
        cases i with
        | zero => exact absurd (by rw [h1]; simpa using hst) h3
        | succ i => exact ⟨i, x, by omega, by simpa using h2, h3⟩
    · rename_i hst
      rw [List.mem_cons, mem_mvF]
      constructor
      · rintro (h | ⟨i, x, h1, h2, h3⟩)
        · exact ⟨0, y, by simpa using h, by simp, by rw [h]; exact hst⟩
        · exact ⟨i + 1, x, by omega, by simpa using h2, h3⟩
      · rintro ⟨i, x, h1, h2, h3⟩
        cases i with
        | zero => exact .inl (by simpa using h1)
        | succ i => exact .inr ⟨i, x, by omega, by simpa using h2, h3⟩
theorem len_mvF {st : List Int} : ∀ (n : Nat) (p : List (Option Int)), (mvF st n p).length ≤ p.length
  | n, [] => Nat.le_refl _
  | n, none :: p => by
    have := len_mvF (st := st) (n + 1) p
    unfold mvF
    rw [List.length_cons]
    omega
  | n, some y :: p => by
    have := len_mvF (st := st) (n + 1) p
    unfold mvF
    split <;> simp <;> omega
def rowAt (rows : List (List Int)) (s : Int) : List Int := rows.getD s.toNat []
def plAt (p : List (Option Int)) (s : Int) : Int := (p.getD s.toNat none).getD 0
def passI (rows : List (List Int)) (p : List (Option Int)) (s : Int) : List Int := (rowAt rows s).take ((rowAt rows s).idxOf (plAt p s))
def Pres (p : List (Option Int)) (s : Int) : Prop := ∃ (i : Nat) (x : Int), s = (i : Int) ∧ p[i]? = some (some x)
theorem Pres.at {rows : List (List Int)} {p : List (Option Int)} {s : Int} (h : Pres p s) (hok : PlOk rows p) : ∃ (i : Nat) (x : Int) (r : List Int), s = (i : Int) ∧ p[i]? = some (some x) ∧ rows[i]? = some r ∧ x ∈ r ∧ rowAt rows s = r ∧ plAt p s = x := by
  obtain ⟨i, x, rfl, h2⟩ := h
  obtain ⟨r, h3, h4⟩ := hok i x h2
  refine ⟨i, x, r, rfl, h2, h3, h4, ?_, ?_⟩
  · unfold rowAt
    rw [Int.toNat_natCast, List.getD_eq_getElem?_getD, h3]
    rfl
  · unfold plAt
    rw [Int.toNat_natCast, List.getD_eq_getElem?_getD, h2]
    rfl
def heldBy (rows : List (List Int)) (p : List (Option Int)) (st : List Int) (s : Int) : Bool := (st.filter fun o => decide (plAt p o ∈ passI rows p s)) ≠ []
theorem mOp2_dd {sem : D → D → Option D} {f g : M D} {ρ ρ1 ρ2 : Cells} {x y r : D} (h1 : f ρ = .ok x ρ1) (h2 : g ρ1 = .ok y ρ2) (h3 : sem x y = some r) : mOp2 sem (.dat f) (.dat g) ρ = .ok r ρ2 := by
  unfold mOp2 M.bind
  simp [Opn.pre, h1, h2, Out.andThen, rdM, Opn.rd, M.lift, h3]
theorem mB_ok {f : M D} {ρ ρ1 : Cells} {b : Bool} (h : f ρ = .ok (.bl b) ρ1) : mB f ρ = .ok b ρ1 := by
  unfold mB M.bind
  simp [h, Out.andThen, M.pure]
def idxI (rows : List (List Int)) (p : List (Option Int)) (s : Int) : Int := ((rowAt rows s).idxOf (plAt p s) : Nat)
def farQ (rows : List (List Int)) (p : List (Option Int)) (t s : Int) : Bool := decide (t < idxI rows p s)
end
section
theorem ix_row {rows : List (List Int)} {i : Nat} {r : List Int} (hr : rows[i]? = some r) : sIx (.tup (rows.map rowD)) (.int i) = some (rowD r) := by simp [sIx, atI_nat, hr]
theorem mem_insI {a x : Int} : ∀ {l : List Int}, x ∈ insI a l ↔ x = a ∨ x ∈ l
  | [] => by simp [insI]
  | b :: l => by
    unfold insI
    split
    · simp
    · rw [List.mem_cons, mem_insI, List.mem_cons]
      constructor
      · rintro (h | h | h)
        · exact .inr (.inl h)
        · exact .inl h
        · exact .inr (.inr h)
      · rintro (h | h | h)
        · exact .inr (.inl h)
        · exact .inl h
        · exact .inr (.inr h)
theorem mem_sortI {x : Int} : ∀ {l : List Int}, x ∈ sortI l ↔ x ∈ l
  | [] => by simp [sortI]
  | a :: l => by
    unfold sortI
    rw [mem_insI, mem_sortI, List.mem_cons]
def hQ (rows : List (List Int)) (p : List (Option Int)) (s o : Int) : Bool := decide (plAt p o ∈ passI rows p s)
theorem held_any {rows : List (List Int)} {p : List (Option Int)} {st : List Int} {s : Int} : (sortI st).any (hQ rows p s) = heldBy rows p st s := by
  rw [Bool.eq_iff_iff, List.any_eq_true]
  unfold heldBy hQ
  rw [decide_eq_true_iff]
  constructor
  · rintro ⟨o, h1, h2⟩
    exact List.ne_nil_of_mem (List.mem_filter.mpr ⟨mem_sortI.mp h1, h2⟩)
  · intro h
    obtain ⟨o, ho⟩ := List.exists_mem_of_ne_nil _ h
    obtain ⟨h1, h2⟩ := List.mem_filter.mp ho
    exact ⟨o, mem_sortI.mpr h1, h2⟩
end
section
def Ps (rows : List (List Int)) (p : List (Option Int)) (s o : Int) : Prop := plAt p o ∈ passI rows p s
end
section
variable {n t : Int} {rows : List (List Int)} {p : List (Option Int)} {st : List Int}
theorem mAsg_ok {f : M D} {g : TgM} {ρ ρ1 ρ2 : Cells} {d : D} (h : f ρ = .ok d ρ1) (h2 : g d ρ1 = some ρ2) : mAsg f g ρ = .next ρ2 := by
  unfold mAsg mDo
  rw [h]
  show (match g d ρ1 with | some ρ2 => OutS.next ρ2 | none => OutS.stuck) = _
  rw [h2]
theorem so_far : PyData.strOk "far" = true := by
  unfold PyData.strOk
  rw [← Array.all_toList]
  decide
theorem so_held : PyData.strOk "held" = true := by
  unfold PyData.strOk
  rw [← Array.all_toList]
  decide
theorem so_order : PyData.strOk "order" = true := by
  unfold PyData.strOk
  rw [← Array.all_toList]
  decide
theorem so_ring : PyData.strOk "ring" = true := by
  unfold PyData.strOk
  rw [← Array.all_toList]
  decide
theorem callF2 {F : Fn} {f g : M D} {ρ : Cells} {a b d : D} (h1 : f ρ = .ok a ρ) (h2 : g ρ = .ok b ρ) (h : F [a, b] = .ret d []) : mCallF F [.dat f, .dat g] ρ = .ok d ρ := by
  unfold mCallF
  simp [preL, M.bind, Opn.pre, h1, h2, Out.andThen, M.pure, rdA, Opn.rd, setOuts, ownSlots, h]
theorem callF3 {F : Fn} {f g k : M D} {ρ : Cells} {a b c d : D} (h1 : f ρ = .ok a ρ) (h2 : g ρ = .ok b ρ) (h3 : k ρ = .ok c ρ) (h : F [a, b, c] = .ret d []) : mCallF F [.dat f, .dat g, .dat k] ρ = .ok d ρ := by
  unfold mCallF
  simp [preL, M.bind, Opn.pre, h1, h2, h3, Out.andThen, M.pure, rdA, Opn.rd, setOuts, ownSlots, h]
theorem exprF {f : M D} {ρ ρ1 : Cells} {d : D} (h : f ρ = .ok d ρ1) : mExpr f ρ = .next ρ1 := by
  unfold mExpr mDo
  rw [h]
def lastQ (rows : List (List Int)) (p : List (Option Int)) (u : List Int) (s : Int) : Bool := decide ((passI rows p s).filter (fun v => decide (v ∈ u)) = [])
theorem last_iff {l : List Int} {s : Int} : lastQ rows p (l.map (plAt p)) s = false ↔ ∃ o ∈ l, Ps rows p s o := by
  unfold lastQ Ps
  rw [decide_eq_false_iff_not]
  constructor
  · intro h
    obtain ⟨v, hv⟩ := List.exists_mem_of_ne_nil _ h
    obtain ⟨h1, h2⟩ := List.mem_filter.mp hv
    obtain ⟨o, ho, rfl⟩ := List.mem_map.mp (of_decide_eq_true h2)
    exact ⟨o, ho, h1⟩
  · rintro ⟨o, ho, h⟩
    exact List.ne_nil_of_mem (List.mem_filter.mpr ⟨h, decide_eq_true (List.mem_map.mpr ⟨o, ho, rfl⟩)⟩)
end
section
variable {n t : Int} {rows : List (List Int)} {p : List (Option Int)} {st : List Int}
end
section
variable {n t k a b d : Int} {rows : List (List Int)} {p : List (Option Int)} {st : List Int}
theorem callO2 {F : Fn} {f : M D} {W W1 W' a d : D} {ρ : Cells} (h1 : f (.own W :: ρ) = .ok a (.own W1 :: ρ)) (h : F [W1, a] = .ret d [W']) : mCallF F [.own 0, .dat f] (.own W :: ρ) = .ok d (.own W' :: ρ) := by
  unfold mCallF
  simp [preL, cellD, M.bind, Opn.pre, h1, Out.andThen, M.pure, rdA, Opn.rd, setOuts, ownSlots, h]
theorem make3 {F : Fn} {f g j : M D} {ρ ρ1 : Cells} {a b d : D} {ns : List Str} {es : List D} (h1 : f ρ = .ok a ρ) (h2 : g ρ = .ok b ρ) (h3 : j ρ = .ok d ρ1) (h : F [.rcd [] [], a, b, d] = .ret .non [.rcd ns es]) : mMake F [f, g, j] ρ = .ok (.rcd ns es) ρ1 := by
  unfold mMake M.bind
  simp only [seqM, M.bind, h1, h2, h3, Out.andThen, M.pure, h]
theorem call1_ok {sem : List D → Option D} {f g : M D} {ρ : Cells} {a b d : D} (h1 : f ρ = .ok a ρ) (h2 : g ρ = .ok b ρ) (h : sem [a, b] = some d) : mCall sem [.dat f, .dat g] ρ = .ok d ρ := by
  unfold mCall
  simp [preL, M.bind, Opn.pre, h1, h2, Out.andThen, M.pure, rdLM, Opn.rd, rdL, rdM, M.lift, h]
end
section
theorem pow18 : sPow (.int 10) (.int 18) = some (.int (10 ^ 18)) := by
  show (if (0 : Int) ≤ 18 ∧ (18 : Int) ≤ 1000000 ∧ (10 : Int).natAbs < 2 ^ 64 then some (D.int (10 ^ (18 : Int).toNat)) else none) = _
  rw [if_pos ⟨by decide, by decide, by decide⟩]
  rfl
theorem call1 {sem : List D → Option D} {f : M D} {ρ : Cells} {a d : D} (h1 : f ρ = .ok a ρ) (h : sem [a] = some d) : mCall sem [.dat f] ρ = .ok d ρ := by
  unfold mCall
  simp [preL, M.bind, Opn.pre, h1, Out.andThen, M.pure, rdLM, Opn.rd, rdL, rdM, M.lift, h]
end
section
variable {n t k f : Int} {rows : List (List Int)}
theorem app_ok {i : Nat} {f : M D} {ρ : Cells} {e : D} {L : List D} (h0 : ρ[i]? = some (.own (.lst L))) (h1 : f ρ = .ok e ρ) (hl : L.length < 16777216) : mExpr (mMethWR wAppend i [f]) ρ = .next (ρ.set i (.own (.lst (L ++ [e])))) := by
  have h2 : wAppend (.lst L) [e] = some (.non, .lst (L ++ [e])) := if_pos hl
  exact exprF (mMethWR1 h0 h1 h0 h2)
end
section
variable {n t v : Int} {rows : List (List Int)}
end
section
variable {n t v : Int} {rows : List (List Int)}
theorem sNe_tup (l m : List Int) : sNe (.tup (l.map .int)) (.tup (m.map .int)) = some (.bl (!decide (l = m))) := by
  simp [sNe, plain, toPy, PyData.canLay0, lay_ints, PyData.depth, dep_ints, eqD, PyData.eqv, eqv_ints]
end
section
variable {n k f : Int}
end
section
variable {n k f sz : Int}
theorem lcM_T {β : Type} {g : TgM} {tt : M Bool} {fe : M D} {vs : List Nat} {w : Cells} (em : β → D) (P : β → Bool) (f : β → D) : ∀ (xs : List β) (ρ : Cells), wipeC ρ vs = w →
    (∀ x ∈ xs, ∃ ρ1, g (em x) w = some ρ1 ∧ tt ρ1 = .ok (P x) ρ1 ∧ (P x = true → fe ρ1 = .ok (f x) ρ1) ∧ wipeC ρ1 vs = w) →
    ∃ ρ', lcM g tt fe vs (xs.map em) ρ = some ((xs.filter P).map f, ρ') ∧ wipeC ρ' vs = w
  | [], ρ, hw, _ => ⟨ρ, rfl, hw⟩
  | x :: xs, ρ, hw, h => by
    obtain ⟨ρ1, h1, h2, h3, h4⟩ := h x List.mem_cons_self
    obtain ⟨ρ', e, hw'⟩ := lcM_T (g := g) (tt := tt) (fe := fe) em P f xs ρ1 h4 fun y hy => h y (List.mem_cons_of_mem _ hy)
    refine ⟨ρ', ?_, hw'⟩
    rw [List.map_cons]
    unfold lcM
    rw [hw]
    simp only [h1, h2]
    cases hP : P x with
    | true => simp [hP, h3 hP, e]
    | false => simp [hP, e]
theorem mLc_T {β : Type} {fi : M (List D)} {g : TgM} {tt : M Bool} {fe : M D} {vs : List Nat} {ρ : Cells} (em : β → D) (P : β → Bool) (f : β → D) {xs : List β} (hi : fi ρ = .ok (xs.map em) ρ) (ho : vs.all (fun v => !isOwn ρ[v]?) = true)
    (h : ∀ x ∈ xs, ∃ ρ1, g (em x) (wipeC ρ vs) = some ρ1 ∧ tt ρ1 = .ok (P x) ρ1 ∧ (P x = true → fe ρ1 = .ok (f x) ρ1) ∧ wipeC ρ1 vs = wipeC ρ vs) :
    mLc fi g tt fe vs ρ = .ok (.lst ((xs.filter P).map f)) ρ := by
  obtain ⟨ρ', e, hw⟩ := lcM_T (g := g) (tt := tt) (fe := fe) em P f xs ρ rfl h
  unfold mLc M.bind
  rw [hi]
  show (if vs.all (fun v => !isOwn ρ[v]?) = true then _ else _) = _
  rw [if_pos ho, e]
  show Out.ok _ (unwipe ρ ρ' vs) = _
  rw [unwipe_same hw]
theorem filter_true {β : Type} (l : List β) : l.filter (fun _ => true) = l := List.filter_eq_self.mpr fun _ _ => rfl
theorem mOr_t {f g : M Bool} {ρ ρ1 : Cells} (h1 : f ρ = .ok true ρ1) : mOr f g ρ = .ok true ρ1 := by
  unfold mOr M.bind
  rw [h1]
  rfl
end
section
variable {n k f : Int}
def cellO : Option D → Cell
  | none => .no
  | some d => .dat d
theorem cellO_no (o : Option D) : isOwn (some (cellO o)) = false := by cases o <;> rfl
end
section
end
end Fx
set_option Elab.async false
set_option linter.all false
set_option maxRecDepth 100000
set_option maxHeartbeats 1000000
namespace Fx
open PySem L2
section
variable {n t : Int} {rows : List (List Int)} {p : List (Option Int)} {st : List Int}
def Walk (R : Int → Int → Prop) (l : List Int) : Prop := ∀ (k : Nat) (a b : Int), l[k]? = some a → l[k + 1]? = some b → R a b
theorem Walk.snoc {R : Int → Int → Prop} {l : List Int} {x y : Int} (h : Walk R (l ++ [x])) (r : R x y) : Walk R (l ++ [x] ++ [y]) := by
  intro k a b h1 h2
  by_cases hk : k + 1 < (l ++ [x]).length
  · rw [List.getElem?_append_left hk] at h2
    rw [List.getElem?_append_left (by omega)] at h1
    exact h k a b h1 h2
  · have hl : (l ++ [x]).length = l.length + 1 := by simp
    have hk2 := (List.getElem?_eq_some_iff.mp h2).1
    have hl2 : (l ++ [x] ++ [y]).length = l.length + 2 := by simp
    have hk3 : k = l.length := by omega
    subst hk3
    have e1 : (l ++ [x] ++ [y])[l.length]? = some x := by simp
    have e2 : (l ++ [x] ++ [y])[l.length + 1]? = some y := by
      rw [List.getElem?_append_right (by omega), hl]
      simp
    rw [e1] at h1
    rw [e2] at h2
    cases h1
    cases h2
    exact r
structure RingOk (rows : List (List Int)) (p : List (Option Int)) (L ring : List Int) : Prop where
  ne : ring ≠ []
  nd : ring.Nodup
  sub : ∀ s ∈ ring, s ∈ L
  nxt : Walk (Ps rows p) ring
  cyc : ∀ a b, ring[ring.length - 1]? = some a → ring[0]? = some b → Ps rows p a b
end
end Fx
set_option Elab.async false
set_option linter.all false
set_option maxRecDepth 100000
set_option maxHeartbeats 1000000
namespace Fx
open PySem L2
section
variable {n t : Int} {rows : List (List Int)} {p : List (Option Int)} {st : List Int}
structure OrdOk (rows : List (List Int)) (p : List (Option Int)) (M os : List Int) : Prop where
  perm : os.Perm M
  ord : os.Pairwise fun o s => ¬ Ps rows p s o
/-- what order_of answers -/
inductive OrdRes (t : Int) (rows : List (List Int)) (p : List (Option Int)) (st : List Int) : D → Prop
  | far (s : Int) : (mvF st 0 p).find? (farQ rows p t) = some s → OrdRes t rows p st (.tup [.str "far", .int s])
  | held (s o : Int) : (mvF st 0 p).find? (farQ rows p t) = none → (mvF st 0 p).find? (heldBy rows p st) = some s → (sortI st).find? (hQ rows p s) = some o → OrdRes t rows p st (.tup [.str "held", .int s, .int o])
  | order (os : List Int) : (mvF st 0 p).find? (farQ rows p t) = none → (mvF st 0 p).find? (heldBy rows p st) = none → NoCore (Ps rows p) (mvF st 0 p) → OrdOk rows p (mvF st 0 p) os → OrdRes t rows p st (.tup [.str "order", .tup (os.map .int)])
  | ring (r : List Int) : (mvF st 0 p).find? (farQ rows p t) = none → (mvF st 0 p).find? (heldBy rows p st) = none → ¬ NoCore (Ps rows p) (mvF st 0 p) → RingOk rows p (mvF st 0 p) r → OrdRes t rows p st (.tup [.str "ring", .tup (r.map .int)])
/-- what is ordered, and what is left -/
structure OrdInv (rows : List (List Int)) (p : List (Option Int)) (M l os : List Int) : Prop where
  perm : (l ++ os).Perm M
  cross : ∀ s ∈ os, ∀ o ∈ l, ¬ Ps rows p s o
  ord : os.Pairwise fun o s => ¬ Ps rows p s o
theorem split_perm (f : Int → Bool) : ∀ l : List Int, (l.filter (fun s => !f s) ++ l.filter f).Perm l
  | [] => List.Perm.refl _
  | a :: l => by
    rw [List.filter_cons, List.filter_cons]
    have ih := split_perm f l
    cases h : f a with
    | true => simpa using List.perm_middle.trans (ih.cons a)
    | false => simpa using ih.cons a
theorem OrdInv.step {M l os : List Int} (h : OrdInv rows p M l os) : OrdInv rows p M (l.filter (fun s => !lastQ rows p (l.map (plAt p)) s)) (l.filter (lastQ rows p (l.map (plAt p))) ++ os) := by
  have hl : ∀ s ∈ l.filter (lastQ rows p (l.map (plAt p))), ∀ o ∈ l, ¬ Ps rows p s o := fun s hs o ho hr => by
    have := (List.mem_filter.mp hs).2
    have h2 := last_iff.mpr ⟨o, ho, hr⟩
    rw [this] at h2
    cases h2
  refine ⟨?_, fun s hs o ho => ?_, ?_⟩
  · rw [← List.append_assoc]
    exact ((split_perm _ l).append_right os).trans h.perm
  · have ho := (List.mem_filter.mp ho).1
    rcases List.mem_append.mp hs with z | z
    · exact hl s z o ho
    · exact h.cross s z o ho
  · rw [List.pairwise_append]
    refine ⟨?_, h.ord, fun o ho s hs => h.cross s hs o (List.mem_filter.mp ho).1⟩
    exact List.pairwise_of_forall_mem_list fun o ho s hs => hl s hs o (List.mem_filter.mp ho).1
end
end Fx
set_option Elab.async false
set_option linter.all false
set_option maxRecDepth 100000
set_option maxHeartbeats 1000000
namespace Fx
open PySem L2
theorem insI_comm (a b : Int) : ∀ l : List Int, insI a (insI b l) = insI b (insI a l)
  | [] => by
    unfold insI
    unfold insI
    by_cases h : a ≤ b <;> by_cases h2 : b ≤ a <;> simp [h, h2] <;> omega
  | c :: l => by
    have ih := insI_comm a b l
    by_cases hb : b ≤ c <;> by_cases ha : a ≤ c
    · by_cases h : a ≤ b <;> by_cases h2 : b ≤ a <;> simp [insI, ha, hb, h, h2] <;> omega
    · have h : ¬ a ≤ b := by omega
      simp [insI, ha, hb, h]
    · have h : ¬ b ≤ a := by omega
      simp [insI, ha, hb, h]
    · simp [insI, ha, hb, ih]
theorem sortI_eq {l m : List Int} (h : l.Perm m) : sortI l = sortI m := by
  induction h with
  | nil => rfl
  | cons a _ ih =>
    show insI a (sortI _) = insI a (sortI _)
    rw [ih]
  | swap a b l => exact insI_comm b a (sortI l)
  | trans _ _ h1 h2 => exact h1.trans h2
section
variable {n t : Int} {rows : List (List Int)} {p : List (Option Int)} {st st' : List Int}
theorem mvF_congr (h : ∀ v : Int, v ∈ st ↔ v ∈ st') : ∀ (i : Nat) (p : List (Option Int)), mvF st i p = mvF st' i p
  | _, [] => rfl
  | i, none :: p => mvF_congr h (i + 1) p
  | i, some v :: p => by
    unfold mvF
    rw [mvF_congr h (i + 1) p]
    by_cases hv : (i : Int) ∈ st
    · rw [if_pos hv, if_pos ((h _).mp hv)]
    · rw [if_neg hv, if_neg fun z => hv ((h _).mpr z)]
theorem OrdRes.turn {r : D} (hp : st.Perm st') (h : OrdRes t rows p st r) : OrdRes t rows p st' r := by
  have hm := mvF_congr (fun v => hp.mem_iff (a := v)) 0 p
  have hs := sortI_eq hp
  have hh : heldBy rows p st = heldBy rows p st' := by
    funext s
    rw [← held_any, ← held_any, hs]
  cases h with
  | far s h1 => exact .far s (by rw [← hm]; exact h1)
  | held s o h1 h2 h3 => exact .held s o (by rw [← hm]; exact h1) (by rw [← hm, ← hh]; exact h2) (by rw [← hs]; exact h3)
  | order os h1 h2 h3 h4 => exact .order os (by rw [← hm]; exact h1) (by rw [← hm, ← hh]; exact h2) (by rw [← hm]; exact h3) (by rw [← hm]; exact h4)
  | ring q h1 h2 h3 h4 => exact .ring q (by rw [← hm]; exact h1) (by rw [← hm, ← hh]; exact h2) (by rw [← hm]; exact h3) (by rw [← hm]; exact h4)
def partsD (n : Int) (rows : List (List Int)) (t : Int) : D := .tup [.int n, .lst (rows.map rowD), .int t]
end
end Fx
set_option Elab.async false
set_option linter.all false
set_option maxRecDepth 100000
set_option maxHeartbeats 1000000
namespace Fx
open PySem L2
section
variable {n t : Int} {rows : List (List Int)} {p : List (Option Int)} {st : List Int}
end
end Fx
set_option Elab.async false
set_option linter.all false
set_option maxRecDepth 100000
set_option maxHeartbeats 1000000
namespace Fx
open PySem L2
theorem sNe_words {w : Str} (hw : PyData.strOk w = true) (l : List Int) : sNe (.tup (.str w :: l.map .int)) (.tup (.str w :: l.map .int)) = some (.bl false) := by
  simp [sNe, plain, toPy, toPys, PyData.canLay0, PyData.canLayAll0, hw, lay_ints, PyData.depth, PyData.depthAll, dep_ints, eqD, PyData.eqv, PyData.eqvAll, eqv_ints]
theorem sNe_wtup {w : Str} (hw : PyData.strOk w = true) (l : List Int) : sNe (.tup [.str w, .tup (l.map .int)]) (.tup [.str w, .tup (l.map .int)]) = some (.bl false) := by
  simp [sNe, plain, toPy, toPys, PyData.canLay0, PyData.canLayAll0, hw, lay_ints, PyData.depth, PyData.depthAll, dep_ints, eqD, PyData.eqv, PyData.eqvAll, eqv_ints]
section
variable {n t : Int} {rows : List (List Int)} {p : List (Option Int)} {st : List Int}
end
end Fx
set_option Elab.async false
set_option linter.all false
set_option maxRecDepth 100000
set_option maxHeartbeats 1000000
namespace Fx
open PySem L2
theorem popAt_ok (l : List Int) {r : Int} (h1 : 0 ≤ r) (h2 : r < l.length) (hl : l.length < 4000) : wPopAt (.lst (l.map .int)) [.int r] = some (.int (l[r.toNat]'(by omega)), .lst ((l.eraseIdx r.toNat).map .int)) := by
  have hk : r.toNat < l.length := by omega
  have q : seqIndex? r (l.map D.int).length = some r.toNat := PySem.StrLaws.seqIndex_nonneg h1 (by rw [List.length_map]; exact h2)
  show (if -(2 ^ 62) ≤ r ∧ r < 2 ^ 62 then (seqIndex? r (l.map D.int).length).bind fun k => ((l.map D.int)[k]?).map fun y => (y, D.lst ((l.map D.int).eraseIdx k)) else none) = _
  rw [if_pos (by omega), q]
  simp [hk, eraseIdx_map]
theorem range_ok' {f : M D} {ρ ρ1 : Cells} {j : Int} (h : f ρ = .ok (.int j) ρ1) (h1 : -16777216 ≤ j) (h2 : j ≤ 16777216) : mRange1 f ρ = .ok ((rng j.toNat).map .int) ρ1 := by
  unfold mRange1 M.bind
  rw [h]
  show (if j ≤ 16777216 ∧ -16777216 ≤ j then M.pure (rangeD 0 j.toNat) else M.stuck) _ = _
  rw [if_pos ⟨h2, h1⟩, rng_D]
  rfl
theorem tup3' {f g j : M D} {ρ ρ1 : Cells} {a b d : D} (h1 : f ρ = .ok a ρ) (h2 : g ρ = .ok b ρ) (h3 : j ρ = .ok d ρ1) : mTup [f, g, j] ρ = .ok (.tup [a, b, d]) ρ1 := by
  unfold mTup M.bind
  simp only [seqM, M.bind, h1, h2, h3, Out.andThen, M.pure]
theorem choose2 (a b d x y : Int) : ∃ z a' b' d', (z = x ∨ z = y) ∧ ∀ ρ, (mOp2 sIx (.dat (mLst [(M.pure (.int x)), (M.pure (.int y))])) (.dat (mCallF m_law_draw [(.own 0), (.dat (M.pure (.int 2)))]))) (.own (wellD a b d) :: ρ) = .ok (.int z) (.own (wellD a' b' d') :: ρ) := by
  obtain ⟨r, a', b', d', e, q1, q2⟩ := e_draw a b d (lim := 2) (by omega) (by omega)
  have hr : r = 0 ∨ r = 1 := by omega
  rcases hr with rfl | rfl
  · exact ⟨x, a', b', d', .inl rfl, fun ρ => mOp2_dd (x := .lst [.int x, .int y]) (y := .int 0) rfl (callO2 rfl e) (atI_nat [D.int x, .int y] 0)⟩
  · exact ⟨y, a', b', d', .inr rfl, fun ρ => mOp2_dd (x := .lst [.int x, .int y]) (y := .int 1) rfl (callO2 rfl e) (atI_nat [D.int x, .int y] 1)⟩
theorem fdiv_in {r z : Int} (h : 0 ≤ r) (hz : z = 1 ∨ z = 2 ∨ z = 3) : 0 ≤ r.fdiv z ∧ r.fdiv z ≤ r := by
  rcases hz with rfl | rfl | rfl <;> (rw [Int.fdiv_eq_ediv_of_nonneg _ (by omega)]; omega)
theorem rng_mem' {n v : Int} (h : v ∈ rng n.toNat) (hn : 0 ≤ n) : 0 ≤ v ∧ v < n := by
  obtain ⟨h1, h2⟩ := rng_mem h
  omega
section
variable {mo ma n : Int}
theorem in_body (a b d : Int) (R : List (List Int)) (l m : List Int) (h : l ≠ []) (hl : l.length < 1000) (hm : m.length < 1000) (c5 c8 : Cell) : ∃ a' b' d' k x, l[k]? = some x ∧
    (mExpr (mMethWR wAppend 7 [(mMethWR wPopAt 6 [(mOp2 sFdiv (.dat (mCallF m_law_draw [(.own 0), (.dat (mCall sLen [(.own 6)]))])) (.dat (mOp2 sIx (.dat (mLst [(M.pure (.int 1)), (M.pure (.int 2))])) (.dat (mCallF m_law_draw [(.own 0), (.dat (M.pure (.int 2)))])))))])])) [.own (wellD a b d), .dat (.int mo), .dat (.int ma), .dat (.int n), .own (.lst (List.map rowD (R))), c5, .own (D.lst (List.map D.int l)), .own (D.lst (List.map D.int m)), c8] = .next [.own (wellD a' b' d'), .dat (.int mo), .dat (.int ma), .dat (.int n), .own (.lst (List.map rowD (R))), c5, .own (D.lst (List.map D.int (l.eraseIdx k))), .own (D.lst (List.map D.int (m ++ [x]))), c8] := by
  have hp : 0 < l.length := List.length_pos_iff.mpr h
  obtain ⟨r, a1, b1, d1, e1, q1, q2⟩ := e_draw a b d (lim := (l.length : Int)) (by omega) (by omega)
  obtain ⟨z, a2, b2, d2, hz, e2⟩ := choose2 a1 b1 d1 1 2
  obtain ⟨f1, f2⟩ := fdiv_in (r := r) (z := z) q1 (by omega)
  have hk : (r.fdiv z).toNat < l.length := by omega
  refine ⟨a2, b2, d2, (r.fdiv z).toNat, l[(r.fdiv z).toNat], List.getElem?_eq_getElem hk, ?_⟩
  have g1 : (mCallF m_law_draw [(.own 0), (.dat (mCall sLen [(.own 6)]))]) [.own (wellD a b d), .dat (.int mo), .dat (.int ma), .dat (.int n), .own (.lst (List.map rowD (R))), c5, .own (D.lst (List.map D.int l)), .own (D.lst (List.map D.int m)), c8] = .ok (.int r) [.own (wellD a1 b1 d1), .dat (.int mo), .dat (.int ma), .dat (.int n), .own (.lst (List.map rowD (R))), c5, .own (D.lst (List.map D.int l)), .own (D.lst (List.map D.int m)), c8] := callO2 (a := .int (l.length : Nat)) (by
    show mCall sLen [(.own 6)] _ = _
    have : sLen [(D.lst (List.map D.int l))] = some (.int (l.length : Nat)) := by simp [sLen]
    generalize (D.lst (List.map D.int l)) = dd at this ⊢
    generalize (D.lst (List.map rowD R)) = rr
    simp [mkFn, mSeq, mIfS, mDo, mRet, mRetN, mSkip, mExpr, mAsg, mAnd, mOr, mNot, mAndV, mOrV, mNotV, mB, mIf, mV, mNeg, mCall, mOp2, mTup, mLst, mMeth, mSl, mPart, preL, seqM, M.bind, M.pure, M.lift, M.stuck, Out.andThen, mVar, Opn.pre, Opn.rd, rdM, rdLM, rdL, cellD, initC, initAt, outsOf, outAt, gNm, gTp, gNms, mNew, mFrz, mPar, mFld, mCallF, mCallK, mCallN, appF, rdA, setOuts, ownSlots, ownPos, mSeqI, mEnum, mRange1, itemsOf, this]) e1
  have g2 : sFdiv (.int r) (.int z) = some (.int (r.fdiv z)) := if_pos (by omega)
  have g3 := mOp2_dd (sem := sFdiv) g1 (e2 _) g2
  have g4 := mMethWR1 (sem := wPopAt) (i := 6) (x0 := l.map .int) rfl g3 rfl (popAt_ok l f1 (by omega) (by omega))
  have g5 : wAppend (D.lst (List.map D.int m)) [.int l[(r.fdiv z).toNat]] = some (.non, (D.lst (List.map D.int (m ++ [l[(r.fdiv z).toNat]])))) := by
    have q : (m.map D.int).length < 16777216 := by rw [List.length_map]; omega
    show (if (m.map D.int).length < 16777216 then some (D.non, D.lst (m.map D.int ++ [.int l[(r.fdiv z).toNat]])) else none) = _
    rw [if_pos q, List.map_append]
    rfl
  have g6 := mMethWR1 (sem := wAppend) (i := 7) (x0 := m.map .int) (ρ := [.own (wellD a b d), .dat (.int mo), .dat (.int ma), .dat (.int n), .own (.lst (List.map rowD (R))), c5, .own (D.lst (List.map D.int l)), .own (D.lst (List.map D.int m)), c8]) rfl g4 rfl g5
  exact exprF g6
theorem rev_ok {r : List Int} (h : RowOk n r) : RowOk n r.reverse := by
  refine ⟨fun z => h.1 (by simpa using z), fun v hv => h.2.1 v (by simpa using hv), ?_, by rw [List.length_reverse]; exact h.2.2.2⟩
  exact (List.reverse_perm r).nodup_iff.mpr h.2.2.1
theorem bod (a b d : Int) (n1 : 1 ≤ n) (n2 : n ≤ 30) (R : List (List Int)) (hR : ∀ r ∈ R, RowOk n r) (hl : R.length ≤ 1000) (c5 c6 c7 c8 : Cell) : ∃ a' b' d' R' c6' c7' c8', (mSeq (mNew (mListRg (mVar 3)) 6) (mSeq (mNew (mLst []) 7) (mSeq (mFor (mRange1 (mOp2 sAdd (.dat (M.pure (.int 1))) (.dat (mCallF m_law_draw [(.own 0), (.dat (mVar 3))])))) (gNm 8) (mExpr (mMethWR wAppend 7 [(mMethWR wPopAt 6 [(mOp2 sFdiv (.dat (mCallF m_law_draw [(.own 0), (.dat (mCall sLen [(.own 6)]))])) (.dat (mOp2 sIx (.dat (mLst [(M.pure (.int 1)), (M.pure (.int 2))])) (.dat (mCallF m_law_draw [(.own 0), (.dat (M.pure (.int 2)))])))))])]))) (mSeq (mExpr (mMethWR wAppend 4 [(mCall sTuple [(.own 7)])])) (mIfS (mB (mOp2 sEq (.dat (mCallF m_law_draw [(.own 0), (.dat (M.pure (.int 4)))])) (.dat (M.pure (.int 0))))) (mExpr (mMethWR wAppend 4 [(mCall sTuple [(.dat (mRev sRev (.own 7)))])])) mSkip))))) [.own (wellD a b d), .dat (.int mo), .dat (.int ma), .dat (.int n), .own (.lst (List.map rowD (R))), c5, c6, c7, c8] = .next [.own (wellD a' b' d'), .dat (.int mo), .dat (.int ma), .dat (.int n), .own (.lst (List.map rowD (R'))), c5, c6', c7', c8'] ∧ (∀ r ∈ R', RowOk n r) ∧ R'.length ≤ R.length + 2 := by
  obtain ⟨r0, a1, b1, d1, e1, q1, q2⟩ := e_draw a b d (lim := n) (by omega) (by omega)
  obtain ⟨ρ', e2, a2, b2, d2, l2, m2, c8', hρ, hp2, hm2⟩ := loop_inv (g := gNm 8) (body := (mExpr (mMethWR wAppend 7 [(mMethWR wPopAt 6 [(mOp2 sFdiv (.dat (mCallF m_law_draw [(.own 0), (.dat (mCall sLen [(.own 6)]))])) (.dat (mOp2 sIx (.dat (mLst [(M.pure (.int 1)), (M.pure (.int 2))])) (.dat (mCallF m_law_draw [(.own 0), (.dat (M.pure (.int 2)))])))))])])))
    (fun i ρ => ∃ (a b d : Int) (l m : List Int) (c8 : Cell), ρ = [.own (wellD a b d), .dat (.int mo), .dat (.int ma), .dat (.int n), .own (.lst (List.map rowD (R))), c5, .own (D.lst (List.map D.int l)), .own (D.lst (List.map D.int m)), c8] ∧ (l ++ m).Perm (rng n.toNat) ∧ m.length = i) ((rng (1 + r0).toNat).map .int) 0 [.own (wellD a1 b1 d1), .dat (.int mo), .dat (.int ma), .dat (.int n), .own (.lst (List.map rowD (R))), c5, .own (D.lst (List.map D.int (rng n.toNat))), .own (D.lst (List.map D.int ([] : List Int))), c8] ⟨a1, b1, d1, rng n.toNat, [], c8, rfl, by simp, rfl⟩
    (fun i dd ρ hd ⟨a, b, d, l, m, c8, hρ, hp, hm⟩ => by
      rw [Nat.zero_add] at hm ⊢
      subst hρ
      have hi := (List.getElem?_eq_some_iff.mp hd).1
      rw [List.length_map, rng_len] at hi
      have hlen := hp.length_eq
      rw [List.length_append, rng_len] at hlen
      have hne : l ≠ [] := fun z => by
        subst z
        rw [List.length_nil] at hlen
        omega
      obtain ⟨a', b', d', k, x, hx, e⟩ := in_body (mo := mo) (ma := ma) (n := n) a b d R l m hne (by omega) (by omega) c5 (.dat dd)
      refine ⟨[.own (wellD a b d), .dat (.int mo), .dat (.int ma), .dat (.int n), .own (.lst (List.map rowD (R))), c5, .own (D.lst (List.map D.int l)), .own (D.lst (List.map D.int m)), .dat dd], rfl, _, e, a', b', d', _, _, _, rfl, ?_, by rw [List.length_append, List.length_singleton, hm]⟩
      have p1 : (x :: l.eraseIdx k).Perm l := cons_erase hx
      have p2 : (l.eraseIdx k ++ (m ++ [x])).Perm (x :: l.eraseIdx k ++ m) := by
        rw [← List.append_assoc]
        exact List.perm_append_comm
      exact p2.trans ((p1.append_right m).trans hp))
  subst hρ
  rw [Nat.zero_add, List.length_map, rng_len] at hm2
  have hrow : RowOk n m2 := by
    refine ⟨fun z => ?_, fun v hv => rng_mem' (hp2.mem_iff.mp (List.mem_append_right _ hv)) (by omega), ?_, ?_⟩
    · rw [z, List.length_nil] at hm2
      omega
    · exact (hp2.nodup_iff.mpr (rng_nd _)).sublist (List.sublist_append_right _ _)
    · have := hp2.length_eq
      rw [List.length_append, rng_len] at this
      omega
  have s1 : mNew (mListRg (mVar 3)) 6 [.own (wellD a b d), .dat (.int mo), .dat (.int ma), .dat (.int n), .own (.lst (List.map rowD (R))), c5, c6, c7, c8] = .next [.own (wellD a b d), .dat (.int mo), .dat (.int ma), .dat (.int n), .own (.lst (List.map rowD (R))), c5, .own (D.lst (List.map D.int (rng n.toNat))), c7, c8] := by
    have g1 : mListRg (mVar 3) [.own (wellD a b d), .dat (.int mo), .dat (.int ma), .dat (.int n), .own (.lst (List.map rowD (R))), c5, c6, c7, c8] = .ok (D.lst (List.map D.int (rng n.toNat))) [.own (wellD a b d), .dat (.int mo), .dat (.int ma), .dat (.int n), .own (.lst (List.map rowD (R))), c5, c6, c7, c8] := by
      unfold mListRg M.bind
      show (if -(2 ^ 62) ≤ n ∧ n ≤ 16777216 then M.pure (D.lst (rangeD 0 n.toNat)) else M.stuck) _ = _
      rw [if_pos (by omega), rng_D]
      rfl
    unfold mNew mDo
    rw [g1]
    rfl
  have s3 : mRange1 (mOp2 sAdd (.dat (M.pure (.int 1))) (.dat (mCallF m_law_draw [(.own 0), (.dat (mVar 3))]))) [.own (wellD a b d), .dat (.int mo), .dat (.int ma), .dat (.int n), .own (.lst (List.map rowD (R))), c5, .own (D.lst (List.map D.int (rng n.toNat))), .own (D.lst (List.map D.int ([] : List Int))), c8] = .ok ((rng (1 + r0).toNat).map .int) [.own (wellD a1 b1 d1), .dat (.int mo), .dat (.int ma), .dat (.int n), .own (.lst (List.map rowD (R))), c5, .own (D.lst (List.map D.int (rng n.toNat))), .own (D.lst (List.map D.int ([] : List Int))), c8] := by
    exact range_ok' (mOp2_dd (x := .int 1) (y := .int r0) rfl (callO2 rfl e1) rfl) (by omega) (by omega)
  have s4 : mExpr (mMethWR wAppend 4 [(mCall sTuple [(.own 7)])]) [.own (wellD a2 b2 d2), .dat (.int mo), .dat (.int ma), .dat (.int n), .own (.lst (List.map rowD (R))), c5, .own (D.lst (List.map D.int l2)), .own (D.lst (List.map D.int m2)), c8'] = .next [.own (wellD a2 b2 d2), .dat (.int mo), .dat (.int ma), .dat (.int n), .own (.lst (List.map rowD (R ++ [m2]))), c5, .own (D.lst (List.map D.int l2)), .own (D.lst (List.map D.int m2)), c8'] := by
    rw [app_ok (i := 4) (L := R.map rowD) (e := rowD m2) rfl (by rfl) (by rw [List.length_map]; omega), List.map_append]
    rfl
  obtain ⟨r4, a3, b3, d3, e5, q5, q6⟩ := e_draw a2 b2 d2 (lim := 4) (by omega) (by omega)
  have s5 : mB (mOp2 sEq (.dat (mCallF m_law_draw [(.own 0), (.dat (M.pure (.int 4)))])) (.dat (M.pure (.int 0)))) [.own (wellD a2 b2 d2), .dat (.int mo), .dat (.int ma), .dat (.int n), .own (.lst (List.map rowD (R ++ [m2]))), c5, .own (D.lst (List.map D.int l2)), .own (D.lst (List.map D.int m2)), c8'] = .ok (decide (r4 = 0)) [.own (wellD a3 b3 d3), .dat (.int mo), .dat (.int ma), .dat (.int n), .own (.lst (List.map rowD (R ++ [m2]))), c5, .own (D.lst (List.map D.int l2)), .own (D.lst (List.map D.int m2)), c8'] := mB_ok (mOp2_dd (x := .int r4) (y := .int 0) (callO2 rfl e5) rfl (sEq_int r4 0))
  have hR2 : ∀ r ∈ R ++ [m2], RowOk n r := fun r hr => by
    rcases List.mem_append.mp hr with z | z
    · exact hR r z
    · have z : r = m2 := by simpa using z
      subst z
      exact hrow
  have run : ∀ k, mSeq (mNew (mListRg (mVar 3)) 6) (mSeq (mNew (mLst []) 7) (mSeq (mFor (mRange1 (mOp2 sAdd (.dat (M.pure (.int 1))) (.dat (mCallF m_law_draw [(.own 0), (.dat (mVar 3))])))) (gNm 8) (mExpr (mMethWR wAppend 7 [(mMethWR wPopAt 6 [(mOp2 sFdiv (.dat (mCallF m_law_draw [(.own 0), (.dat (mCall sLen [(.own 6)]))])) (.dat (mOp2 sIx (.dat (mLst [(M.pure (.int 1)), (M.pure (.int 2))])) (.dat (mCallF m_law_draw [(.own 0), (.dat (M.pure (.int 2)))])))))])]))) (mSeq (mExpr (mMethWR wAppend 4 [(mCall sTuple [(.own 7)])])) k))) [.own (wellD a b d), .dat (.int mo), .dat (.int ma), .dat (.int n), .own (.lst (List.map rowD (R))), c5, c6, c7, c8] = k [.own (wellD a2 b2 d2), .dat (.int mo), .dat (.int ma), .dat (.int n), .own (.lst (List.map rowD (R ++ [m2]))), c5, .own (D.lst (List.map D.int l2)), .own (D.lst (List.map D.int m2)), c8'] := fun k => by
    rw [mSeq_next s1]
    rw [mSeq_next (ρ' := [.own (wellD a b d), .dat (.int mo), .dat (.int ma), .dat (.int n), .own (.lst (List.map rowD (R))), c5, .own (D.lst (List.map D.int (rng n.toNat))), .own (D.lst (List.map D.int ([] : List Int))), c8]) (by rfl)]
    rw [mSeq_next (by rw [mFor_next s3]; exact e2)]
    rw [mSeq_next s4]
  by_cases h0 : r4 = 0
  · rw [decide_eq_true h0] at s5
    refine ⟨a3, b3, d3, R ++ [m2] ++ [m2.reverse], .own (D.lst (List.map D.int l2)), .own (D.lst (List.map D.int m2)), c8', ?_, ?_, by simp⟩
    · rw [run, mIfS_t s5]
      have s6 : mCall sTuple [(.dat (mRev sRev (.own 7)))] [.own (wellD a3 b3 d3), .dat (.int mo), .dat (.int ma), .dat (.int n), .own (.lst (List.map rowD (R ++ [m2]))), c5, .own (D.lst (List.map D.int l2)), .own (D.lst (List.map D.int m2)), c8'] = .ok (rowD m2.reverse) [.own (wellD a3 b3 d3), .dat (.int mo), .dat (.int ma), .dat (.int n), .own (.lst (List.map rowD (R ++ [m2]))), c5, .own (D.lst (List.map D.int l2)), .own (D.lst (List.map D.int m2)), c8'] := by
        refine call1 (d := rowD m2.reverse) (a := (D.lst (List.map D.int (m2.reverse)))) ?_ rfl
        show M.lift (sRev (D.lst (List.map D.int m2))) _ = _
        have : sRev (D.lst (List.map D.int m2)) = some (D.lst (List.map D.int (m2.reverse))) := by
          show some (D.lst (List.map D.int m2).reverse) = _
          rw [List.map_reverse]
        rw [this]
        rfl
      rw [app_ok (i := 4) (L := (R ++ [m2]).map rowD) (e := rowD m2.reverse) rfl s6 (by rw [List.length_map, List.length_append, List.length_singleton]; omega), List.map_append (l₁ := R ++ [m2])]
      rfl
    · intro r hr
      rcases List.mem_append.mp hr with z | z
      · exact hR2 r z
      · have z : r = m2.reverse := by simpa using z
        subst z
        exact rev_ok hrow
  · rw [decide_eq_false h0] at s5
    refine ⟨a3, b3, d3, R ++ [m2], .own (D.lst (List.map D.int l2)), .own (D.lst (List.map D.int m2)), c8', ?_, hR2, by simp⟩
    rw [run, mIfS_f s5]
    rfl
end
theorem e_lfarm2 (a b d : Int) {mo ma : Int} (m1 : 1 ≤ mo) (m2 : mo ≤ 30) (k1 : 0 ≤ ma) (k2 : ma ≤ 60) : ∃ a' b' d' n rows t, m_law_farm [wellD a b d, .int mo, .int ma] = .ret (partsD n rows t) [wellD a' b' d'] ∧ FarmOk n rows ∧ 0 ≤ t ∧ t ≤ n ∧ n ≤ mo ∧ (rows.length : Int) ≤ ma := by
  obtain ⟨r0, a1, b1, d1, e1, q1, q2⟩ := e_draw a b d (lim := mo) (by omega) (by omega)
  obtain ⟨n, hn⟩ : ∃ n, n = 1 + r0 := ⟨_, rfl⟩
  obtain ⟨r1, a2, b2, d2, e2, q3, q4⟩ := e_draw a1 b1 d1 (lim := ma + 1) (by omega) (by omega)
  obtain ⟨z, a3, b3, d3, hz, e3⟩ := choose2 a2 b2 d2 1 3
  obtain ⟨f1, f2⟩ := fdiv_in (r := r1) (z := z) q3 (by omega)
  obtain ⟨cnt, hcnt⟩ : ∃ c, c = ma - r1.fdiv z := ⟨_, rfl⟩
  obtain ⟨ρ', e4, a4, b4, d4, R, c5, c6, c7, c8, hρ, hR, hRl⟩ := loop_inv (g := gNm 5) (body := (mSeq (mNew (mListRg (mVar 3)) 6) (mSeq (mNew (mLst []) 7) (mSeq (mFor (mRange1 (mOp2 sAdd (.dat (M.pure (.int 1))) (.dat (mCallF m_law_draw [(.own 0), (.dat (mVar 3))])))) (gNm 8) (mExpr (mMethWR wAppend 7 [(mMethWR wPopAt 6 [(mOp2 sFdiv (.dat (mCallF m_law_draw [(.own 0), (.dat (mCall sLen [(.own 6)]))])) (.dat (mOp2 sIx (.dat (mLst [(M.pure (.int 1)), (M.pure (.int 2))])) (.dat (mCallF m_law_draw [(.own 0), (.dat (M.pure (.int 2)))])))))])]))) (mSeq (mExpr (mMethWR wAppend 4 [(mCall sTuple [(.own 7)])])) (mIfS (mB (mOp2 sEq (.dat (mCallF m_law_draw [(.own 0), (.dat (M.pure (.int 4)))])) (.dat (M.pure (.int 0))))) (mExpr (mMethWR wAppend 4 [(mCall sTuple [(.dat (mRev sRev (.own 7)))])])) mSkip))))))
    (fun i ρ => ∃ (a b d : Int) (R : List (List Int)) (c5 c6 c7 c8 : Cell), ρ = [.own (wellD a b d), .dat (.int mo), .dat (.int ma), .dat (.int n), .own (.lst (List.map rowD (R))), c5, c6, c7, c8] ∧ (∀ r ∈ R, RowOk n r) ∧ R.length ≤ 2 * i) ((rng cnt.toNat).map .int) 0 [.own (wellD a3 b3 d3), .dat (.int mo), .dat (.int ma), .dat (.int n), .own (.lst (List.map rowD ([]))), .no, .no, .no, .no] ⟨a3, b3, d3, [], .no, .no, .no, .no, rfl, (fun _ h => nomatch h), by simp⟩
    (fun i dd ρ hd ⟨a, b, d, R, c5, c6, c7, c8, hρ, hR, hRl⟩ => by
      rw [Nat.zero_add] at hRl ⊢
      subst hρ
      have hi := (List.getElem?_eq_some_iff.mp hd).1
      rw [List.length_map, rng_len] at hi
      obtain ⟨a', b', d', R', c6', c7', c8', e, h1, h2⟩ := bod (mo := mo) (ma := ma) (n := n) a b d (by omega) (by omega) R hR (by omega) (.dat dd) c6 c7 c8
      exact ⟨[.own (wellD a b d), .dat (.int mo), .dat (.int ma), .dat (.int n), .own (.lst (List.map rowD (R))), .dat dd, c6, c7, c8], rfl, _, e, a', b', d', R', _, c6', c7', c8', rfl, h1, by omega⟩)
  subst hρ
  obtain ⟨r5, a5, b5, d5, e5, q5, q6⟩ := e_draw a4 b4 d4 (lim := n + 1) (by omega) (by omega)
  obtain ⟨r6, a6, b6, d6, e6, q7, q8⟩ := e_draw a5 b5 d5 (lim := 3) (by omega) (by omega)
  have hpick : ∃ t, 0 ≤ t ∧ t ≤ n ∧ sIx (.lst [.int r5, .int (if n < 2 then n else 2), .int n]) (.int r6) = some (.int t) := by
    have hr : r6 = 0 ∨ r6 = 1 ∨ r6 = 2 := by omega
    rcases hr with rfl | rfl | rfl
    · exact ⟨r5, q5, by omega, atI_nat [D.int r5, .int (if n < 2 then n else 2), .int n] 0⟩
    · refine ⟨if n < 2 then n else 2, by split <;> omega, by split <;> omega, atI_nat [D.int r5, .int (if n < 2 then n else 2), .int n] 1⟩
    · exact ⟨n, by omega, by omega, atI_nat [D.int r5, .int (if n < 2 then n else 2), .int n] 2⟩
  obtain ⟨t, t0, t1, ht⟩ := hpick
  refine ⟨a6, b6, d6, n, R.take ma.toNat, t, ?_, ⟨by omega, by omega, by rw [List.length_take]; omega, fun r hr => hR r (List.mem_of_mem_take hr)⟩, t0, t1, by omega, by rw [List.length_take]; omega⟩
  have s1 : mAsg (mOp2 sAdd (.dat (M.pure (.int 1))) (.dat (mCallF m_law_draw [(.own 0), (.dat (mVar 1))]))) (gNm 3) [.own (wellD a b d), .dat (.int mo), .dat (.int ma), .no, .no, .no, .no, .no, .no] = .next [.own (wellD a1 b1 d1), .dat (.int mo), .dat (.int ma), .dat (.int n), .no, .no, .no, .no, .no] := mAsg_ok (mOp2_dd (x := .int 1) (y := .int r0) rfl (callO2 rfl e1) (by rw [hn]; rfl)) rfl
  have s3 : mRange1 (mOp2 sSub (.dat (mVar 2)) (.dat (mOp2 sFdiv (.dat (mCallF m_law_draw [(.own 0), (.dat (mOp2 sAdd (.dat (mVar 2)) (.dat (M.pure (.int 1)))))])) (.dat (mOp2 sIx (.dat (mLst [(M.pure (.int 1)), (M.pure (.int 3))])) (.dat (mCallF m_law_draw [(.own 0), (.dat (M.pure (.int 2)))]))))))) [.own (wellD a1 b1 d1), .dat (.int mo), .dat (.int ma), .dat (.int n), .own (.lst (List.map rowD ([]))), .no, .no, .no, .no] = .ok ((rng cnt.toNat).map .int) [.own (wellD a3 b3 d3), .dat (.int mo), .dat (.int ma), .dat (.int n), .own (.lst (List.map rowD ([]))), .no, .no, .no, .no] := by
    have g2 : sFdiv (.int r1) (.int z) = some (.int (r1.fdiv z)) := if_pos (by omega)
    exact range_ok' (mOp2_dd (x := .int ma) (y := .int (r1.fdiv z)) rfl (mOp2_dd (callO2 (mOp2_dd (x := .int ma) (y := .int 1) rfl rfl rfl) e2) (e3 _) g2) (by rw [hcnt]; rfl)) (by omega) (by omega)
  have s4 : mNew (mSl sCutL (.own 4) none (some (mVar 2))) 4 [.own (wellD a4 b4 d4), .dat (.int mo), .dat (.int ma), .dat (.int n), .own (.lst (List.map rowD (R))), c5, c6, c7, c8] = .next [.own (wellD a4 b4 d4), .dat (.int mo), .dat (.int ma), .dat (.int n), .own (.lst (List.map rowD (R.take ma.toNat))), c5, c6, c7, c8] := by
    have g1 : sCutL (.lst (R.map rowD)) none (some ma) = some (.lst ((R.take ma.toNat).map rowD)) := by
      show some (D.lst (cutD _ none (some ma))) = _
      rw [cut_take' _ _ k1, List.map_take]
    have g2 : mSl sCutL (.own 4) none (some (mVar 2)) [.own (wellD a4 b4 d4), .dat (.int mo), .dat (.int ma), .dat (.int n), .own (.lst (List.map rowD (R))), c5, c6, c7, c8] = .ok (.lst ((R.take ma.toNat).map rowD)) [.own (wellD a4 b4 d4), .dat (.int mo), .dat (.int ma), .dat (.int n), .own (.lst (List.map rowD (R))), c5, c6, c7, c8] := by
      generalize (D.lst ((R.take ma.toNat).map rowD)) = dd2 at g1 ⊢
      generalize (D.lst (R.map rowD)) = dd at g1 ⊢
      simp [mkFn, mSeq, mIfS, mDo, mRet, mRetN, mSkip, mExpr, mAsg, mAnd, mOr, mNot, mAndV, mOrV, mNotV, mB, mIf, mV, mNeg, mCall, mOp2, mTup, mLst, mMeth, mSl, mPart, preL, seqM, M.bind, M.pure, M.lift, M.stuck, Out.andThen, mVar, Opn.pre, Opn.rd, rdM, rdLM, rdL, cellD, initC, initAt, outsOf, outAt, gNm, gTp, gNms, mNew, mFrz, mPar, mFld, mCallF, mCallK, mCallN, appF, rdA, setOuts, ownSlots, ownPos, mSeqI, mEnum, mRange1, itemsOf, g1]
    unfold mNew mDo
    rw [g2]
    rfl
  have s5 : mOp2 sIx (.dat (mLst [(mCallF m_law_draw [(.own 0), (.dat (mOp2 sAdd (.dat (mVar 3)) (.dat (M.pure (.int 1)))))]), (mCall sMin [(.dat (M.pure (.int 2))), (.dat (mVar 3))]), (mVar 3)])) (.dat (mCallF m_law_draw [(.own 0), (.dat (M.pure (.int 3)))])) [.own (wellD a4 b4 d4), .dat (.int mo), .dat (.int ma), .dat (.int n), .dat (.lst ((R.take ma.toNat).map rowD)), c5, c6, c7, c8] = .ok (.int t) [.own (wellD a6 b6 d6), .dat (.int mo), .dat (.int ma), .dat (.int n), .dat (.lst ((R.take ma.toNat).map rowD)), c5, c6, c7, c8] := by
    refine mOp2_dd (x := .lst [.int r5, .int (if n < 2 then n else 2), .int n]) (y := .int r6) ?_ (callO2 rfl e6) ht
    have g1 : (mCallF m_law_draw [(.own 0), (.dat (mOp2 sAdd (.dat (mVar 3)) (.dat (M.pure (.int 1)))))]) [.own (wellD a4 b4 d4), .dat (.int mo), .dat (.int ma), .dat (.int n), .dat (.lst ((R.take ma.toNat).map rowD)), c5, c6, c7, c8] = .ok (.int r5) [.own (wellD a5 b5 d5), .dat (.int mo), .dat (.int ma), .dat (.int n), .dat (.lst ((R.take ma.toNat).map rowD)), c5, c6, c7, c8] := callO2 (mOp2_dd (x := .int n) (y := .int 1) rfl rfl rfl) e5
    have g2 : mCall sMin [(.dat (M.pure (.int 2))), (.dat (mVar 3))] [.own (wellD a5 b5 d5), .dat (.int mo), .dat (.int ma), .dat (.int n), .dat (.lst ((R.take ma.toNat).map rowD)), c5, c6, c7, c8] = .ok (.int (if n < 2 then n else 2)) [.own (wellD a5 b5 d5), .dat (.int mo), .dat (.int ma), .dat (.int n), .dat (.lst ((R.take ma.toNat).map rowD)), c5, c6, c7, c8] := call1_ok (a := .int 2) (b := .int n) rfl rfl rfl
    unfold mLst M.bind
    simp only [seqM, M.bind, g1, g2, Out.andThen, M.pure]
    rfl
  have fin : b_law_farm [.own (wellD a b d), .dat (.int mo), .dat (.int ma), .no, .no, .no, .no, .no, .no] = .ret (partsD n (R.take ma.toNat) t) [.own (wellD a6 b6 d6), .dat (.int mo), .dat (.int ma), .dat (.int n), .dat (.lst ((R.take ma.toNat).map rowD)), c5, c6, c7, c8] := by
    unfold b_law_farm
    rw [mSeq_next s1]
    rw [mSeq_next (ρ' := [.own (wellD a1 b1 d1), .dat (.int mo), .dat (.int ma), .dat (.int n), .own (.lst (List.map rowD ([]))), .no, .no, .no, .no]) (by rfl)]
    rw [mSeq_next (by rw [mFor_next s3]; exact e4)]
    rw [mSeq_next s4]
    show mRet (mTup [(mVar 3), (mVar 4), mOp2 sIx (.dat (mLst [(mCallF m_law_draw [(.own 0), (.dat (mOp2 sAdd (.dat (mVar 3)) (.dat (M.pure (.int 1)))))]), (mCall sMin [(.dat (M.pure (.int 2))), (.dat (mVar 3))]), (mVar 3)])) (.dat (mCallF m_law_draw [(.own 0), (.dat (M.pure (.int 3)))]))]) [.own (wellD a4 b4 d4), .dat (.int mo), .dat (.int ma), .dat (.int n), .dat (.lst ((R.take ma.toNat).map rowD)), c5, c6, c7, c8] = _
    unfold mRet mDo
    rw [tup3' (f := mVar 3) (g := mVar 4) rfl rfl s5]
    rfl
  have h' : b_law_farm (initC 9 [0] [wellD a b d, .int mo, .int ma]) = .ret (partsD n (R.take ma.toNat) t) [.own (wellD a6 b6 d6), .dat (.int mo), .dat (.int ma), .dat (.int n), .dat (.lst ((R.take ma.toNat).map rowD)), c5, c6, c7, c8] := by
    rw [show initC 9 [0] [wellD a b d, .int mo, .int ma] = [.own (wellD a b d), .dat (.int mo), .dat (.int ma), .no, .no, .no, .no, .no, .no] from rfl]
    exact fin
  unfold m_law_farm
  rw [mkFn_ret h']
  rfl
end Fx
set_option Elab.async false
set_option linter.all false
set_option maxRecDepth 100000
set_option maxHeartbeats 1000000
namespace Fx
open PySem L2
structure SInv (t : Int) (rows : List (List Int)) (down : List Int) (sp : List (Option Int)) : Prop where
  len : sp.length = rows.length
  ok : PlOk rows sp
  dl : (down.length : Int) ≤ t
  up : ∀ (s : Nat) (v : Int), sp[s]? = some (some v) → v ∉ down
  far : ∀ (s : Nat) (v : Int) (r : List Int), sp[s]? = some (some v) → rows[s]? = some r → (r.idxOf v : Int) ≤ t
  ord : ∃ os : List Int, (∀ s, s ∈ os ↔ Pres sp s) ∧ os.Pairwise fun o s => ¬ Ps rows sp s o
/-- the first server that is up -/
def firstUp (rows : List (List Int)) (down : List Int) (s : Int) : Option Int := ((rowAt rows s).filter fun h => !decide (h ∈ down)).head?
section
variable {t : Int} {rows : List (List Int)} {down : List Int} {sp : List (Option Int)}
theorem pl_set_ne {sp : List (Option Int)} {i : Nat} {o : Option Int} {s : Int} (h : s.toNat ≠ i) : plAt (sp.set i o) s = plAt sp s := by
  unfold plAt
  rw [List.getD_eq_getElem?_getD, List.getD_eq_getElem?_getD, List.getElem?_set_ne (Ne.symm h)]
theorem ps_set_ne {sp : List (Option Int)} {i : Nat} {o : Option Int} {s x : Int} (h : s.toNat ≠ i) (h2 : x.toNat ≠ i) : Ps rows (sp.set i o) s x ↔ Ps rows sp s x := by
  unfold Ps passI
  rw [pl_set_ne h, pl_set_ne h2]
theorem get_set_some {sp : List (Option Int)} {i s : Nat} {o : Option Int} {v : Int} (h : (sp.set i o)[s]? = some (some v)) : (s = i ∧ o = some v) ∨ (s ≠ i ∧ sp[s]? = some (some v)) := by
  by_cases e : i = s
  · subst e
    have hl := (List.getElem?_eq_some_iff.mp h).1
    rw [List.length_set] at hl
    rw [List.getElem?_set_self hl] at h
    exact .inl ⟨rfl, Option.some.inj h⟩
  · rw [List.getElem?_set_ne e] at h
    exact .inr ⟨fun z => e z.symm, h⟩
theorem SInv.clear (h : SInv t rows down sp) (i : Nat) : SInv t rows down (sp.set i none) := by
  obtain ⟨os, o1, o2⟩ := h.ord
  refine ⟨by rw [List.length_set]; exact h.len, fun s v hs => ?_, h.dl, fun s v hs => ?_, fun s v r hs => ?_, os.filter (fun s => decide (s.toNat ≠ i)), fun s => ?_, ?_⟩
  · rcases get_set_some hs with ⟨_, z⟩ | ⟨_, z⟩
    · cases z
    · exact h.ok s v z
  · rcases get_set_some hs with ⟨_, z⟩ | ⟨_, z⟩
    · cases z
    · exact h.up s v z
  · rcases get_set_some hs with ⟨_, z⟩ | ⟨_, z⟩
    · cases z
    · exact h.far s v r z
  · rw [List.mem_filter, o1, decide_eq_true_iff]
    constructor
    · rintro ⟨⟨j, x, rfl, hx⟩, hj⟩
      rw [Int.toNat_natCast] at hj
      exact ⟨j, x, rfl, by rw [List.getElem?_set_ne (Ne.symm hj)]; exact hx⟩
    · rintro ⟨j, x, rfl, hx⟩
      rcases get_set_some hx with ⟨_, z⟩ | ⟨z1, z2⟩
      · cases z
      · exact ⟨⟨j, x, rfl, z2⟩, by rw [Int.toNat_natCast]; exact z1⟩
  · refine List.Pairwise.imp_of_mem (fun {a b} ha hb hab => ?_) (o2.filter _)
    have ha := of_decide_eq_true (List.mem_filter.mp ha).2
    have hb := of_decide_eq_true (List.mem_filter.mp hb).2
    rw [ps_set_ne hb ha]
    exact hab
theorem SInv.sub (h : SInv t rows down sp) {down' : List Int} (hs : ∀ x ∈ down', x ∈ down) (hl : down'.length ≤ down.length) : SInv t rows down' sp :=
  ⟨h.len, h.ok, by have := h.dl; omega, fun s v hv z => h.up s v hv (hs v z), h.far, h.ord⟩
end
end Fx
set_option Elab.async false
set_option linter.all false
set_option maxRecDepth 100000
set_option maxHeartbeats 1000000
namespace Fx
open PySem L2
theorem so_end : PyData.strOk "end" = true := by
  unfold PyData.strOk
  rw [← Array.all_toList]
  decide
theorem so_begin : PyData.strOk "begin" = true := by
  unfold PyData.strOk
  rw [← Array.all_toList]
  decide
theorem so_up : PyData.strOk "up" = true := by
  unfold PyData.strOk
  rw [← Array.all_toList]
  decide
theorem so_down : PyData.strOk "down" = true := by
  unfold PyData.strOk
  rw [← Array.all_toList]
  decide
section
variable {n t : Int} {rows : List (List Int)} {S E : D} {w : Str} {h : Int}
end
section
variable {n t : Int} {rows : List (List Int)}
end
end Fx
set_option Elab.async false
set_option linter.all false
set_option maxRecDepth 100000
set_option maxHeartbeats 1000000
namespace Fx
open PySem L2
section
variable {n t : Int} {rows : List (List Int)} {down : List Int} {sp : List (Option Int)}
end
end Fx
set_option Elab.async false
set_option linter.all false
set_option maxRecDepth 100000
set_option maxHeartbeats 1000000
namespace Fx
open PySem L2
theorem OrdRes.same {t : Int} {rows : List (List Int)} {p : List (Option Int)} {st : List Int} {r : D} (h : OrdRes t rows p st r) : sNe r r = some (.bl false) := by
  cases h with
  | far s _ => exact sNe_words so_far [s]
  | held s o _ _ _ => exact sNe_words so_held [s, o]
  | order os _ _ _ _ => exact sNe_wtup so_order os
  | ring q _ _ _ _ => exact sNe_wtup so_ring q
section
variable {n t z : Int} {rows : List (List Int)} {sp : List (Option Int)}
end
end Fx
set_option Elab.async false
set_option linter.all false
set_option maxRecDepth 100000
set_option maxHeartbeats 1000000
namespace Fx
open PySem L2
theorem nb_h {b : Bool} (h : b = true) : NB b true := h
theorem nb_hf {b : Bool} (h : b = false) : NB b false := h
theorem nb_hn {b : Bool} (h : b = false) : NB (!b) true := by unfold NB; rw [h]; rfl
theorem nb_hnf {b : Bool} (h : b = true) : NB (!b) false := by unfold NB; rw [h]; rfl
def Wl (ρ : Cells) (vs : List Nat) (w : Cells) : Prop := wipeC ρ vs = w
theorem wl_n {ρ : Cells} : Wl ρ [] ρ := rfl
theorem wl_c {ρ ρ1 ρ2 : Cells} {v : Nat} {vs : List Nat} (h : Wl ρ vs ρ1) (h2 : SetAt ρ1 v .no ρ2) : Wl ρ (v :: vs) ρ2 := by
  unfold Wl wipeC
  rw [show wipeC ρ vs = ρ1 from h]
  exact h2
def LcE (g : TgM) (tt : M Bool) (fe : M D) (vs : List Nat) (w : Cells) (d : D) (b : Bool) (e : D) : Prop := ∃ ρ1, g d w = some ρ1 ∧ tt ρ1 = .ok b ρ1 ∧ (b = true → fe ρ1 = .ok e ρ1) ∧ wipeC ρ1 vs = w
theorem lcE_i {g : TgM} {tt : M Bool} {fe : M D} {vs : List Nat} {w ρ1 : Cells} {d e : D} {b : Bool} (h1 : Tg g d w ρ1) (h2 : tt ρ1 = .ok b ρ1) (h3 : b = true → fe ρ1 = .ok e ρ1) (h4 : Wl ρ1 vs w) : LcE g tt fe vs w d b e := ⟨ρ1, h1, h2, h3, h4⟩
def Mp {β : Type} (ds : List D) (xs : List β) (em : β → D) : Prop := ds = xs.map em
theorem mp_r {β : Type} {xs : List β} {em : β → D} : Mp (xs.map em) xs em := rfl
def NoOwn (ρ : Cells) (vs : List Nat) : Prop := vs.all (fun v => !isOwn ρ[v]?) = true
/-- a cell that owns nothing -/
def Nw (x : Cell) : Prop := isOwn (some x) = false
theorem nw_d {d : D} : Nw (.dat d) := rfl
theorem nw_n : Nw .no := rfl
theorem nw_o {o : Option D} : Nw (cellO o) := cellO_no o
theorem no_n {ρ : Cells} : NoOwn ρ [] := rfl
theorem no_c {ρ : Cells} {v : Nat} {vs : List Nat} {x : Cell} (h : GetAt ρ v x) (h2 : Nw x) (h3 : NoOwn ρ vs) : NoOwn ρ (v :: vs) := by
  unfold NoOwn
  rw [List.all_cons, show ρ[v]? = some x from h, show isOwn (some x) = false from h2]
  exact h3
theorem x_lc {β : Type} {fi : M (List D)} {g : TgM} {tt : M Bool} {fe : M D} {vs : List Nat} {ρ ρ1 w : Cells} {em : β → D} {P : β → Bool} {f : β → D} {ds : List D} {xs : List β} (hi : fi ρ = .ok ds ρ1) (hm : Mp ds xs em) (ho : NoOwn ρ1 vs) (hw : Wl ρ1 vs w) (h : ∀ x ∈ xs, LcE g tt fe vs w (em x) (P x) (f x)) :
    mLc fi g tt fe vs ρ = .ok (.lst ((xs.filter P).map f)) ρ1 := by
  have e : mLc fi g tt fe vs ρ = mLc (M.pure ds) g tt fe vs ρ1 := by
    unfold mLc M.bind
    rw [hi]
    rfl
  rw [e]
  rw [show ds = xs.map em from hm]
  exact mLc_T (fi := M.pure (xs.map em)) em P f rfl ho fun x hx => by
    rw [show wipeC ρ1 vs = w from hw]
    exact h x hx
theorem x_lcU {β : Type} {fi : M (List D)} {g : TgM} {fe : M D} {vs : List Nat} {ρ ρ1 w : Cells} {em : β → D} {f : β → D} {ds : List D} {xs : List β} (hi : fi ρ = .ok ds ρ1) (hm : Mp ds xs em) (ho : NoOwn ρ1 vs) (hw : Wl ρ1 vs w) (h : ∀ x ∈ xs, LcE g (M.pure true) fe vs w (em x) true (f x)) :
    mLc fi g (M.pure true) fe vs ρ = .ok (.lst (xs.map f)) ρ1 := by
  have := x_lc (P := fun _ => true) hi hm ho hw h
  rwa [filter_true] at this
theorem i_rng {f : M D} {k : Int} {ρ ρ1 : Cells} (h : f ρ = .ok (.int k) ρ1) (h1 : k ≤ 16777216) (h2 : -16777216 ≤ k) : mRange1 f ρ = .ok ((rng k.toNat).map .int) ρ1 := by
  rw [← rng_D]; exact i_range h h1 h2
theorem x_lrn {f : M D} {k : Int} {ρ ρ1 : Cells} (h : f ρ = .ok (.int k) ρ1) (h1 : -(2 ^ 62) ≤ k) (h2 : k ≤ 16777216) : mListRg f ρ = .ok (.lst ((rng k.toNat).map .int)) ρ1 := by
  rw [← rng_D]; exact x_lrg h h1 h2
/-- the items of enumerate -/
def enumL {α : Type} (f : α → D) : Nat → List α → List (Nat × α)
  | _, [] => []
  | n, a :: l => (n, a) :: enumL f (n + 1) l
def enE {α : Type} (f : α → D) (q : Nat × α) : D := .tup [.int (q.1 : Int), f q.2]
theorem enum_map {α : Type} (f : α → D) : ∀ (n : Nat) (l : List α), enumD n (l.map f) = (enumL f n l).map (enE f)
  | _, [] => rfl
  | n, a :: l => by
    rw [List.map_cons]
    show D.tup [.int (n : Int), f a] :: enumD (n + 1) (l.map f) = _
    rw [enum_map f (n + 1) l]
    rfl
theorem i_en {α : Type} {fe : M D} {f : α → D} {l : List α} {d : D} {ds : List D} {ρ ρ1 : Cells} (h : fe ρ = .ok d ρ1) (h2 : itemsOf d = some ds) (h3 : Mp ds l f) : mEnum fe ρ = .ok ((enumL f 0 l).map (enE f)) ρ1 := by
  rw [i_enum h h2, show ds = l.map f from h3, enum_map]
theorem sEq_opt (a b : Option Int) : sEq (optD a) (optD b) = some (.bl (decide (a = b))) := by
  cases a <;> cases b
  · rfl
  · rfl
  · rfl
  · rename_i x y
    show sEq (.int x) (.int y) = _
    rw [sEq_int]
    simp
theorem sNe_opt (a b : Option Int) : sNe (optD a) (optD b) = some (.bl (!decide (a = b))) := by
  cases a <;> cases b
  · rfl
  · rfl
  · rfl
  · rename_i x y
    show sNe (.int x) (.int y) = _
    rw [sNe_int]
    simp
theorem sIsN_opt (o : Option Int) : sIsN (optD o) .non = some (.bl (decide (o = none))) := by cases o <;> rfl
theorem sNotN_opt (o : Option Int) : sNotN (optD o) .non = some (.bl (!decide (o = none))) := by cases o <;> rfl
theorem sIx_plc {p : List (Option Int)} {i : Nat} {o : Option Int} (h : p[i]? = some o) : sIx (plcD p) (.int (i : Int)) = some (optD o) := by
  show atI _ _ = _
  rw [atI_nat, List.getElem?_map, h]
  rfl
theorem sIx_rows {rows : List (List Int)} {i : Nat} {r : List Int} (h : rows[i]? = some r) : sIx (.tup (rows.map rowD)) (.int (i : Int)) = some (rowD r) := ix_row h
theorem sIx_rowsL {rows : List (List Int)} {i : Nat} {r : List Int} (h : rows[i]? = some r) : sIx (.lst (rows.map rowD)) (.int (i : Int)) = some (rowD r) := by
  show atI _ _ = _
  rw [atI_nat, List.getElem?_map, h]
  rfl
theorem sAdd_lst {l m : List D} (h : l.length + m.length ≤ 16777216) : sAdd (.lst l) (.lst m) = some (.lst (l ++ m)) := if_pos h
theorem sLen_lst {l : List D} : sLen [.lst l] = some (.int (l.length : Nat)) := by simp [sLen]
theorem sLen_tup {l : List D} : sLen [.tup l] = some (.int (l.length : Nat)) := by simp [sLen]
theorem isTupD (ds : List D) : sIsi [.tup ds, .raw (.ty "tuple")] = some (.bl true) := by simp [sIsi, tyName, kit_tt]
theorem sIn_row (a : Int) (l : List Int) : sIn (.int a) (rowD l) = some (.bl (decide (a ∈ l))) := sIn_tup a l
theorem sNin_row (a : Int) (l : List Int) : sNin (.int a) (rowD l) = some (.bl (!decide (a ∈ l))) := sNin_tup a l
theorem sLen_row (r : List Int) : sLen [rowD r] = some (.int (r.length : Nat)) := by simp [sLen, rowD]
theorem sLen_plc (p : List (Option Int)) : sLen [plcD p] = some (.int (p.length : Nat)) := by simp [sLen, plcD]
theorem isTup_row (r : List Int) : sIsi [rowD r, .raw (.ty "tuple")] = some (.bl true) := isTupD _
theorem isTup_plc (p : List (Option Int)) : sIsi [plcD p, .raw (.ty "tuple")] = some (.bl true) := isTupD _
theorem sNotN_int (v : Int) : sNotN (.int v) .non = some (.bl true) := rfl
theorem sIsN_int (v : Int) : sIsN (.int v) .non = some (.bl false) := rfl
theorem sNotN_tup (v : List D) : sNotN (.tup v) .non = some (.bl true) := rfl
theorem sIsN_tup (v : List D) : sIsN (.tup v) .non = some (.bl false) := rfl
theorem sNotN_lst (v : List D) : sNotN (.lst v) .non = some (.bl true) := rfl
theorem sIsN_lst (v : List D) : sIsN (.lst v) .non = some (.bl false) := rfl
theorem sNotN_non : sNotN .non .non = some (.bl false) := rfl
theorem sIsN_non : sIsN .non .non = some (.bl true) := rfl
theorem sLen_ints (l : List Int) : sLen [.lst (l.map .int)] = some (.int (l.length : Nat)) := by simp [sLen]
theorem sLen_tints (l : List Int) : sLen [.tup (l.map .int)] = some (.int (l.length : Nat)) := by simp [sLen]
theorem sLen_rows (l : List (List Int)) : sLen [.lst (l.map rowD)] = some (.int (l.length : Nat)) := by simp [sLen]
theorem sLen_rowsT (l : List (List Int)) : sLen [.tup (l.map rowD)] = some (.int (l.length : Nat)) := by simp [sLen]
end Fx
set_option Elab.async false
set_option linter.all false
set_option maxRecDepth 100000
set_option maxHeartbeats 1000000
namespace Fx
open PySem L2
section
variable {ρ ρ1 ρ2 ρ3 ρ4 ρ5 : Cells} {d e a b a1 a2 a3 a4 a5 w w1 : D}
theorem vv_id {i : Nat} (h : mVar i ρ = .ok d ρ1) : mVar i ρ = .ok d ρ1 := h
theorem gg_id {i : Nat} {x : Cell} (h : GetAt ρ i x) : GetAt ρ i x := h
theorem ss_id {i : Nat} {x : Cell} (h : SetAt ρ i x ρ1) : SetAt ρ i x ρ1 := h
theorem vk0 {r : Cells} : mVar 0 (.dat d :: r) = .ok d (.dat d :: r) := rfl
theorem gk0 {x : Cell} {r : Cells} : GetAt (x :: r) 0 x := rfl
theorem sk0 {x y : Cell} {r : Cells} : SetAt (x :: r) 0 y (y :: r) := rfl
theorem vk1 {c0 : Cell} {r : Cells} : mVar 1 (c0 :: .dat d :: r) = .ok d (c0 :: .dat d :: r) := rfl
theorem gk1 {c0 : Cell} {x : Cell} {r : Cells} : GetAt (c0 :: x :: r) 1 x := rfl
theorem sk1 {c0 : Cell} {x y : Cell} {r : Cells} : SetAt (c0 :: x :: r) 1 y (c0 :: y :: r) := rfl
theorem vk2 {c0 c1 : Cell} {r : Cells} : mVar 2 (c0 :: c1 :: .dat d :: r) = .ok d (c0 :: c1 :: .dat d :: r) := rfl
theorem gk2 {c0 c1 : Cell} {x : Cell} {r : Cells} : GetAt (c0 :: c1 :: x :: r) 2 x := rfl
theorem sk2 {c0 c1 : Cell} {x y : Cell} {r : Cells} : SetAt (c0 :: c1 :: x :: r) 2 y (c0 :: c1 :: y :: r) := rfl
theorem vk3 {c0 c1 c2 : Cell} {r : Cells} : mVar 3 (c0 :: c1 :: c2 :: .dat d :: r) = .ok d (c0 :: c1 :: c2 :: .dat d :: r) := rfl
theorem gk3 {c0 c1 c2 : Cell} {x : Cell} {r : Cells} : GetAt (c0 :: c1 :: c2 :: x :: r) 3 x := rfl
theorem sk3 {c0 c1 c2 : Cell} {x y : Cell} {r : Cells} : SetAt (c0 :: c1 :: c2 :: x :: r) 3 y (c0 :: c1 :: c2 :: y :: r) := rfl
theorem vk4 {c0 c1 c2 c3 : Cell} {r : Cells} : mVar 4 (c0 :: c1 :: c2 :: c3 :: .dat d :: r) = .ok d (c0 :: c1 :: c2 :: c3 :: .dat d :: r) := rfl
theorem gk4 {c0 c1 c2 c3 : Cell} {x : Cell} {r : Cells} : GetAt (c0 :: c1 :: c2 :: c3 :: x :: r) 4 x := rfl
theorem sk4 {c0 c1 c2 c3 : Cell} {x y : Cell} {r : Cells} : SetAt (c0 :: c1 :: c2 :: c3 :: x :: r) 4 y (c0 :: c1 :: c2 :: c3 :: y :: r) := rfl
theorem vk5 {c0 c1 c2 c3 c4 : Cell} {r : Cells} : mVar 5 (c0 :: c1 :: c2 :: c3 :: c4 :: .dat d :: r) = .ok d (c0 :: c1 :: c2 :: c3 :: c4 :: .dat d :: r) := rfl
theorem gk5 {c0 c1 c2 c3 c4 : Cell} {x : Cell} {r : Cells} : GetAt (c0 :: c1 :: c2 :: c3 :: c4 :: x :: r) 5 x := rfl
theorem sk5 {c0 c1 c2 c3 c4 : Cell} {x y : Cell} {r : Cells} : SetAt (c0 :: c1 :: c2 :: c3 :: c4 :: x :: r) 5 y (c0 :: c1 :: c2 :: c3 :: c4 :: y :: r) := rfl
theorem vk6 {c0 c1 c2 c3 c4 c5 : Cell} {r : Cells} : mVar 6 (c0 :: c1 :: c2 :: c3 :: c4 :: c5 :: .dat d :: r) = .ok d (c0 :: c1 :: c2 :: c3 :: c4 :: c5 :: .dat d :: r) := rfl
theorem gk6 {c0 c1 c2 c3 c4 c5 : Cell} {x : Cell} {r : Cells} : GetAt (c0 :: c1 :: c2 :: c3 :: c4 :: c5 :: x :: r) 6 x := rfl
theorem sk6 {c0 c1 c2 c3 c4 c5 : Cell} {x y : Cell} {r : Cells} : SetAt (c0 :: c1 :: c2 :: c3 :: c4 :: c5 :: x :: r) 6 y (c0 :: c1 :: c2 :: c3 :: c4 :: c5 :: y :: r) := rfl
theorem vk7 {c0 c1 c2 c3 c4 c5 c6 : Cell} {r : Cells} : mVar 7 (c0 :: c1 :: c2 :: c3 :: c4 :: c5 :: c6 :: .dat d :: r) = .ok d (c0 :: c1 :: c2 :: c3 :: c4 :: c5 :: c6 :: .dat d :: r) := rfl
theorem gk7 {c0 c1 c2 c3 c4 c5 c6 : Cell} {x : Cell} {r : Cells} : GetAt (c0 :: c1 :: c2 :: c3 :: c4 :: c5 :: c6 :: x :: r) 7 x := rfl
theorem sk7 {c0 c1 c2 c3 c4 c5 c6 : Cell} {x y : Cell} {r : Cells} : SetAt (c0 :: c1 :: c2 :: c3 :: c4 :: c5 :: c6 :: x :: r) 7 y (c0 :: c1 :: c2 :: c3 :: c4 :: c5 :: c6 :: y :: r) := rfl
theorem vk8 {c0 c1 c2 c3 c4 c5 c6 c7 : Cell} {r : Cells} : mVar 8 (c0 :: c1 :: c2 :: c3 :: c4 :: c5 :: c6 :: c7 :: .dat d :: r) = .ok d (c0 :: c1 :: c2 :: c3 :: c4 :: c5 :: c6 :: c7 :: .dat d :: r) := rfl
theorem gk8 {c0 c1 c2 c3 c4 c5 c6 c7 : Cell} {x : Cell} {r : Cells} : GetAt (c0 :: c1 :: c2 :: c3 :: c4 :: c5 :: c6 :: c7 :: x :: r) 8 x := rfl
theorem sk8 {c0 c1 c2 c3 c4 c5 c6 c7 : Cell} {x y : Cell} {r : Cells} : SetAt (c0 :: c1 :: c2 :: c3 :: c4 :: c5 :: c6 :: c7 :: x :: r) 8 y (c0 :: c1 :: c2 :: c3 :: c4 :: c5 :: c6 :: c7 :: y :: r) := rfl
theorem vk9 {c0 c1 c2 c3 c4 c5 c6 c7 c8 : Cell} {r : Cells} : mVar 9 (c0 :: c1 :: c2 :: c3 :: c4 :: c5 :: c6 :: c7 :: c8 :: .dat d :: r) = .ok d (c0 :: c1 :: c2 :: c3 :: c4 :: c5 :: c6 :: c7 :: c8 :: .dat d :: r) := rfl
theorem gk9 {c0 c1 c2 c3 c4 c5 c6 c7 c8 : Cell} {x : Cell} {r : Cells} : GetAt (c0 :: c1 :: c2 :: c3 :: c4 :: c5 :: c6 :: c7 :: c8 :: x :: r) 9 x := rfl
theorem sk9 {c0 c1 c2 c3 c4 c5 c6 c7 c8 : Cell} {x y : Cell} {r : Cells} : SetAt (c0 :: c1 :: c2 :: c3 :: c4 :: c5 :: c6 :: c7 :: c8 :: x :: r) 9 y (c0 :: c1 :: c2 :: c3 :: c4 :: c5 :: c6 :: c7 :: c8 :: y :: r) := rfl
theorem vk10 {c0 c1 c2 c3 c4 c5 c6 c7 c8 c9 : Cell} {r : Cells} : mVar 10 (c0 :: c1 :: c2 :: c3 :: c4 :: c5 :: c6 :: c7 :: c8 :: c9 :: .dat d :: r) = .ok d (c0 :: c1 :: c2 :: c3 :: c4 :: c5 :: c6 :: c7 :: c8 :: c9 :: .dat d :: r) := rfl
theorem gk10 {c0 c1 c2 c3 c4 c5 c6 c7 c8 c9 : Cell} {x : Cell} {r : Cells} : GetAt (c0 :: c1 :: c2 :: c3 :: c4 :: c5 :: c6 :: c7 :: c8 :: c9 :: x :: r) 10 x := rfl
theorem sk10 {c0 c1 c2 c3 c4 c5 c6 c7 c8 c9 : Cell} {x y : Cell} {r : Cells} : SetAt (c0 :: c1 :: c2 :: c3 :: c4 :: c5 :: c6 :: c7 :: c8 :: c9 :: x :: r) 10 y (c0 :: c1 :: c2 :: c3 :: c4 :: c5 :: c6 :: c7 :: c8 :: c9 :: y :: r) := rfl
theorem vk11 {c0 c1 c2 c3 c4 c5 c6 c7 c8 c9 c10 : Cell} {r : Cells} : mVar 11 (c0 :: c1 :: c2 :: c3 :: c4 :: c5 :: c6 :: c7 :: c8 :: c9 :: c10 :: .dat d :: r) = .ok d (c0 :: c1 :: c2 :: c3 :: c4 :: c5 :: c6 :: c7 :: c8 :: c9 :: c10 :: .dat d :: r) := rfl
theorem gk11 {c0 c1 c2 c3 c4 c5 c6 c7 c8 c9 c10 : Cell} {x : Cell} {r : Cells} : GetAt (c0 :: c1 :: c2 :: c3 :: c4 :: c5 :: c6 :: c7 :: c8 :: c9 :: c10 :: x :: r) 11 x := rfl
theorem sk11 {c0 c1 c2 c3 c4 c5 c6 c7 c8 c9 c10 : Cell} {x y : Cell} {r : Cells} : SetAt (c0 :: c1 :: c2 :: c3 :: c4 :: c5 :: c6 :: c7 :: c8 :: c9 :: c10 :: x :: r) 11 y (c0 :: c1 :: c2 :: c3 :: c4 :: c5 :: c6 :: c7 :: c8 :: c9 :: c10 :: y :: r) := rfl
theorem vk12 {c0 c1 c2 c3 c4 c5 c6 c7 c8 c9 c10 c11 : Cell} {r : Cells} : mVar 12 (c0 :: c1 :: c2 :: c3 :: c4 :: c5 :: c6 :: c7 :: c8 :: c9 :: c10 :: c11 :: .dat d :: r) = .ok d (c0 :: c1 :: c2 :: c3 :: c4 :: c5 :: c6 :: c7 :: c8 :: c9 :: c10 :: c11 :: .dat d :: r) := rfl
theorem gk12 {c0 c1 c2 c3 c4 c5 c6 c7 c8 c9 c10 c11 : Cell} {x : Cell} {r : Cells} : GetAt (c0 :: c1 :: c2 :: c3 :: c4 :: c5 :: c6 :: c7 :: c8 :: c9 :: c10 :: c11 :: x :: r) 12 x := rfl
theorem sk12 {c0 c1 c2 c3 c4 c5 c6 c7 c8 c9 c10 c11 : Cell} {x y : Cell} {r : Cells} : SetAt (c0 :: c1 :: c2 :: c3 :: c4 :: c5 :: c6 :: c7 :: c8 :: c9 :: c10 :: c11 :: x :: r) 12 y (c0 :: c1 :: c2 :: c3 :: c4 :: c5 :: c6 :: c7 :: c8 :: c9 :: c10 :: c11 :: y :: r) := rfl
theorem vk13 {c0 c1 c2 c3 c4 c5 c6 c7 c8 c9 c10 c11 c12 : Cell} {r : Cells} : mVar 13 (c0 :: c1 :: c2 :: c3 :: c4 :: c5 :: c6 :: c7 :: c8 :: c9 :: c10 :: c11 :: c12 :: .dat d :: r) = .ok d (c0 :: c1 :: c2 :: c3 :: c4 :: c5 :: c6 :: c7 :: c8 :: c9 :: c10 :: c11 :: c12 :: .dat d :: r) := rfl
theorem gk13 {c0 c1 c2 c3 c4 c5 c6 c7 c8 c9 c10 c11 c12 : Cell} {x : Cell} {r : Cells} : GetAt (c0 :: c1 :: c2 :: c3 :: c4 :: c5 :: c6 :: c7 :: c8 :: c9 :: c10 :: c11 :: c12 :: x :: r) 13 x := rfl
theorem sk13 {c0 c1 c2 c3 c4 c5 c6 c7 c8 c9 c10 c11 c12 : Cell} {x y : Cell} {r : Cells} : SetAt (c0 :: c1 :: c2 :: c3 :: c4 :: c5 :: c6 :: c7 :: c8 :: c9 :: c10 :: c11 :: c12 :: x :: r) 13 y (c0 :: c1 :: c2 :: c3 :: c4 :: c5 :: c6 :: c7 :: c8 :: c9 :: c10 :: c11 :: c12 :: y :: r) := rfl
theorem vk14 {c0 c1 c2 c3 c4 c5 c6 c7 c8 c9 c10 c11 c12 c13 : Cell} {r : Cells} : mVar 14 (c0 :: c1 :: c2 :: c3 :: c4 :: c5 :: c6 :: c7 :: c8 :: c9 :: c10 :: c11 :: c12 :: c13 :: .dat d :: r) = .ok d (c0 :: c1 :: c2 :: c3 :: c4 :: c5 :: c6 :: c7 :: c8 :: c9 :: c10 :: c11 :: c12 :: c13 :: .dat d :: r) := rfl
theorem gk14 {c0 c1 c2 c3 c4 c5 c6 c7 c8 c9 c10 c11 c12 c13 : Cell} {x : Cell} {r : Cells} : GetAt (c0 :: c1 :: c2 :: c3 :: c4 :: c5 :: c6 :: c7 :: c8 :: c9 :: c10 :: c11 :: c12 :: c13 :: x :: r) 14 x := rfl
theorem sk14 {c0 c1 c2 c3 c4 c5 c6 c7 c8 c9 c10 c11 c12 c13 : Cell} {x y : Cell} {r : Cells} : SetAt (c0 :: c1 :: c2 :: c3 :: c4 :: c5 :: c6 :: c7 :: c8 :: c9 :: c10 :: c11 :: c12 :: c13 :: x :: r) 14 y (c0 :: c1 :: c2 :: c3 :: c4 :: c5 :: c6 :: c7 :: c8 :: c9 :: c10 :: c11 :: c12 :: c13 :: y :: r) := rfl
theorem vk15 {c0 c1 c2 c3 c4 c5 c6 c7 c8 c9 c10 c11 c12 c13 c14 : Cell} {r : Cells} : mVar 15 (c0 :: c1 :: c2 :: c3 :: c4 :: c5 :: c6 :: c7 :: c8 :: c9 :: c10 :: c11 :: c12 :: c13 :: c14 :: .dat d :: r) = .ok d (c0 :: c1 :: c2 :: c3 :: c4 :: c5 :: c6 :: c7 :: c8 :: c9 :: c10 :: c11 :: c12 :: c13 :: c14 :: .dat d :: r) := rfl
theorem gk15 {c0 c1 c2 c3 c4 c5 c6 c7 c8 c9 c10 c11 c12 c13 c14 : Cell} {x : Cell} {r : Cells} : GetAt (c0 :: c1 :: c2 :: c3 :: c4 :: c5 :: c6 :: c7 :: c8 :: c9 :: c10 :: c11 :: c12 :: c13 :: c14 :: x :: r) 15 x := rfl
theorem sk15 {c0 c1 c2 c3 c4 c5 c6 c7 c8 c9 c10 c11 c12 c13 c14 : Cell} {x y : Cell} {r : Cells} : SetAt (c0 :: c1 :: c2 :: c3 :: c4 :: c5 :: c6 :: c7 :: c8 :: c9 :: c10 :: c11 :: c12 :: c13 :: c14 :: x :: r) 15 y (c0 :: c1 :: c2 :: c3 :: c4 :: c5 :: c6 :: c7 :: c8 :: c9 :: c10 :: c11 :: c12 :: c13 :: c14 :: y :: r) := rfl
theorem vk16 {c0 c1 c2 c3 c4 c5 c6 c7 c8 c9 c10 c11 c12 c13 c14 c15 : Cell} {r : Cells} : mVar 16 (c0 :: c1 :: c2 :: c3 :: c4 :: c5 :: c6 :: c7 :: c8 :: c9 :: c10 :: c11 :: c12 :: c13 :: c14 :: c15 :: .dat d :: r) = .ok d (c0 :: c1 :: c2 :: c3 :: c4 :: c5 :: c6 :: c7 :: c8 :: c9 :: c10 :: c11 :: c12 :: c13 :: c14 :: c15 :: .dat d :: r) := rfl
theorem gk16 {c0 c1 c2 c3 c4 c5 c6 c7 c8 c9 c10 c11 c12 c13 c14 c15 : Cell} {x : Cell} {r : Cells} : GetAt (c0 :: c1 :: c2 :: c3 :: c4 :: c5 :: c6 :: c7 :: c8 :: c9 :: c10 :: c11 :: c12 :: c13 :: c14 :: c15 :: x :: r) 16 x := rfl
theorem sk16 {c0 c1 c2 c3 c4 c5 c6 c7 c8 c9 c10 c11 c12 c13 c14 c15 : Cell} {x y : Cell} {r : Cells} : SetAt (c0 :: c1 :: c2 :: c3 :: c4 :: c5 :: c6 :: c7 :: c8 :: c9 :: c10 :: c11 :: c12 :: c13 :: c14 :: c15 :: x :: r) 16 y (c0 :: c1 :: c2 :: c3 :: c4 :: c5 :: c6 :: c7 :: c8 :: c9 :: c10 :: c11 :: c12 :: c13 :: c14 :: c15 :: y :: r) := rfl
theorem y_op2 {sem : D → D → Option D} {f g : M D} (h1 : f ρ = .ok a ρ1) (h2 : g ρ1 = .ok b ρ2) (h5 : sem a b = some d) : mOp2 sem (.dat f) (.dat g) ρ = .ok d ρ2 := x_op2 (oa := .dat f) (ob := .dat g) h1 h2 rfl rfl h5
theorem y_call1 {sem : List D → Option D} {f : M D} (h1 : f ρ = .ok a ρ1) (h3 : sem [a] = some d) : mCall sem [.dat f] ρ = .ok d ρ1 := x_call (pl_c h1 pl_n) (rl_c rfl rl_n) h3
theorem y_call2 {sem : List D → Option D} {f g : M D} (h1 : f ρ = .ok a ρ1) (h2 : g ρ1 = .ok b ρ2) (h3 : sem [a, b] = some d) : mCall sem [.dat f, .dat g] ρ = .ok d ρ2 := x_call (pl_c h1 (pl_c h2 pl_n)) (rl_c rfl (rl_c rfl rl_n)) h3
theorem y_sl1 {sem : D → Option Int → Option Int → Option D} {f g : M D} {j : Int} (h1 : f ρ = .ok a ρ1) (h2 : g ρ1 = .ok (.int j) ρ2) (h5 : sem a none (some j) = some d) : mSl sem (.dat f) none (some g) ρ = .ok d ρ2 := x_sl (o := .dat f) h1 pt_n (pt_s h2) rfl h5
theorem y_sl2 {sem : D → Option Int → Option Int → Option D} {f g : M D} {j : Int} (h1 : f ρ = .ok a ρ1) (h2 : g ρ1 = .ok (.int j) ρ2) (h5 : sem a (some j) none = some d) : mSl sem (.dat f) (some g) none ρ = .ok d ρ2 := x_sl (o := .dat f) h1 (pt_s h2) pt_n rfl h5
theorem y_tup1 {f : M D} (h1 : f ρ = .ok a ρ1) : mTup [f] ρ = .ok (.tup [a]) ρ1 := x_tup (sq_c h1 sq_n)
theorem y_tup2 {f g : M D} (h1 : f ρ = .ok a ρ1) (h2 : g ρ1 = .ok b ρ2) : mTup [f, g] ρ = .ok (.tup [a, b]) ρ2 := x_tup (sq_c h1 (sq_c h2 sq_n))
theorem y_fn1 {F : Fn} {f1 : M D} {outs : List D} (h1 : f1 ρ = .ok a1 ρ1) (h : F [a1] = .ret d outs) : mCallF F [.dat f1] ρ = .ok d ρ1 := x_callF (pl_c h1 pl_n) (ra_d ra_n) h put_n
theorem y_fn2 {F : Fn} {f1 f2 : M D} {outs : List D} (h1 : f1 ρ = .ok a1 ρ1) (h2 : f2 ρ1 = .ok a2 ρ2) (h : F [a1, a2] = .ret d outs) : mCallF F [.dat f1, .dat f2] ρ = .ok d ρ2 := x_callF (pl_c h1 (pl_c h2 pl_n)) (ra_d (ra_d ra_n)) h put_n
theorem y_fn3 {F : Fn} {f1 f2 f3 : M D} {outs : List D} (h1 : f1 ρ = .ok a1 ρ1) (h2 : f2 ρ1 = .ok a2 ρ2) (h3 : f3 ρ2 = .ok a3 ρ3) (h : F [a1, a2, a3] = .ret d outs) : mCallF F [.dat f1, .dat f2, .dat f3] ρ = .ok d ρ3 := x_callF (pl_c h1 (pl_c h2 (pl_c h3 pl_n))) (ra_d (ra_d (ra_d ra_n))) h put_n
theorem y_fn4 {F : Fn} {f1 f2 f3 f4 : M D} {outs : List D} (h1 : f1 ρ = .ok a1 ρ1) (h2 : f2 ρ1 = .ok a2 ρ2) (h3 : f3 ρ2 = .ok a3 ρ3) (h4 : f4 ρ3 = .ok a4 ρ4) (h : F [a1, a2, a3, a4] = .ret d outs) : mCallF F [.dat f1, .dat f2, .dat f3, .dat f4] ρ = .ok d ρ4 := x_callF (pl_c h1 (pl_c h2 (pl_c h3 (pl_c h4 pl_n)))) (ra_d (ra_d (ra_d (ra_d ra_n)))) h put_n
theorem y_fn5 {F : Fn} {f1 f2 f3 f4 f5 : M D} {outs : List D} (h1 : f1 ρ = .ok a1 ρ1) (h2 : f2 ρ1 = .ok a2 ρ2) (h3 : f3 ρ2 = .ok a3 ρ3) (h4 : f4 ρ3 = .ok a4 ρ4) (h5 : f5 ρ4 = .ok a5 ρ5) (h : F [a1, a2, a3, a4, a5] = .ret d outs) : mCallF F [.dat f1, .dat f2, .dat f3, .dat f4, .dat f5] ρ = .ok d ρ5 := x_callF (pl_c h1 (pl_c h2 (pl_c h3 (pl_c h4 (pl_c h5 pl_n))))) (ra_d (ra_d (ra_d (ra_d (ra_d ra_n))))) h put_n
theorem y_fo0 {F : Fn} {i : Nat} (h0 : GetAt ρ i (.own e))  (hg : GetAt ρ i (.own w)) (h : F [w] = .ret d [w1]) (hs : SetAt ρ i (.own w1) ρ5) : mCallF F [.own i] ρ = .ok d ρ5 := x_callF (pl_c (p_own h0) pl_n) (ra_o hg ra_n) h (put_c hs put_n)
theorem y_fo1 {F : Fn} {i : Nat} {f1 : M D} (h0 : GetAt ρ i (.own e)) (h1 : f1 ρ = .ok a1 ρ1) (hg : GetAt ρ1 i (.own w)) (h : F [w, a1] = .ret d [w1]) (hs : SetAt ρ1 i (.own w1) ρ5) : mCallF F [.own i, .dat f1] ρ = .ok d ρ5 := x_callF (pl_c (p_own h0) (pl_c h1 pl_n)) (ra_o hg (ra_d ra_n)) h (put_c hs put_n)
theorem y_fo2 {F : Fn} {i : Nat} {f1 f2 : M D} (h0 : GetAt ρ i (.own e)) (h1 : f1 ρ = .ok a1 ρ1) (h2 : f2 ρ1 = .ok a2 ρ2) (hg : GetAt ρ2 i (.own w)) (h : F [w, a1, a2] = .ret d [w1]) (hs : SetAt ρ2 i (.own w1) ρ5) : mCallF F [.own i, .dat f1, .dat f2] ρ = .ok d ρ5 := x_callF (pl_c (p_own h0) (pl_c h1 (pl_c h2 pl_n))) (ra_o hg (ra_d (ra_d ra_n))) h (put_c hs put_n)
theorem y_fo3 {F : Fn} {i : Nat} {f1 f2 f3 : M D} (h0 : GetAt ρ i (.own e)) (h1 : f1 ρ = .ok a1 ρ1) (h2 : f2 ρ1 = .ok a2 ρ2) (h3 : f3 ρ2 = .ok a3 ρ3) (hg : GetAt ρ3 i (.own w)) (h : F [w, a1, a2, a3] = .ret d [w1]) (hs : SetAt ρ3 i (.own w1) ρ5) : mCallF F [.own i, .dat f1, .dat f2, .dat f3] ρ = .ok d ρ5 := x_callF (pl_c (p_own h0) (pl_c h1 (pl_c h2 (pl_c h3 pl_n)))) (ra_o hg (ra_d (ra_d (ra_d ra_n)))) h (put_c hs put_n)
end
end Fx
set_option Elab.async false
set_option linter.all false
set_option maxRecDepth 100000
set_option maxHeartbeats 1000000
namespace Fx
open PySem L2
theorem l_cons {g : TgM} {body : MS} {d : D} {ds : List D} {ρ ρ1 ρ2 : Cells} {o : OutS} (h1 : Tg g d ρ ρ1) (h2 : body ρ1 = .next ρ2) (h3 : loopM g body ds ρ2 = o) : loopM g body (d :: ds) ρ = o := by
  unfold loopM
  simp only [show g d ρ = some ρ1 from h1, h2]
  exact h3
theorem l_consR {g : TgM} {body : MS} {d e : D} {ds : List D} {ρ ρ1 ρ2 : Cells} (h1 : Tg g d ρ ρ1) (h2 : body ρ1 = .ret e ρ2) : loopM g body (d :: ds) ρ = .ret e ρ2 := by
  unfold loopM
  simp only [show g d ρ = some ρ1 from h1, h2]
inductive Pn : Nat → D → Prop
  | non {k : Nat} : Pn k .non
  | int {k : Nat} {i : Int} : Pn k (.int i)
  | str {k : Nat} {x : Str} (h : PyData.strOk x = true) : Pn k (.str x)
  | tup {k : Nat} {ds : List D} (h : ∀ d ∈ ds, Pn k d) : Pn (k + 1) (.tup ds)
  | lst {k : Nat} {ds : List D} (h : ∀ d ∈ ds, Pn k d) : Pn (k + 1) (.lst ds)
theorem pnAll {k : Nat} : ∀ {ds : List D}, (∀ d ∈ ds, (toPy d).canLay0 = true ∧ (toPy d).depth ≤ k) → PyData.canLayAll0 (toPys ds) = true ∧ PyData.depthAll (toPys ds) ≤ k
  | [], _ => ⟨by simp [toPys, PyData.canLayAll0], by simp [toPys, PyData.depthAll]⟩
  | d :: ds, h => by
    obtain ⟨h1, h2⟩ := h d List.mem_cons_self
    obtain ⟨h3, h4⟩ := pnAll fun x hx => h x (List.mem_cons_of_mem _ hx)
    refine ⟨by simp [toPys, PyData.canLayAll0, h1, h3], ?_⟩
    simp only [toPys, PyData.depthAll]
    omega
theorem Pn.lay {k : Nat} {d : D} (h : Pn k d) : (toPy d).canLay0 = true ∧ (toPy d).depth ≤ k := by
  induction h with
  | non => exact ⟨by simp [toPy, PyData.canLay0], by simp [toPy, PyData.depth]⟩
  | int => exact ⟨by simp [toPy, PyData.canLay0], by simp [toPy, PyData.depth]⟩
  | str h => exact ⟨by simp [toPy, PyData.canLay0, h], by simp [toPy, PyData.depth]⟩
  | tup h ih =>
    obtain ⟨h1, h2⟩ := pnAll ih
    exact ⟨by simp [toPy, PyData.canLay0, h1], by simp only [toPy, PyData.depth]; omega⟩
  | lst h ih =>
    obtain ⟨h1, h2⟩ := pnAll ih
    exact ⟨by simp [toPy, PyData.canLay0, h1], by simp only [toPy, PyData.depth]; omega⟩
theorem eqvAll_iff : ∀ {ds es : List D}, (∀ d ∈ ds, ∀ e ∈ es, (PyData.eqv (toPy d) (toPy e) = true ↔ d = e)) → (PyData.eqvAll (toPys ds) (toPys es) = true ↔ ds = es)
  | [], [], _ => by simp [toPys, PyData.eqvAll]
  | [], e :: es, _ => by simp [toPys, PyData.eqvAll]
  | d :: ds, [], _ => by simp [toPys, PyData.eqvAll]
  | d :: ds, e :: es, h => by
    have h1 := h d List.mem_cons_self e List.mem_cons_self
    have h2 := eqvAll_iff fun x hx y hy => h x (List.mem_cons_of_mem _ hx) y (List.mem_cons_of_mem _ hy)
    simp only [toPys, PyData.eqvAll, Bool.and_eq_true, h1, h2, List.cons.injEq]
theorem Pn.eq {k : Nat} {d : D} (h : Pn k d) : ∀ {j : Nat} {e : D}, Pn j e → (PyData.eqv (toPy d) (toPy e) = true ↔ d = e) := by
  induction h with
  | non => intro j e h2; cases h2 <;> simp [toPy, PyData.eqv]
  | int => intro j e h2; cases h2 <;> simp [toPy, PyData.eqv]
  | str h => intro j e h2; cases h2 <;> simp [toPy, PyData.eqv]
  | tup h ih =>
    intro j e h2
    cases h2 with
    | tup h2 =>
      simp only [toPy, PyData.eqv, D.tup.injEq]
      exact eqvAll_iff fun x hx y hy => ih x hx (h2 y hy)
    | _ => simp [toPy, PyData.eqv]
  | lst h ih =>
    intro j e h2
    cases h2 with
    | lst h2 =>
      simp only [toPy, PyData.eqv, D.lst.injEq]
      exact eqvAll_iff fun x hx y hy => ih x hx (h2 y hy)
    | _ => simp [toPy, PyData.eqv]
open Classical in
theorem sEq_pn {k j : Nat} {d e : D} (h : Pn k d) (h2 : Pn j e) (hk : k ≤ 63 := by decide) : sEq d e = some (.bl (decide (d = e))) := by
  unfold sEq plain
  rw [h.lay.1, h2.lay.1, decide_eq_true (by have := h.lay.2; omega : min (toPy d).depth (toPy e).depth ≤ 63)]
  have : eqD d e = decide (d = e) := by
    rw [Bool.eq_iff_iff, decide_eq_true_iff]
    exact h.eq h2
  rw [this]
  rfl
open Classical in
theorem sNe_pn {k j : Nat} {d e : D} (h : Pn k d) (h2 : Pn j e) (hk : k ≤ 63 := by decide) : sNe d e = some (.bl (!decide (d = e))) := by
  have q := sEq_pn h h2 hk
  unfold sEq at q
  unfold sNe
  split at q
  · rename_i z
    rw [if_pos z]
    rw [D.bl.inj (Option.some.inj q)]
  · cases q
theorem sNe_same {k : Nat} {d : D} (h : Pn k d) (hk : k ≤ 63 := by decide) : sNe d d = some (.bl false) := by rw [sNe_pn h h hk]; simp
theorem Pn.up {k : Nat} {d : D} (h : Pn k d) : Pn (k + 1) d := by
  induction h with
  | non => exact .non
  | int => exact .int
  | str h => exact .str h
  | tup _ ih => exact .tup ih
  | lst _ ih => exact .lst ih
end Fx
set_option Elab.async false
set_option linter.all false
set_option maxRecDepth 100000
set_option maxHeartbeats 1000000
namespace Fx
open PySem L2
theorem sMod_ok {i j : Int} (h : j ≠ 0) : sMod (.int i) (.int j) = some (.int (i.fmod j)) := by simp [sMod, h]
section
variable {n t : Int} {rows : List (List Int)} {p : List (Option Int)} {st : List Int}
end
end Fx
set_option Elab.async false
set_option linter.all false
set_option maxRecDepth 100000
set_option maxHeartbeats 1000000
namespace Fx
open PySem L2
theorem cutHi (l : List Int) {k : Int} (h0 : 0 ≤ k) : sCut (D.lst (List.map D.int l)) none (some k) = some (D.lst (List.map D.int (l.take k.toNat))) := by
  show some (D.lst _) = _
  rw [cut_take' _ _ h0, ← List.map_take]
section
variable {n t mo ma dp : Int} {base : List Int}
end
end Fx
set_option Elab.async false
set_option linter.all false
set_option maxRecDepth 100000
set_option maxHeartbeats 1000000
namespace Fx
open PySem L2
section
variable {n t : Int} {rows : List (List Int)} {sp : List (Option Int)}
end
end Fx
set_option Elab.async false
set_option linter.all false
set_option maxRecDepth 100000
set_option maxHeartbeats 1000000
namespace Fx
open PySem L2
theorem cut_drop (l : List D) {k : Nat} (h : k ≤ l.length) : cutD l (some (k : Int)) none = l.drop k := by
  unfold cutD
  rw [HT.sIx_none, HT.sIx_nat, Nat.min_eq_left h, List.take_of_length_le (by rw [List.length_drop]; omega)]
inductive Step (n t : Int) (rows : List (List Int)) : List Int → List (Option Int) → D → List Int → List (Option Int) → Prop
  | beg (dn sp) (i : Nat) : sp[i]? = some none → Step n t rows dn sp (D.tup [.str "begin", .int (i : Int)]) dn (sp.set i (firstUp rows dn (i : Int)))
  | fin (dn sp) (i : Nat) (v : Int) : sp[i]? = some (some v) → Step n t rows dn sp (D.tup [.str "end", .int (i : Int)]) dn (sp.set i none)
  | up (dn sp) (x : Int) : 0 ≤ x → x < n → x ∈ dn → Step n t rows dn sp (D.tup [.str "up", .int x]) (dn.filter fun y => !decide (y = x)) sp
  | down (dn sp) (x : Int) : 0 ≤ x → x < n → x ∉ dn → some x ∉ sp → (dn.length : Int) < t → Step n t rows dn sp (D.tup [.str "down", .int x]) (sortI (dn ++ [x])) sp
section
variable {n t : Int} {rows : List (List Int)} {dn : List Int} {sp : List (Option Int)} {w : Str} {x : Int}
end
end Fx
set_option Elab.async false
set_option linter.all false
set_option maxRecDepth 100000
set_option maxHeartbeats 1000000
namespace Fx
open PySem L2
section
variable {n t : Int} {rows : List (List Int)} {dn : List Int} {sp : List (Option Int)}
end
end Fx
set_option Elab.async false
set_option linter.all false
set_option maxRecDepth 100000
set_option maxHeartbeats 1000000
namespace Fx
open PySem L2
inductive Run (n t : Int) (rows : List (List Int)) (ok : List (Option Int) → Prop) : List Int → List (Option Int) → List D → List Int → List (Option Int) → Prop
  | nil (dn : List Int) (sp : List (Option Int)) : Run n t rows ok dn sp [] dn sp
  | cons {dn : List Int} {sp : List (Option Int)} {e : D} {dn1 : List Int} {sp1 : List (Option Int)} {es : List D} {dn2 : List Int} {sp2 : List (Option Int)} : Step n t rows dn sp e dn1 sp1 → ok sp1 → Run n t rows ok dn1 sp1 es dn2 sp2 → Run n t rows ok dn sp (e :: es) dn2 sp2
section
variable {n t : Int} {rows : List (List Int)} {ok : List (Option Int) → Prop} {dn dn1 dn2 : List Int} {sp sp1 sp2 : List (Option Int)}
theorem Run.append {es fs : List D} (h : Run n t rows ok dn sp es dn1 sp1) (k : Run n t rows ok dn1 sp1 fs dn2 sp2) : Run n t rows ok dn sp (es ++ fs) dn2 sp2 := by
  induction h with
  | nil => exact k
  | cons s o r ih => exact .cons s o (ih k)
theorem Step.len {e : D} (h : Step n t rows dn sp e dn1 sp1) : sp1.length = sp.length := by
  cases h <;> simp
theorem Step.dnl {e : D} (h : Step n t rows dn sp e dn1 sp1) (hd : (dn.length : Int) ≤ t) : (dn1.length : Int) ≤ t := by
  cases h with
  | beg i hi => exact hd
  | fin i v hi => exact hd
  | up x x0 x1 hx =>
    have := List.length_filter_le (fun y => !decide (y = x)) dn
    omega
  | down x x0 x1 hx hs hl =>
    have := (sortI_perm (dn ++ [x])).length_eq
    rw [List.length_append, List.length_singleton] at this
    omega
end
end Fx
set_option Elab.async false
set_option linter.all false
set_option maxRecDepth 100000
set_option maxHeartbeats 1000000
namespace Fx
open PySem L2
section
variable {n t : Int} {rows : List (List Int)} {ok : List (Option Int) → Prop} {sp p : List (Option Int)}
end
end Fx
set_option Elab.async false
set_option linter.all false
set_option maxRecDepth 100000
set_option maxHeartbeats 1000000
namespace Fx
open PySem L2
section
variable {n t : Int} {rows : List (List Int)} {p be : List (Option Int)} {st : List Int}
end
end Fx
set_option Elab.async false
set_option linter.all false
set_option maxRecDepth 100000
set_option maxHeartbeats 1000000
namespace Fx
open PySem L2
def oAt (p : List (Option Int)) (s : Int) : Option Int := p.getD s.toNat none
theorem mem_mv0 {p : List (Option Int)} {s : Int} : s ∈ mvF [] 0 p ↔ Pres p s := by
  rw [mem_mvF]
  constructor
  · rintro ⟨i, x, h1, h2, _⟩
    exact ⟨i, x, by rw [h1, Nat.zero_add], h2⟩
  · rintro ⟨i, x, h1, h2⟩
    exact ⟨i, x, by rw [h1, Nat.zero_add], h2, List.not_mem_nil⟩
section
variable {n t : Int} {rows : List (List Int)} {p be : List (Option Int)}
end
end Fx
set_option Elab.async false
set_option linter.all false
set_option maxRecDepth 100000
set_option maxHeartbeats 1000000
namespace Fx
open PySem L2
section
variable {n t : Int} {rows : List (List Int)} {p be : List (Option Int)}
end
end Fx
set_option Elab.async false
set_option linter.all false
set_option maxRecDepth 100000
set_option maxHeartbeats 1000000
namespace Fx
open PySem L2
section
variable {n t : Int} {rows : List (List Int)} {p be : List (Option Int)} {st : List Int}
theorem NoCore.sub {R : Int → Int → Prop} {l m : List Int} (h : NoCore R m) (hs : ∀ s ∈ l, s ∈ m) : NoCore R l := fun S h1 h2 => h S (fun s hx => hs s (h1 s hx)) h2
end
end Fx
set_option Elab.async false
set_option linter.all false
set_option maxRecDepth 100000
set_option maxHeartbeats 1000000
namespace Fx
open PySem L2
/-- who was at x goes to its first server that is up -/
def mvd (rows : List (List Int)) (dn : List Int) (x : Int) : Nat → List (Option Int) → List (Option Int)
  | _, [] => []
  | i, o :: sp => (if o = some x then firstUp rows dn (i : Int) else o) :: mvd rows dn x (i + 1) sp
theorem mvd_len {rows : List (List Int)} {dn : List Int} {x : Int} : ∀ (i : Nat) (sp : List (Option Int)), (mvd rows dn x i sp).length = sp.length
  | _, [] => rfl
  | i, o :: sp => by unfold mvd; rw [List.length_cons, List.length_cons, mvd_len]
/-- any possible event, and what it does -/
inductive Ev (n t : Int) (rows : List (List Int)) : List Int → List (Option Int) → D → List Int → List (Option Int) → Prop
  | beg (dn sp) (i : Nat) : sp[i]? = some none → Ev n t rows dn sp (D.tup [.str "begin", .int (i : Int)]) dn (sp.set i (firstUp rows dn (i : Int)))
  | fin (dn sp) (i : Nat) (v : Int) : sp[i]? = some (some v) → Ev n t rows dn sp (D.tup [.str "end", .int (i : Int)]) dn (sp.set i none)
  | up (dn sp) (x : Int) : 0 ≤ x → x < n → x ∈ dn → Ev n t rows dn sp (D.tup [.str "up", .int x]) (dn.filter fun y => !decide (y = x)) sp
  | down (dn sp) (x : Int) : 0 ≤ x → x < n → x ∉ dn → (dn.length : Int) < t → Ev n t rows dn sp (D.tup [.str "down", .int x]) (sortI (dn ++ [x])) (mvd rows (sortI (dn ++ [x])) x 0 sp)
inductive RunE (n t : Int) (rows : List (List Int)) : List Int → List (Option Int) → List D → List Int → List (Option Int) → Prop
  | nil (dn sp) : RunE n t rows dn sp [] dn sp
  | cons {dn sp e dn1 sp1 es dn2 sp2} : Ev n t rows dn sp e dn1 sp1 → RunE n t rows dn1 sp1 es dn2 sp2 → RunE n t rows dn sp (e :: es) dn2 sp2
section
variable {n t x : Int} {rows : List (List Int)} {dn dn1 dn2 : List Int} {sp sp1 sp2 : List (Option Int)}
theorem RunE.snoc {es : List D} {e : D} (h : RunE n t rows dn sp es dn1 sp1) (k : Ev n t rows dn1 sp1 e dn2 sp2) : RunE n t rows dn sp (es ++ [e]) dn2 sp2 := by
  induction h with
  | nil => exact .cons k (.nil _ _)
  | cons h1 _ ih => exact .cons h1 (ih k)
theorem Ev.len {e : D} (h : Ev n t rows dn sp e dn1 sp1) : sp1.length = sp.length := by
  cases h with
  | beg => exact List.length_set
  | fin => exact List.length_set
  | up => rfl
  | down => exact mvd_len _ _
theorem Ev.dnl {e : D} (h : Ev n t rows dn sp e dn1 sp1) (hd : (dn.length : Int) ≤ t) : (dn1.length : Int) ≤ t := by
  cases h with
  | beg => exact hd
  | fin => exact hd
  | up x _ _ _ =>
    have := List.length_filter_le (fun y => !decide (y = x)) dn
    omega
  | down x _ _ _ h =>
    rw [(sortI_perm _).length_eq, List.length_append, List.length_singleton]
    omega
theorem Ev.pn {e : D} (h : Ev n t rows dn sp e dn1 sp1) : Pn 1 e := by
  cases h <;> exact .tup fun d hd => by
    simp only [List.mem_cons, List.not_mem_nil, or_false] at hd
    rcases hd with rfl | rfl
    · first | exact .str so_begin | exact .str so_end | exact .str so_down | exact .str so_up
    · exact .int
end
end Fx
set_option Elab.async false
set_option linter.all false
set_option maxRecDepth 100000
set_option maxHeartbeats 1000000
namespace Fx
open PySem L2
/-- what the walks keep of a state -/
structure EI (n t : Int) (rows : List (List Int)) (dn : List Int) (sp : List (Option Int)) : Prop where
  len : sp.length = rows.length
  nd : dn.Nodup
  rg : ∀ x ∈ dn, 0 ≤ x ∧ x < n
  dl : (dn.length : Int) ≤ t
section
variable {n t : Int} {rows : List (List Int)} {dn dn1 : List Int} {sp sp1 : List (Option Int)}
theorem EI.next (h : EI n t rows dn sp) {e : D} (k : Ev n t rows dn sp e dn1 sp1) : EI n t rows dn1 sp1 := by
  refine ⟨k.len.trans h.len, ?_, ?_, k.dnl h.dl⟩
  · cases k with
    | beg => exact h.nd
    | fin => exact h.nd
    | up => exact h.nd.sublist List.filter_sublist
    | down x x0 x1 hx _ =>
      rw [(sortI_perm _).nodup_iff, List.nodup_append]
      refine ⟨h.nd, by simp, fun a ha b hb z => ?_⟩
      have : b = x := by simpa using hb
      subst this
      subst z
      exact hx ha
  · cases k with
    | beg => exact h.rg
    | fin => exact h.rg
    | up => exact fun x hx => h.rg x (List.mem_filter.mp hx).1
    | down x x0 x1 hx _ =>
      intro y hy
      rcases List.mem_append.mp ((sortI_perm _).mem_iff.mp hy) with z | z
      · exact h.rg y z
      · have : y = x := by simpa using z
        subst this
        exact ⟨x0, x1⟩
end
end Fx
set_option Elab.async false
set_option linter.all false
set_option maxRecDepth 100000
set_option maxHeartbeats 1000000
namespace Fx
open PySem L2
section
variable {n t : Int} {rows : List (List Int)} {q : List (Option Int)}
end
end Fx
set_option Elab.async false
set_option linter.all false
set_option maxRecDepth 100000
set_option maxHeartbeats 1000000
namespace Fx
open PySem L2
section
variable {n t : Int} {rows : List (List Int)} {p q r : List (Option Int)}
structure SV (n t : Int) (rows : List (List Int)) (dn : List Int) (sp : List (Option Int)) : Prop where
  len : sp.length = rows.length
  ok : PlOk rows sp
  asc : dn.Pairwise (· < ·)
  rg : ∀ x ∈ dn, 0 ≤ x ∧ x < n
  dl : (dn.length : Int) ≤ t
  up : ∀ x ∈ dn, some x ∉ sp
theorem SV.start (hlen : p.length = rows.length) (hok : PlOk rows p) (t0 : 0 ≤ t) : SV n t rows [] p := ⟨hlen, hok, List.Pairwise.nil, fun x h => (nomatch h), by simpa using t0, fun x h => (nomatch h)⟩
end
end Fx
set_option Elab.async false
set_option linter.all false
set_option maxRecDepth 100000
set_option maxHeartbeats 1000000
namespace Fx
open PySem L2
section
variable {n t : Int} {rows : List (List Int)} {ok : List (Option Int) → Prop} {dn dn2 : List Int} {sp sp2 be : List (Option Int)}
end
end Fx
set_option Elab.async false
set_option linter.all false
set_option maxRecDepth 100000
set_option maxHeartbeats 1000000
namespace Fx
open PySem L2
def lastI (r : List Int) : Int := r.getLastD 0
theorem lastI_snoc (w : List Int) (x : Int) : lastI (w ++ [x]) = x := by
  unfold lastI
  rw [List.getLastD_eq_getLast?, List.getLast?_append, List.getLast?_singleton]
  rfl
/-- a row that shows that its last one must reconnect -/
structure Sh (rows : List (List Int)) (be p : List (Option Int)) (r : List Int) : Prop where
  ne : r ≠ []
  nd : r.Nodup
  pr : ∀ y ∈ r, Pres p y
  hd : ∀ h, r[0]? = some h → oAt be h ≠ oAt p h
  wk : Walk (Ps rows p) r
theorem Sh.last {rows : List (List Int)} {be p : List (Option Int)} {r : List Int} (h : Sh rows be p r) : ∃ w x, r = w ++ [x] ∧ lastI r = x ∧ x ∈ r := by
  have e := List.dropLast_concat_getLast h.ne
  refine ⟨r.dropLast, r.getLast h.ne, e.symm, ?_, List.getLast_mem h.ne⟩
  conv => lhs; rw [← e]
  exact lastI_snoc _ _
structure RI (rows : List (List Int)) (be p : List (Option Int)) (rs : List (List Int)) : Prop where
  sh : ∀ r ∈ rs, Sh rows be p r
  cl : ∀ r ∈ rs, ∀ x ∈ r, x ∈ rs.map lastI
  nd : (rs.map lastI).Nodup
  ini : ∀ s, Pres p s → oAt be s ≠ oAt p s → s ∈ rs.map lastI
theorem RI.len {rows : List (List Int)} {be p : List (Option Int)} {rs : List (List Int)} (h : RI rows be p rs) (h60 : p.length ≤ 60) : rs.length ≤ 60 := by
  have := pigeon (rs.map lastI) (mvF [] 0 p) h.nd fun x hx => by
    obtain ⟨r, hr, rfl⟩ := List.mem_map.mp hx
    obtain ⟨w, y, _, e, hy⟩ := (h.sh r hr).last
    rw [e]
    exact mem_mv0.mpr ((h.sh r hr).pr y hy)
  rw [List.length_map] at this
  exact Nat.le_trans this (Nat.le_trans (len_mvF 0 p) h60)
section
variable {n t s : Int} {rows : List (List Int)} {p be : List (Option Int)}
end
end Fx
set_option Elab.async false
set_option linter.all false
set_option maxRecDepth 100000
set_option maxHeartbeats 1000000
namespace Fx
open PySem L2
section
variable {n t s : Int} {rows : List (List Int)} {p be : List (Option Int)}
end
end Fx
set_option Elab.async false
set_option linter.all false
set_option maxRecDepth 100000
set_option maxHeartbeats 1000000
namespace Fx
open PySem L2
/-- so many steps behind a changed session, or fewer -/
def Nr (rows : List (List Int)) (be p : List (Option Int)) : Nat → Int → Prop
  | 0, s => Pres p s ∧ oAt be s ≠ oAt p s
  | k + 1, s => Nr rows be p k s ∨ (Pres p s ∧ ∃ l, Nr rows be p k l ∧ Ps rows p l s)
def Dst (rows : List (List Int)) (be p : List (Option Int)) (k : Nat) (s : Int) : Prop := Nr rows be p k s ∧ ∀ j, j < k → ¬ Nr rows be p j s
section
variable {rows : List (List Int)} {be p : List (Option Int)} {s : Int}
theorem Nr.up : ∀ {j k : Nat}, j ≤ k → Nr rows be p j s → Nr rows be p k s
  | j, 0, h, a => by
    have : j = 0 := by omega
    subst this; exact a
  | j, k + 1, h, a => by
    by_cases z : j = k + 1
    · subst z; exact a
    · exact .inl (Nr.up (j := j) (k := k) (by omega) a)
theorem Dst.le {j k : Nat} (h : Dst rows be p k s) (h2 : Nr rows be p j s) : k ≤ j := by
  by_cases z : j < k
  · exact absurd h2 (h.2 j z)
  · omega
/-- the rows by their lengths -/
structure RL (rows : List (List Int)) (be p : List (Option Int)) (rs : List (List Int)) (k : Nat) : Prop where
  ds : ∀ q ∈ rs, ∃ j, q.length = j + 1 ∧ Dst rows be p j (lastI q)
  so : ∀ (i j : Nat) (q q' : List Int), i ≤ j → rs[i]? = some q → rs[j]? = some q' → q.length ≤ q'.length
  up : ∀ (i j : Nat) (q q' : List Int), k ≤ i → rs[i]? = some q → rs[j]? = some q' → q'.length ≤ q.length + 1
theorem RL.step {rs rs' : List (List Int)} {k : Nat} (h : RL rows be p rs k) (hR' : RI rows be p rs') {r : List Int} (hk : rs[k]? = some r) (hnear : ∀ (j : Nat) (s : Int), j + 1 ≤ r.length → Nr rows be p j s → s ∈ rs.map lastI)
    (h2 : ∀ (j : Nat) (q : List Int), rs[j]? = some q → rs'[j]? = some q) (h2d : (∀ q ∈ rs', q ∈ rs ∨ ∃ o : Int, q = r ++ [o] ∧ Pres p o ∧ Ps rows p (lastI r) o)) : RL rows be p rs' (k + 1) := by
  obtain ⟨m, hm, hd⟩ := h.ds r (List.mem_of_getElem? hk)
  -- a new one stands behind the old ones
  have new : ∀ (j : Nat) (q : List Int), rs'[j]? = some q → (rs[j]? = some q) ∨ (rs.length ≤ j ∧ ∃ o : Int, q = r ++ [o] ∧ Pres p o ∧ Ps rows p (lastI r) o ∧ o ∉ rs.map lastI) := fun j q hj => by
    by_cases z : j < rs.length
    · have hg : rs[j]? = some rs[j] := List.getElem?_eq_getElem z
      have := h2 j _ hg
      rw [hj] at this
      cases this
      exact .inl hg
    · have dup : ∀ q2 ∈ rs, lastI q2 = lastI q → False := fun q2 hq2 e => by
        obtain ⟨i, hi⟩ := List.getElem?_of_mem hq2
        have hil := (List.getElem?_eq_some_iff.mp hi).1
        have hi' := h2 i q2 hi
        have nd := hR'.nd
        have hlen : j < (rs'.map lastI).length := by rw [List.length_map]; exact (List.getElem?_eq_some_iff.mp hj).1
        have g1 : (rs'.map lastI)[i]? = some (lastI q2) := by rw [List.getElem?_map, hi']; rfl
        have g2 : (rs'.map lastI)[j]? = some (lastI q) := by rw [List.getElem?_map, hj]; rfl
        have := (List.getElem?_inj (by omega : i < (rs'.map lastI).length) nd).mp (g1.trans ((congrArg some e).trans g2.symm))
        omega
      rcases h2d q (List.mem_of_getElem? hj) with y | ⟨o, rfl, y1, y2⟩
      · exact absurd rfl (fun e => dup q y e)
      · refine .inr ⟨by omega, o, rfl, y1, y2, fun w => ?_⟩
        obtain ⟨q2, hq2, e⟩ := List.mem_map.mp w
        exact dup q2 hq2 (by rw [e, lastI_snoc])
  have old : ∀ (j : Nat) (q : List Int), rs[j]? = some q → q.length ≤ r.length + 1 := fun j q hj => h.up k j r q (Nat.le_refl _) hk hj
  have kl := (List.getElem?_eq_some_iff.mp hk).1
  refine ⟨fun q hq => ?_, fun i j q q' hij hi hj => ?_, fun i j q q' hki hi hj => ?_⟩
  · obtain ⟨j, hj⟩ := List.getElem?_of_mem hq
    rcases new j q hj with z | ⟨_, o, rfl, z1, z2, z3⟩
    · exact h.ds q (List.mem_of_getElem? z)
    · refine ⟨m + 1, by rw [List.length_append, hm]; rfl, ?_⟩
      rw [lastI_snoc]
      exact ⟨.inr ⟨z1, _, hd.1, z2⟩, fun i hi w => z3 (hnear i o (by omega) w)⟩
  · rcases new i q hi with z | ⟨zl, o, rfl, _⟩
    · rcases new j q' hj with y | ⟨yl, o, rfl, _⟩
      · exact h.so i j q q' hij z y
      · rw [List.length_append]
        exact old i q z
    · rcases new j q' hj with y | ⟨yl, o', rfl, _⟩
      · have := (List.getElem?_eq_some_iff.mp y).1
        omega
      · rw [List.length_append, List.length_append]
        exact Nat.le_refl _
  · have a : r.length ≤ q.length := by
      rcases new i q hi with z | ⟨zl, o, rfl, _⟩
      · exact h.so k i r q (by omega) hk z
      · rw [List.length_append]; omega
    rcases new j q' hj with y | ⟨yl, o', rfl, _⟩
    · have := old j q' y
      omega
    · rw [List.length_append]
      show r.length + 1 ≤ _
      omega
end
section
variable {n t s : Int} {rows : List (List Int)} {p be : List (Option Int)}
end
end Fx
set_option Elab.async false
set_option linter.all false
set_option maxRecDepth 100000
set_option maxHeartbeats 1000000
namespace Fx
open PySem L2
section
variable {n t s : Int} {rows : List (List Int)} {p be : List (Option Int)}
end
end Fx
set_option Elab.async false
set_option linter.all false
set_option maxRecDepth 100000
set_option maxHeartbeats 1000000
namespace Fx
open PySem L2
local macro_rules
  | `(tactic| trivial) => `(tactic| (repeat (first | with_reducible assumption | ((with_reducible apply vv_id); apply_rules (transparency := .reducible) (maxDepth := 1) (symm := false) (exfalso := false) only [vk0, vk1, vk2, vk3, vk4, vk5, vk6, vk7, vk8, vk9, vk10, vk11, vk12, vk13, vk14, vk15, vk16]) | ((with_reducible apply gg_id); first | apply_rules (transparency := .reducible) (maxDepth := 1) (symm := false) (exfalso := false) only [gk0, gk1, gk2, gk3, gk4, gk5, gk6, gk7, gk8, gk9, gk10, gk11, gk12, gk13, gk14, gk15, gk16] | apply_rules (transparency := .reducible) (maxDepth := 1) (symm := false) (exfalso := false) only [getAt_z, getAt_s]) | ((with_reducible apply ss_id); first | apply_rules (transparency := .reducible) (maxDepth := 1) (symm := false) (exfalso := false) only [sk0, sk1, sk2, sk3, sk4, sk5, sk6, sk7, sk8, sk9, sk10, sk11, sk12, sk13, sk14, sk15, sk16] | apply_rules (transparency := .reducible) (maxDepth := 1) (symm := false) (exfalso := false) only [setAt_z, setAt_s]) | ((with_reducible apply g_seq); first | (with_reducible refine s_step (by with_reducible assumption) ?_) | (with_reducible refine s_retS (by with_reducible assumption)) | apply_rules (transparency := .reducible) (maxDepth := 1) (symm := false) (exfalso := false) only [s_assoc, s_skip, s_asg, s_new, s_expr, s_ret, s_retN, s_t, s_f, s_if, s_par, s_par3, s_new2, s_setIx, s_augV, s_setS, s_setM, s_newO, s_newO0, s_raise] | ((with_reducible apply s_frz); apply_rules (transparency := .reducible) (maxDepth := 1) (symm := false) (exfalso := false) only [gk0, gk1, gk2, gk3, gk4, gk5, gk6, gk7, gk8, gk9, gk10, gk11, gk12, gk13, gk14, gk15, gk16]) | ((with_reducible apply s_frzD); apply_rules (transparency := .reducible) (maxDepth := 1) (symm := false) (exfalso := false) only [gk0, gk1, gk2, gk3, gk4, gk5, gk6, gk7, gk8, gk9, gk10, gk11, gk12, gk13, gk14, gk15, gk16]) | (with_reducible refine s_for ?_ (by with_reducible assumption) ?_) | (with_reducible refine s_forR ?_ (by with_reducible assumption)) | (with_reducible refine s_while (by with_reducible assumption) ?_) | (with_reducible refine s_whileR (by with_reducible assumption)) | (with_reducible refine s_for (?_) (by assumption) ?_)) | apply_rules (transparency := .reducible) (maxDepth := 1) (symm := false) (exfalso := false) only [v_pure, x_callD, y_op2, y_call1, y_call2, y_sl1, y_sl2, y_tup2, y_tup1, y_fo1, y_fo2, y_fo0, y_fo3, y_fn1, y_fn2, y_fn3, y_fn4, y_fn5, x_op2, p_dat, p_own, v_var, x_callD, x_callF, x_callK, x_callW, x_callN, x_make, x_call, x_tup, x_lst, x_neg, x_meth, x_methWR, x_methWD, x_methW, x_sl, x_rev, x_fld, x_chain, x_lenF, x_lenset, x_methF, x_isF, x_eqF, x_kd, x_km, x_neF, x_makeK, x_methK, x_cmp, x_lrn, x_tupRg, pt_s, pt_n, i_seq, i_en, i_rng, i_zip, i_zipN, b_b, b_not, b_and, b_or, x_if, x_andV, x_orV, x_notV, andK_t, andK_f, orK_f, orK_t, chK_t, chK_f, ifK_t, ifK_f, x_lcU, x_lc, s_end, pk_n, pk_c, at_z, at_s, put_n, put_c, wl_n, wl_c, mp_r, tg_nm, tg_tp, tgs_n, tgs_c, pl_n, pl_c, rl_n, rl_c, ra_n, ra_d, ra_o, sq_n, sq_c, app_n, app_c, r_dat, r_own, lcE_i, no_n, no_c, nw_d, nw_n, nw_o, nb_lt, nb_lf, nb_ltn, nb_lfn] | ((with_reducible apply nb_id); first | with_reducible exact nb_nf rfl | with_reducible exact nb_t rfl | exact nb_h (by with_reducible assumption) | exact nb_hf (by with_reducible assumption) | exact nb_hn (by with_reducible assumption) | exact nb_hnf (by with_reducible assumption) | exact nb_t (by with_reducible assumption) | exact nb_f (by with_reducible assumption) | exact nb_nt (by with_reducible assumption) | exact nb_nf (by with_reducible assumption) | exact nb_t (by omega) | exact nb_f (by omega) | exact nb_nt (by omega) | exact nb_nf (by omega) | exact nb_t (by decide) | exact nb_f (by decide) | exact nb_nt (by decide) | exact nb_nf (by decide)) | apply_rules (transparency := .reducible) (maxDepth := 1) (symm := false) (exfalso := false) only [sEq_int, sNe_int, sEq_opt, sNe_opt, sIsN_opt, sNotN_opt, sNotN_int, sIsN_int, sNotN_tup, sIsN_tup, sNotN_lst, sIsN_lst, sNotN_non, sIsN_non, sIn_tup, sNin_tup, sIn_lst, sNin_lst, sEq_tup, sEq_lst, sNe_lst, sNe_tup, sIx_plc, sIx_rows, sIx_rowsL, sIn_row, sNin_row, sLen_row, sLen_plc, isTup_row, isTup_plc, sLen_ints, sLen_tints, sLen_rows, sLen_rowsT, sLen_lst, sLen_tup, isTupD] | ((with_reducible apply is_id); exact is_r) | ((with_reducible apply f_od); exact rfl) | ((with_reducible apply f_ol); exact rfl) | ((with_reducible apply f_op); exact rfl) | ((with_reducible apply f_bt); exact rfl) | ((with_reducible apply f_on); exact rfl) | ((with_reducible apply f_ld); exact rfl) | intro x hx | intro hb | omega | with_reducible apply s_one)))
inductive Fin where
  | ret (d : D) | exc (x : Exc)
def Ends : Fin → OutS → Prop
  | .ret d, o => ∃ ρ, o = .ret d ρ
  | .exc x, o => ∃ ρ, o = .exc x ρ
theorem l_consE {g : TgM} {body : MS} {d : D} {ds : List D} {ρ ρ1 : Cells} {r : Fin} (h1 : g d ρ = some ρ1) (h2 : Ends r (body ρ1)) : Ends r (loopM g body (d :: ds) ρ) := by
  cases r with
  | ret e =>
    obtain ⟨ρ2, h2⟩ := h2
    exact ⟨ρ2, l_consR h1 h2⟩
  | exc x =>
    obtain ⟨ρ2, h2⟩ := h2
    refine ⟨ρ2, ?_⟩
    unfold loopM
    simp only [h1, h2]
theorem loop_bad {g : TgM} {body : MS} (C : Cell → Cell → Cells) (bad : Nat → Bool) (r : Nat → Fin) : ∀ (es : List D) (k : Nat), (∀ i d, es[i]? = some d → (∀ j, j < i → bad (k + j) = false) → ∀ c c', ∃ a a', g d (C c c') = some (C a a') ∧ (bad (k + i) = true → Ends (r (k + i)) (body (C a a'))) ∧ (bad (k + i) = false → ∃ b b', body (C a a') = .next (C b b'))) → ∀ c c',
    (∃ i, i < es.length ∧ bad (k + i) = true ∧ (∀ j, j < i → bad (k + j) = false) ∧ Ends (r (k + i)) (loopM g body es (C c c'))) ∨ ((∀ i, i < es.length → bad (k + i) = false) ∧ ∃ a a', loopM g body es (C c c') = .next (C a a'))
  | [], k, _, c, c' => .inr ⟨fun i hi => absurd hi (by simp), c, c', rfl⟩
  | d :: es, k, h, c, c' => by
    obtain ⟨a, a', h1, h2, h3⟩ := h 0 d rfl (fun j hj => absurd hj (by omega)) c c'
    rw [Nat.add_zero] at h2 h3
    cases hb : bad k with
    | true => exact .inl ⟨0, by simp, by rw [Nat.add_zero]; exact hb, fun j hj => absurd hj (by omega), by rw [Nat.add_zero]; exact l_consE h1 (h2 hb)⟩
    | false =>
      obtain ⟨b, b', h4⟩ := h3 hb
      have sh : ∀ j, k + 1 + j = k + (j + 1) := fun j => by omega
      have all : ∀ i, (∀ j, j < i → bad (k + 1 + j) = false) → ∀ j, j < i + 1 → bad (k + j) = false := fun i hi j hj => by
        cases j with
        | zero => exact hb
        | succ j => rw [← sh]; exact hi j (by omega)
      rcases loop_bad C bad r es (k + 1) (fun i e he hj c c' => by
        rw [sh]
        exact h (i + 1) e (by simpa using he) (all i hj) c c') b b' with ⟨i, g1, g2, g3, g4⟩ | ⟨g1, a2, a3, g2⟩
      · refine .inl ⟨i + 1, by simpa using g1, by rw [← sh]; exact g2, all i g3, ?_⟩
        rw [← sh]
        have : loopM g body (d :: es) (C c c') = loopM g body es (C b b') := l_cons h1 h4 rfl
        rw [this]
        exact g4
      · refine .inr ⟨fun i hi => ?_, a2, a3, l_cons h1 h4 g2⟩
        cases i with
        | zero => exact hb
        | succ i => rw [← sh]; exact g1 i (by simpa using hi)
theorem first_uniq {bad : Nat → Bool} {i j : Nat} (h1 : bad i = true) (h2 : ∀ k, k < i → bad k = false) (h3 : bad j = true) (h4 : ∀ k, k < j → bad k = false) : i = j := by
  rcases Nat.lt_trichotomy i j with h | h | h
  · rw [h4 i h] at h1; cases h1
  · exact h
  · rw [h2 j h] at h3; cases h3
/-- what is no int -/
inductive Odd : D → Prop
  | non : Odd .non
  | bl (b : Bool) : Odd (.bl b)
  | str : Odd (.str "0")
  | lst : Odd (.lst [.int 0])
  | dic : Odd (.dic [] [])
def Itm (d : D) : Prop := (∃ i : Int, d = .int i) ∨ Odd d
def intsD : List D → List Int
  | [] => []
  | .int v :: l => v :: intsD l
  | _ :: l => intsD l
theorem ints_of : ∀ {l : List D}, (∀ d ∈ l, ∃ v : Int, d = .int v) → l = (intsD l).map .int
  | [], _ => rfl
  | d :: l, h => by
    obtain ⟨v, rfl⟩ := h d List.mem_cons_self
    have := ints_of fun e he => h e (List.mem_cons_of_mem _ he)
    show D.int v :: l = D.int v :: (intsD l).map .int
    rw [← this]
theorem kb_nonetype_int : kitB "NoneType" "int" = some false := by decide
theorem kb_bool_int : kitB "bool" "int" = some true := by decide
theorem kb_bool_bool : kitB "bool" "bool" = some true := by decide
theorem kb_str_int : kitB "str" "int" = some false := by decide
theorem kb_list_int : kitB "list" "int" = some false := by decide
theorem kb_dict_int : kitB "dict" "int" = some false := by decide
theorem kb_nonetype_tuple : kitB "NoneType" "tuple" = some false := by decide
theorem kb_list_tuple : kitB "list" "tuple" = some false := by decide
theorem e_odd {d : D} (h : Odd d) (x y : Int) : m_is_from [d, .int x, .int y] = .ret (.bl false) [] := by
  have e : m_is_int [d] = .ret (.bl false) [] := by
    cases h with
    | non =>
      have q : sIsi [.non, .raw (.ty "int")] = some (.bl false) := by simp [sIsi, tyName, kb_nonetype_int]
      (unfold m_is_int; apply s_run (ρ0 := [.dat (.non)]) rfl; unfold b_is_int)
      · trivial
      · rfl
    | bl b =>
      have q : sIsi [.bl b, .raw (.ty "int")] = some (.bl true) := by simp [sIsi, tyName, kb_bool_int]
      have q2 : sIsi [.bl b, .raw (.ty "bool")] = some (.bl true) := by simp [sIsi, tyName, kb_bool_bool]
      (unfold m_is_int; apply s_run (ρ0 := [.dat (.bl b)]) rfl; unfold b_is_int)
      · trivial
      · rfl
    | str =>
      have q : sIsi [.str "0", .raw (.ty "int")] = some (.bl false) := by simp [sIsi, tyName, kb_str_int]
      (unfold m_is_int; apply s_run (ρ0 := [.dat (.str "0")]) rfl; unfold b_is_int)
      · trivial
      · rfl
    | lst =>
      have q : sIsi [.lst [.int 0], .raw (.ty "int")] = some (.bl false) := by simp [sIsi, tyName, kb_list_int]
      (unfold m_is_int; apply s_run (ρ0 := [.dat (.lst [.int 0])]) rfl; unfold b_is_int)
      · trivial
      · rfl
    | dic =>
      have q : sIsi [.dic [] [], .raw (.ty "int")] = some (.bl false) := by simp [sIsi, tyName, kb_dict_int]
      (unfold m_is_int; apply s_run (ρ0 := [.dat (.dic [] [])]) rfl; unfold b_is_int)
      · trivial
      · rfl
  (unfold m_is_from; apply s_run (ρ0 := [.dat (d), .dat (.int x), .dat (.int y)]) rfl; unfold b_is_from)
  · trivial
  · rfl
end Fx
set_option Elab.async false
set_option linter.all false
set_option maxRecDepth 100000
set_option maxHeartbeats 1000000
namespace Fx
open PySem L2
theorem if_t {t : M Bool} {a b : MS} {ρ ρ1 : Cells} {o : OutS} (h : t ρ = .ok true ρ1) (h2 : a ρ1 = o) : mIfS t a b ρ = o := by
  rw [← h2]
  unfold mIfS mDo
  rw [h]
  rfl
theorem if_f {t : M Bool} {a b : MS} {ρ ρ1 : Cells} {o : OutS} (h : t ρ = .ok false ρ1) (h2 : b ρ1 = o) : mIfS t a b ρ = o := by
  rw [← h2]
  unfold mIfS mDo
  rw [h]
  rfl
theorem s_stepR {S R : MS} {ρ ρ1 : Cells} {d : D} (h : S ρ = .ret d ρ1) : mSeq S R ρ = .ret d ρ1 := by
  unfold mSeq
  rw [h]
theorem s_stepE {S R : MS} {ρ ρ1 : Cells} {x : Exc} (h : S ρ = .exc x ρ1) : mSeq S R ρ = .exc x ρ1 := by
  unfold mSeq
  rw [h]
theorem for_o {fi : M (List D)} {g : TgM} {m : MS} {ds : List D} {ρ ρ1 : Cells} (h : fi ρ = .ok ds ρ1) : mFor fi g m ρ = loopM g m ds ρ1 := by
  unfold mFor mDo
  rw [h]
section
variable {n t : Int} {rows : List (List Int)} {p be : List (Option Int)} {T : List D}
end
end Fx
set_option Elab.async false
set_option linter.all false
set_option maxRecDepth 100000
set_option maxHeartbeats 1000000
namespace Fx
open PySem L2
section
variable {n t : Int} {rows : List (List Int)} {p be : List (Option Int)} {ys : List Int}
end
end Fx
set_option Elab.async false
set_option linter.all false
set_option maxRecDepth 100000
set_option maxHeartbeats 1000000
namespace Fx
open PySem L2
local macro_rules
  | `(tactic| trivial) => `(tactic| (repeat (first | with_reducible assumption | ((with_reducible apply vv_id); apply_rules (transparency := .reducible) (maxDepth := 1) (symm := false) (exfalso := false) only [vk0, vk1, vk2, vk3, vk4, vk5, vk6, vk7, vk8, vk9, vk10, vk11, vk12, vk13, vk14, vk15, vk16]) | ((with_reducible apply gg_id); first | apply_rules (transparency := .reducible) (maxDepth := 1) (symm := false) (exfalso := false) only [gk0, gk1, gk2, gk3, gk4, gk5, gk6, gk7, gk8, gk9, gk10, gk11, gk12, gk13, gk14, gk15, gk16] | apply_rules (transparency := .reducible) (maxDepth := 1) (symm := false) (exfalso := false) only [getAt_z, getAt_s]) | ((with_reducible apply ss_id); first | apply_rules (transparency := .reducible) (maxDepth := 1) (symm := false) (exfalso := false) only [sk0, sk1, sk2, sk3, sk4, sk5, sk6, sk7, sk8, sk9, sk10, sk11, sk12, sk13, sk14, sk15, sk16] | apply_rules (transparency := .reducible) (maxDepth := 1) (symm := false) (exfalso := false) only [setAt_z, setAt_s]) | ((with_reducible apply g_seq); first | (with_reducible refine s_step (by with_reducible assumption) ?_) | (with_reducible refine s_retS (by with_reducible assumption)) | apply_rules (transparency := .reducible) (maxDepth := 1) (symm := false) (exfalso := false) only [s_assoc, s_skip, s_asg, s_new, s_expr, s_ret, s_retN, s_t, s_f, s_if, s_par, s_par3, s_new2, s_setIx, s_augV, s_setS, s_setM, s_newO, s_newO0, s_raise] | ((with_reducible apply s_frz); apply_rules (transparency := .reducible) (maxDepth := 1) (symm := false) (exfalso := false) only [gk0, gk1, gk2, gk3, gk4, gk5, gk6, gk7, gk8, gk9, gk10, gk11, gk12, gk13, gk14, gk15, gk16]) | ((with_reducible apply s_frzD); apply_rules (transparency := .reducible) (maxDepth := 1) (symm := false) (exfalso := false) only [gk0, gk1, gk2, gk3, gk4, gk5, gk6, gk7, gk8, gk9, gk10, gk11, gk12, gk13, gk14, gk15, gk16]) | (with_reducible refine s_for ?_ (by with_reducible assumption) ?_) | (with_reducible refine s_forR ?_ (by with_reducible assumption)) | (with_reducible refine s_while (by with_reducible assumption) ?_) | (with_reducible refine s_whileR (by with_reducible assumption)) | (with_reducible refine s_for (?_) (by assumption) ?_)) | apply_rules (transparency := .reducible) (maxDepth := 1) (symm := false) (exfalso := false) only [v_pure, x_callD, y_op2, y_call1, y_call2, y_sl1, y_sl2, y_tup2, y_tup1, y_fo1, y_fo2, y_fo0, y_fo3, y_fn1, y_fn2, y_fn3, y_fn4, y_fn5, x_op2, p_dat, p_own, v_var, x_callD, x_callF, x_callK, x_callW, x_callN, x_make, x_call, x_tup, x_lst, x_neg, x_meth, x_methWR, x_methWD, x_methW, x_sl, x_rev, x_fld, x_chain, x_lenF, x_lenset, x_methF, x_isF, x_eqF, x_kd, x_km, x_neF, x_makeK, x_methK, x_cmp, x_lrn, x_tupRg, pt_s, pt_n, i_seq, i_en, i_rng, i_zip, i_zipN, b_b, b_not, b_and, b_or, x_if, x_andV, x_orV, x_notV, andK_t, andK_f, orK_f, orK_t, chK_t, chK_f, ifK_t, ifK_f, x_lcU, x_lc, s_end, pk_n, pk_c, at_z, at_s, put_n, put_c, wl_n, wl_c, mp_r, tg_nm, tg_tp, tgs_n, tgs_c, pl_n, pl_c, rl_n, rl_c, ra_n, ra_d, ra_o, sq_n, sq_c, app_n, app_c, r_dat, r_own, lcE_i, no_n, no_c, nw_d, nw_n, nw_o, nb_lt, nb_lf, nb_ltn, nb_lfn] | ((with_reducible apply nb_id); first | with_reducible exact nb_nf rfl | with_reducible exact nb_t rfl | exact nb_h (by with_reducible assumption) | exact nb_hf (by with_reducible assumption) | exact nb_hn (by with_reducible assumption) | exact nb_hnf (by with_reducible assumption) | exact nb_t (by with_reducible assumption) | exact nb_f (by with_reducible assumption) | exact nb_nt (by with_reducible assumption) | exact nb_nf (by with_reducible assumption) | exact nb_t (by omega) | exact nb_f (by omega) | exact nb_nt (by omega) | exact nb_nf (by omega) | exact nb_t (by decide) | exact nb_f (by decide) | exact nb_nt (by decide) | exact nb_nf (by decide)) | apply_rules (transparency := .reducible) (maxDepth := 1) (symm := false) (exfalso := false) only [sEq_int, sNe_int, sEq_opt, sNe_opt, sIsN_opt, sNotN_opt, sNotN_int, sIsN_int, sNotN_tup, sIsN_tup, sNotN_lst, sIsN_lst, sNotN_non, sIsN_non, sIn_tup, sNin_tup, sIn_lst, sNin_lst, sEq_tup, sEq_lst, sNe_lst, sNe_tup, sIx_plc, sIx_rows, sIx_rowsL, sIn_row, sNin_row, sLen_row, sLen_plc, isTup_row, isTup_plc, sLen_ints, sLen_tints, sLen_rows, sLen_rowsT, sLen_lst, sLen_tup, isTupD] | ((with_reducible apply is_id); exact is_r) | ((with_reducible apply f_od); exact rfl) | ((with_reducible apply f_ol); exact rfl) | ((with_reducible apply f_op); exact rfl) | ((with_reducible apply f_bt); exact rfl) | ((with_reducible apply f_on); exact rfl) | ((with_reducible apply f_ld); exact rfl) | intro x hx | intro hb | omega | with_reducible apply s_one)))
/-- no whole number, or a bool -/
def NoI (d : D) : Prop := sIsi [d, .raw (.ty "int")] = some (.bl false) ∨ (sIsi [d, .raw (.ty "int")] = some (.bl true) ∧ sIsi [d, .raw (.ty "bool")] = some (.bl true))
theorem no_odd {d : D} (h : Odd d) : NoI d := by
  cases h with
  | non => exact .inl (by simp [sIsi, tyName, kb_nonetype_int])
  | bl b => exact .inr ⟨by simp [sIsi, tyName, kb_bool_int], by simp [sIsi, tyName, kb_bool_bool]⟩
  | str => exact .inl (by simp [sIsi, tyName, kb_str_int])
  | lst => exact .inl (by simp [sIsi, tyName, kb_list_int])
  | dic => exact .inl (by simp [sIsi, tyName, kb_dict_int])
theorem e_frm_no {d : D} (h : NoI d) (x y : Int) : m_is_from [d, .int x, .int y] = .ret (.bl false) [] := by
  have e : m_is_int [d] = .ret (.bl false) [] := by
    rcases h with q | ⟨q, q2⟩
    · (unfold m_is_int; apply s_run (ρ0 := [.dat (d)]) rfl; unfold b_is_int)
      · trivial
      · rfl
    · (unfold m_is_int; apply s_run (ρ0 := [.dat (d)]) rfl; unfold b_is_int)
      · trivial
      · rfl
  (unfold m_is_from; apply s_run (ρ0 := [.dat (d), .dat (.int x), .dat (.int y)]) rfl; unfold b_is_from)
  · trivial
  · rfl
section
variable {n t : Int} {rows : List (List Int)} {p : List (Option Int)} {st : List Int} {T : List D}
end
end Fx
set_option Elab.async false
set_option linter.all false
set_option maxRecDepth 100000
set_option maxHeartbeats 1000000
namespace Fx
open PySem L2
theorem mOr_ok {f g : M Bool} {ρ : Cells} {a b : Bool} (h1 : f ρ = .ok a ρ) (h2 : a = false → g ρ = .ok b ρ) : mOr f g ρ = .ok (a || b) ρ := by
  unfold mOr M.bind
  rw [h1]
  cases a with
  | true => rfl
  | false => exact h2 rfl
theorem mAnd_ok {f g : M Bool} {ρ : Cells} {a b : Bool} (h1 : f ρ = .ok a ρ) (h2 : a = true → g ρ = .ok b ρ) : mAnd f g ρ = .ok (a && b) ρ := by
  unfold mAnd M.bind
  rw [h1]
  cases a with
  | true => exact h2 rfl
  | false => rfl
theorem mNot_ok {f : M Bool} {ρ : Cells} {a : Bool} (h1 : f ρ = .ok a ρ) : mNot f ρ = .ok (!a) ρ := by
  unfold mNot M.bind
  rw [h1]
  rfl
theorem if_val {f : M Bool} {A B : MS} {ρ : Cells} {b : Bool} {o1 o2 : OutS} (h : f ρ = .ok b ρ) (h1 : b = true → A ρ = o1) (h2 : b = false → B ρ = o2) : mIfS f A B ρ = if b = true then o1 else o2 := by
  cases b with
  | true => exact if_t h (h1 rfl)
  | false => exact if_f h (h2 rfl)
def okI (n : Int) : D → Bool
  | .int v => decide (0 ≤ v) && decide (v < n)
  | _ => false
theorem okI_int {n : Int} {d : D} (h : okI n d = true) : ∃ v, d = .int v ∧ 0 ≤ v ∧ v < n := by
  cases d with
  | int v =>
    simp only [okI, Bool.and_eq_true, decide_eq_true_eq] at h
    exact ⟨v, rfl, h.1, h.2⟩
  | _ => cases h
section
variable {n t : Int} {rows : List (List Int)} {dn : List Int} {T : List D} {d S0 P0 : D}
theorem okI_odd (h : Odd d) : okI n d = false := by cases h <;> rfl
theorem e_frm (h : Itm d) : m_is_from [d, .int 0, .int (n - 1)] = .ret (.bl (okI n d)) [] := by
  rcases h with ⟨v, rfl⟩ | h
  · rw [e_is_from]
    have : decide (v ≤ n - 1) = decide (v < n) := decide_eq_decide.mpr (by omega)
    rw [this]
    rfl
  · rw [e_odd h, okI_odd h]
theorem ends_if {r : Fin} {b : Bool} {o o1 o2 : OutS} (h : o = if b = true then o1 else o2) (h1 : Ends r o1) (hb : b = true) : Ends r o := by
  rw [h, if_pos hb]
  exact h1
theorem next_if {b : Bool} {o o1 o2 : OutS} (h : o = if b = true then o1 else o2) (hb : b = false) : o = o2 := by
  rw [h, if_neg (by rw [hb]; decide)]
end
end Fx
set_option Elab.async false
set_option linter.all false
set_option maxRecDepth 100000
set_option maxHeartbeats 1000000
namespace Fx
open PySem L2
theorem c1_ok {sem : List D → Option D} {f : M D} {ρ : Cells} {a d : D} (h1 : f ρ = .ok a ρ) (h : sem [a] = some d) : mCall sem [.dat f] ρ = .ok d ρ := by
  unfold mCall
  simp [preL, M.bind, Opn.pre, h1, Out.andThen, M.pure, rdLM, Opn.rd, rdL, rdM, M.lift, h]
theorem exprX {f : M D} {x : Exc} {ρ ρ1 : Cells} (h : f ρ = .exc x ρ1) : mExpr f ρ = .exc x ρ1 := by
  unfold mExpr mDo
  rw [h]
theorem forX {fi : M (List D)} {g : TgM} {m : MS} {ds : List D} {ρ ρ1 ρ2 : Cells} {x : Exc} (h1 : fi ρ = .ok ds ρ1) (h2 : loopM g m ds ρ1 = .exc x ρ2) : mFor fi g m ρ = .exc x ρ2 := (for_o h1).trans h2
section
variable {n t : Int} {rows : List (List Int)} {dn : List Int} {T P : List D} {d S0 P0 : D}
theorem tup_true (ds : List D) : sIsi [.tup ds, .raw (.ty "tuple")] = some (.bl true) := isTupD ds
end
end Fx
set_option Elab.async false
set_option linter.all false
set_option maxRecDepth 100000
set_option maxHeartbeats 1000000
namespace Fx
open PySem L2
theorem lam_x {ok : D → D} {hv : Exc → Option D} {f : M D} {ρ ρ1 : Cells} {x : Exc} {e : D} (h : f (dropOwn ρ) = .exc x ρ1) (h2 : hv x = some e) : mLamX ok hv f ρ = .ok e ρ := by
  unfold mLamX
  rw [h]
  dsimp only
  rw [h2]
section
variable {n t : Int} {rows : List (List Int)} {T : List D} {p : List (Option Int)}
theorem cut_mem {lo hi : Option Int} {e : D} (h : e ∈ cutD T lo hi) : e ∈ T := List.mem_of_mem_drop (List.mem_of_mem_take h)
end
end Fx
set_option Elab.async false
set_option linter.all false
set_option maxRecDepth 100000
set_option maxHeartbeats 1000000
namespace Fx
open PySem L2
local macro_rules
  | `(tactic| trivial) => `(tactic| (repeat (first | with_reducible assumption | ((with_reducible apply vv_id); apply_rules (transparency := .reducible) (maxDepth := 1) (symm := false) (exfalso := false) only [vk0, vk1, vk2, vk3, vk4, vk5, vk6, vk7, vk8, vk9, vk10, vk11, vk12, vk13, vk14, vk15, vk16]) | ((with_reducible apply gg_id); first | apply_rules (transparency := .reducible) (maxDepth := 1) (symm := false) (exfalso := false) only [gk0, gk1, gk2, gk3, gk4, gk5, gk6, gk7, gk8, gk9, gk10, gk11, gk12, gk13, gk14, gk15, gk16] | apply_rules (transparency := .reducible) (maxDepth := 1) (symm := false) (exfalso := false) only [getAt_z, getAt_s]) | ((with_reducible apply ss_id); first | apply_rules (transparency := .reducible) (maxDepth := 1) (symm := false) (exfalso := false) only [sk0, sk1, sk2, sk3, sk4, sk5, sk6, sk7, sk8, sk9, sk10, sk11, sk12, sk13, sk14, sk15, sk16] | apply_rules (transparency := .reducible) (maxDepth := 1) (symm := false) (exfalso := false) only [setAt_z, setAt_s]) | ((with_reducible apply g_seq); first | (with_reducible refine s_step (by with_reducible assumption) ?_) | (with_reducible refine s_retS (by with_reducible assumption)) | apply_rules (transparency := .reducible) (maxDepth := 1) (symm := false) (exfalso := false) only [s_assoc, s_skip, s_asg, s_new, s_expr, s_ret, s_retN, s_t, s_f, s_if, s_par, s_par3, s_new2, s_setIx, s_augV, s_setS, s_setM, s_newO, s_newO0, s_raise] | ((with_reducible apply s_frz); apply_rules (transparency := .reducible) (maxDepth := 1) (symm := false) (exfalso := false) only [gk0, gk1, gk2, gk3, gk4, gk5, gk6, gk7, gk8, gk9, gk10, gk11, gk12, gk13, gk14, gk15, gk16]) | ((with_reducible apply s_frzD); apply_rules (transparency := .reducible) (maxDepth := 1) (symm := false) (exfalso := false) only [gk0, gk1, gk2, gk3, gk4, gk5, gk6, gk7, gk8, gk9, gk10, gk11, gk12, gk13, gk14, gk15, gk16]) | (with_reducible refine s_for ?_ (by with_reducible assumption) ?_) | (with_reducible refine s_forR ?_ (by with_reducible assumption)) | (with_reducible refine s_while (by with_reducible assumption) ?_) | (with_reducible refine s_whileR (by with_reducible assumption)) | (with_reducible refine s_for (?_) (by assumption) ?_)) | apply_rules (transparency := .reducible) (maxDepth := 1) (symm := false) (exfalso := false) only [v_pure, x_callD, y_op2, y_call1, y_call2, y_sl1, y_sl2, y_tup2, y_tup1, y_fo1, y_fo2, y_fo0, y_fo3, y_fn1, y_fn2, y_fn3, y_fn4, y_fn5, x_op2, p_dat, p_own, v_var, x_callD, x_callF, x_callK, x_callW, x_callN, x_make, x_call, x_tup, x_lst, x_neg, x_meth, x_methWR, x_methWD, x_methW, x_sl, x_rev, x_fld, x_chain, x_lenF, x_lenset, x_methF, x_isF, x_eqF, x_kd, x_km, x_neF, x_makeK, x_methK, x_cmp, x_lrn, x_tupRg, pt_s, pt_n, i_seq, i_en, i_rng, i_zip, i_zipN, b_b, b_not, b_and, b_or, x_if, x_andV, x_orV, x_notV, andK_t, andK_f, orK_f, orK_t, chK_t, chK_f, ifK_t, ifK_f, x_lcU, x_lc, s_end, pk_n, pk_c, at_z, at_s, put_n, put_c, wl_n, wl_c, mp_r, tg_nm, tg_tp, tgs_n, tgs_c, pl_n, pl_c, rl_n, rl_c, ra_n, ra_d, ra_o, sq_n, sq_c, app_n, app_c, r_dat, r_own, lcE_i, no_n, no_c, nw_d, nw_n, nw_o, nb_lt, nb_lf, nb_ltn, nb_lfn] | ((with_reducible apply nb_id); first | with_reducible exact nb_nf rfl | with_reducible exact nb_t rfl | exact nb_h (by with_reducible assumption) | exact nb_hf (by with_reducible assumption) | exact nb_hn (by with_reducible assumption) | exact nb_hnf (by with_reducible assumption) | exact nb_t (by with_reducible assumption) | exact nb_f (by with_reducible assumption) | exact nb_nt (by with_reducible assumption) | exact nb_nf (by with_reducible assumption) | exact nb_t (by omega) | exact nb_f (by omega) | exact nb_nt (by omega) | exact nb_nf (by omega) | exact nb_t (by decide) | exact nb_f (by decide) | exact nb_nt (by decide) | exact nb_nf (by decide)) | apply_rules (transparency := .reducible) (maxDepth := 1) (symm := false) (exfalso := false) only [sEq_int, sNe_int, sEq_opt, sNe_opt, sIsN_opt, sNotN_opt, sNotN_int, sIsN_int, sNotN_tup, sIsN_tup, sNotN_lst, sIsN_lst, sNotN_non, sIsN_non, sIn_tup, sNin_tup, sIn_lst, sNin_lst, sEq_tup, sEq_lst, sNe_lst, sNe_tup, sIx_plc, sIx_rows, sIx_rowsL, sIn_row, sNin_row, sLen_row, sLen_plc, isTup_row, isTup_plc, sLen_ints, sLen_tints, sLen_rows, sLen_rowsT, sLen_lst, sLen_tup, isTupD] | ((with_reducible apply is_id); exact is_r) | ((with_reducible apply f_od); exact rfl) | ((with_reducible apply f_ol); exact rfl) | ((with_reducible apply f_op); exact rfl) | ((with_reducible apply f_bt); exact rfl) | ((with_reducible apply f_on); exact rfl) | ((with_reducible apply f_ld); exact rfl) | intro x hx | intro hb | omega | with_reducible apply s_one)))
theorem orV_ok {f g : M D} {ρ : Cells} {a b : Bool} (h1 : f ρ = .ok (.bl a) ρ) (h2 : a = false → g ρ = .ok (.bl b) ρ) : mOrV f g ρ = .ok (.bl (a || b)) ρ := by
  unfold mOrV M.bind
  rw [mB_ok h1]
  cases a with
  | true => rfl
  | false => exact h2 rfl
theorem lay_all : ∀ {T : List D}, (∀ d ∈ T, (toPy d).canLay0 = true) → PyData.canLayAll0 (toPys T) = true
  | [], _ => by simp [toPys, PyData.canLayAll0]
  | d :: T, h => by
    have h1 := h d List.mem_cons_self
    have h2 := lay_all fun x hx => h x (List.mem_cons_of_mem _ hx)
    simp [toPys, PyData.canLayAll0, h1, h2]
theorem sEq_nilT {T : List D} (h : ∀ d ∈ T, (toPy d).canLay0 = true) : sEq (.tup T) (.tup []) = some (.bl T.isEmpty) := by
  have h1 := lay_all h
  have a : plain (.tup T) = true := by simp [plain, toPy, PyData.canLay0, h1]
  have b : plain (.tup []) = true := by simp [plain, toPy, toPys, PyData.canLay0, PyData.canLayAll0]
  have c : (toPy (.tup [])).depth = 1 := by simp [toPy, toPys, PyData.depth, PyData.depthAll]
  unfold sEq
  rw [a, b, c, decide_eq_true (by omega : min (toPy (.tup T)).depth 1 ≤ 63)]
  show some (D.bl _) = _
  cases T <;> simp [eqD, toPy, toPys, PyData.eqv, PyData.eqvAll]
theorem sNe_nilL {T : List D} (h : ∀ d ∈ T, (toPy d).canLay0 = true) : sNe (.lst T) (.lst []) = some (.bl (!T.isEmpty)) := by
  have h1 := lay_all h
  have a : plain (.lst T) = true := by simp [plain, toPy, PyData.canLay0, h1]
  have b : plain (.lst []) = true := by simp [plain, toPy, toPys, PyData.canLay0, PyData.canLayAll0]
  have c : (toPy (.lst [])).depth = 1 := by simp [toPy, toPys, PyData.depth, PyData.depthAll]
  unfold sNe
  rw [a, b, c, decide_eq_true (by omega : min (toPy (.lst T)).depth 1 ≤ 63)]
  show some (D.bl _) = _
  cases T <;> simp [eqD, toPy, toPys, PyData.eqv, PyData.eqvAll]
theorem pn_nilL : Pn 1 (.lst []) := .lst fun d hd => nomatch hd
/-- an item of the lists -/
inductive RowU : D → Prop
  | tup (T : List D) (hT : ∀ d ∈ T, Itm d) (hp : ∀ d ∈ T, (toPy d).canLay0 = true) (hl : T.length ≤ 4000) : RowU (.tup T)
  | no (d : D) (h : sIsi [d, .raw (.ty "tuple")] = some (.bl false)) : RowU d
def badRow (n : Int) : D → Bool
  | .tup T => T.isEmpty || (!T.all (okI n) || decide ((dedupI (intsD T)).length ≠ T.length))
  | _ => true
section
variable {n : Int} {T L : List D} {M0 d : D}
theorem sIsi_tup_not {d : D} (h : sIsi [d, .raw (.ty "tuple")] = some (.bl false)) : ∀ T, d ≠ .tup T := fun T z => by
  subst z
  rw [tup_true] at h
  cases h
theorem badRow_no (h : sIsi [d, .raw (.ty "tuple")] = some (.bl false)) : badRow n d = true := by
  cases d with
  | tup T => exact absurd rfl (sIsi_tup_not h T)
  | _ => rfl
theorem all_ints (h : T.all (okI n) = true) : T = (intsD T).map .int := ints_of fun d hd => by
  obtain ⟨v, e, _⟩ := okI_int (List.all_eq_true.mp h d hd)
  exact ⟨v, e⟩
theorem dd_le (l : List Int) : (dedupI l).length ≤ l.length := by
  induction l with
  | nil => exact Nat.le_refl _
  | cons a l ih =>
    unfold dedupI
    split
    · rw [List.length_cons]; omega
    · rw [List.length_cons, List.length_cons]; omega
theorem len_set (h : T.all (okI n) = true) (hl : T.length ≤ 4000) : sLenSet (.tup T) = some (.int ((dedupI (intsD T)).length : Nat)) := by
  have e := all_ints h
  have hl2 : (intsD T).length = T.length := by
    have := congrArg List.length e
    rw [List.length_map] at this
    exact this.symm
  rw [show (D.tup T) = .tup ((intsD T).map .int) from congrArg D.tup e]
  show (intsOf ((intsD T).map .int)).bind (fun is => if is.length ≤ 4000 then some (D.int (dedupI is).length) else none) = _
  rw [intsOf_map]
  show (if (intsD T).length ≤ 4000 then some (D.int (dedupI (intsD T)).length) else none) = _
  rw [if_pos (by omega)]
theorem blsOf_okI : ∀ T : List D, blsOf (T.map fun d => D.bl (okI n d)) = some (T.map (okI n))
  | [] => rfl
  | d :: T => by
    have := blsOf_okI T
    simp only [List.map_cons, blsOf, this, Option.map_some]
theorem ir_lc (hT : ∀ d ∈ T, Itm d) : (mLc (mSeqI (mVar 0)) (gNm 2) (M.pure true) (mCallF m_is_from [(.dat (mVar 2)), (.dat (M.pure (.int 0))), (.dat (mOp2 sSub (.dat (mVar 1)) (.dat (M.pure (.int 1)))))]) [2]) [.dat (.tup T), .dat (.int n), .no] = .ok (.lst (T.map fun d => D.bl (okI n d))) [.dat (.tup T), .dat (.int n), .no] := by
  refine x_lcU (vs := [2]) (em := fun d : D => d) (f := fun d => D.bl (okI n d)) (xs := T) (ds := T) (ρ1 := [.dat (.tup T), .dat (.int n), .no]) (w := [.dat (.tup T), .dat (.int n), .no]) (i_seq rfl rfl) (by unfold Mp; simp) rfl rfl fun d hd => ?_
  have e := e_frm (n := n) (hT d hd)
  have q : sSub (.int n) (.int 1) = some (.int (n - 1)) := rfl
  generalize okI n d = bb at *
  generalize (.tup T : D) = TX at *
  trivial
theorem e_isrow (h : RowU d) : m_is_row [d, .int n] = .ret (.bl (!badRow n d)) [] := by
  cases h with
  | no d h =>
    rw [badRow_no h]
    exact s_run (ρ0 := [.dat d, .dat (.int n), .no]) rfl (s_stepR (if_t (mOr_t (mNot_ok (mB_ok (call1_ok rfl rfl h)))) rfl)) rfl
  | tup T hT hp hl =>
    have q1 := tup_true T
    have q2 : sEq (.tup T) (.tup []) = some (.bl T.isEmpty) := sEq_nilT hp
    have t0 : (mOr (mNot (mB (mCall sIsi [(.dat (mVar 0)), (.dat (M.pure (.raw (.ty "tuple"))))]))) (mB (mOp2 sEq (.dat (mVar 0)) (.dat (mTup []))))) [.dat (.tup T), .dat (.int n), .no] = .ok (false || T.isEmpty) [.dat (.tup T), .dat (.int n), .no] := mOr_ok (mNot_ok (mB_ok (call1_ok rfl rfl q1))) fun _ => mB_ok (mOp2_dd rfl rfl q2)
    rw [Bool.false_or] at t0
    have q3 : sAll [.lst (T.map fun d => D.bl (okI n d))] = some (.bl (T.all (okI n))) := by
      show (blsOf _).map _ = _
      rw [blsOf_okI]
      show some (D.bl _) = _
      rw [List.all_map]
      rfl
    have t1 : mNot (mB (mCall sAll [(.dat (mLc (mSeqI (mVar 0)) (gNm 2) (M.pure true) (mCallF m_is_from [(.dat (mVar 2)), (.dat (M.pure (.int 0))), (.dat (mOp2 sSub (.dat (mVar 1)) (.dat (M.pure (.int 1)))))]) [2]))])) [.dat (.tup T), .dat (.int n), .no] = .ok (!T.all (okI n)) [.dat (.tup T), .dat (.int n), .no] := mNot_ok (mB_ok (c1_ok (ir_lc hT) q3))
    cases h0 : T.isEmpty with
    | true =>
      rw [h0] at t0
      have : badRow n (.tup T) = true := by simp [badRow, h0]
      rw [this]
      exact s_run (ρ0 := [.dat (.tup T), .dat (.int n), .no]) rfl (s_stepR (if_t t0 rfl)) rfl
    | false =>
      rw [h0] at t0
      cases h1 : T.all (okI n) with
      | false =>
        rw [h1] at t1
        have : badRow n (.tup T) = true := by simp [badRow, h1]
        rw [this]
        exact s_run (ρ0 := [.dat (.tup T), .dat (.int n), .no]) rfl (s_step (if_f t0 rfl) (s_stepR (if_t t1 rfl))) rfl
      | true =>
        rw [h1] at t1
        have e : (!badRow n (.tup T)) = decide (((dedupI (intsD T)).length : Int) = (T.length : Nat)) := by
          have a : badRow n (.tup T) = decide ((dedupI (intsD T)).length ≠ T.length) := by simp [badRow, h0, h1]
          rw [a]
          by_cases z : (dedupI (intsD T)).length = T.length
          · rw [decide_eq_true (show ((dedupI (intsD T)).length : Int) = (T.length : Nat) by omega), decide_eq_false (fun y => y z)]
            rfl
          · rw [decide_eq_false (show ¬ ((dedupI (intsD T)).length : Int) = (T.length : Nat) by omega), decide_eq_true z]
            rfl
        rw [e]
        have q4 : mLenSet (mVar 0) [.dat (.tup T), .dat (.int n), .no] = .ok (.int ((dedupI (intsD T)).length : Nat)) [.dat (.tup T), .dat (.int n), .no] := x_lenset rfl (len_set h1 hl)
        have q5 : mOp2 sEq (.dat (mLenSet (mVar 0))) (.dat (mCall sLen [(.dat (mVar 0))])) [.dat (.tup T), .dat (.int n), .no] = .ok (.bl (decide (((dedupI (intsD T)).length : Int) = (T.length : Nat)))) [.dat (.tup T), .dat (.int n), .no] := mOp2_dd q4 (c1_ok rfl sLen_tup) (by rw [sEq_int])
        have r5 : mRet (mOp2 sEq (.dat (mLenSet (mVar 0))) (.dat (mCall sLen [(.dat (mVar 0))]))) [.dat (.tup T), .dat (.int n), .no] = .ret (.bl (decide (((dedupI (intsD T)).length : Int) = (T.length : Nat)))) [.dat (.tup T), .dat (.int n), .no] := by
          unfold mRet mDo
          rw [q5]
        exact s_run (ρ0 := [.dat (.tup T), .dat (.int n), .no]) rfl (s_step (if_f t0 rfl) (s_step (if_f t1 rfl) r5)) rfl
def rngB (lo hi : Int) (d : D) : Bool := match d with
  | .int v => decide (lo ≤ v) && decide (v ≤ hi)
  | _ => false
theorem e_within (h : Itm d) (lo hi : Int) : m_law_within [d, .int lo, .int hi] = .ret (.bl (rngB lo hi d)) [] := by
  rcases h with ⟨v, rfl⟩ | h
  · have q1 : sIsi [.int v, .raw (.ty "int")] = some (.bl true) := by simp [sIsi, tyName, kit_int]
    have q2 : sIsi [.int v, .raw (.ty "bool")] = some (.bl false) := by simp [sIsi, tyName, kit_ib]
    have q3 : sLe (.int lo) (.int v) = some (.bl (decide (lo ≤ v))) := rfl
    have q4 : sLe (.int v) (.int hi) = some (.bl (decide (v ≤ hi))) := rfl
    show _ = FOut.ret (.bl (decide (lo ≤ v) && decide (v ≤ hi))) []
    by_cases z : lo ≤ v
    · rw [decide_eq_true z] at q3 ⊢
      rw [Bool.true_and]
      generalize decide (v ≤ hi) = bb at *
      (unfold m_law_within; apply s_run (ρ0 := [.dat (.int v), .dat (.int lo), .dat (.int hi)]) rfl; unfold b_law_within)
      · trivial
      · rfl
    · rw [decide_eq_false z] at q3 ⊢
      rw [Bool.false_and]
      (unfold m_law_within; apply s_run (ρ0 := [.dat (.int v), .dat (.int lo), .dat (.int hi)]) rfl; unfold b_law_within)
      · trivial
      · rfl
  · have e : (rngB lo hi d) = false := by cases h <;> rfl
    rw [e]
    rcases no_odd h with q | ⟨q, q2⟩
    · (unfold m_law_within; apply s_run (ρ0 := [.dat (d), .dat (.int lo), .dat (.int hi)]) rfl; unfold b_law_within)
      · trivial
      · rfl
    · (unfold m_law_within; apply s_run (ρ0 := [.dat (d), .dat (.int lo), .dat (.int hi)]) rfl; unfold b_law_within)
      · trivial
      · rfl
theorem e_within1 (h : Itm d) : m_law_within [d, .int 0, .int (n - 1)] = .ret (.bl (okI n d)) [] := by
  rw [e_within h]
  have : rngB 0 (n - 1) d = okI n d := by
    cases d <;> first | rfl | skip
    rename_i v
    show (decide (0 ≤ v) && decide (v ≤ n - 1)) = (decide (0 ≤ v) && decide (v < n))
    rw [decide_eq_decide.mpr (show v ≤ n - 1 ↔ v < n by omega)]
  rw [this]
theorem lb_lc (hT : ∀ d ∈ T, Itm d) (c5 : Cell) : (mLc (mSeqI (mVar 4)) (gNm 5) (mNot (mB (mCallF m_law_within [(.dat (mVar 5)), (.dat (M.pure (.int 0))), (.dat (mOp2 sSub (.dat (mVar 0)) (.dat (M.pure (.int 1)))))]))) (mVar 5) [5]) [.dat (.int n), .dat (.lst L), .dat M0, c5, .dat (.tup T), .no] = .ok (.lst (T.filter fun d => !okI n d)) [.dat (.int n), .dat (.lst L), .dat M0, c5, .dat (.tup T), .no] := by
  have := x_lc (vs := [5]) (g := gNm 5) (tt := (mNot (mB (mCallF m_law_within [(.dat (mVar 5)), (.dat (M.pure (.int 0))), (.dat (mOp2 sSub (.dat (mVar 0)) (.dat (M.pure (.int 1)))))])))) (fe := mVar 5) (em := fun d : D => d) (P := fun d => !okI n d) (f := fun d => d) (xs := T) (ds := T) (ρ := [.dat (.int n), .dat (.lst L), .dat M0, c5, .dat (.tup T), .no]) (ρ1 := [.dat (.int n), .dat (.lst L), .dat M0, c5, .dat (.tup T), .no]) (w := [.dat (.int n), .dat (.lst L), .dat M0, c5, .dat (.tup T), .no]) (fi := mSeqI (mVar 4)) (i_seq rfl rfl) (by unfold Mp; simp) rfl rfl fun d hd => by
    have e := e_within1 (n := n) (hT d hd)
    have q : sSub (.int n) (.int 1) = some (.int (n - 1)) := rfl
    show LcE _ _ _ _ _ d (!okI n d) d
    generalize okI n d = bb at *
    generalize (.tup T : D) = TX at *
    generalize (.lst L : D) = LX at *
    cases bb with
    | true =>
      show LcE _ _ _ _ _ d false d
      trivial
    | false =>
      show LcE _ _ _ _ _ d true d
      trivial
  rw [this]
  simp
theorem lb_body (h : RowU d) (i : Nat) : (mSeq (mIfS (mOr (mNot (mB (mCall sIsi [(.dat (mVar 4)), (.dat (M.pure (.raw (.ty "tuple"))))]))) (mB (mOp2 sEq0 (.dat (mVar 4)) (.dat (mTup []))))) (mRet (mTup [(M.pure (.str "lists")), (mVar 3)])) mSkip) (mSeq (mIfS (mB (mOp2 sNe (.dat (mLc (mSeqI (mVar 4)) (gNm 5) (mNot (mB (mCallF m_law_within [(.dat (mVar 5)), (.dat (M.pure (.int 0))), (.dat (mOp2 sSub (.dat (mVar 0)) (.dat (M.pure (.int 1)))))]))) (mVar 5) [5])) (.dat (mLst [])))) (mRet (mTup [(M.pure (.str "lists")), (mVar 3)])) mSkip) (mIfS (mB (mOp2 sLt (.dat (mLenSet (mVar 4))) (.dat (mCall sLen [(.dat (mVar 4))])))) (mRet (mTup [(M.pure (.str "lists")), (mVar 3)])) mSkip))) [.dat (.int n), .dat (.lst L), .dat M0, .dat (.int (i : Int)), .dat d, .no] = if badRow n d = true then .ret (.tup [.str "lists", .int (i : Int)]) [.dat (.int n), .dat (.lst L), .dat M0, .dat (.int (i : Int)), .dat d, .no] else .next [.dat (.int n), .dat (.lst L), .dat M0, .dat (.int (i : Int)), .dat d, .no] := by
  cases h with
  | no d h =>
    rw [badRow_no h, if_pos rfl]
    exact s_stepR (if_t (mOr_t (mNot_ok (mB_ok (call1_ok rfl rfl h)))) rfl)
  | tup T hT hp hl =>
    have q1 := tup_true T
    have q2 : sEq0 (.tup T) (.tup []) = some (.bl T.isEmpty) := rfl
    have t0 : (mOr (mNot (mB (mCall sIsi [(.dat (mVar 4)), (.dat (M.pure (.raw (.ty "tuple"))))]))) (mB (mOp2 sEq0 (.dat (mVar 4)) (.dat (mTup []))))) [.dat (.int n), .dat (.lst L), .dat M0, .dat (.int (i : Int)), .dat (.tup T), .no] = .ok (false || T.isEmpty) [.dat (.int n), .dat (.lst L), .dat M0, .dat (.int (i : Int)), .dat (.tup T), .no] := mOr_ok (mNot_ok (mB_ok (call1_ok rfl rfl q1))) fun _ => mB_ok (mOp2_dd rfl rfl q2)
    rw [Bool.false_or] at t0
    have hf : sNe (.lst (T.filter fun d => !okI n d)) (.lst []) = some (.bl (!T.all (okI n))) := by
      rw [sNe_nilL fun d hd => hp d (List.mem_filter.mp hd).1]
      cases h1 : T.all (okI n) with
      | true =>
        have : T.filter (fun d => !okI n d) = [] := List.filter_eq_nil_iff.mpr fun d hd => by
          rw [List.all_eq_true.mp h1 d hd]
          decide
        rw [this]
        simp
      | false =>
        have : T.filter (fun d => !okI n d) ≠ [] := fun z => by
          have z := List.filter_eq_nil_iff.mp z
          have : T.all (okI n) = true := List.all_eq_true.mpr fun d hd => by
            have := z d hd
            simpa using this
          rw [h1] at this
          cases this
        simp [this]
    have t1 : mB (mOp2 sNe (.dat (mLc (mSeqI (mVar 4)) (gNm 5) (mNot (mB (mCallF m_law_within [(.dat (mVar 5)), (.dat (M.pure (.int 0))), (.dat (mOp2 sSub (.dat (mVar 0)) (.dat (M.pure (.int 1)))))]))) (mVar 5) [5])) (.dat (mLst []))) [.dat (.int n), .dat (.lst L), .dat M0, .dat (.int (i : Int)), .dat (.tup T), .no] = .ok (!T.all (okI n)) [.dat (.int n), .dat (.lst L), .dat M0, .dat (.int (i : Int)), .dat (.tup T), .no] := mB_ok (mOp2_dd (lb_lc hT _) (y := .lst []) rfl hf)
    cases h0 : T.isEmpty with
    | true =>
      rw [h0] at t0
      rw [show badRow n (.tup T) = true by simp [badRow, h0], if_pos rfl]
      exact s_stepR (if_t t0 rfl)
    | false =>
      rw [h0] at t0
      cases h1 : T.all (okI n) with
      | false =>
        rw [h1] at t1
        rw [show badRow n (.tup T) = true by simp [badRow, h1], if_pos rfl]
        exact s_step (if_f t0 rfl) (s_stepR (if_t t1 rfl))
      | true =>
        rw [h1] at t1
        have hd := dd_le (intsD T)
        have hl2 : (intsD T).length = T.length := by
          have := congrArg List.length (all_ints h1)
          rw [List.length_map] at this
          exact this.symm
        have q4 : mLenSet (mVar 4) [.dat (.int n), .dat (.lst L), .dat M0, .dat (.int (i : Int)), .dat (.tup T), .no] = .ok (.int ((dedupI (intsD T)).length : Nat)) [.dat (.int n), .dat (.lst L), .dat M0, .dat (.int (i : Int)), .dat (.tup T), .no] := x_lenset rfl (len_set h1 hl)
        have q6 : sLt (.int ((dedupI (intsD T)).length : Nat)) (.int (T.length : Nat)) = some (.bl (badRow n (.tup T))) := by
          show some (D.bl (decide _)) = _
          have a : badRow n (.tup T) = decide ((dedupI (intsD T)).length ≠ T.length) := by simp [badRow, h0, h1]
          rw [a]
          refine congrArg (fun b => some (D.bl b)) (decide_eq_decide.mpr ?_)
          omega
        exact s_step (if_f t0 rfl) (s_step (if_f t1 rfl) (if_val (mB_ok (mOp2_dd q4 (c1_ok rfl sLen_tup) q6)) (fun _ => rfl) (fun _ => rfl)))
def badL (n : Int) (L : List D) (k : Nat) : Bool := match L[k]? with
  | some d => badRow n d
  | none => true
theorem badL_at {k : Nat} (h : L[k]? = some d) : badL n L k = badRow n d := by
  unfold badL
  rw [h]
theorem fi_loop (hL : ∀ d ∈ L, RowU d) : (∃ i, i < L.length ∧ badL n L i = true ∧ (∀ j, j < i → badL n L j = false) ∧ Ends (.exc ⟨0, [.int (i : Int), .str "lists"]⟩) (loopM (gTp [4, 5]) (mIfS (mNot (mB (mCallF m_is_row [(.dat (mVar 5)), (.dat (mVar 1))]))) (mRaise 0 [(M.pure (.str "lists")), (mVar 4)]) mSkip) (enumD 0 L) [.own (.rcd [] []), .dat (.int n), .dat (.lst L), .dat M0, .no, .no])) ∨ ((∀ i, i < L.length → badL n L i = false) ∧ ∃ a a', loopM (gTp [4, 5]) (mIfS (mNot (mB (mCallF m_is_row [(.dat (mVar 5)), (.dat (mVar 1))]))) (mRaise 0 [(M.pure (.str "lists")), (mVar 4)]) mSkip) (enumD 0 L) [.own (.rcd [] []), .dat (.int n), .dat (.lst L), .dat M0, .no, .no] = .next [.own (.rcd [] []), .dat (.int n), .dat (.lst L), .dat M0, a, a']) := by
  have h := loop_bad (g := (gTp [4, 5])) (body := (mIfS (mNot (mB (mCallF m_is_row [(.dat (mVar 5)), (.dat (mVar 1))]))) (mRaise 0 [(M.pure (.str "lists")), (mVar 4)]) mSkip)) (fun c c' => [.own (.rcd [] []), .dat (.int n), .dat (.lst L), .dat M0, c, c']) (badL n L) (fun i => .exc ⟨0, [.int (i : Int), .str "lists"]⟩) (enumD 0 L) 0 (fun i dd hd hj c c' => by
    obtain ⟨d, h7, rfl⟩ := enumD_inv 0 i _ _ hd
    simp only [Nat.zero_add] at hj ⊢
    have e := e_isrow (n := n) (hL d (List.mem_of_getElem? h7))
    have k : (mIfS (mNot (mB (mCallF m_is_row [(.dat (mVar 5)), (.dat (mVar 1))]))) (mRaise 0 [(M.pure (.str "lists")), (mVar 4)]) mSkip) [.own (.rcd [] []), .dat (.int n), .dat (.lst L), .dat M0, .dat (.int (i : Int)), .dat d] = if badRow n d = true then .exc ⟨0, [.int (i : Int), .str "lists"]⟩ [.own (.rcd [] []), .dat (.int n), .dat (.lst L), .dat M0, .dat (.int (i : Int)), .dat d] else .next [.own (.rcd [] []), .dat (.int n), .dat (.lst L), .dat M0, .dat (.int (i : Int)), .dat d] := by
      refine if_val ?_ (fun _ => rfl) (fun _ => rfl)
      have := mNot_ok (mB_ok (callF2 (f := mVar 5) (g := mVar 1) (ρ := [.own (.rcd [] []), .dat (.int n), .dat (.lst L), .dat M0, .dat (.int (i : Int)), .dat d]) rfl rfl e))
      rwa [Bool.not_not] at this
    rw [← badL_at h7] at k
    exact ⟨.dat (.int (i : Int)), .dat d, rfl, fun z => ends_if k ⟨_, rfl⟩ z, fun z => ⟨_, _, next_if k z⟩⟩) .no .no
  simpa [enumD_len] using h
theorem lb_loop (hL : ∀ d ∈ L, RowU d) : (∃ i, i < L.length ∧ badL n L i = true ∧ (∀ j, j < i → badL n L j = false) ∧ Ends (.ret (.tup [.str "lists", .int (i : Int)])) (loopM (gTp [3, 4]) (mSeq (mIfS (mOr (mNot (mB (mCall sIsi [(.dat (mVar 4)), (.dat (M.pure (.raw (.ty "tuple"))))]))) (mB (mOp2 sEq0 (.dat (mVar 4)) (.dat (mTup []))))) (mRet (mTup [(M.pure (.str "lists")), (mVar 3)])) mSkip) (mSeq (mIfS (mB (mOp2 sNe (.dat (mLc (mSeqI (mVar 4)) (gNm 5) (mNot (mB (mCallF m_law_within [(.dat (mVar 5)), (.dat (M.pure (.int 0))), (.dat (mOp2 sSub (.dat (mVar 0)) (.dat (M.pure (.int 1)))))]))) (mVar 5) [5])) (.dat (mLst [])))) (mRet (mTup [(M.pure (.str "lists")), (mVar 3)])) mSkip) (mIfS (mB (mOp2 sLt (.dat (mLenSet (mVar 4))) (.dat (mCall sLen [(.dat (mVar 4))])))) (mRet (mTup [(M.pure (.str "lists")), (mVar 3)])) mSkip))) (enumD 0 L) [.dat (.int n), .dat (.lst L), .dat M0, .no, .no, .no])) ∨ ((∀ i, i < L.length → badL n L i = false) ∧ ∃ a a', loopM (gTp [3, 4]) (mSeq (mIfS (mOr (mNot (mB (mCall sIsi [(.dat (mVar 4)), (.dat (M.pure (.raw (.ty "tuple"))))]))) (mB (mOp2 sEq0 (.dat (mVar 4)) (.dat (mTup []))))) (mRet (mTup [(M.pure (.str "lists")), (mVar 3)])) mSkip) (mSeq (mIfS (mB (mOp2 sNe (.dat (mLc (mSeqI (mVar 4)) (gNm 5) (mNot (mB (mCallF m_law_within [(.dat (mVar 5)), (.dat (M.pure (.int 0))), (.dat (mOp2 sSub (.dat (mVar 0)) (.dat (M.pure (.int 1)))))]))) (mVar 5) [5])) (.dat (mLst [])))) (mRet (mTup [(M.pure (.str "lists")), (mVar 3)])) mSkip) (mIfS (mB (mOp2 sLt (.dat (mLenSet (mVar 4))) (.dat (mCall sLen [(.dat (mVar 4))])))) (mRet (mTup [(M.pure (.str "lists")), (mVar 3)])) mSkip))) (enumD 0 L) [.dat (.int n), .dat (.lst L), .dat M0, .no, .no, .no] = .next [.dat (.int n), .dat (.lst L), .dat M0, a, a', .no]) := by
  have h := loop_bad (g := (gTp [3, 4])) (body := (mSeq (mIfS (mOr (mNot (mB (mCall sIsi [(.dat (mVar 4)), (.dat (M.pure (.raw (.ty "tuple"))))]))) (mB (mOp2 sEq0 (.dat (mVar 4)) (.dat (mTup []))))) (mRet (mTup [(M.pure (.str "lists")), (mVar 3)])) mSkip) (mSeq (mIfS (mB (mOp2 sNe (.dat (mLc (mSeqI (mVar 4)) (gNm 5) (mNot (mB (mCallF m_law_within [(.dat (mVar 5)), (.dat (M.pure (.int 0))), (.dat (mOp2 sSub (.dat (mVar 0)) (.dat (M.pure (.int 1)))))]))) (mVar 5) [5])) (.dat (mLst [])))) (mRet (mTup [(M.pure (.str "lists")), (mVar 3)])) mSkip) (mIfS (mB (mOp2 sLt (.dat (mLenSet (mVar 4))) (.dat (mCall sLen [(.dat (mVar 4))])))) (mRet (mTup [(M.pure (.str "lists")), (mVar 3)])) mSkip)))) (fun c c' => [.dat (.int n), .dat (.lst L), .dat M0, c, c', .no]) (badL n L) (fun i => .ret (.tup [.str "lists", .int (i : Int)])) (enumD 0 L) 0 (fun i dd hd hj c c' => by
    obtain ⟨d, h7, rfl⟩ := enumD_inv 0 i _ _ hd
    simp only [Nat.zero_add] at hj ⊢
    have k := lb_body (n := n) (L := L) (M0 := M0) (hL d (List.mem_of_getElem? h7)) i
    rw [← badL_at h7] at k
    exact ⟨.dat (.int (i : Int)), .dat d, rfl, fun z => ends_if k ⟨_, rfl⟩ z, fun z => ⟨_, _, next_if k z⟩⟩) .no .no
  simpa [enumD_len] using h
end
end Fx
set_option Elab.async false
set_option linter.all false
set_option maxRecDepth 100000
set_option maxHeartbeats 1000000
namespace Fx
open PySem L2
def xF (w : Str) (i : Int) : Exc := ⟨0, [.int i, .str w]⟩
theorem hv_fm (w : Str) (i : Int) : hv_law_raised (xF w i) = some (.tup [.str w, .int i]) := by rfl
theorem hv_se (d : D) : hv_law_raised ⟨1, [d]⟩ = some (.tup [.str "session", d]) := by rfl
theorem lam_ok {ok : D → D} {hv : Exc → Option D} {f : M D} {ρ ρ1 : Cells} {d : D} (h : f (dropOwn ρ) = .ok d ρ1) : mLamX ok hv f ρ = .ok (ok d) ρ := by
  unfold mLamX
  rw [h]
theorem makeX {F : Fn} {fs : List (M D)} {ds outs : List D} {ρ ρ1 : Cells} {x : Exc} (h1 : seqM fs ρ = .ok ds ρ1) (h2 : F (.rcd [] [] :: ds) = .exc x outs) : mMake F fs ρ = .exc x ρ1 := by
  unfold mMake M.bind
  simp only [h1, Out.andThen, h2]
section
variable {n : Int} {L : List D} {L0 M0 d : D} {rows : List (List Int)}
theorem e_frmR (h : Itm d) (lo hi : Int) : m_is_from [d, .int lo, .int hi] = .ret (.bl (rngB lo hi d)) [] := by
  rcases h with ⟨v, rfl⟩ | h
  · exact e_is_from v lo hi
  · rw [e_odd h]
    cases h <;> rfl
theorem e_withinR (h : Itm d) (lo hi : Int) : m_law_within [d, .int lo, .int hi] = .ret (.bl (rngB lo hi d)) [] := by
  exact e_within h lo hi
theorem isL01 (l : List D) : sIsi [.lst l, .raw (.ty "list")] = some (.bl true) := by simp [sIsi, tyName, kit_ll]
theorem p0 (n1 : 1 ≤ n) (n30 : n ≤ 30) (a b : D) : (mIfS (mNot (mB (mCallF m_is_from [(.dat (mVar 1)), (.dat (M.pure (.int 1))), (.dat (M.pure (.int 30)))]))) (mRaise 0 [(M.pure (.str "servers")), (mNeg (M.pure (.int 1)))]) mSkip) [.own (.rcd [] []), .dat (.int n), .dat (a), .dat (b), .no, .no] = .next [.own (.rcd [] []), .dat (.int n), .dat (a), .dat (b), .no, .no] := by
  have e := e_is_from n 1 30
  rw [decide_eq_true n1, decide_eq_true n30] at e
  exact if_f (mNot_ok (mB_ok (callF3 (a := .int n) (b := .int 1) (c := .int 30) rfl rfl rfl e))) rfl
theorem l0 (n1 : 1 ≤ n) (n30 : n ≤ 30) (a b : D) : (mIfS (mNot (mB (mCallF m_law_within [(.dat (mVar 0)), (.dat (M.pure (.int 1))), (.dat (M.pure (.int 30)))]))) (mRet (mTup [(M.pure (.str "servers")), (mNeg (M.pure (.int 1)))])) mSkip) [.dat (.int n), .dat (a), .dat (b), .no, .no, .no] = .next [.dat (.int n), .dat (a), .dat (b), .no, .no, .no] := by
  have e := e_withinR (d := .int n) (.inl ⟨n, rfl⟩) 1 30
  rw [show rngB 1 30 (.int n) = true by simp [rngB, n1, n30]] at e
  exact if_f (mNot_ok (mB_ok (callF3 (a := .int n) (b := .int 1) (c := .int 30) rfl rfl rfl e))) rfl
/-- the law and the program agree -/
def AgF (n : Int) (L0 M0 : D) : Prop := ∃ r, m_law_bad [.int n, L0, M0] = .ret r [] ∧ ((r = .non ∧ ∃ ns es, m_Farmdd_initdd [.rcd [] [], .int n, L0, M0] = .ret .non [.rcd ns es]) ∨ ∃ (w : Str) (i : Int), (w = "lists" ∨ w = "failures") ∧ r = .tup [.str w, .int i] ∧ ∃ o, m_Farmdd_initdd [.rcd [] [], .int n, L0, M0] = .exc (xF w i) o)
theorem agf_no (n1 : 1 ≤ n) (n30 : n ≤ 30) (h : sIsi [L0, .raw (.ty "list")] = some (.bl false)) : AgF n L0 M0 := by
  refine ⟨.tup [.str "lists", .int (-1)], ?_, .inr ⟨"lists", -1, .inl rfl, rfl, ?_⟩⟩
  · exact s_run (ρ0 := [.dat (.int n), .dat (L0), .dat (M0), .no, .no, .no]) rfl (s_step (l0 n1 n30 L0 M0) (s_stepR (if_t (mOr_t (mNot_ok (mB_ok (call1_ok rfl rfl h)))) rfl))) rfl
  · exact ⟨_, s_runX (ρ0 := [.own (.rcd [] []), .dat (.int n), .dat (L0), .dat (M0), .no, .no]) rfl (s_step (p0 n1 n30 L0 M0) (s_stepE (if_t (mOr_t (mNot_ok (mB_ok (call1_ok rfl rfl h)))) rfl))) rfl⟩
theorem good_row (h : RowU d) (hb : badRow n d = false) : ∃ r, d = rowD r ∧ RowOk n r := by
  cases h with
  | no d h => rw [badRow_no h] at hb; cases hb
  | tup T hT hp hl =>
    simp only [badRow, Bool.or_eq_false_iff, Bool.not_eq_false', decide_eq_false_iff_not, Decidable.not_not] at hb
    obtain ⟨h0, h1, h2⟩ := hb
    have e := all_ints h1
    have hl2 : (intsD T).length = T.length := by
      have := congrArg List.length e
      rw [List.length_map] at this
      exact this.symm
    refine ⟨intsD T, congrArg D.tup e, fun z => ?_, fun v hv => ?_, ?_, by omega⟩
    · rw [z] at hl2
      have : T = [] := List.eq_nil_of_length_eq_zero (by rw [← hl2]; rfl)
      rw [this] at h0
      cases h0
    · have : D.int v ∈ T := by rw [e]; exact List.mem_map_of_mem hv
      obtain ⟨w, e2, a, b⟩ := okI_int (List.all_eq_true.mp h1 _ this)
      cases e2
      exact ⟨a, b⟩
    · have key : ∀ l : List Int, (dedupI l).length = l.length → l.Nodup := fun l => by
        induction l with
        | nil => exact fun _ => List.nodup_nil
        | cons a l ih =>
          intro h
          have hd := dd_le l
          unfold dedupI at h
          split at h
          · rw [List.length_cons] at h; omega
          · rename_i hc
            rw [List.length_cons, List.length_cons] at h
            exact List.nodup_cons.mpr ⟨fun z => hc (by simpa using z), ih (by omega)⟩
      exact key _ (by omega)
theorem good_rows (hL : ∀ d ∈ L, RowU d) (h : ∀ i, i < L.length → badL n L i = false) : ∃ rows : List (List Int), L = rows.map rowD ∧ ∀ r ∈ rows, RowOk n r := by
  have key : ∀ l : List D, (∀ d ∈ l, ∃ r, d = rowD r ∧ RowOk n r) → ∃ rows : List (List Int), l = rows.map rowD ∧ ∀ r ∈ rows, RowOk n r := fun l => by
    induction l with
    | nil => exact fun _ => ⟨[], rfl, fun (r : List Int) (h : r ∈ []) => nomatch h⟩
    | cons d l ih =>
      intro h
      obtain ⟨r, rfl, hr⟩ := h d List.mem_cons_self
      obtain ⟨rs, rfl, hrs⟩ := ih fun e he => h e (List.mem_cons_of_mem _ he)
      exact ⟨r :: rs, rfl, fun x hx => by
        rcases List.mem_cons.mp hx with z | z
        · rw [z]; exact hr
        · exact hrs x z⟩
  exact key L fun d hd => by
    obtain ⟨i, hi⟩ := List.getElem?_of_mem hd
    have := h i (List.getElem?_eq_some_iff.mp hi).1
    rw [badL_at hi] at this
    exact good_row (hL d hd) this
theorem agf_lst (n1 : 1 ≤ n) (n30 : n ≤ 30) (hL : ∀ d ∈ L, RowU d) (hM : Itm M0) (hl : L.length ≤ 1000) : AgF n (.lst L) M0 := by
  have q1 := isL01 L
  have q2 : sGt (.int (L.length : Nat)) (.int 60) = some (.bl (decide ((60 : Int) < (L.length : Nat)))) := rfl
  have pt : (mOr (mNot (mB (mCall sIsi [(.dat (mVar 2)), (.dat (M.pure (.raw (.ty "list"))))]))) (mB (mOp2 sGt (.dat (mCall sLen [(.dat (mVar 2))])) (.dat (M.pure (.int 60)))))) [.own (.rcd [] []), .dat (.int n), .dat (.lst L), .dat M0, .no, .no] = .ok (false || decide ((60 : Int) < (L.length : Nat))) [.own (.rcd [] []), .dat (.int n), .dat (.lst L), .dat M0, .no, .no] := mOr_ok (mNot_ok (mB_ok (call1_ok rfl rfl q1))) fun _ => mB_ok (mOp2_dd (c1_ok rfl sLen_lst) rfl q2)
  have lt : (mOr (mNot (mB (mCall sIsi [(.dat (mVar 1)), (.dat (M.pure (.raw (.ty "list"))))]))) (mB (mOp2 sGt (.dat (mCall sLen [(.dat (mVar 1))])) (.dat (M.pure (.int 60)))))) [.dat (.int n), .dat (.lst L), .dat M0, .no, .no, .no] = .ok (false || decide ((60 : Int) < (L.length : Nat))) [.dat (.int n), .dat (.lst L), .dat M0, .no, .no, .no] := mOr_ok (mNot_ok (mB_ok (call1_ok rfl rfl q1))) fun _ => mB_ok (mOp2_dd (c1_ok rfl sLen_lst) rfl q2)
  rw [Bool.false_or] at pt lt
  by_cases h60 : (60 : Int) < (L.length : Nat)
  · rw [decide_eq_true h60] at pt lt
    refine ⟨.tup [.str "lists", .int (-1)], ?_, .inr ⟨"lists", -1, .inl rfl, rfl, ?_⟩⟩
    · exact s_run (ρ0 := [.dat (.int n), .dat (.lst L), .dat M0, .no, .no, .no]) rfl (s_step (l0 n1 n30 _ _) (s_stepR (if_t lt rfl))) rfl
    · exact ⟨_, s_runX (ρ0 := [.own (.rcd [] []), .dat (.int n), .dat (.lst L), .dat M0, .no, .no]) rfl (s_step (p0 n1 n30 _ _) (s_stepE (if_t pt rfl))) rfl⟩
  · rw [decide_eq_false h60] at pt lt
    rcases fi_loop (n := n) (M0 := M0) hL with ⟨i, h1, h2, h3, ρ1, h4⟩ | ⟨h1, a, a', h4⟩
    · refine ⟨.tup [.str "lists", .int (i : Int)], ?_, .inr ⟨"lists", (i : Int), .inl rfl, rfl, ?_⟩⟩
      · rcases lb_loop (n := n) (M0 := M0) hL with ⟨j, g1, g2, g3, ρ2, g4⟩ | ⟨g1, _⟩
        · obtain rfl := first_uniq h2 h3 g2 g3
          exact s_run (ρ0 := [.dat (.int n), .dat (.lst L), .dat M0, .no, .no, .no]) rfl (s_step (l0 n1 n30 _ _) (s_step (if_f lt rfl) (s_stepR ((for_o (ds := enumD 0 L) (i_enum (d := .lst L) rfl rfl)).trans g4)))) rfl
        · rw [g1 i h1] at h2; cases h2
      · exact ⟨_, s_runX (ρ0 := [.own (.rcd [] []), .dat (.int n), .dat (.lst L), .dat M0, .no, .no]) rfl (s_step (p0 n1 n30 _ _) (s_step (if_f pt rfl) (s_stepE (forX (ds := enumD 0 L) (i_enum (d := .lst L) rfl rfl) h4)))) rfl⟩
    · rcases lb_loop (n := n) (M0 := M0) hL with ⟨j, g1, g2, g3, ρ2, g4⟩ | ⟨_, b, b', g4⟩
      · rw [h1 j g1] at g2; cases g2
      have ew := e_withinR hM 0 n
      have ef := e_frmR hM 0 n
      have lr : ∀ bb : Bool, rngB 0 n M0 = bb → m_law_bad [.int n, .lst L, M0] = .ret (if bb = true then .non else .tup [.str "failures", .int (-1)]) [] := fun bb hb => by
        rw [hb] at ew
        have w1 : mCallF m_law_within [(.dat (mVar 2)), (.dat (M.pure (.int 0))), (.dat (mVar 0))] [.dat (.int n), .dat (.lst L), .dat M0, b, b', .no] = .ok (.bl bb) [.dat (.int n), .dat (.lst L), .dat M0, b, b', .no] := callF3 (a := M0) (b := .int 0) (c := .int n) rfl rfl rfl ew
        have w2 : mOp2 sIx (.dat (mLst [(mTup [(M.pure (.str "failures")), (mNeg (M.pure (.int 1)))]), (M.pure .non)])) (.dat (mCall sInt [(.dat (mCallF m_law_within [(.dat (mVar 2)), (.dat (M.pure (.int 0))), (.dat (mVar 0))]))])) [.dat (.int n), .dat (.lst L), .dat M0, b, b', .no] = .ok (if bb = true then .non else .tup [.str "failures", .int (-1)]) [.dat (.int n), .dat (.lst L), .dat M0, b, b', .no] := by
          cases bb with
          | true => exact mOp2_dd (x := .lst [.tup [.str "failures", .int (-1)], .non]) (y := .int 1) rfl (c1_ok w1 rfl) (atI_nat [D.tup [.str "failures", .int (-1)], .non] 1)
          | false => exact mOp2_dd (x := .lst [.tup [.str "failures", .int (-1)], .non]) (y := .int 0) rfl (c1_ok w1 rfl) (atI_nat [D.tup [.str "failures", .int (-1)], .non] 0)
        have w3 : mRet (mOp2 sIx (.dat (mLst [(mTup [(M.pure (.str "failures")), (mNeg (M.pure (.int 1)))]), (M.pure .non)])) (.dat (mCall sInt [(.dat (mCallF m_law_within [(.dat (mVar 2)), (.dat (M.pure (.int 0))), (.dat (mVar 0))]))]))) [.dat (.int n), .dat (.lst L), .dat M0, b, b', .no] = .ret (if bb = true then .non else .tup [.str "failures", .int (-1)]) [.dat (.int n), .dat (.lst L), .dat M0, b, b', .no] := by
          unfold mRet mDo
          rw [w2]
        exact s_run (ρ0 := [.dat (.int n), .dat (.lst L), .dat M0, .no, .no, .no]) rfl (s_step (l0 n1 n30 _ _) (s_step (if_f lt rfl) (s_step ((for_o (ds := enumD 0 L) (i_enum (d := .lst L) rfl rfl)).trans g4) w3))) rfl
      cases hr : rngB 0 n M0 with
      | false =>
        refine ⟨_, lr false hr, .inr ⟨"failures", -1, .inr rfl, rfl, ?_⟩⟩
        rw [hr] at ef
        exact ⟨_, s_runX (ρ0 := [.own (.rcd [] []), .dat (.int n), .dat (.lst L), .dat M0, .no, .no]) rfl (s_step (p0 n1 n30 _ _) (s_step (if_f pt rfl) (s_step ((for_o (ds := enumD 0 L) (i_enum (d := .lst L) rfl rfl)).trans h4) (s_stepE (if_t (mNot_ok (mB_ok (callF3 (a := M0) (b := .int 0) (c := .int n) rfl rfl rfl ef))) rfl))))) rfl⟩
      | true =>
        refine ⟨_, lr true hr, .inl ⟨rfl, ?_⟩⟩
        obtain ⟨rows, rfl, hrow⟩ := good_rows hL h1
        cases M0 <;> first | (cases hr; done) | skip
        rename_i t
        simp only [rngB, Bool.and_eq_true, decide_eq_true_eq] at hr
        rw [List.length_map] at h60
        exact ⟨_, _, e_make n1 n30 (by omega) hrow hr.1 hr.2⟩
end
end Fx
set_option Elab.async false
set_option linter.all false
set_option maxRecDepth 100000
set_option maxHeartbeats 1000000
namespace Fx
open PySem L2
local macro_rules
  | `(tactic| trivial) => `(tactic| (repeat (first | with_reducible assumption | ((with_reducible apply vv_id); apply_rules (transparency := .reducible) (maxDepth := 1) (symm := false) (exfalso := false) only [vk0, vk1, vk2, vk3, vk4, vk5, vk6, vk7, vk8, vk9, vk10, vk11, vk12, vk13, vk14, vk15, vk16]) | ((with_reducible apply gg_id); first | apply_rules (transparency := .reducible) (maxDepth := 1) (symm := false) (exfalso := false) only [gk0, gk1, gk2, gk3, gk4, gk5, gk6, gk7, gk8, gk9, gk10, gk11, gk12, gk13, gk14, gk15, gk16] | apply_rules (transparency := .reducible) (maxDepth := 1) (symm := false) (exfalso := false) only [getAt_z, getAt_s]) | ((with_reducible apply ss_id); first | apply_rules (transparency := .reducible) (maxDepth := 1) (symm := false) (exfalso := false) only [sk0, sk1, sk2, sk3, sk4, sk5, sk6, sk7, sk8, sk9, sk10, sk11, sk12, sk13, sk14, sk15, sk16] | apply_rules (transparency := .reducible) (maxDepth := 1) (symm := false) (exfalso := false) only [setAt_z, setAt_s]) | ((with_reducible apply g_seq); first | (with_reducible refine s_step (by with_reducible assumption) ?_) | (with_reducible refine s_retS (by with_reducible assumption)) | apply_rules (transparency := .reducible) (maxDepth := 1) (symm := false) (exfalso := false) only [s_assoc, s_skip, s_asg, s_new, s_expr, s_ret, s_retN, s_t, s_f, s_if, s_par, s_par3, s_new2, s_setIx, s_augV, s_setS, s_setM, s_newO, s_newO0, s_raise] | ((with_reducible apply s_frz); apply_rules (transparency := .reducible) (maxDepth := 1) (symm := false) (exfalso := false) only [gk0, gk1, gk2, gk3, gk4, gk5, gk6, gk7, gk8, gk9, gk10, gk11, gk12, gk13, gk14, gk15, gk16]) | ((with_reducible apply s_frzD); apply_rules (transparency := .reducible) (maxDepth := 1) (symm := false) (exfalso := false) only [gk0, gk1, gk2, gk3, gk4, gk5, gk6, gk7, gk8, gk9, gk10, gk11, gk12, gk13, gk14, gk15, gk16]) | (with_reducible refine s_for ?_ (by with_reducible assumption) ?_) | (with_reducible refine s_forR ?_ (by with_reducible assumption)) | (with_reducible refine s_while (by with_reducible assumption) ?_) | (with_reducible refine s_whileR (by with_reducible assumption)) | (with_reducible refine s_for (?_) (by assumption) ?_)) | apply_rules (transparency := .reducible) (maxDepth := 1) (symm := false) (exfalso := false) only [v_pure, x_callD, y_op2, y_call1, y_call2, y_sl1, y_sl2, y_tup2, y_tup1, y_fo1, y_fo2, y_fo0, y_fo3, y_fn1, y_fn2, y_fn3, y_fn4, y_fn5, x_op2, p_dat, p_own, v_var, x_callD, x_callF, x_callK, x_callW, x_callN, x_make, x_call, x_tup, x_lst, x_neg, x_meth, x_methWR, x_methWD, x_methW, x_sl, x_rev, x_fld, x_chain, x_lenF, x_lenset, x_methF, x_isF, x_eqF, x_kd, x_km, x_neF, x_makeK, x_methK, x_cmp, x_lrn, x_tupRg, pt_s, pt_n, i_seq, i_en, i_rng, i_zip, i_zipN, b_b, b_not, b_and, b_or, x_if, x_andV, x_orV, x_notV, andK_t, andK_f, orK_f, orK_t, chK_t, chK_f, ifK_t, ifK_f, x_lcU, x_lc, s_end, pk_n, pk_c, at_z, at_s, put_n, put_c, wl_n, wl_c, mp_r, tg_nm, tg_tp, tgs_n, tgs_c, pl_n, pl_c, rl_n, rl_c, ra_n, ra_d, ra_o, sq_n, sq_c, app_n, app_c, r_dat, r_own, lcE_i, no_n, no_c, nw_d, nw_n, nw_o, nb_lt, nb_lf, nb_ltn, nb_lfn] | ((with_reducible apply nb_id); first | with_reducible exact nb_nf rfl | with_reducible exact nb_t rfl | exact nb_h (by with_reducible assumption) | exact nb_hf (by with_reducible assumption) | exact nb_hn (by with_reducible assumption) | exact nb_hnf (by with_reducible assumption) | exact nb_t (by with_reducible assumption) | exact nb_f (by with_reducible assumption) | exact nb_nt (by with_reducible assumption) | exact nb_nf (by with_reducible assumption) | exact nb_t (by omega) | exact nb_f (by omega) | exact nb_nt (by omega) | exact nb_nf (by omega) | exact nb_t (by decide) | exact nb_f (by decide) | exact nb_nt (by decide) | exact nb_nf (by decide)) | apply_rules (transparency := .reducible) (maxDepth := 1) (symm := false) (exfalso := false) only [sEq_int, sNe_int, sEq_opt, sNe_opt, sIsN_opt, sNotN_opt, sNotN_int, sIsN_int, sNotN_tup, sIsN_tup, sNotN_lst, sIsN_lst, sNotN_non, sIsN_non, sIn_tup, sNin_tup, sIn_lst, sNin_lst, sEq_tup, sEq_lst, sNe_lst, sNe_tup, sIx_plc, sIx_rows, sIx_rowsL, sIn_row, sNin_row, sLen_row, sLen_plc, isTup_row, isTup_plc, sLen_ints, sLen_tints, sLen_rows, sLen_rowsT, sLen_lst, sLen_tup, isTupD] | ((with_reducible apply is_id); exact is_r) | ((with_reducible apply f_od); exact rfl) | ((with_reducible apply f_ol); exact rfl) | ((with_reducible apply f_op); exact rfl) | ((with_reducible apply f_bt); exact rfl) | ((with_reducible apply f_on); exact rfl) | ((with_reducible apply f_ld); exact rfl) | intro x hx | intro hb | omega | with_reducible apply s_one)))
theorem asg_ok01 {f : M D} {g : TgM} {ρ ρ1 ρ2 : Cells} {d : D} (h : f ρ = .ok d ρ1) (h2 : g d ρ1 = some ρ2) : mAsg f g ρ = .next ρ2 := by
  simp [mAsg, mDo, h, h2]
theorem cmp_ok01 {sem : D → D → Option D} {f g : M D} {ρ ρ1 ρ2 : Cells} {d e r : D} (h : f ρ = .ok d ρ1) (h2 : g ρ1 = .ok e ρ2) (h3 : sem d e = some r) : mCmp sem f g ρ = .ok r ρ2 := by
  unfold mCmp M.bind
  rw [h]
  show (g ρ1).andThen (fun e => M.lift (sem d e)) = _
  rw [h2]
  show M.lift (sem d e) ρ2 = _
  rw [h3]
  rfl
theorem ret01 {f : M D} {d : D} {ρ ρ1 : Cells} (h : f ρ = .ok d ρ1) : mRet f ρ = .ret d ρ1 := by
  unfold mRet mDo
  rw [h]
theorem x_eqFT {F : Fn} {f g : M D} {b : Bool} {outs : List D} {d1 d2 : D} {ρ ρ1 ρ2 : Cells} (h1 : f ρ = .ok d1 ρ1) (h2 : g ρ1 = .ok d2 ρ2) (h3 : (isRcd d1 && isTup d2) = true) (h5 : F [d1, d2] = .ret (.bl b) outs) : mEqFT F f g ρ = .ok (.bl b) ρ2 := by
  unfold mEqFT M.bind
  simp only [h1, h2, Out.andThen, h3, if_pos, h5]
theorem rowD_inj01 {r r' : List Int} (h : rowD r = rowD r') : r = r' := by
  unfold rowD at h
  simp only [D.tup.injEq] at h
  exact (List.map_inj_right fun a b z => by simpa using z).mp h
theorem rows_inj01 {l l' : List (List Int)} (h : l.map rowD = l'.map rowD) : l = l' := (List.map_inj_right fun a b z => rowD_inj01 z).mp h
theorem pn_row01 (r : List Int) : Pn 1 (rowD r) := .tup fun d hd => by
  obtain ⟨v, _, rfl⟩ := List.mem_map.mp hd
  exact .int
theorem pn_rows01 (l : List (List Int)) : ∀ d ∈ l.map rowD, Pn 1 d := fun d hd => by
  obtain ⟨r, _, rfl⟩ := List.mem_map.mp hd
  exact pn_row01 r
section
variable {n n' t t' : Int} {rows rows' : List (List Int)}
theorem pn_parts01 : Pn 3 (.tup [.int n, .tup (rows.map rowD), .int t]) := .tup fun d hd => by
  simp only [List.mem_cons, List.not_mem_nil, or_false] at hd
  rcases hd with rfl | rfl | rfl
  · exact .int
  · exact .tup (pn_rows01 rows)
  · exact .int
theorem e_eqv {b : Bool} (h : sEq (.tup [.int n, .tup (rows.map rowD), .int t]) (.tup [.int n', .tup (rows'.map rowD), .int t']) = some (.bl b)) : m_Farmdd_eqdd [farmD n rows t, farmD n' rows' t'] = .ret (.bl b) [] := by
  have s0 : (mIfS (mNot (mB (mIsFT (mVar 1)))) (mRet (M.pure (.bl false))) mSkip) [.dat (farmD n rows t), .dat (farmD n' rows' t')] = .next [.dat (farmD n rows t), .dat (farmD n' rows' t')] := if_f (mNot_ok (mB_ok (b := true) rfl)) rfl
  refine s_run (ρ0 := [.dat (farmD n rows t), .dat (farmD n' rows' t')]) rfl (s_step s0 (ret01 (mOp2_dd (ρ1 := [.dat (farmD n rows t), .dat (farmD n' rows' t')]) (ρ2 := [.dat (farmD n rows t), .dat (farmD n' rows' t')]) rfl rfl h))) rfl
theorem e_same01 : m_Farmdd_eqdd [farmD n rows t, farmD n rows t] = .ret (.bl true) [] := e_eqv (by
  classical
  rw [sEq_pn pn_parts01 pn_parts01, decide_eq_true rfl])
theorem e_diff01 (h : ¬ (n = n' ∧ rows = rows' ∧ t = t')) : m_Farmdd_eqdd [farmD n rows t, farmD n' rows' t'] = .ret (.bl false) [] := e_eqv (by
  classical
  rw [sEq_pn pn_parts01 pn_parts01, decide_eq_false fun z => h ?_]
  simp only [D.tup.injEq, List.cons.injEq, D.int.injEq, and_true] at z
  exact ⟨z.1, rows_inj01 z.2.1, z.2.2⟩)
theorem e_eqT {l : List D} : m_Farmdd_eqdd [farmD n rows t, .tup l] = .ret (.bl false) [] := s_run (ρ0 := [.dat (farmD n rows t), .dat (.tup l)]) rfl (s_stepR (if_t (mNot_ok (mB_ok (b := false) rfl)) rfl)) rfl
theorem mono_row (h : ∀ r ∈ rows, RowOk n r) : ∀ r ∈ rows, RowOk (n + 1) r := fun r hr => by
  obtain ⟨h1, h2, h3, h4⟩ := h r hr
  exact ⟨h1, fun v hv => by have := h2 v hv; omega, h3, h4⟩
theorem and_ff {a : Bool} {f g : M Bool} {ρ : Cells} (h1 : f ρ = .ok a ρ) (h2 : a = true → g ρ = .ok false ρ) : mAnd f g ρ = .ok false ρ := by
  have := mAnd_ok h1 h2
  rwa [Bool.and_false] at this
theorem er0 (hF : FarmOk n rows) (t0 : 0 ≤ t) (t1 : t ≤ n) : (mAsg (mMake m_Farmdd_initdd [(mVar 0), (mVar 1), (mVar 2)]) (gNm 3)) [.dat (.int n), .dat (D.lst (rows.map rowD)), .dat (.int t), .no, .no, .no, .no] = .next [.dat (.int n), .dat (D.lst (rows.map rowD)), .dat (.int t), .dat (farmD n rows t), .no, .no, .no] := asg_ok01 (make3 (a := .int n) (b := (D.lst (rows.map rowD))) (d := .int t) rfl rfl rfl (e_make hF.n1 hF.n2 hF.len hF.row t0 t1)) rfl
theorem er1 (hF : FarmOk n rows) (t0 : 0 ≤ t) (t1 : t ≤ n) : (mIfS (mOr (mB (mNeF m_Farmdd_eqdd (mVar 3) (mMake m_Farmdd_initdd [(mVar 0), (mCall sList [(.dat (mVar 1))]), (mVar 2)]))) (mB (mEqFT m_Farmdd_eqdd (mVar 3) (mTup [(mVar 0), (mVar 1), (mVar 2)])))) (mRet (M.pure (.bl false))) mSkip) [.dat (.int n), .dat (D.lst (rows.map rowD)), .dat (.int t), .dat (farmD n rows t), .no, .no, .no] = .next [.dat (.int n), .dat (D.lst (rows.map rowD)), .dat (.int t), .dat (farmD n rows t), .no, .no, .no] := by
  have hm := e_make hF.n1 hF.n2 hF.len hF.row t0 t1
  have q : sList [(D.lst (rows.map rowD))] = some (D.lst (rows.map rowD)) := rfl
  have a := x_neF (F := m_Farmdd_eqdd) (f := mVar 3) (g := mMake m_Farmdd_initdd [(mVar 0), (mCall sList [(.dat (mVar 1))]), (mVar 2)]) (ρ := [.dat (.int n), .dat (D.lst (rows.map rowD)), .dat (.int t), .dat (farmD n rows t), .no, .no, .no]) (d1 := farmD n rows t) (d2 := farmD n rows t) rfl (make3 (a := .int n) (b := (D.lst (rows.map rowD))) (d := .int t) rfl (c1_ok rfl q) rfl hm) rfl rfl e_same01
  have b := x_eqFT (F := m_Farmdd_eqdd) (f := mVar 3) (g := mTup [(mVar 0), (mVar 1), (mVar 2)]) (ρ := [.dat (.int n), .dat (D.lst (rows.map rowD)), .dat (.int t), .dat (farmD n rows t), .no, .no, .no]) (d1 := farmD n rows t) (d2 := .tup [.int n, (D.lst (rows.map rowD)), .int t]) rfl rfl rfl e_eqT
  exact if_f (mOr_ok (a := false) (b := false) (mB_ok a) fun _ => mB_ok b) rfl
theorem er2 (hF : FarmOk n rows) (t0 : 0 ≤ t) (t1 : t ≤ n) : (mIfS (mAnd (mB (mOp2 sLt (.dat (mVar 0)) (.dat (M.pure (.int 30))))) (mB (mEqF m_Farmdd_eqdd (mVar 3) (mMake m_Farmdd_initdd [(mOp2 sAdd (.dat (mVar 0)) (.dat (M.pure (.int 1)))), (mVar 1), (mVar 2)])))) (mRet (M.pure (.bl false))) mSkip) [.dat (.int n), .dat (D.lst (rows.map rowD)), .dat (.int t), .dat (farmD n rows t), .no, .no, .no] = .next [.dat (.int n), .dat (D.lst (rows.map rowD)), .dat (.int t), .dat (farmD n rows t), .no, .no, .no] := by
  refine if_f (and_ff (a := decide (n < 30)) (mB_ok (mOp2_dd (x := .int n) (y := .int 30) rfl rfl rfl)) fun z => ?_) rfl
  have z : n < 30 := of_decide_eq_true z
  have hm := e_make (n := n + 1) (by have := hF.n1; omega) (by omega) hF.len (mono_row hF.row) t0 (by omega : t ≤ n + 1)
  exact mB_ok (x_eqF (d1 := farmD n rows t) (d2 := farmD (n + 1) rows t) rfl (make3 (a := .int (n + 1)) (b := (D.lst (rows.map rowD))) (d := .int t) (mOp2_dd (x := .int n) (y := .int 1) rfl rfl rfl) rfl rfl hm) rfl rfl (e_diff01 fun z => by omega))
theorem er3 (hF : FarmOk n rows) (t0 : 0 ≤ t) (t1 : t ≤ n) : (mIfS (mAnd (mB (mOp2 sLt (.dat (mVar 2)) (.dat (mVar 0)))) (mB (mEqF m_Farmdd_eqdd (mVar 3) (mMake m_Farmdd_initdd [(mVar 0), (mVar 1), (mOp2 sAdd (.dat (mVar 2)) (.dat (M.pure (.int 1))))])))) (mRet (M.pure (.bl false))) mSkip) [.dat (.int n), .dat (D.lst (rows.map rowD)), .dat (.int t), .dat (farmD n rows t), .no, .no, .no] = .next [.dat (.int n), .dat (D.lst (rows.map rowD)), .dat (.int t), .dat (farmD n rows t), .no, .no, .no] := by
  refine if_f (and_ff (a := decide (t < n)) (mB_ok (mOp2_dd (x := .int t) (y := .int n) rfl rfl rfl)) fun z => ?_) rfl
  have z : t < n := of_decide_eq_true z
  have hm := e_make hF.n1 hF.n2 hF.len hF.row (by omega : 0 ≤ t + 1) (by omega)
  exact mB_ok (x_eqF (d1 := farmD n rows t) (d2 := farmD n rows (t + 1)) rfl (make3 (a := .int n) (b := (D.lst (rows.map rowD))) (d := .int (t + 1)) rfl rfl (mOp2_dd (x := .int t) (y := .int 1) rfl rfl rfl) hm) rfl rfl (e_diff01 fun z => by omega))
theorem ne_rows (l l' : List (List Int)) : ∃ b, sNe (.lst (l.map rowD)) (.lst (l'.map rowD)) = some (.bl b) ∧ (b = true → l ≠ l') ∧ (l = l' → b = false) := by
  classical
  refine ⟨_, sNe_pn (k := 2) (j := 2) (.lst (pn_rows01 l)) (.lst (pn_rows01 l')), fun z e => ?_, fun e => ?_⟩
  · rw [e] at z
    simp at z
  · rw [e]
    simp
theorem ne_row1 (r r' : List Int) : ∃ b, sNe (rowD r) (rowD r') = some (.bl b) ∧ (b = true → r ≠ r') := by
  classical
  refine ⟨_, sNe_pn (pn_row01 r) (pn_row01 r'), fun z e => ?_⟩
  rw [e] at z
  simp at z
theorem er4 (hF : FarmOk n rows) (t0 : 0 ≤ t) (t1 : t ≤ n) : (mIfS (mAnd (mB (mOp2 sNe (.dat (mVar 1)) (.dat (mRev sRev (.dat (mVar 1)))))) (mB (mEqF m_Farmdd_eqdd (mVar 3) (mMake m_Farmdd_initdd [(mVar 0), (mRev sRev (.dat (mVar 1))), (mVar 2)])))) (mRet (M.pure (.bl false))) mSkip) [.dat (.int n), .dat (D.lst (rows.map rowD)), .dat (.int t), .dat (farmD n rows t), .no, .no, .no] = .next [.dat (.int n), .dat (D.lst (rows.map rowD)), .dat (.int t), .dat (farmD n rows t), .no, .no, .no] := by
  have hr : mRev sRev (.dat (mVar 1)) [.dat (.int n), .dat (D.lst (rows.map rowD)), .dat (.int t), .dat (farmD n rows t), .no, .no, .no] = .ok (.lst (rows.reverse.map rowD)) [.dat (.int n), .dat (D.lst (rows.map rowD)), .dat (.int t), .dat (farmD n rows t), .no, .no, .no] := by
    have q : sRev (D.lst (rows.map rowD)) = some (.lst (rows.reverse.map rowD)) := by
      rw [List.map_reverse]
      rfl
    generalize (.lst (rows.reverse.map rowD) : D) = z at *
    generalize (D.lst (rows.map rowD)) = y at *
    generalize farmD n rows t = fm at *
    trivial
  obtain ⟨b, q, h1, _⟩ := ne_rows rows rows.reverse
  refine if_f (and_ff (mB_ok (mOp2_dd (x := (D.lst (rows.map rowD))) rfl hr q)) fun z => ?_) rfl
  have hm := e_make (rows := rows.reverse) hF.n1 hF.n2 (by rw [List.length_reverse]; exact hF.len) (fun r hr => hF.row r (List.mem_reverse.mp hr)) t0 t1
  exact mB_ok (x_eqF (d1 := farmD n rows t) (d2 := farmD n rows.reverse t) rfl (make3 (a := .int n) (d := .int t) rfl hr rfl hm) rfl rfl (e_diff01 fun y => h1 z y.2.1))
theorem set_cut {rows : List (List Int)} {i : Nat} (r' : List Int) (hi : i < rows.length) : rows.take i ++ [r'] ++ rows.drop (i + 1) = rows.set i r' := by
  rw [List.set_eq_take_append_cons_drop, if_pos hi, List.append_assoc, List.singleton_append]
theorem sAdd_lst01 {a b : List D} (h : a.length + b.length ≤ 16777216) : sAdd (.lst a) (.lst b) = some (.lst (a ++ b)) := by simp [sAdd, h]
theorem er_in (hF : FarmOk n rows) (t0 : 0 ≤ t) (t1 : t ≤ n) {i : Nat} {r r' : List Int} (hi : rows[i]? = some r) (h1 : ∀ v ∈ r', 0 ≤ v ∧ v < n) (h2 : r'.Nodup) (h3 : r'.length ≤ 4000) : (mIfS (mAnd (mB (mOp2 sNe (.dat (mVar 6)) (.dat (mTup [])))) (mB (mOp2 sNe (.dat (mVar 6)) (.dat (mVar 5))))) (mIfS (mB (mEqF m_Farmdd_eqdd (mVar 3) (mMake m_Farmdd_initdd [(mVar 0), (mOp2 sAdd (.dat (mOp2 sAdd (.dat (mSl sCut (.dat (mVar 1)) none (some (mVar 4)))) (.dat (mLst [(mVar 6)])))) (.dat (mSl sCut (.dat (mVar 1)) (some (mOp2 sAdd (.dat (mVar 4)) (.dat (M.pure (.int 1))))) none))), (mVar 2)]))) (mRet (M.pure (.bl false))) mSkip) mSkip) [.dat (.int n), .dat (D.lst (rows.map rowD)), .dat (.int t), .dat (farmD n rows t), .dat (.int (i : Int)), .dat (rowD r), .dat (rowD r')] = .next [.dat (.int n), .dat (D.lst (rows.map rowD)), .dat (.int t), .dat (farmD n rows t), .dat (.int (i : Int)), .dat (rowD r), .dat (rowD r')] := by
  obtain ⟨hi1, hi2⟩ := List.getElem?_eq_some_iff.mp hi
  have h60 := hF.len
  obtain ⟨b0, q0, g0⟩ := ne_row1 r' []
  obtain ⟨b1, q1, g1⟩ := ne_row1 r' r
  have tt := mAnd_ok (a := b0) (b := b1) (mB_ok (mOp2_dd (f := mVar 6) (g := mTup []) (ρ := [.dat (.int n), .dat (D.lst (rows.map rowD)), .dat (.int t), .dat (farmD n rows t), .dat (.int (i : Int)), .dat (rowD r), .dat (rowD r')]) (x := rowD r') (y := rowD []) rfl rfl q0)) fun _ => mB_ok (mOp2_dd (f := mVar 6) (g := mVar 5) (ρ := [.dat (.int n), .dat (D.lst (rows.map rowD)), .dat (.int t), .dat (farmD n rows t), .dat (.int (i : Int)), .dat (rowD r), .dat (rowD r')]) (x := rowD r') (y := rowD r) rfl rfl q1)
  have stp := if_val (A := mIfS (mB (mEqF m_Farmdd_eqdd (mVar 3) (mMake m_Farmdd_initdd [(mVar 0), (mOp2 sAdd (.dat (mOp2 sAdd (.dat (mSl sCut (.dat (mVar 1)) none (some (mVar 4)))) (.dat (mLst [(mVar 6)])))) (.dat (mSl sCut (.dat (mVar 1)) (some (mOp2 sAdd (.dat (mVar 4)) (.dat (M.pure (.int 1))))) none))), (mVar 2)]))) (mRet (M.pure (.bl false))) mSkip) (B := mSkip) (o1 := .next [.dat (.int n), .dat (D.lst (rows.map rowD)), .dat (.int t), .dat (farmD n rows t), .dat (.int (i : Int)), .dat (rowD r), .dat (rowD r')]) (o2 := .next [.dat (.int n), .dat (D.lst (rows.map rowD)), .dat (.int t), .dat (farmD n rows t), .dat (.int (i : Int)), .dat (rowD r), .dat (rowD r')]) tt (fun z => ?_) (fun _ => rfl)
  · rw [ite_self] at stp
    exact stp
  · rw [Bool.and_eq_true] at z
    have ne0 := g0 z.1
    have ne1 := g1 z.2
    have p1 : sCut (D.lst (rows.map rowD)) none (some (i : Int)) = some (.lst ((rows.take i).map rowD)) := by
      show some (D.lst (cutD _ _ _)) = _
      rw [cut_take, List.map_take]
    have p2 : sCut (D.lst (rows.map rowD)) (some ((i : Int) + 1)) none = some (.lst ((rows.drop (i + 1)).map rowD)) := by
      show some (D.lst (cutD _ _ _)) = _
      rw [show ((i : Int) + 1) = ((i + 1 : Nat) : Int) by omega, cut_drop _ (by rw [List.length_map]; omega), List.map_drop]
    have p3 : sAdd (.int (i : Int)) (.int 1) = some (.int ((i : Int) + 1)) := rfl
    have p4 : sAdd (.lst ((rows.take i).map rowD)) (.lst [rowD r']) = some (.lst ((rows.take i ++ [r']).map rowD)) := by
      rw [sAdd_lst01 (by rw [List.length_map, List.length_take, List.length_singleton]; omega), List.map_append]
      rfl
    have p5 : sAdd (.lst ((rows.take i ++ [r']).map rowD)) (.lst ((rows.drop (i + 1)).map rowD)) = some (.lst ((rows.set i r').map rowD)) := by
      rw [sAdd_lst01 (by simp only [List.length_map, List.length_append, List.length_take, List.length_singleton, List.length_drop]; omega), ← List.map_append, set_cut r' hi1]
    have ok : ∀ x ∈ rows.set i r', RowOk n x := fun x hx => by
      rcases List.mem_or_eq_of_mem_set hx with y | y
      · exact hF.row x y
      · rw [y]
        exact ⟨ne0, h1, h2, h3⟩
    have hm := e_make (rows := rows.set i r') hF.n1 hF.n2 (by rw [List.length_set]; exact h60) ok t0 t1
    have hd : rows ≠ rows.set i r' := fun e => ne1 (by
      have := congrArg (fun l => l[i]?) e
      simp only [List.getElem?_set, if_pos hi1, if_true] at this
      rw [hi] at this
      cases this
      rfl)
    have arg : mOp2 sAdd (.dat (mOp2 sAdd (.dat (mSl sCut (.dat (mVar 1)) none (some (mVar 4)))) (.dat (mLst [(mVar 6)])))) (.dat (mSl sCut (.dat (mVar 1)) (some (mOp2 sAdd (.dat (mVar 4)) (.dat (M.pure (.int 1))))) none)) [.dat (.int n), .dat (D.lst (rows.map rowD)), .dat (.int t), .dat (farmD n rows t), .dat (.int (i : Int)), .dat (rowD r), .dat (rowD r')] = .ok (.lst ((rows.set i r').map rowD)) [.dat (.int n), .dat (D.lst (rows.map rowD)), .dat (.int t), .dat (farmD n rows t), .dat (.int (i : Int)), .dat (rowD r), .dat (rowD r')] := by
      generalize (.lst ((rows.set i r').map rowD) : D) = z1 at *
      generalize (.lst ((rows.drop (i + 1)).map rowD) : D) = z2 at *
      generalize (.lst ((rows.take i ++ [r']).map rowD) : D) = z3 at *
      generalize (.lst ((rows.take i).map rowD) : D) = z4 at *
      generalize (D.lst (rows.map rowD)) = y at *
      generalize farmD n rows t = fm at *
      generalize rowD r' = rr at *
      generalize rowD r = rs at *
      trivial
    exact if_f (mB_ok (x_eqF (d1 := farmD n rows t) (d2 := farmD n (rows.set i r') t) rfl (make3 (a := .int n) (d := .int t) rfl arg rfl hm) rfl rfl (e_diff01 fun y => hd y.2.1))) rfl
theorem er5 (hF : FarmOk n rows) (t0 : 0 ≤ t) (t1 : t ≤ n) : ∃ c4 c5 c6, (mFor (mEnum (mSl sCut (.dat (mVar 1)) none (some (M.pure (.int 4))))) (gTp [4, 5]) (mFor (mSeqI (mLst [(mSl sCut (.dat (mVar 5)) none (some (mNeg (M.pure (.int 1))))), (mRev sRevT (.dat (mVar 5)))])) (gNm 6) (mIfS (mAnd (mB (mOp2 sNe (.dat (mVar 6)) (.dat (mTup [])))) (mB (mOp2 sNe (.dat (mVar 6)) (.dat (mVar 5))))) (mIfS (mB (mEqF m_Farmdd_eqdd (mVar 3) (mMake m_Farmdd_initdd [(mVar 0), (mOp2 sAdd (.dat (mOp2 sAdd (.dat (mSl sCut (.dat (mVar 1)) none (some (mVar 4)))) (.dat (mLst [(mVar 6)])))) (.dat (mSl sCut (.dat (mVar 1)) (some (mOp2 sAdd (.dat (mVar 4)) (.dat (M.pure (.int 1))))) none))), (mVar 2)]))) (mRet (M.pure (.bl false))) mSkip) mSkip))) [.dat (.int n), .dat (D.lst (rows.map rowD)), .dat (.int t), .dat (farmD n rows t), .no, .no, .no] = .next [.dat (.int n), .dat (D.lst (rows.map rowD)), .dat (.int t), .dat (farmD n rows t), c4, c5, c6] := by
  have q : sCut (D.lst (rows.map rowD)) none (some 4) = some (.lst ((rows.take 4).map rowD)) := by
    show some (D.lst (cutD _ _ _)) = _
    rw [show (4 : Int) = ((4 : Nat) : Int) from rfl, cut_take, List.map_take]
  have f0 : mEnum (mSl sCut (.dat (mVar 1)) none (some (M.pure (.int 4)))) [.dat (.int n), .dat (D.lst (rows.map rowD)), .dat (.int t), .dat (farmD n rows t), .no, .no, .no] = .ok (enumD 0 ((rows.take 4).map rowD)) [.dat (.int n), .dat (D.lst (rows.map rowD)), .dat (.int t), .dat (farmD n rows t), .no, .no, .no] := by
    refine i_enum (d := .lst ((rows.take 4).map rowD)) ?_ rfl
    generalize (.lst ((rows.take 4).map rowD) : D) = z4 at *
    generalize (D.lst (rows.map rowD)) = y at *
    generalize farmD n rows t = fm at *
    trivial
  obtain ⟨ρ', g, c4, c5, c6, e⟩ := loop_inv (g := (gTp [4, 5])) (body := (mFor (mSeqI (mLst [(mSl sCut (.dat (mVar 5)) none (some (mNeg (M.pure (.int 1))))), (mRev sRevT (.dat (mVar 5)))])) (gNm 6) (mIfS (mAnd (mB (mOp2 sNe (.dat (mVar 6)) (.dat (mTup [])))) (mB (mOp2 sNe (.dat (mVar 6)) (.dat (mVar 5))))) (mIfS (mB (mEqF m_Farmdd_eqdd (mVar 3) (mMake m_Farmdd_initdd [(mVar 0), (mOp2 sAdd (.dat (mOp2 sAdd (.dat (mSl sCut (.dat (mVar 1)) none (some (mVar 4)))) (.dat (mLst [(mVar 6)])))) (.dat (mSl sCut (.dat (mVar 1)) (some (mOp2 sAdd (.dat (mVar 4)) (.dat (M.pure (.int 1))))) none))), (mVar 2)]))) (mRet (M.pure (.bl false))) mSkip) mSkip))) (fun _ ρ => ∃ c4 c5 c6, ρ = [.dat (.int n), .dat (D.lst (rows.map rowD)), .dat (.int t), .dat (farmD n rows t), c4, c5, c6]) (enumD 0 ((rows.take 4).map rowD)) 0 [.dat (.int n), .dat (D.lst (rows.map rowD)), .dat (.int t), .dat (farmD n rows t), .no, .no, .no] ⟨.no, .no, .no, rfl⟩ (fun i dd ρ hdd ⟨c4, c5, c6, hρ⟩ => by
    subst hρ
    obtain ⟨d, h7, rfl⟩ := enumD_inv 0 i _ _ hdd
    rw [Nat.zero_add]
    rw [List.getElem?_map] at h7
    obtain ⟨r, hr, rfl⟩ : ∃ r, (rows.take 4)[i]? = some r ∧ rowD r = d := by
      cases hx : (rows.take 4)[i]? with
      | none => rw [hx] at h7; cases h7
      | some r => rw [hx] at h7; exact ⟨r, rfl, by simpa using h7⟩
    have hr2 : rows[i]? = some r := by
      rw [List.getElem?_take] at hr
      split at hr
      · exact hr
      · cases hr
    have ok := hF.row r (List.mem_of_getElem? hr2)
    have z1 : sCut (rowD r) none (some (-1)) = some (rowD r.dropLast) := by
      show some (D.tup (cutD _ _ _)) = _
      have : cutD (r.map D.int) none (some (-1)) = (r.map D.int).dropLast := by
        rw [List.dropLast_eq_take]
        unfold cutD
        have hl : 1 ≤ r.length := by
          have := ok.1
          cases r with
          | nil => exact absurd rfl this
          | cons a l => simp
        have z : HT.sIx (r.map D.int).length (r.map D.int).length (some (-1)) = (r.map D.int).length - 1 := by
          rw [List.length_map]
          simp [HT.sIx]
          omega
        rw [z, HT.sIx_none, Nat.sub_zero, List.drop_zero]
      unfold rowD
      rw [this, List.map_dropLast]
    have z2 : sRevT (rowD r) = some (rowD r.reverse) := by
      unfold rowD
      rw [List.map_reverse]
      rfl
    have fi : mSeqI (mLst [(mSl sCut (.dat (mVar 5)) none (some (mNeg (M.pure (.int 1))))), (mRev sRevT (.dat (mVar 5)))]) [.dat (.int n), .dat (D.lst (rows.map rowD)), .dat (.int t), .dat (farmD n rows t), .dat (.int (i : Int)), .dat (rowD r), c6] = .ok ([r.dropLast, r.reverse].map rowD) [.dat (.int n), .dat (D.lst (rows.map rowD)), .dat (.int t), .dat (farmD n rows t), .dat (.int (i : Int)), .dat (rowD r), c6] := by
      refine i_seq (d := .lst ([r.dropLast, r.reverse].map rowD)) ?_ rfl
      show _ = Out.ok (D.lst [rowD r.dropLast, rowD r.reverse]) _
      generalize rowD r.dropLast = za at *
      generalize rowD r.reverse = zb at *
      generalize rowD r = zc at *
      generalize (D.lst (rows.map rowD)) = y at *
      generalize farmD n rows t = fm at *
      trivial
    obtain ⟨ρ', g, c6', e⟩ := loop_inv (g := (gNm 6)) (body := (mIfS (mAnd (mB (mOp2 sNe (.dat (mVar 6)) (.dat (mTup [])))) (mB (mOp2 sNe (.dat (mVar 6)) (.dat (mVar 5))))) (mIfS (mB (mEqF m_Farmdd_eqdd (mVar 3) (mMake m_Farmdd_initdd [(mVar 0), (mOp2 sAdd (.dat (mOp2 sAdd (.dat (mSl sCut (.dat (mVar 1)) none (some (mVar 4)))) (.dat (mLst [(mVar 6)])))) (.dat (mSl sCut (.dat (mVar 1)) (some (mOp2 sAdd (.dat (mVar 4)) (.dat (M.pure (.int 1))))) none))), (mVar 2)]))) (mRet (M.pure (.bl false))) mSkip) mSkip)) (fun _ ρ => ∃ c6, ρ = [.dat (.int n), .dat (D.lst (rows.map rowD)), .dat (.int t), .dat (farmD n rows t), .dat (.int (i : Int)), .dat (rowD r), c6]) ([r.dropLast, r.reverse].map rowD) 0 [.dat (.int n), .dat (D.lst (rows.map rowD)), .dat (.int t), .dat (farmD n rows t), .dat (.int (i : Int)), .dat (rowD r), c6] ⟨c6, rfl⟩ (fun j dd ρ hdd ⟨c6, hρ⟩ => by
      subst hρ
      obtain ⟨r', h1, rfl⟩ := List.mem_map.mp (List.mem_of_getElem? hdd)
      simp only [List.mem_cons, List.not_mem_nil, or_false] at h1
      suffices key : (mIfS (mAnd (mB (mOp2 sNe (.dat (mVar 6)) (.dat (mTup [])))) (mB (mOp2 sNe (.dat (mVar 6)) (.dat (mVar 5))))) (mIfS (mB (mEqF m_Farmdd_eqdd (mVar 3) (mMake m_Farmdd_initdd [(mVar 0), (mOp2 sAdd (.dat (mOp2 sAdd (.dat (mSl sCut (.dat (mVar 1)) none (some (mVar 4)))) (.dat (mLst [(mVar 6)])))) (.dat (mSl sCut (.dat (mVar 1)) (some (mOp2 sAdd (.dat (mVar 4)) (.dat (M.pure (.int 1))))) none))), (mVar 2)]))) (mRet (M.pure (.bl false))) mSkip) mSkip) [.dat (.int n), .dat (D.lst (rows.map rowD)), .dat (.int t), .dat (farmD n rows t), .dat (.int (i : Int)), .dat (rowD r), .dat (rowD r')] = .next [.dat (.int n), .dat (D.lst (rows.map rowD)), .dat (.int t), .dat (farmD n rows t), .dat (.int (i : Int)), .dat (rowD r), .dat (rowD r')] by
        exact ⟨_, rfl, _, key, _, rfl⟩
      rcases h1 with rfl | rfl
      · exact er_in hF t0 t1 hr2 (fun v hv => ok.2.1 v (List.dropLast_subset _ hv)) (List.Nodup.sublist (List.dropLast_sublist _) ok.2.2.1) (by have := ok.2.2.2; rw [List.length_dropLast]; omega)
      · exact er_in hF t0 t1 hr2 (fun v hv => ok.2.1 v (List.mem_reverse.mp hv)) (List.pairwise_reverse.mpr (ok.2.2.1.imp fun h => Ne.symm h)) (by have := ok.2.2.2; rw [List.length_reverse]; omega))
    subst e
    exact ⟨_, rfl, _, (for_o fi).trans g, _, _, _, rfl⟩)
  subst e
  exact ⟨c4, c5, c6, (for_o f0).trans g⟩
theorem er6 (hF : FarmOk n rows) (t0 : 0 ≤ t) (t1 : t ≤ n) (c4 c5 c6 : Cell) : (mRet (mOrV (mOp2 sEq (.dat (mVar 1)) (.dat (mLst []))) (mNeF m_Farmdd_eqdd (mVar 3) (mMake m_Farmdd_initdd [(mVar 0), (mSl sCut (.dat (mVar 1)) (some (M.pure (.int 1))) none), (mVar 2)])))) [.dat (.int n), .dat (D.lst (rows.map rowD)), .dat (.int t), .dat (farmD n rows t), c4, c5, c6] = .ret (.bl true) [.dat (.int n), .dat (D.lst (rows.map rowD)), .dat (.int t), .dat (farmD n rows t), c4, c5, c6] := by
  have q : sEq (D.lst (rows.map rowD)) (.lst []) = some (.bl (decide (rows = []))) := by
    classical
    rw [sEq_pn (k := 2) (j := 1) (.lst (pn_rows01 rows)) pn_nilL]
    refine congrArg (fun b => some (D.bl b)) (decide_eq_decide.mpr ?_)
    cases rows with
    | nil => simp
    | cons a l => simp
  have q1 : sCut (D.lst (rows.map rowD)) (some 1) none = some (.lst (rows.tail.map rowD)) := by
    show some (D.lst (cutD _ _ _)) = _
    cases hr : rows with
    | nil => rfl
    | cons a l => rw [show (1 : Int) = ((1 : Nat) : Int) from rfl, cut_drop _ (by simp)]; rfl
  have arg : mSl sCut (.dat (mVar 1)) (some (M.pure (.int 1))) none [.dat (.int n), .dat (D.lst (rows.map rowD)), .dat (.int t), .dat (farmD n rows t), c4, c5, c6] = .ok (.lst (rows.tail.map rowD)) [.dat (.int n), .dat (D.lst (rows.map rowD)), .dat (.int t), .dat (farmD n rows t), c4, c5, c6] := by
    generalize (.lst (rows.tail.map rowD) : D) = z1 at *
    generalize (D.lst (rows.map rowD)) = y at *
    generalize farmD n rows t = fm at *
    trivial
  refine ret01 ?_
  have := orV_ok (a := decide (rows = [])) (b := true) (f := mOp2 sEq (.dat (mVar 1)) (.dat (mLst []))) (g := mNeF m_Farmdd_eqdd (mVar 3) (mMake m_Farmdd_initdd [(mVar 0), (mSl sCut (.dat (mVar 1)) (some (M.pure (.int 1))) none), (mVar 2)])) (ρ := [.dat (.int n), .dat (D.lst (rows.map rowD)), .dat (.int t), .dat (farmD n rows t), c4, c5, c6]) (mOp2_dd (x := (D.lst (rows.map rowD))) (y := .lst []) rfl rfl q) fun z => by
    have z : rows ≠ [] := of_decide_eq_false z
    have hm := e_make (rows := rows.tail) hF.n1 hF.n2 (by have := hF.len; rw [List.length_tail]; omega) (fun r hr => hF.row r (List.mem_of_mem_tail hr)) t0 t1
    exact x_neF (d1 := farmD n rows t) (d2 := farmD n rows.tail t) rfl (make3 (a := .int n) (d := .int t) rfl arg rfl hm) rfl rfl (e_diff01 fun y => by
      have := congrArg List.length y.2.1
      rw [List.length_tail] at this
      have : rows.length = 0 := by omega
      exact z (List.eq_nil_of_length_eq_zero this))
  rwa [Bool.or_true] at this
theorem e_eqright (hF : FarmOk n rows) (t0 : 0 ≤ t) (t1 : t ≤ n) : m_law_equal_right [.int n, (D.lst (rows.map rowD)), .int t] = .ret (.bl true) [] := by
  obtain ⟨c4, c5, c6, h5⟩ := er5 hF t0 t1
  exact s_run (ρ0 := [.dat (.int n), .dat (D.lst (rows.map rowD)), .dat (.int t), .no, .no, .no, .no]) rfl (s_step (er0 hF t0 t1) (s_step (er1 hF t0 t1) (s_step (er2 hF t0 t1) (s_step (er3 hF t0 t1) (s_step (er4 hF t0 t1) (s_step h5 (er6 hF t0 t1 c4 c5 c6))))))) rfl
end
end Fx
set_option Elab.async false
set_option linter.all false
set_option maxRecDepth 100000
set_option maxHeartbeats 1000000
namespace Fx
open PySem L2
local macro_rules
  | `(tactic| trivial) => `(tactic| (repeat (first | with_reducible assumption | ((with_reducible apply vv_id); apply_rules (transparency := .reducible) (maxDepth := 1) (symm := false) (exfalso := false) only [vk0, vk1, vk2, vk3, vk4, vk5, vk6, vk7, vk8, vk9, vk10, vk11, vk12, vk13, vk14, vk15, vk16]) | ((with_reducible apply gg_id); first | apply_rules (transparency := .reducible) (maxDepth := 1) (symm := false) (exfalso := false) only [gk0, gk1, gk2, gk3, gk4, gk5, gk6, gk7, gk8, gk9, gk10, gk11, gk12, gk13, gk14, gk15, gk16] | apply_rules (transparency := .reducible) (maxDepth := 1) (symm := false) (exfalso := false) only [getAt_z, getAt_s]) | ((with_reducible apply ss_id); first | apply_rules (transparency := .reducible) (maxDepth := 1) (symm := false) (exfalso := false) only [sk0, sk1, sk2, sk3, sk4, sk5, sk6, sk7, sk8, sk9, sk10, sk11, sk12, sk13, sk14, sk15, sk16] | apply_rules (transparency := .reducible) (maxDepth := 1) (symm := false) (exfalso := false) only [setAt_z, setAt_s]) | ((with_reducible apply g_seq); first | (with_reducible refine s_step (by with_reducible assumption) ?_) | (with_reducible refine s_retS (by with_reducible assumption)) | apply_rules (transparency := .reducible) (maxDepth := 1) (symm := false) (exfalso := false) only [s_assoc, s_skip, s_asg, s_new, s_expr, s_ret, s_retN, s_t, s_f, s_if, s_par, s_par3, s_new2, s_setIx, s_augV, s_setS, s_setM, s_newO, s_newO0, s_raise] | ((with_reducible apply s_frz); apply_rules (transparency := .reducible) (maxDepth := 1) (symm := false) (exfalso := false) only [gk0, gk1, gk2, gk3, gk4, gk5, gk6, gk7, gk8, gk9, gk10, gk11, gk12, gk13, gk14, gk15, gk16]) | ((with_reducible apply s_frzD); apply_rules (transparency := .reducible) (maxDepth := 1) (symm := false) (exfalso := false) only [gk0, gk1, gk2, gk3, gk4, gk5, gk6, gk7, gk8, gk9, gk10, gk11, gk12, gk13, gk14, gk15, gk16]) | (with_reducible refine s_for ?_ (by with_reducible assumption) ?_) | (with_reducible refine s_forR ?_ (by with_reducible assumption)) | (with_reducible refine s_while (by with_reducible assumption) ?_) | (with_reducible refine s_whileR (by with_reducible assumption)) | (with_reducible refine s_for (?_) (by assumption) ?_)) | apply_rules (transparency := .reducible) (maxDepth := 1) (symm := false) (exfalso := false) only [v_pure, x_callD, y_op2, y_call1, y_call2, y_sl1, y_sl2, y_tup2, y_tup1, y_fo1, y_fo2, y_fo0, y_fo3, y_fn1, y_fn2, y_fn3, y_fn4, y_fn5, x_op2, p_dat, p_own, v_var, x_callD, x_callF, x_callK, x_callW, x_callN, x_make, x_call, x_tup, x_lst, x_neg, x_meth, x_methWR, x_methWD, x_methW, x_sl, x_rev, x_fld, x_chain, x_lenF, x_lenset, x_methF, x_isF, x_eqF, x_kd, x_km, x_neF, x_makeK, x_methK, x_cmp, x_lrn, x_tupRg, pt_s, pt_n, i_seq, i_en, i_rng, i_zip, i_zipN, b_b, b_not, b_and, b_or, x_if, x_andV, x_orV, x_notV, andK_t, andK_f, orK_f, orK_t, chK_t, chK_f, ifK_t, ifK_f, x_lcU, x_lc, s_end, pk_n, pk_c, at_z, at_s, put_n, put_c, wl_n, wl_c, mp_r, tg_nm, tg_tp, tgs_n, tgs_c, pl_n, pl_c, rl_n, rl_c, ra_n, ra_d, ra_o, sq_n, sq_c, app_n, app_c, r_dat, r_own, lcE_i, no_n, no_c, nw_d, nw_n, nw_o, nb_lt, nb_lf, nb_ltn, nb_lfn] | ((with_reducible apply nb_id); first | with_reducible exact nb_nf rfl | with_reducible exact nb_t rfl | exact nb_h (by with_reducible assumption) | exact nb_hf (by with_reducible assumption) | exact nb_hn (by with_reducible assumption) | exact nb_hnf (by with_reducible assumption) | exact nb_t (by with_reducible assumption) | exact nb_f (by with_reducible assumption) | exact nb_nt (by with_reducible assumption) | exact nb_nf (by with_reducible assumption) | exact nb_t (by omega) | exact nb_f (by omega) | exact nb_nt (by omega) | exact nb_nf (by omega) | exact nb_t (by decide) | exact nb_f (by decide) | exact nb_nt (by decide) | exact nb_nf (by decide)) | apply_rules (transparency := .reducible) (maxDepth := 1) (symm := false) (exfalso := false) only [sEq_int, sNe_int, sEq_opt, sNe_opt, sIsN_opt, sNotN_opt, sNotN_int, sIsN_int, sNotN_tup, sIsN_tup, sNotN_lst, sIsN_lst, sNotN_non, sIsN_non, sIn_tup, sNin_tup, sIn_lst, sNin_lst, sEq_tup, sEq_lst, sNe_lst, sNe_tup, sIx_plc, sIx_rows, sIx_rowsL, sIn_row, sNin_row, sLen_row, sLen_plc, isTup_row, isTup_plc, sLen_ints, sLen_tints, sLen_rows, sLen_rowsT, sLen_lst, sLen_tup, isTupD] | ((with_reducible apply is_id); exact is_r) | ((with_reducible apply f_od); exact rfl) | ((with_reducible apply f_ol); exact rfl) | ((with_reducible apply f_op); exact rfl) | ((with_reducible apply f_bt); exact rfl) | ((with_reducible apply f_on); exact rfl) | ((with_reducible apply f_ld); exact rfl) | intro x hx | intro hb | omega | with_reducible apply s_one)))
section
variable {n : Int} {T L : List D}
theorem lay_itm {d : D} (h : Itm d) (hd : d ≠ .dic [] []) : (toPy d).canLay0 = true := by
  rcases h with ⟨v, rfl⟩ | h
  · simp [toPy, PyData.canLay0]
  · cases h with
    | non => simp [toPy, PyData.canLay0]
    | bl b => simp [toPy, PyData.canLay0]
    | str => exact (Pn.str (k := 1) (x := "0") (by decide +kernel)).lay.1
    | lst => simp [toPy, toPys, PyData.canLay0, PyData.canLayAll0]
    | dic => exact absurd rfl hd
theorem rowU_of (h : ∀ d ∈ T, Itm d ∧ d ≠ .dic [] []) (hl : T.length ≤ 4000) : RowU (.tup T) := .tup T (fun d hd => (h d hd).1) (fun d hd => lay_itm (h d hd).1 (h d hd).2) hl
theorem rowU_row {r : List Int} (h : RowOk n r) : RowU (rowD r) := rowU_of (fun d hd => by
      obtain ⟨v, _, rfl⟩ := List.mem_map.mp hd
      exact ⟨.inl ⟨v, rfl⟩, fun z => by cases z⟩) (by rw [List.length_map]; exact h.2.2.2)
theorem itm_i {v : Int} : Itm (.int v) ∧ D.int v ≠ .dic [] [] := ⟨.inl ⟨v, rfl⟩, fun z => by cases z⟩
theorem itm_b {b : Bool} : Itm (.bl b) ∧ D.bl b ≠ .dic [] [] := ⟨.inr (.bl b), fun z => by cases z⟩
theorem itm_n : Itm .non ∧ D.non ≠ .dic [] [] := ⟨.inr .non, fun z => by cases z⟩
theorem itm_s : Itm (.str "0") ∧ D.str "0" ≠ .dic [] [] := ⟨.inr .str, fun z => by cases z⟩
theorem itm_l : Itm (.lst [.int 0]) ∧ D.lst [.int 0] ≠ .dic [] [] := ⟨.inr .lst, fun z => by cases z⟩
theorem rowU1 {a : D} (h : Itm a ∧ a ≠ .dic [] []) : RowU (.tup [a]) := rowU_of (fun d hd => by rw [List.mem_singleton.mp hd]; exact h) (by simp)
theorem rowU2 {a b : D} (h : Itm a ∧ a ≠ .dic [] []) (h2 : Itm b ∧ b ≠ .dic [] []) : RowU (.tup [a, b]) := rowU_of (fun d hd => by
  simp only [List.mem_cons, List.not_mem_nil, or_false] at hd
  rcases hd with rfl | rfl
  · exact h
  · exact h2) (by simp)
theorem lt13 {z : Int} (h0 : 0 ≤ z) (h1 : z < 13) : z = 0 ∨ z = 1 ∨ z = 2 ∨ z = 3 ∨ z = 4 ∨ z = 5 ∨ z = 6 ∨ z = 7 ∨ z = 8 ∨ z = 9 ∨ z = 10 ∨ z = 11 ∨ z = 12 := by omega
theorem no_lst0 : sIsi [.lst [.int 0], .raw (.ty "tuple")] = some (.bl false) := by simp [sIsi, tyName, kb_list_tuple]
theorem no_non0 : sIsi [.non, .raw (.ty "tuple")] = some (.bl false) := by simp [sIsi, tyName, kb_nonetype_tuple]
theorem no_int0 {v : Int} : sIsi [.int v, .raw (.ty "tuple")] = some (.bl false) := by
  have : kitB "int" "tuple" = some false := by decide
  simp [sIsi, tyName, this]
theorem pick13 {z : Int} (h0 : 0 ≤ z) (h1 : z < 13) : ∃ od, sIx (.lst [D.tup [], D.tup [.int 0, .int 0], D.tup [.int n], D.tup [.int (-1)], D.tup [.bl true, .int 0], D.lst [.int 0], D.non, D.int 0, D.tup [.str "0"], D.tup [.int 0, .non], D.tup [.int 0, .bl false], D.tup [.lst [.int 0]], D.tup [.int 0, .int n]]) (.int z) = some od ∧ RowU od := by
  rcases lt13 h0 h1 with rfl | rfl | rfl | rfl | rfl | rfl | rfl | rfl | rfl | rfl | rfl | rfl | rfl
  · exact ⟨_, atI_nat [D.tup [], D.tup [.int 0, .int 0], D.tup [.int n], D.tup [.int (-1)], D.tup [.bl true, .int 0], D.lst [.int 0], D.non, D.int 0, D.tup [.str "0"], D.tup [.int 0, .non], D.tup [.int 0, .bl false], D.tup [.lst [.int 0]], D.tup [.int 0, .int n]] 0, rowU_of (fun d hd => nomatch hd) (by simp)⟩
  · exact ⟨_, atI_nat [D.tup [], D.tup [.int 0, .int 0], D.tup [.int n], D.tup [.int (-1)], D.tup [.bl true, .int 0], D.lst [.int 0], D.non, D.int 0, D.tup [.str "0"], D.tup [.int 0, .non], D.tup [.int 0, .bl false], D.tup [.lst [.int 0]], D.tup [.int 0, .int n]] 1, rowU2 itm_i itm_i⟩
  · exact ⟨_, atI_nat [D.tup [], D.tup [.int 0, .int 0], D.tup [.int n], D.tup [.int (-1)], D.tup [.bl true, .int 0], D.lst [.int 0], D.non, D.int 0, D.tup [.str "0"], D.tup [.int 0, .non], D.tup [.int 0, .bl false], D.tup [.lst [.int 0]], D.tup [.int 0, .int n]] 2, rowU1 itm_i⟩
  · exact ⟨_, atI_nat [D.tup [], D.tup [.int 0, .int 0], D.tup [.int n], D.tup [.int (-1)], D.tup [.bl true, .int 0], D.lst [.int 0], D.non, D.int 0, D.tup [.str "0"], D.tup [.int 0, .non], D.tup [.int 0, .bl false], D.tup [.lst [.int 0]], D.tup [.int 0, .int n]] 3, rowU1 itm_i⟩
  · exact ⟨_, atI_nat [D.tup [], D.tup [.int 0, .int 0], D.tup [.int n], D.tup [.int (-1)], D.tup [.bl true, .int 0], D.lst [.int 0], D.non, D.int 0, D.tup [.str "0"], D.tup [.int 0, .non], D.tup [.int 0, .bl false], D.tup [.lst [.int 0]], D.tup [.int 0, .int n]] 4, rowU2 itm_b itm_i⟩
  · exact ⟨_, atI_nat [D.tup [], D.tup [.int 0, .int 0], D.tup [.int n], D.tup [.int (-1)], D.tup [.bl true, .int 0], D.lst [.int 0], D.non, D.int 0, D.tup [.str "0"], D.tup [.int 0, .non], D.tup [.int 0, .bl false], D.tup [.lst [.int 0]], D.tup [.int 0, .int n]] 5, .no _ no_lst0⟩
  · exact ⟨_, atI_nat [D.tup [], D.tup [.int 0, .int 0], D.tup [.int n], D.tup [.int (-1)], D.tup [.bl true, .int 0], D.lst [.int 0], D.non, D.int 0, D.tup [.str "0"], D.tup [.int 0, .non], D.tup [.int 0, .bl false], D.tup [.lst [.int 0]], D.tup [.int 0, .int n]] 6, .no _ no_non0⟩
  · exact ⟨_, atI_nat [D.tup [], D.tup [.int 0, .int 0], D.tup [.int n], D.tup [.int (-1)], D.tup [.bl true, .int 0], D.lst [.int 0], D.non, D.int 0, D.tup [.str "0"], D.tup [.int 0, .non], D.tup [.int 0, .bl false], D.tup [.lst [.int 0]], D.tup [.int 0, .int n]] 7, .no _ no_int0⟩
  · exact ⟨_, atI_nat [D.tup [], D.tup [.int 0, .int 0], D.tup [.int n], D.tup [.int (-1)], D.tup [.bl true, .int 0], D.lst [.int 0], D.non, D.int 0, D.tup [.str "0"], D.tup [.int 0, .non], D.tup [.int 0, .bl false], D.tup [.lst [.int 0]], D.tup [.int 0, .int n]] 8, rowU1 itm_s⟩
  · exact ⟨_, atI_nat [D.tup [], D.tup [.int 0, .int 0], D.tup [.int n], D.tup [.int (-1)], D.tup [.bl true, .int 0], D.lst [.int 0], D.non, D.int 0, D.tup [.str "0"], D.tup [.int 0, .non], D.tup [.int 0, .bl false], D.tup [.lst [.int 0]], D.tup [.int 0, .int n]] 9, rowU2 itm_i itm_n⟩
  · exact ⟨_, atI_nat [D.tup [], D.tup [.int 0, .int 0], D.tup [.int n], D.tup [.int (-1)], D.tup [.bl true, .int 0], D.lst [.int 0], D.non, D.int 0, D.tup [.str "0"], D.tup [.int 0, .non], D.tup [.int 0, .bl false], D.tup [.lst [.int 0]], D.tup [.int 0, .int n]] 10, rowU2 itm_i itm_b⟩
  · exact ⟨_, atI_nat [D.tup [], D.tup [.int 0, .int 0], D.tup [.int n], D.tup [.int (-1)], D.tup [.bl true, .int 0], D.lst [.int 0], D.non, D.int 0, D.tup [.str "0"], D.tup [.int 0, .non], D.tup [.int 0, .bl false], D.tup [.lst [.int 0]], D.tup [.int 0, .int n]] 11, rowU1 itm_l⟩
  · exact ⟨_, atI_nat [D.tup [], D.tup [.int 0, .int 0], D.tup [.int n], D.tup [.int (-1)], D.tup [.bl true, .int 0], D.lst [.int 0], D.non, D.int 0, D.tup [.str "0"], D.tup [.int 0, .non], D.tup [.int 0, .bl false], D.tup [.lst [.int 0]], D.tup [.int 0, .int n]] 12, rowU2 itm_i itm_i⟩
theorem bt1 {w w1 : D} {z k1 : Int} {c3 c4 c5 c6 : Cell} (q1 : sAdd (.int (L.length : Nat)) (.int 1) = some (.int k1)) (e : m_law_draw [w, .int k1] = .ret (.int z) [w1]) : mAsg (mCallF m_law_draw [(.own 0), (.dat (mOp2 sAdd (.dat (mCall sLen [(.dat (mVar 1))])) (.dat (M.pure (.int 1)))))]) (gNm 4) [.own (w), .dat (.lst L), .dat (.int n), c3, c4, c5, c6] = .next [.own (w1), .dat (.lst L), .dat (.int n), c3, .dat (.int z), c5, c6] := by
  have q0 : sLen [.lst L] = some (.int (L.length : Nat)) := sLen_lst
  generalize D.lst L = TX at *
  refine s_one ?_
  trivial
theorem bt2 {w TX : D} {c3 c4 c5 c6 : Cell} : mAsg (mLst [(mTup []), (mTup [(M.pure (.int 0)), (M.pure (.int 0))]), (mTup [(mVar 2)]), (mTup [(mNeg (M.pure (.int 1)))]), (mTup [(M.pure (.bl true)), (M.pure (.int 0))]), (mLst [(M.pure (.int 0))]), (M.pure .non), (M.pure (.int 0)), (mTup [(M.pure (.str "0"))]), (mTup [(M.pure (.int 0)), (M.pure .non)]), (mTup [(M.pure (.int 0)), (M.pure (.bl false))]), (mTup [(mLst [(M.pure (.int 0))])]), (mTup [(M.pure (.int 0)), (mVar 2)])]) (gNm 5) [.own w, .dat TX, .dat (.int n), c3, c4, c5, c6] = .next [.own w, .dat TX, .dat (.int n), c3, c4, .dat (.lst [D.tup [], D.tup [.int 0, .int 0], D.tup [.int n], D.tup [.int (-1)], D.tup [.bl true, .int 0], D.lst [.int 0], D.non, D.int 0, D.tup [.str "0"], D.tup [.int 0, .non], D.tup [.int 0, .bl false], D.tup [.lst [.int 0]], D.tup [.int 0, .int n]]), c6] := by
  refine s_one ?_
  trivial
theorem bt3 {w w1 TX rD : D} {c3 c4 c5 c6 : Cell} (e1 : m_law_draw [w, .int 3] = .ret rD [w1]) : mAsg (mCallF m_law_draw [(.own 0), (.dat (M.pure (.int 3)))]) (gNm 6) [.own w, .dat TX, .dat (.int n), c3, c4, c5, c6] = .next [.own w1, .dat TX, .dat (.int n), c3, c4, c5, .dat rD] := by
  refine s_one ?_
  trivial
theorem bt4 {w TX OD A B C : D} {z : Int} {c3 : Cell} (q1 : sCut TX none (some z) = some A) (q2 : sAdd (.int z) (.int 1) = some (.int (z + 1))) (q3 : sCut TX (some (z + 1)) none = some B) (q4 : sAdd A B = some C) (q5 : sEq (.int 0) (.int 0) = some (.bl true)) : (mIfS (mB (mOp2 sEq (.dat (mVar 6)) (.dat (M.pure (.int 0))))) (mAsg (mOp2 sAdd (.dat (mSl sCut (.dat (mVar 1)) none (some (mVar 4)))) (.dat (mSl sCut (.dat (mVar 1)) (some (mOp2 sAdd (.dat (mVar 4)) (.dat (M.pure (.int 1))))) none))) (gNm 1)) (mAsg (mOp2 sAdd (.dat (mOp2 sAdd (.dat (mSl sCut (.dat (mVar 1)) none (some (mVar 4)))) (.dat (mLst [(mOp2 sIx (.dat (mVar 5)) (.dat (mCallF m_law_draw [(.own 0), (.dat (M.pure (.int 13)))])))])))) (.dat (mSl sCut (.dat (mVar 1)) (some (mOp2 sAdd (.dat (mVar 4)) (.dat (mCall sInt [(.dat (mOp2 sEq (.dat (mVar 6)) (.dat (M.pure (.int 1)))))])))) none))) (gNm 1))) [.own w, .dat TX, .dat (.int n), c3, .dat (.int z), .dat OD, .dat (.int 0)] = .next [.own w, .dat C, .dat (.int n), c3, .dat (.int z), .dat OD, .dat (.int 0)] := by
  refine s_one ?_
  trivial
theorem bt5 {w w1 TX OD od A B C E : D} {z k j y : Int} {b : Bool} {c3 : Cell} (e1 : m_law_draw [w, .int 13] = .ret (.int y) [w1]) (q0 : sIx OD (.int y) = some od) (q1 : sCut TX none (some z) = some A) (q2 : sEq (.int k) (.int 1) = some (.bl b)) (q6 : sInt [.bl b] = some (.int j)) (q7 : sAdd (.int z) (.int j) = some (.int (z + j))) (q3 : sCut TX (some (z + j)) none = some B) (q4 : sAdd A (.lst [od]) = some C) (q8 : sAdd C B = some E) (q5 : sEq (.int k) (.int 0) = some (.bl false)) : (mIfS (mB (mOp2 sEq (.dat (mVar 6)) (.dat (M.pure (.int 0))))) (mAsg (mOp2 sAdd (.dat (mSl sCut (.dat (mVar 1)) none (some (mVar 4)))) (.dat (mSl sCut (.dat (mVar 1)) (some (mOp2 sAdd (.dat (mVar 4)) (.dat (M.pure (.int 1))))) none))) (gNm 1)) (mAsg (mOp2 sAdd (.dat (mOp2 sAdd (.dat (mSl sCut (.dat (mVar 1)) none (some (mVar 4)))) (.dat (mLst [(mOp2 sIx (.dat (mVar 5)) (.dat (mCallF m_law_draw [(.own 0), (.dat (M.pure (.int 13)))])))])))) (.dat (mSl sCut (.dat (mVar 1)) (some (mOp2 sAdd (.dat (mVar 4)) (.dat (mCall sInt [(.dat (mOp2 sEq (.dat (mVar 6)) (.dat (M.pure (.int 1)))))])))) none))) (gNm 1))) [.own w, .dat TX, .dat (.int n), c3, .dat (.int z), .dat OD, .dat (.int k)] = .next [.own w1, .dat E, .dat (.int n), c3, .dat (.int z), .dat OD, .dat (.int k)] := by
  refine s_one ?_
  trivial
theorem bt_body (hT : ∀ d ∈ L, RowU d) (hl : L.length ≤ 1000) (a b d : Int) (c3 c4 c5 c6 : Cell) : ∃ (a' b' d' : Int) (T' : List D) (c4' c5' c6' : Cell), (mSeq (mAsg (mCallF m_law_draw [(.own 0), (.dat (mOp2 sAdd (.dat (mCall sLen [(.dat (mVar 1))])) (.dat (M.pure (.int 1)))))]) (gNm 4)) (mSeq (mAsg (mLst [(mTup []), (mTup [(M.pure (.int 0)), (M.pure (.int 0))]), (mTup [(mVar 2)]), (mTup [(mNeg (M.pure (.int 1)))]), (mTup [(M.pure (.bl true)), (M.pure (.int 0))]), (mLst [(M.pure (.int 0))]), (M.pure .non), (M.pure (.int 0)), (mTup [(M.pure (.str "0"))]), (mTup [(M.pure (.int 0)), (M.pure .non)]), (mTup [(M.pure (.int 0)), (M.pure (.bl false))]), (mTup [(mLst [(M.pure (.int 0))])]), (mTup [(M.pure (.int 0)), (mVar 2)])]) (gNm 5)) (mSeq (mAsg (mCallF m_law_draw [(.own 0), (.dat (M.pure (.int 3)))]) (gNm 6)) (mIfS (mB (mOp2 sEq (.dat (mVar 6)) (.dat (M.pure (.int 0))))) (mAsg (mOp2 sAdd (.dat (mSl sCut (.dat (mVar 1)) none (some (mVar 4)))) (.dat (mSl sCut (.dat (mVar 1)) (some (mOp2 sAdd (.dat (mVar 4)) (.dat (M.pure (.int 1))))) none))) (gNm 1)) (mAsg (mOp2 sAdd (.dat (mOp2 sAdd (.dat (mSl sCut (.dat (mVar 1)) none (some (mVar 4)))) (.dat (mLst [(mOp2 sIx (.dat (mVar 5)) (.dat (mCallF m_law_draw [(.own 0), (.dat (M.pure (.int 13)))])))])))) (.dat (mSl sCut (.dat (mVar 1)) (some (mOp2 sAdd (.dat (mVar 4)) (.dat (mCall sInt [(.dat (mOp2 sEq (.dat (mVar 6)) (.dat (M.pure (.int 1)))))])))) none))) (gNm 1)))))) [.own ((wellD a b d)), .dat (.lst L), .dat (.int n), c3, c4, c5, c6] = .next [.own ((wellD a' b' d')), .dat (.lst T'), .dat (.int n), c3, c4', c5', c6'] ∧ (∀ d ∈ T', RowU d) ∧ T'.length ≤ L.length * 2 + 1 := by
  obtain ⟨z, a1, b1, d1, e1, z0, z1⟩ := e_draw a b d (lim := ((L.length : Nat) : Int) + 1) (by omega) (by omega)
  obtain ⟨k, a4, b4, d4, e4, k0, k1⟩ := e_draw a1 b1 d1 (lim := 3) (by omega) (by omega)
  have cl : ∀ lo hi, (cutD L lo hi).length ≤ L.length := fun lo hi => by
    unfold cutD
    rw [List.length_take, List.length_drop]
    omega
  have l1 := cl none (some z)
  have pre : ∀ {o : OutS}, (mIfS (mB (mOp2 sEq (.dat (mVar 6)) (.dat (M.pure (.int 0))))) (mAsg (mOp2 sAdd (.dat (mSl sCut (.dat (mVar 1)) none (some (mVar 4)))) (.dat (mSl sCut (.dat (mVar 1)) (some (mOp2 sAdd (.dat (mVar 4)) (.dat (M.pure (.int 1))))) none))) (gNm 1)) (mAsg (mOp2 sAdd (.dat (mOp2 sAdd (.dat (mSl sCut (.dat (mVar 1)) none (some (mVar 4)))) (.dat (mLst [(mOp2 sIx (.dat (mVar 5)) (.dat (mCallF m_law_draw [(.own 0), (.dat (M.pure (.int 13)))])))])))) (.dat (mSl sCut (.dat (mVar 1)) (some (mOp2 sAdd (.dat (mVar 4)) (.dat (mCall sInt [(.dat (mOp2 sEq (.dat (mVar 6)) (.dat (M.pure (.int 1)))))])))) none))) (gNm 1))) [.own ((wellD a4 b4 d4)), .dat (.lst L), .dat (.int n), c3, .dat (.int z), .dat (.lst [D.tup [], D.tup [.int 0, .int 0], D.tup [.int n], D.tup [.int (-1)], D.tup [.bl true, .int 0], D.lst [.int 0], D.non, D.int 0, D.tup [.str "0"], D.tup [.int 0, .non], D.tup [.int 0, .bl false], D.tup [.lst [.int 0]], D.tup [.int 0, .int n]]), .dat (.int k)] = o → (mSeq (mAsg (mCallF m_law_draw [(.own 0), (.dat (mOp2 sAdd (.dat (mCall sLen [(.dat (mVar 1))])) (.dat (M.pure (.int 1)))))]) (gNm 4)) (mSeq (mAsg (mLst [(mTup []), (mTup [(M.pure (.int 0)), (M.pure (.int 0))]), (mTup [(mVar 2)]), (mTup [(mNeg (M.pure (.int 1)))]), (mTup [(M.pure (.bl true)), (M.pure (.int 0))]), (mLst [(M.pure (.int 0))]), (M.pure .non), (M.pure (.int 0)), (mTup [(M.pure (.str "0"))]), (mTup [(M.pure (.int 0)), (M.pure .non)]), (mTup [(M.pure (.int 0)), (M.pure (.bl false))]), (mTup [(mLst [(M.pure (.int 0))])]), (mTup [(M.pure (.int 0)), (mVar 2)])]) (gNm 5)) (mSeq (mAsg (mCallF m_law_draw [(.own 0), (.dat (M.pure (.int 3)))]) (gNm 6)) (mIfS (mB (mOp2 sEq (.dat (mVar 6)) (.dat (M.pure (.int 0))))) (mAsg (mOp2 sAdd (.dat (mSl sCut (.dat (mVar 1)) none (some (mVar 4)))) (.dat (mSl sCut (.dat (mVar 1)) (some (mOp2 sAdd (.dat (mVar 4)) (.dat (M.pure (.int 1))))) none))) (gNm 1)) (mAsg (mOp2 sAdd (.dat (mOp2 sAdd (.dat (mSl sCut (.dat (mVar 1)) none (some (mVar 4)))) (.dat (mLst [(mOp2 sIx (.dat (mVar 5)) (.dat (mCallF m_law_draw [(.own 0), (.dat (M.pure (.int 13)))])))])))) (.dat (mSl sCut (.dat (mVar 1)) (some (mOp2 sAdd (.dat (mVar 4)) (.dat (mCall sInt [(.dat (mOp2 sEq (.dat (mVar 6)) (.dat (M.pure (.int 1)))))])))) none))) (gNm 1)))))) [.own ((wellD a b d)), .dat (.lst L), .dat (.int n), c3, c4, c5, c6] = o := fun h => s_step (bt1 rfl e1) (s_step bt2 (s_step (bt3 e4) h))
  by_cases hk : k = 0
  · subst hk
    have l2 := cl (some (z + 1)) none
    refine ⟨a4, b4, d4, cutD L none (some z) ++ cutD L (some (z + 1)) none, _, _, _, pre (bt4 (A := .lst (cutD L none (some z))) (B := .lst (cutD L (some (z + 1)) none)) rfl rfl rfl (sAdd_lst01 (by omega)) (by rw [sEq_int]; rfl)), fun e he => ?_, by rw [List.length_append]; omega⟩
    rcases List.mem_append.mp he with x | x
    · exact hT e (cut_mem x)
    · exact hT e (cut_mem x)
  · obtain ⟨y, a5, b5, d5, e5, y0, y1⟩ := e_draw a4 b4 d4 (lim := 13) (by omega) (by omega)
    obtain ⟨od, q9, ho⟩ := pick13 (n := n) y0 y1
    have hj : ∃ j, sInt [.bl (decide (k = 1))] = some (.int j) := ⟨_, rfl⟩
    obtain ⟨j, q6⟩ := hj
    have l2 := cl (some (z + j)) none
    refine ⟨a5, b5, d5, cutD L none (some z) ++ [od] ++ cutD L (some (z + j)) none, _, _, _, pre (bt5 (b := decide (k = 1)) (j := j) (A := .lst (cutD L none (some z))) (C := .lst (cutD L none (some z) ++ [od])) (B := .lst (cutD L (some (z + j)) none)) e5 q9 rfl (by rw [sEq_int]) q6 rfl rfl (sAdd_lst01 (by rw [List.length_singleton]; omega)) (sAdd_lst01 (by rw [List.length_append, List.length_singleton]; omega)) (by rw [sEq_int, decide_eq_false hk])), fun e he => ?_, by rw [List.length_append, List.length_append, List.length_singleton]; omega⟩
    rcases List.mem_append.mp he with x | x
    · rcases List.mem_append.mp x with x | x
      · exact hT e (cut_mem x)
      · rw [List.mem_singleton.mp x]
        exact ho
    · exact hT e (cut_mem x)
theorem bt_rng {w w1 TX : D} {u u1 : Int} (e1 : m_law_draw [w, .int 2] = .ret (.int u) [w1]) (q1 : sAdd (.int 1) (.int u) = some (.int u1)) (h1 : u1 ≤ 16777216) (h2 : -16777216 ≤ u1) : mRange1 (mOp2 sAdd (.dat (M.pure (.int 1))) (.dat (mCallF m_law_draw [(.own 0), (.dat (M.pure (.int 2)))]))) [.own w, .dat TX, .dat (.int n), .no, .no, .no, .no] = .ok ((rng u1.toNat).map .int) [.own w1, .dat TX, .dat (.int n), .no, .no, .no, .no] := by
  refine i_rng ?_ h1 h2
  trivial
theorem e_bent (hT : ∀ d ∈ L, RowU d) (hl : L.length ≤ 60) (a b d : Int) : ∃ a' b' d' T', m_law_bent [wellD a b d, .lst L, .int n] = .ret (.lst T') [wellD a' b' d'] ∧ (∀ d ∈ T', RowU d) ∧ T'.length ≤ 1000 := by
  obtain ⟨u, a1, b1, d1, e1, u0, u1⟩ := e_draw a b d (lim := 2) (by omega) (by omega)
  obtain ⟨ρ', g1, a2, b2, d2, T', c3, c4, c5, c6, hρ, h1, h2, h3, h4⟩ := loop_inv (g := (gNm 3)) (body := (mSeq (mAsg (mCallF m_law_draw [(.own 0), (.dat (mOp2 sAdd (.dat (mCall sLen [(.dat (mVar 1))])) (.dat (M.pure (.int 1)))))]) (gNm 4)) (mSeq (mAsg (mLst [(mTup []), (mTup [(M.pure (.int 0)), (M.pure (.int 0))]), (mTup [(mVar 2)]), (mTup [(mNeg (M.pure (.int 1)))]), (mTup [(M.pure (.bl true)), (M.pure (.int 0))]), (mLst [(M.pure (.int 0))]), (M.pure .non), (M.pure (.int 0)), (mTup [(M.pure (.str "0"))]), (mTup [(M.pure (.int 0)), (M.pure .non)]), (mTup [(M.pure (.int 0)), (M.pure (.bl false))]), (mTup [(mLst [(M.pure (.int 0))])]), (mTup [(M.pure (.int 0)), (mVar 2)])]) (gNm 5)) (mSeq (mAsg (mCallF m_law_draw [(.own 0), (.dat (M.pure (.int 3)))]) (gNm 6)) (mIfS (mB (mOp2 sEq (.dat (mVar 6)) (.dat (M.pure (.int 0))))) (mAsg (mOp2 sAdd (.dat (mSl sCut (.dat (mVar 1)) none (some (mVar 4)))) (.dat (mSl sCut (.dat (mVar 1)) (some (mOp2 sAdd (.dat (mVar 4)) (.dat (M.pure (.int 1))))) none))) (gNm 1)) (mAsg (mOp2 sAdd (.dat (mOp2 sAdd (.dat (mSl sCut (.dat (mVar 1)) none (some (mVar 4)))) (.dat (mLst [(mOp2 sIx (.dat (mVar 5)) (.dat (mCallF m_law_draw [(.own 0), (.dat (M.pure (.int 13)))])))])))) (.dat (mSl sCut (.dat (mVar 1)) (some (mOp2 sAdd (.dat (mVar 4)) (.dat (mCall sInt [(.dat (mOp2 sEq (.dat (mVar 6)) (.dat (M.pure (.int 1)))))])))) none))) (gNm 1))))))) (fun k ρ => ∃ (a b d : Int) (T' : List D) (c3 c4 c5 c6 : Cell), ρ = [.own ((wellD a b d)), .dat (.lst T'), .dat (.int n), c3, c4, c5, c6] ∧ (∀ d ∈ T', RowU d) ∧ (k = 0 → T'.length ≤ 60) ∧ (k = 1 → T'.length ≤ 121) ∧ (k = 2 → T'.length ≤ 243)) ((rng (1 + u).toNat).map .int) 0 [.own ((wellD a1 b1 d1)), .dat (.lst L), .dat (.int n), .no, .no, .no, .no] ⟨a1, b1, d1, L, .no, .no, .no, .no, rfl, hT, fun _ => hl, fun h => by omega, fun h => by omega⟩
    (fun i dd ρ hdd ⟨a, b, d, T', c3, c4, c5, c6, hρ, h1, h2, h3, h4⟩ => by
      subst hρ
      have hi := (List.getElem?_eq_some_iff.mp hdd).1
      rw [List.length_map, rng_len] at hi
      have hi2 : i = 0 ∨ i = 1 := by omega
      have hl2 : T'.length ≤ 121 := by
        rcases hi2 with rfl | rfl
        · have := h2 rfl; omega
        · exact h3 rfl
      obtain ⟨a', b', d', T2, c4', c5', c6', e, g1, g2⟩ := bt_body (n := n) h1 (by omega) a b d (.dat dd) c4 c5 c6
      refine ⟨_, rfl, _, e, a', b', d', T2, _, _, _, _, rfl, g1, fun h => by omega, fun h => ?_, fun h => by omega⟩
      have : i = 0 := by omega
      subst this
      have := h2 rfl
      omega)
  subst hρ
  rw [Nat.zero_add, List.length_map, rng_len] at h2 h3 h4
  refine ⟨a2, b2, d2, T', ?_, h1, ?_⟩
  · have f := bt_rng (n := n) (TX := .lst L) e1 rfl (by omega) (by omega)
    have s0 : (mFor (mRange1 (mOp2 sAdd (.dat (M.pure (.int 1))) (.dat (mCallF m_law_draw [(.own 0), (.dat (M.pure (.int 2)))])))) (gNm 3) (mSeq (mAsg (mCallF m_law_draw [(.own 0), (.dat (mOp2 sAdd (.dat (mCall sLen [(.dat (mVar 1))])) (.dat (M.pure (.int 1)))))]) (gNm 4)) (mSeq (mAsg (mLst [(mTup []), (mTup [(M.pure (.int 0)), (M.pure (.int 0))]), (mTup [(mVar 2)]), (mTup [(mNeg (M.pure (.int 1)))]), (mTup [(M.pure (.bl true)), (M.pure (.int 0))]), (mLst [(M.pure (.int 0))]), (M.pure .non), (M.pure (.int 0)), (mTup [(M.pure (.str "0"))]), (mTup [(M.pure (.int 0)), (M.pure .non)]), (mTup [(M.pure (.int 0)), (M.pure (.bl false))]), (mTup [(mLst [(M.pure (.int 0))])]), (mTup [(M.pure (.int 0)), (mVar 2)])]) (gNm 5)) (mSeq (mAsg (mCallF m_law_draw [(.own 0), (.dat (M.pure (.int 3)))]) (gNm 6)) (mIfS (mB (mOp2 sEq (.dat (mVar 6)) (.dat (M.pure (.int 0))))) (mAsg (mOp2 sAdd (.dat (mSl sCut (.dat (mVar 1)) none (some (mVar 4)))) (.dat (mSl sCut (.dat (mVar 1)) (some (mOp2 sAdd (.dat (mVar 4)) (.dat (M.pure (.int 1))))) none))) (gNm 1)) (mAsg (mOp2 sAdd (.dat (mOp2 sAdd (.dat (mSl sCut (.dat (mVar 1)) none (some (mVar 4)))) (.dat (mLst [(mOp2 sIx (.dat (mVar 5)) (.dat (mCallF m_law_draw [(.own 0), (.dat (M.pure (.int 13)))])))])))) (.dat (mSl sCut (.dat (mVar 1)) (some (mOp2 sAdd (.dat (mVar 4)) (.dat (mCall sInt [(.dat (mOp2 sEq (.dat (mVar 6)) (.dat (M.pure (.int 1)))))])))) none))) (gNm 1))))))) [.own ((wellD a b d)), .dat (.lst L), .dat (.int n), .no, .no, .no, .no] = .next [.own ((wellD a2 b2 d2)), .dat (.lst T'), .dat (.int n), c3, c4, c5, c6] := (for_o f).trans g1
    exact s_run (ρ0 := [.own ((wellD a b d)), .dat (.lst L), .dat (.int n), .no, .no, .no, .no]) rfl (s_step s0 rfl) rfl
  · have : (1 + u).toNat = 1 ∨ (1 + u).toNat = 2 := by omega
    rcases this with z | z
    · have := h3 z; omega
    · have := h4 z; omega
end
end Fx
set_option Elab.async false
set_option linter.all false
set_option maxRecDepth 100000
set_option maxHeartbeats 1000000
namespace Fx
open PySem L2
local macro_rules
  | `(tactic| trivial) => `(tactic| (repeat (first | with_reducible assumption | ((with_reducible apply vv_id); apply_rules (transparency := .reducible) (maxDepth := 1) (symm := false) (exfalso := false) only [vk0, vk1, vk2, vk3, vk4, vk5, vk6, vk7, vk8, vk9, vk10, vk11, vk12, vk13, vk14, vk15, vk16]) | ((with_reducible apply gg_id); first | apply_rules (transparency := .reducible) (maxDepth := 1) (symm := false) (exfalso := false) only [gk0, gk1, gk2, gk3, gk4, gk5, gk6, gk7, gk8, gk9, gk10, gk11, gk12, gk13, gk14, gk15, gk16] | apply_rules (transparency := .reducible) (maxDepth := 1) (symm := false) (exfalso := false) only [getAt_z, getAt_s]) | ((with_reducible apply ss_id); first | apply_rules (transparency := .reducible) (maxDepth := 1) (symm := false) (exfalso := false) only [sk0, sk1, sk2, sk3, sk4, sk5, sk6, sk7, sk8, sk9, sk10, sk11, sk12, sk13, sk14, sk15, sk16] | apply_rules (transparency := .reducible) (maxDepth := 1) (symm := false) (exfalso := false) only [setAt_z, setAt_s]) | ((with_reducible apply g_seq); first | (with_reducible refine s_step (by with_reducible assumption) ?_) | (with_reducible refine s_retS (by with_reducible assumption)) | apply_rules (transparency := .reducible) (maxDepth := 1) (symm := false) (exfalso := false) only [s_assoc, s_skip, s_asg, s_new, s_expr, s_ret, s_retN, s_t, s_f, s_if, s_par, s_par3, s_new2, s_setIx, s_augV, s_setS, s_setM, s_newO, s_newO0, s_raise] | ((with_reducible apply s_frz); apply_rules (transparency := .reducible) (maxDepth := 1) (symm := false) (exfalso := false) only [gk0, gk1, gk2, gk3, gk4, gk5, gk6, gk7, gk8, gk9, gk10, gk11, gk12, gk13, gk14, gk15, gk16]) | ((with_reducible apply s_frzD); apply_rules (transparency := .reducible) (maxDepth := 1) (symm := false) (exfalso := false) only [gk0, gk1, gk2, gk3, gk4, gk5, gk6, gk7, gk8, gk9, gk10, gk11, gk12, gk13, gk14, gk15, gk16]) | (with_reducible refine s_for ?_ (by with_reducible assumption) ?_) | (with_reducible refine s_forR ?_ (by with_reducible assumption)) | (with_reducible refine s_while (by with_reducible assumption) ?_) | (with_reducible refine s_whileR (by with_reducible assumption)) | (with_reducible refine s_for (?_) (by assumption) ?_)) | apply_rules (transparency := .reducible) (maxDepth := 1) (symm := false) (exfalso := false) only [v_pure, x_callD, y_op2, y_call1, y_call2, y_sl1, y_sl2, y_tup2, y_tup1, y_fo1, y_fo2, y_fo0, y_fo3, y_fn1, y_fn2, y_fn3, y_fn4, y_fn5, x_op2, p_dat, p_own, v_var, x_callD, x_callF, x_callK, x_callW, x_callN, x_make, x_call, x_tup, x_lst, x_neg, x_meth, x_methWR, x_methWD, x_methW, x_sl, x_rev, x_fld, x_chain, x_lenF, x_lenset, x_methF, x_isF, x_eqF, x_kd, x_km, x_neF, x_makeK, x_methK, x_cmp, x_lrn, x_tupRg, pt_s, pt_n, i_seq, i_en, i_rng, i_zip, i_zipN, b_b, b_not, b_and, b_or, x_if, x_andV, x_orV, x_notV, andK_t, andK_f, orK_f, orK_t, chK_t, chK_f, ifK_t, ifK_f, x_lcU, x_lc, s_end, pk_n, pk_c, at_z, at_s, put_n, put_c, wl_n, wl_c, mp_r, tg_nm, tg_tp, tgs_n, tgs_c, pl_n, pl_c, rl_n, rl_c, ra_n, ra_d, ra_o, sq_n, sq_c, app_n, app_c, r_dat, r_own, lcE_i, no_n, no_c, nw_d, nw_n, nw_o, nb_lt, nb_lf, nb_ltn, nb_lfn] | ((with_reducible apply nb_id); first | with_reducible exact nb_nf rfl | with_reducible exact nb_t rfl | exact nb_h (by with_reducible assumption) | exact nb_hf (by with_reducible assumption) | exact nb_hn (by with_reducible assumption) | exact nb_hnf (by with_reducible assumption) | exact nb_t (by with_reducible assumption) | exact nb_f (by with_reducible assumption) | exact nb_nt (by with_reducible assumption) | exact nb_nf (by with_reducible assumption) | exact nb_t (by omega) | exact nb_f (by omega) | exact nb_nt (by omega) | exact nb_nf (by omega) | exact nb_t (by decide) | exact nb_f (by decide) | exact nb_nt (by decide) | exact nb_nf (by decide)) | apply_rules (transparency := .reducible) (maxDepth := 1) (symm := false) (exfalso := false) only [sEq_int, sNe_int, sEq_opt, sNe_opt, sIsN_opt, sNotN_opt, sNotN_int, sIsN_int, sNotN_tup, sIsN_tup, sNotN_lst, sIsN_lst, sNotN_non, sIsN_non, sIn_tup, sNin_tup, sIn_lst, sNin_lst, sEq_tup, sEq_lst, sNe_lst, sNe_tup, sIx_plc, sIx_rows, sIx_rowsL, sIn_row, sNin_row, sLen_row, sLen_plc, isTup_row, isTup_plc, sLen_ints, sLen_tints, sLen_rows, sLen_rowsT, sLen_lst, sLen_tup, isTupD] | ((with_reducible apply is_id); exact is_r) | ((with_reducible apply f_od); exact rfl) | ((with_reducible apply f_ol); exact rfl) | ((with_reducible apply f_op); exact rfl) | ((with_reducible apply f_bt); exact rfl) | ((with_reducible apply f_on); exact rfl) | ((with_reducible apply f_ld); exact rfl) | intro x hx | intro hb | omega | with_reducible apply s_one)))
theorem new01 {f : M D} {i : Nat} {ρ ρ1 ρ2 : Cells} {d : D} (h : f ρ = .ok d ρ1) (h2 : ρ1.set i (.own d) = ρ2) : mNew f i ρ = .next ρ2 := by
  unfold mNew mDo
  rw [h]
  exact congrArg OutS.next h2
theorem thawE_ok {i : Nat} {f : M D} {ρ ρ' : Cells} {ds : List D} {e : D} (h0 : ρ[i]? = some (.own (.lst ds))) (h : f (ρ.set i (.dat (.lst ds))) = .ok e ρ') (h2 : noL e = true) (h3 : cellsOk i 0 ρ ρ' = true) : mThawE i f ρ = .ok e ρ := by
  unfold mThawE
  simp only [h0, h, h2, h3, Bool.and_self, if_pos]
theorem methX {F : Fn} {m : Str} {fo : M D} {fs : List (M D)} {ds outs : List D} {d : D} {x : Exc} {ρ ρ1 ρ2 : Cells} (h : fo ρ = .ok d ρ1) (h1 : noName m d = true) (h2 : seqM fs ρ1 = .ok ds ρ2) (h3 : F (d :: ds) = .exc x outs) : mMethF F m fo fs ρ = .exc x ρ2 := by
  unfold mMethF M.bind
  simp only [h, Out.andThen, h1, if_pos, h2, appF, h3]
theorem noLs_ints : ∀ r : List Int, noLs (r.map .int) = true
  | [] => rfl
  | v :: r => by
    simp only [List.map_cons, noLs, noL, noLs_ints r, Bool.and_self]
theorem noLs_rows : ∀ rows : List (List Int), noLs (rows.map rowD) = true
  | [] => rfl
  | r :: rows => by
    have : noL (rowD r) = true := by
      unfold rowD
      simp only [noL, noLs_ints r]
    simp only [List.map_cons, noLs, this, noLs_rows rows, Bool.and_self]
theorem noL_farm (n t : Int) (rows : List (List Int)) : noL (farmD n rows t) = true := by
  unfold farmD
  simp only [noL, noLs, noLs_rows rows, Bool.and_self]
theorem lt3 {z : Int} (h0 : 0 ≤ z) (h1 : z < 3) : z = 0 ∨ z = 1 ∨ z = 2 := by omega
theorem pick3 {z : Int} (h0 : 0 ≤ z) (h1 : z < 3) (k : Int) (k9 : 9 ≤ k) : ∃ mo, sIx (.lst [.int 9, .int 9, .int k]) (.int z) = some (.int mo) ∧ 1 ≤ mo ∧ mo ≤ k := by
  rcases lt3 h0 h1 with rfl | rfl | rfl
  · exact ⟨9, atI_nat [D.int 9, .int 9, .int k] 0, by omega, by omega⟩
  · exact ⟨9, atI_nat [D.int 9, .int 9, .int k] 1, by omega, by omega⟩
  · exact ⟨k, atI_nat [D.int 9, .int 9, .int k] 2, by omega, by omega⟩
section
variable {n t : Int} {rows : List (List Int)} {L : List D} {M0 d : D}
theorem e_fcheckX (h60 : rows.length ≤ 60) (e : m_is_from [d, .int 0, .int (((rows.length : Nat) : Int) - 1)] = .ret (.bl false) []) : m_Farm_check_session [farmD n rows t, d] = .exc ⟨1, [d]⟩ [] := by
  have a : mOp2 sSub (.dat (mCall sLen [(.dat (mFld (mVar 0) "rows"))])) (.dat (M.pure (.int 1))) [.dat (farmD n rows t), .dat d] = .ok (.int (((rows.length : Nat) : Int) - 1)) [.dat (farmD n rows t), .dat d] := mOp2_dd (x := .int (rows.length : Nat)) (y := .int 1) (c1_ok (a := .tup (rows.map rowD)) rfl (by rw [sLen_tup, List.length_map])) rfl rfl
  exact s_runX (ρ0 := [.dat (farmD n rows t), .dat d]) rfl (if_t (mNot_ok (mB_ok (callF3 (a := d) (b := .int 0) (c := .int (((rows.length : Nat) : Int) - 1)) rfl rfl a e))) rfl) rfl
theorem e_frowX (h60 : rows.length ≤ 60) (e : m_is_from [d, .int 0, .int (((rows.length : Nat) : Int) - 1)] = .ret (.bl false) []) : m_Farm_row [farmD n rows t, d] = .exc ⟨1, [d]⟩ [] :=
  s_runX (ρ0 := [.dat (farmD n rows t), .dat d]) rfl (s_stepE (exprX (methX (d := farmD n rows t) (ds := [d]) rfl rfl rfl (e_fcheckX h60 e)))) rfl
theorem e_fcheck01 {i : Int} (i0 : 0 ≤ i) (i1 : i < rows.length) (h60 : rows.length ≤ 60) : m_Farm_check_session [farmD n rows t, .int i] = .ret .non [] := by
  have e3 := e_is_from i 0 ((rows.length : Nat) - 1)
  rw [decide_eq_true i0, decide_eq_true (by omega : i ≤ ((rows.length : Nat) : Int) - 1), Bool.and_self] at e3
  (unfold m_Farm_check_session; apply s_runN (ρ0 := [.dat (farmD n rows t), .dat (.int i)]) rfl; unfold b_Farm_check_session)
  · trivial
  · rfl
theorem e_frow01 {i : Nat} {r : List Int} (h : rows[i]? = some r) (h60 : rows.length ≤ 60) : m_Farm_row [farmD n rows t, .int (i : Int)] = .ret (rowD r) [] := by
  have hi := (List.getElem?_eq_some_iff.mp h).1
  have e := e_fcheck01 (n := n) (t := t) (rows := rows) (i := (i : Int)) (by omega) (by omega) h60
  have q : sIx (.tup (rows.map rowD)) (.int (i : Int)) = some (rowD r) := by
    show atI _ _ = _
    rw [atI_nat, List.getElem?_map, h]
    rfl
  (unfold m_Farm_row; apply s_run (ρ0 := [.dat (farmD n rows t), .dat (.int (i : Int))]) rfl; unfold b_Farm_row)
  · trivial
  · rfl
theorem good_no (hF : FarmOk n rows) : ∀ i, i < (rows.map rowD).length → badL n (rows.map rowD) i = false := fun i hi => by
  rw [List.length_map] at hi
  have hr : (rows.map rowD)[i]? = some (rowD rows[i]) := by rw [List.getElem?_map, List.getElem?_eq_getElem hi]; rfl
  rw [badL_at hr]
  have ok := hF.row _ (List.getElem_mem hi)
  have a := e_isrow (n := n) (rowU_row ok)
  rw [e_is_row' ok] at a
  injection a with a _
  injection a with a
  cases hb : badRow n (rowD rows[i]) with
  | false => rfl
  | true => rw [hb] at a; cases a
theorem init_fail (hF : FarmOk n rows) (e : m_is_from [d, .int 0, .int n] = .ret (.bl false) []) : ∃ o, m_Farmdd_initdd [D.rcd [] [], .int n, (D.lst (rows.map rowD)), d] = .exc (xF "failures" (-1)) o := by
  have hg := good_no hF
  have h60 := hF.len
  have hL : ∀ x ∈ rows.map rowD, RowU x := fun x hx => by
    obtain ⟨r, hr, rfl⟩ := List.mem_map.mp hx
    exact rowU_row (hF.row r hr)
  generalize hl : rows.map rowD = L at *
  have q1 := isL01 L
  have pt : (mOr (mNot (mB (mCall sIsi [(.dat (mVar 2)), (.dat (M.pure (.raw (.ty "list"))))]))) (mB (mOp2 sGt (.dat (mCall sLen [(.dat (mVar 2))])) (.dat (M.pure (.int 60)))))) [.own (.rcd [] []), .dat (.int n), .dat (.lst L), .dat d, .no, .no] = .ok (false || decide ((60 : Int) < (L.length : Nat))) [.own (.rcd [] []), .dat (.int n), .dat (.lst L), .dat d, .no, .no] := mOr_ok (mNot_ok (mB_ok (call1_ok rfl rfl q1))) fun _ => mB_ok (mOp2_dd (c1_ok rfl sLen_lst) rfl rfl)
  have hlen : L.length = rows.length := by rw [← hl, List.length_map]
  rw [Bool.false_or, decide_eq_false (by omega)] at pt
  rcases fi_loop (n := n) (M0 := d) hL with ⟨i, h1, h2, _⟩ | ⟨_, a, a', h4⟩
  · rw [hg i h1] at h2; cases h2
  · exact ⟨_, s_runX (ρ0 := [.own (.rcd [] []), .dat (.int n), .dat (.lst L), .dat d, .no, .no]) rfl (s_step (p0 hF.n1 hF.n2 _ _) (s_step (if_f pt rfl) (s_step ((for_o (ds := enumD 0 L) (i_enum (d := .lst L) rfl rfl)).trans h4) (s_stepE (if_t (mNot_ok (mB_ok (callF3 (a := d) (b := .int 0) (c := .int n) rfl rfl rfl e))) rfl))))) rfl⟩
theorem init_srv01 {a b : D} (e : m_is_from [d, .int 1, .int 30] = .ret (.bl false) []) : ∃ o, m_Farmdd_initdd [D.rcd [] [], d, a, b] = .exc (xF "servers" (-1)) o :=
  ⟨_, s_runX (ρ0 := [.own (.rcd [] []), .dat d, .dat a, .dat b, .no, .no]) rfl (s_stepE (if_t (mNot_ok (mB_ok (callF3 (a := d) (b := .int 1) (c := .int 30) rfl rfl rfl e))) rfl)) rfl⟩
theorem q0 {w w1 w2 w3 : D} {z1 z2 mo ma : Int} (e1 : m_law_draw [w, .int 3] = .ret (.int z1) [w1]) (p1 : sIx (.lst [.int 9, .int 9, .int 30]) (.int z1) = some (.int mo)) (e2 : m_law_draw [w1, .int 3] = .ret (.int z2) [w2]) (p2 : sIx (.lst [.int 9, .int 9, .int 60]) (.int z2) = some (.int ma)) (e3 : m_law_farm [w2, .int mo, .int ma] = .ret (partsD n rows t) [w3]) : (mAsg (mCallF m_law_farm [(.own 0), (.dat (mOp2 sIx (.dat (mLst [(M.pure (.int 9)), (M.pure (.int 9)), (M.pure (.int 30))])) (.dat (mCallF m_law_draw [(.own 0), (.dat (M.pure (.int 3)))])))), (.dat (mOp2 sIx (.dat (mLst [(M.pure (.int 9)), (M.pure (.int 9)), (M.pure (.int 60))])) (.dat (mCallF m_law_draw [(.own 0), (.dat (M.pure (.int 3)))]))))]) (gTp [1, 2, 3])) [.own (w), .no, .no, .no, .no, .no, .no, .no, .no, .no, .no] = .next [.own (w3), .dat (.int n), .dat (D.lst (rows.map rowD)), .dat (.int t), .no, .no, .no, .no, .no, .no, .no] := by
  unfold partsD at e3
  generalize (D.lst (rows.map rowD)) = y at *
  refine s_one ?_
  trivial
theorem q1 {w : D} : (mNew (mCall sList [(.dat (mVar 2))]) 4) [.own (w), .dat (.int n), .dat (D.lst (rows.map rowD)), .dat (.int t), .no, .no, .no, .no, .no, .no, .no] = .next [.own (w), .dat (.int n), .dat (D.lst (rows.map rowD)), .dat (.int t), .own (D.lst (rows.map rowD)), .no, .no, .no, .no, .no, .no] := new01 (c1_ok (a := (D.lst (rows.map rowD))) (d := (D.lst (rows.map rowD))) rfl rfl) rfl
theorem q2 (a b d : Int) (e : m_Farmdd_initdd [.rcd [] [], .int n, (D.lst (rows.map rowD)), .int t] = .ret .non [farmD n rows t]) : (mAsg (mThawE 4 (mMake m_Farmdd_initdd [(mVar 1), (mVar 4), (mVar 3)])) (gNm 5)) [.own ((wellD a b d)), .dat (.int n), .dat (D.lst (rows.map rowD)), .dat (.int t), .own (D.lst (rows.map rowD)), .no, .no, .no, .no, .no, .no] = .next [.own ((wellD a b d)), .dat (.int n), .dat (D.lst (rows.map rowD)), .dat (.int t), .own (D.lst (rows.map rowD)), .dat (farmD n rows t), .no, .no, .no, .no, .no] := asg_ok01 (thawE_ok (ρ' := [.own ((wellD a b d)), .dat (.int n), .dat (D.lst (rows.map rowD)), .dat (.int t), .dat (D.lst (rows.map rowD)), .no, .no, .no, .no, .no, .no]) rfl (make3 (a := .int n) (b := (D.lst (rows.map rowD))) (d := .int t) rfl rfl rfl e) (noL_farm n t rows) (by simp [cellsOk, flatEq, flatAll, flatOne, wellD])) rfl
theorem q3 {w : D} : (mIfS (mB (mOp2 sNe (.own 4) (.dat (mVar 2)))) (mRet (M.pure (.bl false))) mSkip) [.own (w), .dat (.int n), .dat (D.lst (rows.map rowD)), .dat (.int t), .own (D.lst (rows.map rowD)), .dat (farmD n rows t), .no, .no, .no, .no, .no] = .next [.own (w), .dat (.int n), .dat (D.lst (rows.map rowD)), .dat (.int t), .own (D.lst (rows.map rowD)), .dat (farmD n rows t), .no, .no, .no, .no, .no] := by
  have q : sNe (D.lst (rows.map rowD)) (D.lst (rows.map rowD)) = some (.bl false) := sNe_same (k := 2) (.lst (pn_rows01 rows))
  generalize (D.lst (rows.map rowD)) = y at *
  generalize farmD n rows t = fm at *
  refine s_one ?_
  trivial
theorem q4 {w : D} (h60 : rows.length ≤ 60) : (mExpr (mMethWR wAppend 4 [(mTup [(M.pure (.int 0))])])) [.own (w), .dat (.int n), .dat (D.lst (rows.map rowD)), .dat (.int t), .own (D.lst (rows.map rowD)), .dat (farmD n rows t), .no, .no, .no, .no, .no] = .next [.own (w), .dat (.int n), .dat (D.lst (rows.map rowD)), .dat (.int t), .own (D.lst (rows.map rowD ++ [D.tup [.int 0]])), .dat (farmD n rows t), .no, .no, .no, .no, .no] := by
  have q : wAppend (D.lst (rows.map rowD)) [.tup [.int 0]] = some (.non, (D.lst (rows.map rowD ++ [D.tup [.int 0]]))) := if_pos (by rw [List.length_map]; omega)
  have q2 : isLst (D.lst (rows.map rowD)) = true := rfl
  generalize (D.lst (rows.map rowD ++ [D.tup [.int 0]])) = z at *
  generalize (D.lst (rows.map rowD)) = y at *
  generalize farmD n rows t = fm at *
  refine s_one ?_
  trivial
theorem q5 {w : D} (e : mf_Farm_lists [farmD n rows t] = .ret (D.lst (rows.map rowD)) []) : (mNew (mMethF mf_Farm_lists "lists" (mVar 5) []) 6) [.own (w), .dat (.int n), .dat (D.lst (rows.map rowD)), .dat (.int t), .own (D.lst (rows.map rowD ++ [D.tup [.int 0]])), .dat (farmD n rows t), .no, .no, .no, .no, .no] = .next [.own (w), .dat (.int n), .dat (D.lst (rows.map rowD)), .dat (.int t), .own (D.lst (rows.map rowD ++ [D.tup [.int 0]])), .dat (farmD n rows t), .own (D.lst (rows.map rowD)), .no, .no, .no, .no] := new01 (x_methF (ds := []) (d := farmD n rows t) rfl rfl rfl e) rfl
theorem q6 {w : D} (h60 : rows.length ≤ 60) : (mExpr (mMethWR wAppend 6 [(mTup [])])) [.own (w), .dat (.int n), .dat (D.lst (rows.map rowD)), .dat (.int t), .own (D.lst (rows.map rowD ++ [D.tup [.int 0]])), .dat (farmD n rows t), .own (D.lst (rows.map rowD)), .no, .no, .no, .no] = .next [.own (w), .dat (.int n), .dat (D.lst (rows.map rowD)), .dat (.int t), .own (D.lst (rows.map rowD ++ [D.tup [.int 0]])), .dat (farmD n rows t), .own (D.lst (rows.map rowD ++ [D.tup []])), .no, .no, .no, .no] := by
  have q : wAppend (D.lst (rows.map rowD)) [.tup []] = some (.non, (D.lst (rows.map rowD ++ [D.tup []]))) := if_pos (by rw [List.length_map]; omega)
  have q2 : isLst (D.lst (rows.map rowD)) = true := rfl
  generalize (D.lst (rows.map rowD ++ [D.tup [.int 0]])) = z at *
  generalize (D.lst (rows.map rowD ++ [D.tup []])) = z6 at *
  generalize (D.lst (rows.map rowD)) = y at *
  generalize farmD n rows t = fm at *
  refine s_one ?_
  trivial
theorem e_serv01 : m_Farm_servers [farmD n rows t] = .ret (.int n) [] := by rfl
theorem e_fail01 : m_Farm_failures [farmD n rows t] = .ret (.int t) [] := by rfl
theorem sNe_i (v : Int) : sNe (.int v) (.int v) = some (.bl false) := sNe_same (k := 1) .int
theorem or_ff {f g : M Bool} {ρ : Cells} (h1 : f ρ = .ok false ρ) (h2 : g ρ = .ok false ρ) : mOr f g ρ = .ok false ρ := mOr_ok (a := false) (b := false) h1 fun _ => h2
theorem q7 {w : D} (h60 : rows.length ≤ 60) : (mIfS (mOr (mB (mOp2 sNe (.dat (mMethF m_Farm_lists "lists" (mVar 5) [])) (.dat (mVar 2)))) (mOr (mB (mOp2 sNe (.dat (mMethF m_Farm_servers "servers" (mVar 5) [])) (.dat (mVar 1)))) (mOr (mB (mOp2 sNe (.dat (mMethF m_Farm_failures "failures" (mVar 5) [])) (.dat (mVar 3)))) (mB (mOp2 sNe (.dat (mLenF m_Farmdd_lendd (mVar 5))) (.dat (mCall sLen [(.dat (mVar 2))]))))))) (mRet (M.pure (.bl false))) mSkip) [.own (w), .dat (.int n), .dat (D.lst (rows.map rowD)), .dat (.int t), .own (D.lst (rows.map rowD ++ [D.tup [.int 0]])), .dat (farmD n rows t), .own (D.lst (rows.map rowD ++ [D.tup []])), .no, .no, .no, .no] = .next [.own (w), .dat (.int n), .dat (D.lst (rows.map rowD)), .dat (.int t), .own (D.lst (rows.map rowD ++ [D.tup [.int 0]])), .dat (farmD n rows t), .own (D.lst (rows.map rowD ++ [D.tup []])), .no, .no, .no, .no] := by
  have k1 : sNe (D.lst (rows.map rowD)) (D.lst (rows.map rowD)) = some (.bl false) := sNe_same (k := 2) (.lst (pn_rows01 rows))
  have k2 : sLen [(D.lst (rows.map rowD))] = some (.int (rows.length : Nat)) := by rw [sLen_lst, List.length_map]
  refine if_f (or_ff (mB_ok (mOp2_dd (x_methF (ds := []) (d := farmD n rows t) rfl rfl rfl (e_lists n rows t)) rfl k1)) (or_ff (mB_ok (mOp2_dd (x_methF (ds := []) (d := farmD n rows t) rfl rfl rfl e_serv01) rfl (sNe_i n))) (or_ff (mB_ok (mOp2_dd (x_methF (ds := []) (d := farmD n rows t) rfl rfl rfl e_fail01) rfl (sNe_i t))) (mB_ok (mOp2_dd (x_lenF (d := farmD n rows t) (k := (rows.length : Nat)) rfl rfl (e_len n rows t) (by omega) (by omega)) (c1_ok rfl k2) (sNe_i _)))))) rfl
theorem q8 {w : D} (hF : FarmOk n rows) (t0 : 0 ≤ t) (t1 : t ≤ n) : (mIfS (mOr (mB (mOp2 sNe (.dat (mLc (mRange1 (mCall sLen [(.dat (mVar 2))])) (gNm 7) (M.pure true) (mMethF m_Farm_row "row" (mVar 5) [(mVar 7)]) [7])) (.dat (mVar 2)))) (mNot (mB (mCallF m_law_equal_right [(.dat (mVar 1)), (.dat (mVar 2)), (.dat (mVar 3))])))) (mRet (M.pure (.bl false))) mSkip) [.own (w), .dat (.int n), .dat (D.lst (rows.map rowD)), .dat (.int t), .own (D.lst (rows.map rowD ++ [D.tup [.int 0]])), .dat (farmD n rows t), .own (D.lst (rows.map rowD ++ [D.tup []])), .no, .no, .no, .no] = .next [.own (w), .dat (.int n), .dat (D.lst (rows.map rowD)), .dat (.int t), .own (D.lst (rows.map rowD ++ [D.tup [.int 0]])), .dat (farmD n rows t), .own (D.lst (rows.map rowD ++ [D.tup []])), .no, .no, .no, .no] := by
  have h60 := hF.len
  have k1 : sNe (D.lst (rows.map rowD)) (D.lst (rows.map rowD)) = some (.bl false) := sNe_same (k := 2) (.lst (pn_rows01 rows))
  have k2 : sLen [(D.lst (rows.map rowD))] = some (.int (rows.length : Nat)) := by rw [sLen_lst, List.length_map]
  have k3 := e_eqright hF t0 t1
  have lc : (mLc (mRange1 (mCall sLen [(.dat (mVar 2))])) (gNm 7) (M.pure true) (mMethF m_Farm_row "row" (mVar 5) [(mVar 7)]) [7]) [.own (w), .dat (.int n), .dat (D.lst (rows.map rowD)), .dat (.int t), .own (D.lst (rows.map rowD ++ [D.tup [.int 0]])), .dat (farmD n rows t), .own (D.lst (rows.map rowD ++ [D.tup []])), .no, .no, .no, .no] = .ok (D.lst (rows.map rowD)) [.own (w), .dat (.int n), .dat (D.lst (rows.map rowD)), .dat (.int t), .own (D.lst (rows.map rowD ++ [D.tup [.int 0]])), .dat (farmD n rows t), .own (D.lst (rows.map rowD ++ [D.tup []])), .no, .no, .no, .no] := by
    have h := x_lcU (vs := [7]) (g := gNm 7) (fe := mMethF m_Farm_row "row" (mVar 5) [(mVar 7)]) (fi := mRange1 (mCall sLen [(.dat (mVar 2))])) (em := D.int) (f := fun k => rowD (rows.getD k.toNat [])) (xs := rng rows.length) (ds := (rng rows.length).map .int) (ρ := [.own (w), .dat (.int n), .dat (D.lst (rows.map rowD)), .dat (.int t), .own (D.lst (rows.map rowD ++ [D.tup [.int 0]])), .dat (farmD n rows t), .own (D.lst (rows.map rowD ++ [D.tup []])), .no, .no, .no, .no]) (ρ1 := [.own (w), .dat (.int n), .dat (D.lst (rows.map rowD)), .dat (.int t), .own (D.lst (rows.map rowD ++ [D.tup [.int 0]])), .dat (farmD n rows t), .own (D.lst (rows.map rowD ++ [D.tup []])), .no, .no, .no, .no]) (w := [.own (w), .dat (.int n), .dat (D.lst (rows.map rowD)), .dat (.int t), .own (D.lst (rows.map rowD ++ [D.tup [.int 0]])), .dat (farmD n rows t), .own (D.lst (rows.map rowD ++ [D.tup []])), .no, .no, .no, .no]) (i_rng (k := (rows.length : Nat)) (c1_ok (a := (D.lst (rows.map rowD))) rfl k2) (by omega) (by omega)) mp_r rfl rfl fun x hx => by
      obtain ⟨x0, x1⟩ := rng_mem hx
      have hi : rows[x.toNat]? = some (rows.getD x.toNat []) := by
        rw [List.getD_eq_getElem?_getD, List.getElem?_eq_getElem (by omega)]
        rfl
      have e := e_frow01 (n := n) (t := t) hi h60
      rw [Int.toNat_of_nonneg x0] at e
      have e2 : mMethF m_Farm_row "row" (mVar 5) [(mVar 7)] [.own (w), .dat (.int n), .dat (D.lst (rows.map rowD)), .dat (.int t), .own (D.lst (rows.map rowD ++ [D.tup [.int 0]])), .dat (farmD n rows t), .own (D.lst (rows.map rowD ++ [D.tup []])), .dat (.int x), .no, .no, .no] = .ok (rowD (rows.getD x.toNat [])) [.own (w), .dat (.int n), .dat (D.lst (rows.map rowD)), .dat (.int t), .own (D.lst (rows.map rowD ++ [D.tup [.int 0]])), .dat (farmD n rows t), .own (D.lst (rows.map rowD ++ [D.tup []])), .dat (.int x), .no, .no, .no] := x_methF (ds := [.int x]) (d := farmD n rows t) rfl rfl rfl e
      exact ⟨[.own (w), .dat (.int n), .dat (D.lst (rows.map rowD)), .dat (.int t), .own (D.lst (rows.map rowD ++ [D.tup [.int 0]])), .dat (farmD n rows t), .own (D.lst (rows.map rowD ++ [D.tup []])), .dat (.int x), .no, .no, .no], rfl, rfl, fun _ => e2, rfl⟩
    have hr : (rng rows.length).map (fun k => rowD (rows.getD k.toNat [])) = rows.map rowD := by
      apply List.ext_getElem
      · rw [List.length_map, List.length_map, rng_len]
      · intro i h1 h2
        rw [List.length_map] at h2
        simp only [List.getElem_map, rng, List.getElem_range]
        congr 1
        rw [List.getD_eq_getElem?_getD]
        simp [List.getElem?_eq_getElem h2]
    rw [hr] at h
    exact h
  exact if_f (or_ff (mB_ok (mOp2_dd (y := (D.lst (rows.map rowD))) lc rfl k1)) (mNot_ok (mB_ok (b := true) (callF3 (a := .int n) (b := (D.lst (rows.map rowD))) (c := .int t) rfl rfl rfl k3)))) rfl
/-- sessions that are none -/
theorem o_body {w : D} (h60 : rows.length ≤ 60) {c8 : Cell} (hd : sNeC (.tup [.str "session", d]) (.tup [.str "session", d]) = some (.bl false)) (e : m_is_from [d, .int 0, .int (((rows.length : Nat) : Int) - 1)] = .ret (.bl false) []) : (mIfS (mB (mCmp sNeC (mLamX (fun _ => D.non) hv_law_raised (mMethF m_Farm_row "row" (mVar 5) [(mVar 8)])) (mTup [(M.pure (.str "session")), (mVar 8)]))) (mRet (M.pure (.bl false))) mSkip) [.own (w), .dat (.int n), .dat (D.lst (rows.map rowD)), .dat (.int t), .own (D.lst (rows.map rowD ++ [D.tup [.int 0]])), .dat (farmD n rows t), .own (D.lst (rows.map rowD ++ [D.tup []])), .no, .dat d, .no, .no] = .next [.own (w), .dat (.int n), .dat (D.lst (rows.map rowD)), .dat (.int t), .own (D.lst (rows.map rowD ++ [D.tup [.int 0]])), .dat (farmD n rows t), .own (D.lst (rows.map rowD ++ [D.tup []])), .no, .dat d, .no, .no] := by
  refine if_f (mB_ok (cmp_ok01 (lam_x (methX (d := farmD n rows t) (ds := [d]) rfl rfl rfl (e_frowX h60 e)) (hv_se d)) rfl hd)) rfl
/-- a farm refused or made -/
theorem a_ok (hA : AgF n d M0) {ρ : Cells} {fs gs : List (M D)} {f : M D} (hf : ∀ x o, m_Farmdd_initdd [D.rcd [] [], .int n, d, M0] = .exc x o → mMake m_Farmdd_initdd fs (dropOwn ρ) = .exc x (dropOwn ρ)) (hf2 : ∀ ns es, m_Farmdd_initdd [D.rcd [] [], .int n, d, M0] = .ret .non [.rcd ns es] → mMake m_Farmdd_initdd fs (dropOwn ρ) = .ok (.rcd ns es) (dropOwn ρ)) (hg : ∀ r, m_law_bad [.int n, d, M0] = .ret r [] → f ρ = .ok r ρ) : mCmp sNe (mLamX (fun _ => D.non) hv_law_raised (mMake m_Farmdd_initdd fs)) f ρ = .ok (.bl false) ρ := by
  obtain ⟨r, e, h⟩ := hA
  have g := hg r e
  rcases h with ⟨rfl, ns, es, h⟩ | ⟨wd, i, hw, rfl, o, h⟩
  · exact cmp_ok01 (lam_ok (hf2 ns es h)) g rfl
  · refine cmp_ok01 (lam_x (hf _ o h) (hv_fm wd i)) g (sNe_same (k := 1) (.tup fun x hx => ?_))
    simp only [List.mem_cons, List.not_mem_nil, or_false] at hx
    rcases hx with rfl | rfl
    · refine .str ?_
      rcases hw with rfl | rfl <;> decide +kernel
    · exact .int
theorem s_bodyF {w : D} {c8 c9 : Cell} {S : D} (h1 : AgF n S (.int t)) (h2 : AgF n S .non) : (mSeq (mIfS (mB (mCmp sNe (mLamX (fun _ => D.non) hv_law_raised (mMake m_Farmdd_initdd [(mVar 1), (mVar 10), (mVar 3)])) (mCallF m_law_bad [(.dat (mVar 1)), (.dat (mVar 10)), (.dat (mVar 3))]))) (mRet (M.pure (.bl false))) mSkip) (mIfS (mB (mCmp sNe (mLamX (fun _ => D.non) hv_law_raised (mMake m_Farmdd_initdd [(mVar 1), (mVar 10), (M.pure .non)])) (mCallF m_law_bad [(.dat (mVar 1)), (.dat (mVar 10)), (.dat (M.pure .non))]))) (mRet (M.pure (.bl false))) mSkip)) [.own (w), .dat (.int n), .dat (D.lst (rows.map rowD)), .dat (.int t), .own (D.lst (rows.map rowD ++ [D.tup [.int 0]])), .dat (farmD n rows t), .own (D.lst (rows.map rowD ++ [D.tup []])), .no, c8, c9, .dat S] = .next [.own (w), .dat (.int n), .dat (D.lst (rows.map rowD)), .dat (.int t), .own (D.lst (rows.map rowD ++ [D.tup [.int 0]])), .dat (farmD n rows t), .own (D.lst (rows.map rowD ++ [D.tup []])), .no, c8, c9, .dat S] := by
  have g1 := a_ok h1 (ρ := [.own (w), .dat (.int n), .dat (D.lst (rows.map rowD)), .dat (.int t), .own (D.lst (rows.map rowD ++ [D.tup [.int 0]])), .dat (farmD n rows t), .own (D.lst (rows.map rowD ++ [D.tup []])), .no, c8, c9, .dat S]) (fs := [(mVar 1), (mVar 10), (mVar 3)]) (gs := []) (f := mCallF m_law_bad [(.dat (mVar 1)), (.dat (mVar 10)), (.dat (mVar 3))]) (fun x o h => by cases c8 <;> cases c9 <;> exact makeX (ds := [.int n, S, .int t]) rfl h) (fun ns es h => by cases c8 <;> cases c9 <;> exact make3 (a := .int n) (b := S) (d := .int t) rfl rfl rfl h) (fun r h => callF3 rfl rfl rfl h)
  have g2 := a_ok h2 (ρ := [.own (w), .dat (.int n), .dat (D.lst (rows.map rowD)), .dat (.int t), .own (D.lst (rows.map rowD ++ [D.tup [.int 0]])), .dat (farmD n rows t), .own (D.lst (rows.map rowD ++ [D.tup []])), .no, c8, c9, .dat S]) (fs := [(mVar 1), (mVar 10), (M.pure .non)]) (gs := []) (f := mCallF m_law_bad [(.dat (mVar 1)), (.dat (mVar 10)), (.dat (M.pure .non))]) (fun x o h => by cases c8 <;> cases c9 <;> exact makeX (ds := [.int n, S, .non]) rfl h) (fun ns es h => by cases c8 <;> cases c9 <;> exact make3 (a := .int n) (b := S) (d := .non) rfl rfl rfl h) (fun r h => callF3 rfl rfl rfl h)
  exact s_step (if_f (mB_ok g1) rfl) (if_f (mB_ok g2) rfl)
theorem sNe_wi {wd : Str} (hw : wd = "servers" ∨ wd = "failures") (i : Int) : sNe (.tup [.str wd, .int i]) (.tup [.str wd, .int i]) = some (.bl false) := sNe_same (k := 1) (.tup fun x hx => by
    simp only [List.mem_cons, List.not_mem_nil, or_false] at hx
    rcases hx with rfl | rfl
    · refine .str ?_
      rcases hw with rfl | rfl <;> decide +kernel
    · exact .int)
theorem v_body {w : D} {c9 c10 : Cell} (e : m_is_from [d, .int 1, .int 30] = .ret (.bl false) []) : (mIfS (mB (mCmp sNe (mLamX (fun _ => D.non) hv_law_raised (mMake m_Farmdd_initdd [(mVar 8), (M.pure .non), (M.pure .non)])) (mTup [(M.pure (.str "servers")), (mNeg (M.pure (.int 1)))]))) (mRet (M.pure (.bl false))) mSkip) [.own (w), .dat (.int n), .dat (D.lst (rows.map rowD)), .dat (.int t), .own (D.lst (rows.map rowD ++ [D.tup [.int 0]])), .dat (farmD n rows t), .own (D.lst (rows.map rowD ++ [D.tup []])), .no, .dat d, c9, c10] = .next [.own (w), .dat (.int n), .dat (D.lst (rows.map rowD)), .dat (.int t), .own (D.lst (rows.map rowD ++ [D.tup [.int 0]])), .dat (farmD n rows t), .own (D.lst (rows.map rowD ++ [D.tup []])), .no, .dat d, c9, c10] := by
  obtain ⟨o, h⟩ := init_srv01 (a := .non) (b := .non) e
  refine if_f (mB_ok (cmp_ok01 (lam_x (ρ1 := dropOwn [.own (w), .dat (.int n), .dat (D.lst (rows.map rowD)), .dat (.int t), .own (D.lst (rows.map rowD ++ [D.tup [.int 0]])), .dat (farmD n rows t), .own (D.lst (rows.map rowD ++ [D.tup []])), .no, .dat d, c9, c10]) ?_ (hv_fm "servers" (-1))) (e := .tup [.str "servers", .int (-1)]) rfl (sNe_wi (.inl rfl) (-1)))) rfl
  cases c9 <;> cases c10 <;> exact makeX (ds := [d, .non, .non]) rfl h
theorem f_body {w : D} {c9 c10 : Cell} (hF : FarmOk n rows) (e : m_is_from [d, .int 0, .int n] = .ret (.bl false) []) : (mIfS (mB (mCmp sNe (mLamX (fun _ => D.non) hv_law_raised (mMake m_Farmdd_initdd [(mVar 1), (mVar 2), (mVar 8)])) (mTup [(M.pure (.str "failures")), (mNeg (M.pure (.int 1)))]))) (mRet (M.pure (.bl false))) mSkip) [.own (w), .dat (.int n), .dat (D.lst (rows.map rowD)), .dat (.int t), .own (D.lst (rows.map rowD ++ [D.tup [.int 0]])), .dat (farmD n rows t), .own (D.lst (rows.map rowD ++ [D.tup []])), .no, .dat d, c9, c10] = .next [.own (w), .dat (.int n), .dat (D.lst (rows.map rowD)), .dat (.int t), .own (D.lst (rows.map rowD ++ [D.tup [.int 0]])), .dat (farmD n rows t), .own (D.lst (rows.map rowD ++ [D.tup []])), .no, .dat d, c9, c10] := by
  obtain ⟨o, h⟩ := init_fail hF e
  refine if_f (mB_ok (cmp_ok01 (lam_x (ρ1 := dropOwn [.own (w), .dat (.int n), .dat (D.lst (rows.map rowD)), .dat (.int t), .own (D.lst (rows.map rowD ++ [D.tup [.int 0]])), .dat (farmD n rows t), .own (D.lst (rows.map rowD ++ [D.tup []])), .no, .dat d, c9, c10]) ?_ (hv_fm "failures" (-1))) (e := .tup [.str "failures", .int (-1)]) rfl (sNe_wi (.inr rfl) (-1)))) rfl
  cases c9 <;> cases c10 <;> exact makeX (ds := [.int n, (D.lst (rows.map rowD)), d]) rfl h
end
end Fx
set_option Elab.async false
set_option linter.all false
set_option maxRecDepth 100000
set_option maxHeartbeats 1000000
namespace Fx
open PySem L2
local macro_rules
  | `(tactic| trivial) => `(tactic| (repeat (first | with_reducible assumption | ((with_reducible apply vv_id); apply_rules (transparency := .reducible) (maxDepth := 1) (symm := false) (exfalso := false) only [vk0, vk1, vk2, vk3, vk4, vk5, vk6, vk7, vk8, vk9, vk10, vk11, vk12, vk13, vk14, vk15, vk16]) | ((with_reducible apply gg_id); first | apply_rules (transparency := .reducible) (maxDepth := 1) (symm := false) (exfalso := false) only [gk0, gk1, gk2, gk3, gk4, gk5, gk6, gk7, gk8, gk9, gk10, gk11, gk12, gk13, gk14, gk15, gk16] | apply_rules (transparency := .reducible) (maxDepth := 1) (symm := false) (exfalso := false) only [getAt_z, getAt_s]) | ((with_reducible apply ss_id); first | apply_rules (transparency := .reducible) (maxDepth := 1) (symm := false) (exfalso := false) only [sk0, sk1, sk2, sk3, sk4, sk5, sk6, sk7, sk8, sk9, sk10, sk11, sk12, sk13, sk14, sk15, sk16] | apply_rules (transparency := .reducible) (maxDepth := 1) (symm := false) (exfalso := false) only [setAt_z, setAt_s]) | ((with_reducible apply g_seq); first | (with_reducible refine s_step (by with_reducible assumption) ?_) | (with_reducible refine s_retS (by with_reducible assumption)) | apply_rules (transparency := .reducible) (maxDepth := 1) (symm := false) (exfalso := false) only [s_assoc, s_skip, s_asg, s_new, s_expr, s_ret, s_retN, s_t, s_f, s_if, s_par, s_par3, s_new2, s_setIx, s_augV, s_setS, s_setM, s_newO, s_newO0, s_raise] | ((with_reducible apply s_frz); apply_rules (transparency := .reducible) (maxDepth := 1) (symm := false) (exfalso := false) only [gk0, gk1, gk2, gk3, gk4, gk5, gk6, gk7, gk8, gk9, gk10, gk11, gk12, gk13, gk14, gk15, gk16]) | ((with_reducible apply s_frzD); apply_rules (transparency := .reducible) (maxDepth := 1) (symm := false) (exfalso := false) only [gk0, gk1, gk2, gk3, gk4, gk5, gk6, gk7, gk8, gk9, gk10, gk11, gk12, gk13, gk14, gk15, gk16]) | (with_reducible refine s_for ?_ (by with_reducible assumption) ?_) | (with_reducible refine s_forR ?_ (by with_reducible assumption)) | (with_reducible refine s_while (by with_reducible assumption) ?_) | (with_reducible refine s_whileR (by with_reducible assumption)) | (with_reducible refine s_for (?_) (by assumption) ?_)) | apply_rules (transparency := .reducible) (maxDepth := 1) (symm := false) (exfalso := false) only [v_pure, x_callD, y_op2, y_call1, y_call2, y_sl1, y_sl2, y_tup2, y_tup1, y_fo1, y_fo2, y_fo0, y_fo3, y_fn1, y_fn2, y_fn3, y_fn4, y_fn5, x_op2, p_dat, p_own, v_var, x_callD, x_callF, x_callK, x_callW, x_callN, x_make, x_call, x_tup, x_lst, x_neg, x_meth, x_methWR, x_methWD, x_methW, x_sl, x_rev, x_fld, x_chain, x_lenF, x_lenset, x_methF, x_isF, x_eqF, x_kd, x_km, x_neF, x_makeK, x_methK, x_cmp, x_lrn, x_tupRg, pt_s, pt_n, i_seq, i_en, i_rng, i_zip, i_zipN, b_b, b_not, b_and, b_or, x_if, x_andV, x_orV, x_notV, andK_t, andK_f, orK_f, orK_t, chK_t, chK_f, ifK_t, ifK_f, x_lcU, x_lc, s_end, pk_n, pk_c, at_z, at_s, put_n, put_c, wl_n, wl_c, mp_r, tg_nm, tg_tp, tgs_n, tgs_c, pl_n, pl_c, rl_n, rl_c, ra_n, ra_d, ra_o, sq_n, sq_c, app_n, app_c, r_dat, r_own, lcE_i, no_n, no_c, nw_d, nw_n, nw_o, nb_lt, nb_lf, nb_ltn, nb_lfn] | ((with_reducible apply nb_id); first | with_reducible exact nb_nf rfl | with_reducible exact nb_t rfl | exact nb_h (by with_reducible assumption) | exact nb_hf (by with_reducible assumption) | exact nb_hn (by with_reducible assumption) | exact nb_hnf (by with_reducible assumption) | exact nb_t (by with_reducible assumption) | exact nb_f (by with_reducible assumption) | exact nb_nt (by with_reducible assumption) | exact nb_nf (by with_reducible assumption) | exact nb_t (by omega) | exact nb_f (by omega) | exact nb_nt (by omega) | exact nb_nf (by omega) | exact nb_t (by decide) | exact nb_f (by decide) | exact nb_nt (by decide) | exact nb_nf (by decide)) | apply_rules (transparency := .reducible) (maxDepth := 1) (symm := false) (exfalso := false) only [sEq_int, sNe_int, sEq_opt, sNe_opt, sIsN_opt, sNotN_opt, sNotN_int, sIsN_int, sNotN_tup, sIsN_tup, sNotN_lst, sIsN_lst, sNotN_non, sIsN_non, sIn_tup, sNin_tup, sIn_lst, sNin_lst, sEq_tup, sEq_lst, sNe_lst, sNe_tup, sIx_plc, sIx_rows, sIx_rowsL, sIn_row, sNin_row, sLen_row, sLen_plc, isTup_row, isTup_plc, sLen_ints, sLen_tints, sLen_rows, sLen_rowsT, sLen_lst, sLen_tup, isTupD] | ((with_reducible apply is_id); exact is_r) | ((with_reducible apply f_od); exact rfl) | ((with_reducible apply f_ol); exact rfl) | ((with_reducible apply f_op); exact rfl) | ((with_reducible apply f_bt); exact rfl) | ((with_reducible apply f_on); exact rfl) | ((with_reducible apply f_ld); exact rfl) | intro x hx | intro hb | omega | with_reducible apply s_one)))
section
variable {n t : Int} {rows : List (List Int)} {T : List D} {d : D}
theorem ses_same (h : d ≠ .dic [] []) (h1 : (toPy d).canLay0 = true) (h2 : (toPy d).depth ≤ 1) (h3 : PyData.eqv (toPy d) (toPy d) = true) : sNeC (.tup [.str "session", d]) (.tup [.str "session", d]) = some (.bl false) := by
  have k : toldE (.tup [.str "session", d]) = none := by
    unfold toldE
    split
    · rename_i e
      simp only [D.tup.injEq, List.cons.injEq, and_true] at e
      exact absurd e.2 h
    · rfl
  rw [x_neQ k]
  have hs : PyData.strOk "session" = true := by decide +kernel
  have a : plain (.tup [.str "session", d]) = true := by simp [plain, toPy, toPys, PyData.canLay0, PyData.canLayAll0, h1, hs]
  have c : (toPy (.tup [.str "session", d])).depth ≤ 63 := by
    simp only [toPy, toPys, PyData.depth, PyData.depthAll]
    omega
  unfold sNe
  rw [a, decide_eq_true (by omega : min (toPy (.tup [.str "session", d])).depth (toPy (.tup [.str "session", d])).depth ≤ 63)]
  show some (D.bl (!eqD _ _)) = _
  have : eqD (.tup [.str "session", d]) (.tup [.str "session", d]) = true := by simp [eqD, toPy, toPys, PyData.eqv, PyData.eqvAll, h3]
  rw [this]
  rfl
theorem la_ok : ∀ d ∈ [D.int ((rows.length : Nat) : Int), D.int (-1), D.bl true, D.non, D.str "0", D.lst [.int 0], D.dic [] []], sNeC (.tup [.str "session", d]) (.tup [.str "session", d]) = some (.bl false) ∧ m_is_from [d, .int 0, .int (((rows.length : Nat) : Int) - 1)] = .ret (.bl false) [] := fun d hd => by
  simp only [List.mem_cons, List.not_mem_nil, or_false] at hd
  rcases hd with rfl | rfl | rfl | rfl | rfl | rfl | rfl
  · refine ⟨ses_same (fun z => by cases z) (by simp [toPy, PyData.canLay0]) (by simp [toPy, PyData.depth]) (by simp [toPy, PyData.eqv]), ?_⟩
    rw [e_is_from, decide_eq_false (by omega : ¬ (((rows.length : Nat) : Int) ≤ ((rows.length : Nat) : Int) - 1)), Bool.and_false]
  · refine ⟨ses_same (fun z => by cases z) (by simp [toPy, PyData.canLay0]) (by simp [toPy, PyData.depth]) (by simp [toPy, PyData.eqv]), ?_⟩
    rw [e_is_from, decide_eq_false (by omega : ¬ ((0 : Int) ≤ -1)), Bool.false_and]
  · exact ⟨ses_same (fun z => by cases z) (by simp [toPy, PyData.canLay0]) (by simp [toPy, PyData.depth]) (by simp [toPy, PyData.eqv]), e_odd (.bl true) _ _⟩
  · exact ⟨ses_same (fun z => by cases z) (by simp [toPy, PyData.canLay0]) (by simp [toPy, PyData.depth]) (by simp [toPy, PyData.eqv]), e_odd .non _ _⟩
  · exact ⟨ses_same (fun z => by cases z) (Pn.str (k := 1) (x := "0") (by decide +kernel)).lay.1 (by simp [toPy, PyData.depth]) (by simp [toPy, PyData.eqv]), e_odd .str _ _⟩
  · exact ⟨ses_same (fun z => by cases z) (by simp [toPy, toPys, PyData.canLay0, PyData.canLayAll0]) (by simp [toPy, toPys, PyData.depth, PyData.depthAll]) (by simp [toPy, toPys, PyData.eqv, PyData.eqvAll]), e_odd .lst _ _⟩
  · exact ⟨x_neE, e_odd .dic _ _⟩
theorem noi_str (s : Str) : NoI (.str s) := .inl (by simp [sIsi, tyName, kb_str_int])
theorem noi_lst (l : List D) : NoI (.lst l) := .inl (by simp [sIsi, tyName, kb_list_int])
theorem lv_ok : ∀ d ∈ [D.int 0, D.int 31, D.int (-1), D.bl true, D.non, D.str "5", D.lst [.int 1]], m_is_from [d, .int 1, .int 30] = .ret (.bl false) [] := fun d hd => by
  simp only [List.mem_cons, List.not_mem_nil, or_false] at hd
  rcases hd with rfl | rfl | rfl | rfl | rfl | rfl | rfl
  · rw [e_is_from]; rfl
  · rw [e_is_from]; rfl
  · rw [e_is_from]; rfl
  · exact e_odd (.bl true) _ _
  · exact e_odd .non _ _
  · exact e_frm_no (noi_str _) _ _
  · exact e_frm_no (noi_lst _) _ _
theorem lf_ok : ∀ d ∈ [D.int (-1), D.int (n + 1), D.bl true, D.non, D.str "1", D.lst [.int 0]], m_is_from [d, .int 0, .int n] = .ret (.bl false) [] := fun d hd => by
  simp only [List.mem_cons, List.not_mem_nil, or_false] at hd
  rcases hd with rfl | rfl | rfl | rfl | rfl | rfl
  · rw [e_is_from, decide_eq_false (by omega : ¬ ((0 : Int) ≤ -1)), Bool.false_and]
  · rw [e_is_from, decide_eq_false (by omega : ¬ (n + 1 ≤ n)), Bool.and_false]
  · exact e_odd (.bl true) _ _
  · exact e_odd .non _ _
  · exact e_frm_no (noi_str _) _ _
  · exact e_odd .lst _ _
theorem kb_dict_list : kitB "dict" "list" = some false := by decide
theorem kb_tup_list : kitB "tuple" "list" = some false := by decide
theorem kb_non_list : kitB "NoneType" "list" = some false := by decide
theorem rep_ok (k : Nat) : ∀ d ∈ List.replicate k (D.tup [.int 0]), RowU d := fun d hd => by
  rw [(List.mem_replicate.mp hd).2]
  exact rowU1 itm_i
theorem ls_ok (n1 : 1 ≤ n) (n30 : n ≤ 30) (hT : ∀ d ∈ T, RowU d) (hl : T.length ≤ 1000) {M0 : D} (hM : Itm M0) : ∀ d ∈ [D.lst T, D.tup (rows.map rowD), D.non, D.dic [] [], D.lst (List.replicate 61 (D.tup [.int 0])), D.lst (List.replicate 60 (D.tup [.int 0]))], AgF n d M0 := fun d hd => by
  simp only [List.mem_cons, List.not_mem_nil, or_false] at hd
  rcases hd with rfl | rfl | rfl | rfl | rfl | rfl
  · exact agf_lst n1 n30 hT hM hl
  · exact agf_no n1 n30 (by simp [sIsi, tyName, kb_tup_list])
  · exact agf_no n1 n30 (by simp [sIsi, tyName, kb_non_list])
  · exact agf_no n1 n30 (by simp [sIsi, tyName, kb_dict_list])
  · exact agf_lst n1 n30 (rep_ok 61) hM (by rw [List.length_replicate]; omega)
  · exact agf_lst n1 n30 (rep_ok 60) hM (by rw [List.length_replicate]; omega)
theorem fi9 {w : D} : mSeqI (mLst [(mCall sLen [(.dat (mVar 2))]), (mNeg (M.pure (.int 1))), (M.pure (.bl true)), (M.pure .non), (M.pure (.str "0")), (mLst [(M.pure (.int 0))]), (M.pure (.dic [] []))]) [.own (w), .dat (.int n), .dat (D.lst (rows.map rowD)), .dat (.int t), .own (D.lst (rows.map rowD ++ [D.tup [.int 0]])), .dat (farmD n rows t), .own (D.lst (rows.map rowD ++ [D.tup []])), .no, .no, .no, .no] = .ok [D.int ((rows.length : Nat) : Int), D.int (-1), D.bl true, D.non, D.str "0", D.lst [.int 0], D.dic [] []] [.own (w), .dat (.int n), .dat (D.lst (rows.map rowD)), .dat (.int t), .own (D.lst (rows.map rowD ++ [D.tup [.int 0]])), .dat (farmD n rows t), .own (D.lst (rows.map rowD ++ [D.tup []])), .no, .no, .no, .no] := by
  have q2 : sLen [(D.lst (rows.map rowD))] = some (.int (rows.length : Nat)) := by rw [sLen_lst, List.length_map]
  generalize (D.lst (rows.map rowD ++ [D.tup [.int 0]])) = z at *
  generalize (D.lst (rows.map rowD ++ [D.tup []])) = z6 at *
  generalize (D.lst (rows.map rowD)) = y at *
  generalize farmD n rows t = fm at *
  refine i_seq (d := .lst [D.int ((rows.length : Nat) : Int), D.int (-1), D.bl true, D.non, D.str "0", D.lst [.int 0], D.dic [] []]) ?_ rfl
  trivial
theorem fi11 {w : D} {c8 : Cell} : mSeqI (mLst [(mVar 9), (mCall sTuple [(.dat (mVar 2))]), (M.pure .non), (M.pure (.dic [] [])), (mOp2 sMulL (.dat (mLst [(mTup [(M.pure (.int 0))])])) (.dat (M.pure (.int 61)))), (mOp2 sMulL (.dat (mLst [(mTup [(M.pure (.int 0))])])) (.dat (M.pure (.int 60))))]) [.own (w), .dat (.int n), .dat (D.lst (rows.map rowD)), .dat (.int t), .own (D.lst (rows.map rowD ++ [D.tup [.int 0]])), .dat (farmD n rows t), .own (D.lst (rows.map rowD ++ [D.tup []])), .no, c8, .dat (.lst T), .no] = .ok [D.lst T, D.tup (rows.map rowD), D.non, D.dic [] [], D.lst (List.replicate 61 (D.tup [.int 0])), D.lst (List.replicate 60 (D.tup [.int 0]))] [.own (w), .dat (.int n), .dat (D.lst (rows.map rowD)), .dat (.int t), .own (D.lst (rows.map rowD ++ [D.tup [.int 0]])), .dat (farmD n rows t), .own (D.lst (rows.map rowD ++ [D.tup []])), .no, c8, .dat (.lst T), .no] := by
  have q2 : sTuple [(D.lst (rows.map rowD))] = some (.tup (rows.map rowD)) := rfl
  have q3 : sMulL (.lst [.tup [.int 0]]) (.int 61) = some (D.lst (List.replicate 61 (D.tup [.int 0]))) := by rfl
  have q4 : sMulL (.lst [.tup [.int 0]]) (.int 60) = some (D.lst (List.replicate 60 (D.tup [.int 0]))) := by rfl
  refine i_seq (d := .lst [D.lst T, D.tup (rows.map rowD), D.non, D.dic [] [], D.lst (List.replicate 61 (D.tup [.int 0])), D.lst (List.replicate 60 (D.tup [.int 0]))]) ?_ rfl
  generalize D.lst (List.replicate 61 (D.tup [.int 0])) = r61 at *
  generalize D.lst (List.replicate 60 (D.tup [.int 0])) = r60 at *
  generalize D.tup (rows.map rowD) = rt at *
  generalize (D.lst (rows.map rowD ++ [D.tup [.int 0]])) = z at *
  generalize (D.lst (rows.map rowD ++ [D.tup []])) = z6 at *
  generalize (D.lst (rows.map rowD)) = y at *
  generalize farmD n rows t = fm at *
  generalize D.lst T = TX at *
  trivial
theorem fi12 {w : D} {c8 c9 c10 : Cell} : mSeqI (mLst [(M.pure (.int 0)), (M.pure (.int 31)), (mNeg (M.pure (.int 1))), (M.pure (.bl true)), (M.pure .non), (M.pure (.str "5")), (mLst [(M.pure (.int 1))])]) [.own (w), .dat (.int n), .dat (D.lst (rows.map rowD)), .dat (.int t), .own (D.lst (rows.map rowD ++ [D.tup [.int 0]])), .dat (farmD n rows t), .own (D.lst (rows.map rowD ++ [D.tup []])), .no, c8, c9, c10] = .ok [D.int 0, D.int 31, D.int (-1), D.bl true, D.non, D.str "5", D.lst [.int 1]] [.own (w), .dat (.int n), .dat (D.lst (rows.map rowD)), .dat (.int t), .own (D.lst (rows.map rowD ++ [D.tup [.int 0]])), .dat (farmD n rows t), .own (D.lst (rows.map rowD ++ [D.tup []])), .no, c8, c9, c10] := by
  generalize (D.lst (rows.map rowD ++ [D.tup [.int 0]])) = z at *
  generalize (D.lst (rows.map rowD ++ [D.tup []])) = z6 at *
  generalize (D.lst (rows.map rowD)) = y at *
  generalize farmD n rows t = fm at *
  refine i_seq (d := .lst [D.int 0, D.int 31, D.int (-1), D.bl true, D.non, D.str "5", D.lst [.int 1]]) ?_ rfl
  trivial
theorem fi13 {w : D} {c8 c9 c10 : Cell} : mSeqI (mLst [(mNeg (M.pure (.int 1))), (mOp2 sAdd (.dat (mVar 1)) (.dat (M.pure (.int 1)))), (M.pure (.bl true)), (M.pure .non), (M.pure (.str "1")), (mLst [(M.pure (.int 0))])]) [.own (w), .dat (.int n), .dat (D.lst (rows.map rowD)), .dat (.int t), .own (D.lst (rows.map rowD ++ [D.tup [.int 0]])), .dat (farmD n rows t), .own (D.lst (rows.map rowD ++ [D.tup []])), .no, c8, c9, c10] = .ok [D.int (-1), D.int (n + 1), D.bl true, D.non, D.str "1", D.lst [.int 0]] [.own (w), .dat (.int n), .dat (D.lst (rows.map rowD)), .dat (.int t), .own (D.lst (rows.map rowD ++ [D.tup [.int 0]])), .dat (farmD n rows t), .own (D.lst (rows.map rowD ++ [D.tup []])), .no, c8, c9, c10] := by
  have q2 : sAdd (.int n) (.int 1) = some (.int (n + 1)) := rfl
  generalize (D.lst (rows.map rowD ++ [D.tup [.int 0]])) = z at *
  generalize (D.lst (rows.map rowD ++ [D.tup []])) = z6 at *
  generalize (D.lst (rows.map rowD)) = y at *
  generalize farmD n rows t = fm at *
  refine i_seq (d := .lst [D.int (-1), D.int (n + 1), D.bl true, D.non, D.str "1", D.lst [.int 0]]) ?_ rfl
  trivial
theorem q10 {w w1 : D} {c8 : Cell} (e : m_law_bent [w, (D.lst (rows.map rowD)), .int n] = .ret (.lst T) [w1]) : (mAsg (mCallF m_law_bent [(.own 0), (.dat (mVar 2)), (.dat (mVar 1))]) (gNm 9)) [.own (w), .dat (.int n), .dat (D.lst (rows.map rowD)), .dat (.int t), .own (D.lst (rows.map rowD ++ [D.tup [.int 0]])), .dat (farmD n rows t), .own (D.lst (rows.map rowD ++ [D.tup []])), .no, c8, .no, .no] = .next [.own (w1), .dat (.int n), .dat (D.lst (rows.map rowD)), .dat (.int t), .own (D.lst (rows.map rowD ++ [D.tup [.int 0]])), .dat (farmD n rows t), .own (D.lst (rows.map rowD ++ [D.tup []])), .no, c8, .dat (.lst T), .no] := by
  generalize (D.lst (rows.map rowD ++ [D.tup [.int 0]])) = z at *
  generalize (D.lst (rows.map rowD ++ [D.tup []])) = z6 at *
  generalize (D.lst (rows.map rowD)) = y at *
  generalize farmD n rows t = fm at *
  generalize D.lst T = TX at *
  refine s_one ?_
  trivial
theorem mf_lists (n t : Int) (rows : List (List Int)) : mf_Farm_lists [farmD n rows t] = .ret (D.lst (rows.map rowD)) [] := by rfl
end
theorem e_law_right (a b d : Int) : ∃ outs, m_law_right [wellD a b d] = .ret (.bl true) outs := by
  obtain ⟨z1, a1, b1, d1, e1, z10, z11⟩ := e_draw a b d (lim := 3) (by omega) (by omega)
  obtain ⟨mo, p1, m1, m2⟩ := pick3 z10 z11 30 (by omega)
  obtain ⟨z2, a2, b2, d2, e2, z20, z21⟩ := e_draw a1 b1 d1 (lim := 3) (by omega) (by omega)
  obtain ⟨ma, p2, k1, k2⟩ := pick3 z20 z21 60 (by omega)
  obtain ⟨a3, b3, d3, n, rows, t, e3, hF, t0, t1, n8, r8⟩ := e_lfarm2 a2 b2 d2 (mo := mo) (ma := ma) (by omega) (by omega) (by omega) (by omega)
  have h60 := hF.len
  have e4 := e_make (n := n) (t := t) (rows := rows) hF.n1 hF.n2 hF.len hF.row t0 t1
  obtain ⟨ρ9, lp9, c8, hρ9⟩ := loop_inv (g := (gNm 8)) (body := (mIfS (mB (mCmp sNeC (mLamX (fun _ => D.non) hv_law_raised (mMethF m_Farm_row "row" (mVar 5) [(mVar 8)])) (mTup [(M.pure (.str "session")), (mVar 8)]))) (mRet (M.pure (.bl false))) mSkip)) (fun _ ρ => ∃ c8 : Cell, ρ = [.own ((wellD a3 b3 d3)), .dat (.int n), .dat (D.lst (rows.map rowD)), .dat (.int t), .own (D.lst (rows.map rowD ++ [D.tup [.int 0]])), .dat (farmD n rows t), .own (D.lst (rows.map rowD ++ [D.tup []])), .no, c8, .no, .no]) [D.int ((rows.length : Nat) : Int), D.int (-1), D.bl true, D.non, D.str "0", D.lst [.int 0], D.dic [] []] 0 [.own ((wellD a3 b3 d3)), .dat (.int n), .dat (D.lst (rows.map rowD)), .dat (.int t), .own (D.lst (rows.map rowD ++ [D.tup [.int 0]])), .dat (farmD n rows t), .own (D.lst (rows.map rowD ++ [D.tup []])), .no, .no, .no, .no] ⟨_, rfl⟩
    (fun i dd ρ hdd ⟨c8, hρ⟩ => by
      subst hρ
      obtain ⟨g1, g2⟩ := la_ok (rows := rows) dd (List.mem_of_getElem? hdd)
      exact ⟨_, rfl, _, o_body (c8 := .no) h60 g1 g2, _, rfl⟩)
  subst hρ9
  obtain ⟨a4, b4, d4, T, e5, hT, lT⟩ := e_bent (n := n) (L := rows.map rowD) (fun x hx => by
    obtain ⟨r, hr, rfl⟩ := List.mem_map.mp hx
    exact rowU_row (hF.row r hr)) (by rw [List.length_map]; exact h60) a3 b3 d3
  obtain ⟨ρ11, lp11, c10, hρ11⟩ := loop_inv (g := (gNm 10)) (body := (mSeq (mIfS (mB (mCmp sNe (mLamX (fun _ => D.non) hv_law_raised (mMake m_Farmdd_initdd [(mVar 1), (mVar 10), (mVar 3)])) (mCallF m_law_bad [(.dat (mVar 1)), (.dat (mVar 10)), (.dat (mVar 3))]))) (mRet (M.pure (.bl false))) mSkip) (mIfS (mB (mCmp sNe (mLamX (fun _ => D.non) hv_law_raised (mMake m_Farmdd_initdd [(mVar 1), (mVar 10), (M.pure .non)])) (mCallF m_law_bad [(.dat (mVar 1)), (.dat (mVar 10)), (.dat (M.pure .non))]))) (mRet (M.pure (.bl false))) mSkip))) (fun _ ρ => ∃ c10 : Cell, ρ = [.own ((wellD a4 b4 d4)), .dat (.int n), .dat (D.lst (rows.map rowD)), .dat (.int t), .own (D.lst (rows.map rowD ++ [D.tup [.int 0]])), .dat (farmD n rows t), .own (D.lst (rows.map rowD ++ [D.tup []])), .no, c8, .dat (.lst T), c10]) [D.lst T, D.tup (rows.map rowD), D.non, D.dic [] [], D.lst (List.replicate 61 (D.tup [.int 0])), D.lst (List.replicate 60 (D.tup [.int 0]))] 0 [.own ((wellD a4 b4 d4)), .dat (.int n), .dat (D.lst (rows.map rowD)), .dat (.int t), .own (D.lst (rows.map rowD ++ [D.tup [.int 0]])), .dat (farmD n rows t), .own (D.lst (rows.map rowD ++ [D.tup []])), .no, c8, .dat (.lst T), .no] ⟨_, rfl⟩
    (fun i dd ρ hdd ⟨c10, hρ⟩ => by
      subst hρ
      have g1 := ls_ok (rows := rows) hF.n1 hF.n2 hT lT (M0 := .int t) (.inl ⟨t, rfl⟩) dd (List.mem_of_getElem? hdd)
      have g2 := ls_ok (rows := rows) hF.n1 hF.n2 hT lT (M0 := .non) (.inr .non) dd (List.mem_of_getElem? hdd)
      exact ⟨_, rfl, _, s_bodyF g1 g2, _, rfl⟩)
  subst hρ11
  obtain ⟨ρ12, lp12, c8', hρ12⟩ := loop_inv (g := (gNm 8)) (body := (mIfS (mB (mCmp sNe (mLamX (fun _ => D.non) hv_law_raised (mMake m_Farmdd_initdd [(mVar 8), (M.pure .non), (M.pure .non)])) (mTup [(M.pure (.str "servers")), (mNeg (M.pure (.int 1)))]))) (mRet (M.pure (.bl false))) mSkip)) (fun _ ρ => ∃ c8 : Cell, ρ = [.own ((wellD a4 b4 d4)), .dat (.int n), .dat (D.lst (rows.map rowD)), .dat (.int t), .own (D.lst (rows.map rowD ++ [D.tup [.int 0]])), .dat (farmD n rows t), .own (D.lst (rows.map rowD ++ [D.tup []])), .no, c8, .dat (.lst T), c10]) [D.int 0, D.int 31, D.int (-1), D.bl true, D.non, D.str "5", D.lst [.int 1]] 0 [.own ((wellD a4 b4 d4)), .dat (.int n), .dat (D.lst (rows.map rowD)), .dat (.int t), .own (D.lst (rows.map rowD ++ [D.tup [.int 0]])), .dat (farmD n rows t), .own (D.lst (rows.map rowD ++ [D.tup []])), .no, c8, .dat (.lst T), c10] ⟨_, rfl⟩
    (fun i dd ρ hdd ⟨c8, hρ⟩ => by
      subst hρ
      exact ⟨_, rfl, _, v_body (lv_ok dd (List.mem_of_getElem? hdd)), _, rfl⟩)
  subst hρ12
  obtain ⟨ρ13, lp13, c8'', hρ13⟩ := loop_inv (g := (gNm 8)) (body := (mIfS (mB (mCmp sNe (mLamX (fun _ => D.non) hv_law_raised (mMake m_Farmdd_initdd [(mVar 1), (mVar 2), (mVar 8)])) (mTup [(M.pure (.str "failures")), (mNeg (M.pure (.int 1)))]))) (mRet (M.pure (.bl false))) mSkip)) (fun _ ρ => ∃ c8 : Cell, ρ = [.own ((wellD a4 b4 d4)), .dat (.int n), .dat (D.lst (rows.map rowD)), .dat (.int t), .own (D.lst (rows.map rowD ++ [D.tup [.int 0]])), .dat (farmD n rows t), .own (D.lst (rows.map rowD ++ [D.tup []])), .no, c8, .dat (.lst T), c10]) [D.int (-1), D.int (n + 1), D.bl true, D.non, D.str "1", D.lst [.int 0]] 0 [.own ((wellD a4 b4 d4)), .dat (.int n), .dat (D.lst (rows.map rowD)), .dat (.int t), .own (D.lst (rows.map rowD ++ [D.tup [.int 0]])), .dat (farmD n rows t), .own (D.lst (rows.map rowD ++ [D.tup []])), .no, c8', .dat (.lst T), c10] ⟨_, rfl⟩
    (fun i dd ρ hdd ⟨c8, hρ⟩ => by
      subst hρ
      exact ⟨_, rfl, _, f_body hF (lf_ok dd (List.mem_of_getElem? hdd)), _, rfl⟩)
  subst hρ13
  refine ⟨[wellD a4 b4 d4], ?_⟩
  exact s_run (ρ0 := [.own ((wellD a b d)), .no, .no, .no, .no, .no, .no, .no, .no, .no, .no]) rfl (s_step (q0 e1 p1 e2 p2 e3) (s_step q1 (s_step (q2 a3 b3 d3 e4) (s_step q3 (s_step (q4 h60) (s_step (q5 (mf_lists n t rows)) (s_step (q6 h60) (s_step (q7 h60) (s_step (q8 hF t0 t1) (s_step ((for_o fi9).trans lp9) (s_step (q10 e5) (s_step ((for_o fi11).trans lp11) (s_step ((for_o fi12).trans lp12) (s_step ((for_o fi13).trans lp13) rfl)))))))))))))) rfl
theorem concF : m_Farmdd_initdd [.rcd [] [], .int 1, .lst [], .int 0] = .ret .non [farmD 1 [] 0] := by kernel_rfl
theorem plain_law (ns : List Int) (hl : ns.length ≤ 63) : ∃ outs, m_law [.lst (ns.map .int)] = .ret (.bl true) outs := by
  obtain ⟨ρ', e, c1, c2, hρ⟩ := loop_inv (g := (gTp [1, 2])) (body := (mIfS (mNot (mB (mCallN m_law_right (mLst [(mOp2 sMul (.dat (mVar 2)) (.dat (mCall sInt [(.dat (mOp2 sGe (.dat (mVar 2)) (.dat (mOp2 sPow (.dat (M.pure (.int 10))) (.dat (M.pure (.int 18)))))))]))), (mOp2 sAdd (.dat (mOp2 sMod (.dat (mVar 2)) (.dat (M.pure (.int 2147483647))))) (.dat (mOp2 sMul (.dat (M.pure (.int 7919))) (.dat (mVar 1))))), (M.pure (.int 0))]) []))) (mRet (M.pure (.bl false))) mSkip)) (fun _ ρ => ∃ c1 c2, ρ = [.dat (.lst (ns.map .int)), c1, c2]) (enumD 0 (((ns ++ [0]).take 6).map .int)) 0 [.dat (.lst (ns.map .int)), .no, .no] ⟨.no, .no, rfl⟩
    (fun i dd ρ hd ⟨x, y, hρ⟩ => by
      obtain ⟨d', h7, rfl⟩ := enumD_inv 0 i _ _ hd
      rw [List.getElem?_map] at h7
      cases hr : ((ns ++ [0]).take 6)[i]? with
      | none => rw [hr] at h7; cases h7
      | some v =>
        rw [hr] at h7
        cases h7
        subst hρ
        have h2 : ∃ j, sInt [.bl (decide ((10 : Int) ^ 18 ≤ v))] = some (.int j) ∧ inR j = true := by
          refine ⟨if decide ((10 : Int) ^ 18 ≤ v) then 1 else 0, rfl, ?_⟩
          split <;> decide
        obtain ⟨j, q1, hj⟩ := h2
        have q2 : sMul (.int v) (.int j) = some (.int (v * j)) := sMul_r hj
        have q3 := pow18
        have q4 : sGe (.int v) (.int (10 ^ 18)) = some (.bl (decide ((10 : Int) ^ 18 ≤ v))) := rfl
        have q5 : sMul (.int 7919) (.int ((0 + i : Nat) : Int)) = some (.int (7919 * ((0 + i : Nat) : Int))) := sMul_l (by decide)
        have q6 : sMod (.int v) (.int 2147483647) = some (.int (v.fmod 2147483647)) := sMod_ok (by decide)
        have q7 : sAdd (.int (v.fmod 2147483647)) (.int (7919 * ((0 + i : Nat) : Int))) = some (.int (v.fmod 2147483647 + 7919 * ((0 + i : Nat) : Int))) := rfl
        obtain ⟨o, e2⟩ := e_law_right (v * j) (v.fmod 2147483647 + 7919 * ((0 + i : Nat) : Int)) 0
        unfold wellD at e2
        refine ⟨[.dat (.lst (ns.map .int)), .dat (.int ((0 + i : Nat) : Int)), .dat (.int v)], rfl, [.dat (.lst (ns.map .int)), .dat (.int ((0 + i : Nat) : Int)), .dat (.int v)], ?_, _, _, rfl⟩
        generalize v.fmod 2147483647 + 7919 * ((0 + i : Nat) : Int) = y at *
        trivial)
  subst hρ
  refine ⟨[], ?_⟩
  have q1 : sAdd (.lst (ns.map .int)) (.lst [.int 0]) = some (.lst ((ns ++ [0]).map .int)) := by
    rw [List.map_append]
    exact sAdd_lst (by rw [List.length_map, List.length_singleton]; omega)
  have q2 : sCut (.lst ((ns ++ [0]).map .int)) none (some 6) = some (.lst (((ns ++ [0]).take 6).map .int)) := cutHi (ns ++ [0]) (by decide)
  have k1 := concF
  have k2 : m_Farm_lists [farmD 1 [] 0] = .ret (.lst []) [] := e_lists 1 [] 0
  have k3 : sEq (.lst []) (.lst []) = some (.bl true) := by kernel_rfl
  rw [enum_map] at e
  (unfold m_law; apply s_run (ρ0 := [.dat (.lst (ns.map .int)), .no, .no]) rfl; unfold b_law)
  · trivial
  · rfl
end Fx
set_option Elab.async false
set_option linter.all false
set_option maxRecDepth 100000
set_option maxHeartbeats 8000000
namespace Fx
open PySem L2
abbrev s_x0 : Stmt := inClass (top 2) 0
theorem sc_x0 : FnScope ["self", "part", "index"] ["self", "part", "index"] (defScope s_x0) := ⟨rfl, rfl, rfl, by decide +kernel, rfl, by decide +kernel, by decide +kernel⟩
theorem ok_x0 {P : Program} {w : World} {K : PySem.W.Frag} {mg : Str → Option Value} {base : Heap} {f C CB : Addr} {fd : FuncData} (TB : BaseX K mg CB) (T : OexC K C) (hpart : PySem.W.findIn K (.ref C) "part" = some none) (hindex : PySem.W.findIn K (.ref C) "index" = some none) (F : FunD K "__init__" "NoFarm.__init__" (defArgs s_x0) (defBody s_x0) (defScope s_x0) [] [] f fd) : FnOk P w K mg base (L2.CX P w) 1 f fd ["self", "part", "index"] (spI2 C "part" "index") :=
  F.ok sc_x0 (fun vs H Q E h => by obtain ⟨a, y, z, rfl, _⟩ := h; rfl) fun cdv A outer s H vs Q E hr h => ⟨_, pss_cons (ps_expr (pe_feinit TB (pa_cons (pv 0) (pa_cons pe_str pa_nil)))) (pss_cons (ps_ost (pv 0) (pv 1)) (pss_one (ps_ost (pv 0) (pv 2)))), read2 rfl T hpart hindex h⟩
abbrev s_x1 : Stmt := inClass (top 3) 0
theorem sc_x1 : FnScope ["self", "session"] ["self", "session"] (defScope s_x1) := ⟨rfl, rfl, rfl, by decide +kernel, rfl, by decide +kernel, by decide +kernel⟩
theorem ok_x1 {P : Program} {w : World} {K : PySem.W.Frag} {mg : Str → Option Value} {base : Heap} {f C CB : Addr} {fd : FuncData} (TB : BaseX K mg CB) (T : OexC K C) (hsession : PySem.W.findIn K (.ref C) "session" = some none) (F : FunD K "__init__" "NoSession.__init__" (defArgs s_x1) (defBody s_x1) (defScope s_x1) [] [] f fd) : FnOk P w K mg base (L2.CX P w) 1 f fd ["self", "session"] (spI1 C "session") :=
  F.ok sc_x1 (fun vs H Q E h => by obtain ⟨a, y, rfl, _⟩ := h; rfl) fun cdv A outer s H vs Q E hr h => ⟨_, pss_cons (ps_expr (pe_feinit TB (pa_cons (pv 0) (pa_cons pe_str pa_nil)))) (pss_one (ps_ost (pv 0) (pv 1))), read1 rfl T hsession h⟩
theorem wire (plain : ∀ ns : List Int, ns.length ≤ 63 → ∃ outs, m_law [.lst (ns.map .int)] = .ret (.bl true) outs) {l : PySem.W.OpenLaw} {w : World} {K : PySem.W.Frag} {h : Heap} {mg : Str → Option Value} {fa C0 CB X0 X1 : Addr} (X : K.In h) (G : h.Ns mainGlobals mg) (hfa : mg "law" = some (.ref fa))
    {qq : Program}
    {xn0 xq0 : Str} {xN0 : Addr} {xb0 : List Value} {xs0 : List Str} {xu0 : List Value} {xa0 : Bool} {xc0 : Option Bool} {xd0 : Option Addr} {xe0 xf0 xg0 xh0 xi0 : Option Value}
    {xn1 xq1 : Str} {xN1 : Addr} {xb1 : List Value} {xs1 : List Str} {xu1 : List Value} {xa1 : Bool} {xc1 : Option Bool} {xd1 : Option Addr} {xe1 xf1 xg1 xh1 xi1 : Option Value}
    {t_MAX_SERVERS : Tok}
    {t_MAX_SESSIONS : Tok}
    {f_NoFarmdd_initdd : Addr} {od_NoFarmdd_initdd an_NoFarmdd_initdd : Option Addr} {sl_NoFarmdd_initdd : Array (Option Value)} {oc_NoFarmdd_initdd dc_NoFarmdd_initdd pm_NoFarmdd_initdd ct_NoFarmdd_initdd : Value} {cd_NoFarmdd_initdd : Value}
    {kV_NoFarmdd_initdd : Value}
    {f_NoSessiondd_initdd : Addr} {od_NoSessiondd_initdd an_NoSessiondd_initdd : Option Addr} {sl_NoSessiondd_initdd : Array (Option Value)} {oc_NoSessiondd_initdd dc_NoSessiondd_initdd pm_NoSessiondd_initdd ct_NoSessiondd_initdd : Value} {cd_NoSessiondd_initdd : Value}
    {kV_NoSessiondd_initdd : Value}
    {f_Farmdd_initdd : Addr} {od_Farmdd_initdd an_Farmdd_initdd : Option Addr} {sl_Farmdd_initdd : Array (Option Value)} {oc_Farmdd_initdd dc_Farmdd_initdd pm_Farmdd_initdd ct_Farmdd_initdd : Value} {cd_Farmdd_initdd : Value}
    {kV_Farmdd_initdd : Value}
    {f_Farm_lists : Addr} {od_Farm_lists an_Farm_lists : Option Addr} {sl_Farm_lists : Array (Option Value)} {oc_Farm_lists dc_Farm_lists pm_Farm_lists ct_Farm_lists : Value} {cd_Farm_lists : Value}
    {kV_Farm_lists : Value}
    {f_Farm_servers : Addr} {od_Farm_servers an_Farm_servers : Option Addr} {sl_Farm_servers : Array (Option Value)} {oc_Farm_servers dc_Farm_servers pm_Farm_servers ct_Farm_servers : Value} {cd_Farm_servers : Value}
    {kV_Farm_servers : Value}
    {f_Farm_failures : Addr} {od_Farm_failures an_Farm_failures : Option Addr} {sl_Farm_failures : Array (Option Value)} {oc_Farm_failures dc_Farm_failures pm_Farm_failures ct_Farm_failures : Value} {cd_Farm_failures : Value}
    {kV_Farm_failures : Value}
    {f_Farmdd_lendd : Addr} {od_Farmdd_lendd an_Farmdd_lendd : Option Addr} {sl_Farmdd_lendd : Array (Option Value)} {oc_Farmdd_lendd dc_Farmdd_lendd pm_Farmdd_lendd ct_Farmdd_lendd : Value} {cd_Farmdd_lendd : Value}
    {kV_Farmdd_lendd : Value}
    {f_Farm_check_session : Addr} {od_Farm_check_session an_Farm_check_session : Option Addr} {sl_Farm_check_session : Array (Option Value)} {oc_Farm_check_session dc_Farm_check_session pm_Farm_check_session ct_Farm_check_session : Value} {cd_Farm_check_session : Value}
    {kV_Farm_check_session : Value}
    {f_Farm_row : Addr} {od_Farm_row an_Farm_row : Option Addr} {sl_Farm_row : Array (Option Value)} {oc_Farm_row dc_Farm_row pm_Farm_row ct_Farm_row : Value} {cd_Farm_row : Value}
    {kV_Farm_row : Value}
    {f_Farmdd_eqdd : Addr} {od_Farmdd_eqdd an_Farmdd_eqdd : Option Addr} {sl_Farmdd_eqdd : Array (Option Value)} {oc_Farmdd_eqdd dc_Farmdd_eqdd pm_Farmdd_eqdd ct_Farmdd_eqdd : Value} {cd_Farmdd_eqdd : Value}
    {kV_Farmdd_eqdd : Value}
    {f_law_draw : Addr} {od_law_draw an_law_draw : Option Addr} {sl_law_draw : Array (Option Value)} {oc_law_draw dc_law_draw pm_law_draw ct_law_draw : Value} {cd_law_draw : Value}
    {kV_law_draw : Value}
    {f_law_farm : Addr} {od_law_farm an_law_farm : Option Addr} {sl_law_farm : Array (Option Value)} {oc_law_farm dc_law_farm pm_law_farm ct_law_farm : Value} {cd_law_farm : Value}
    {kV_law_farm : Value}
    {f_is_int : Addr} {od_is_int an_is_int : Option Addr} {sl_is_int : Array (Option Value)} {oc_is_int dc_is_int pm_is_int ct_is_int : Value} {cd_is_int : Value}
    {kV_is_int : Value}
    {f_is_from : Addr} {od_is_from an_is_from : Option Addr} {sl_is_from : Array (Option Value)} {oc_is_from dc_is_from pm_is_from ct_is_from : Value} {cd_is_from : Value}
    {kV_is_from : Value}
    {f_is_row : Addr} {od_is_row an_is_row : Option Addr} {sl_is_row : Array (Option Value)} {oc_is_row dc_is_row pm_is_row ct_is_row : Value} {cd_is_row : Value}
    {kV_is_row : Value}
    {f_law_equal_right : Addr} {od_law_equal_right an_law_equal_right : Option Addr} {sl_law_equal_right : Array (Option Value)} {oc_law_equal_right dc_law_equal_right pm_law_equal_right ct_law_equal_right : Value} {cd_law_equal_right : Value}
    {kV_law_equal_right : Value}
    {f_law_raised : Addr} {od_law_raised an_law_raised : Option Addr} {sl_law_raised : Array (Option Value)} {oc_law_raised dc_law_raised pm_law_raised ct_law_raised : Value} {cd_law_raised : Value}
    {kV_law_raised : Value}
    {f_law_bent : Addr} {od_law_bent an_law_bent : Option Addr} {sl_law_bent : Array (Option Value)} {oc_law_bent dc_law_bent pm_law_bent ct_law_bent : Value} {cd_law_bent : Value}
    {kV_law_bent : Value}
    {f_law_within : Addr} {od_law_within an_law_within : Option Addr} {sl_law_within : Array (Option Value)} {oc_law_within dc_law_within pm_law_within ct_law_within : Value} {cd_law_within : Value}
    {kV_law_within : Value}
    {f_law_bad : Addr} {od_law_bad an_law_bad : Option Addr} {sl_law_bad : Array (Option Value)} {oc_law_bad dc_law_bad pm_law_bad ct_law_bad : Value} {cd_law_bad : Value}
    {kV_law_bad : Value}
    {f_law_right : Addr} {od_law_right an_law_right : Option Addr} {sl_law_right : Array (Option Value)} {oc_law_right dc_law_right pm_law_right ct_law_right : Value} {cc_law_right PP_law_right : Addr}
    {kV_law_right : Value}
    {f_law : Addr} {od_law an_law : Option Addr} {sl_law : Array (Option Value)} {oc_law dc_law pm_law ct_law : Value} {cd_law : Value}
    {kV_law : Value}
    (htab : ∀ (x : Str) (r : DefRec) (c P : Addr), (PyProof.Rows.recsOf qq).find? (fun e => e.name == x) = some r → PySem.W.tabIn K x = some (c, P) → PySem.W.CodeHd h c P ∧ h.get? P = some (PySem.W.tabObj #[]))
    (rec_law_right : ∃ r, (PyProof.Rows.recsOf qq).find? (fun e => e.name == ("_law_right" : Str)) = some r)
    (aFarm : PySem.W.nsIn K mainGlobals "Farm" = some (some (.ref C0)))
    (aFE : PySem.W.nsIn K mainGlobals "FarmError" = some (some (.ref CB)))
    (aX0 : PySem.W.nsIn K mainGlobals "NoFarm" = some (some (.ref X0)))
    (xL0 : K.lookup X0 = some (PySem.excClassObj xn0 xq0 X0 xN0 xb0 [.ref CB, .type "ValueError", .type "Exception", .type "BaseException", .type "object"] true xs0 xu0 xa0 xc0 xd0 xe0 xf0 xg0 xh0 xi0 "ValueError.__new__"))
    (xsa0 : PySem.W.findIn K (.ref X0) "__setattr__" = some (some (.builtin "object.__setattr__")))
    (xex0 : PySem.W.subIn K (.ref X0) (.type "BaseException") = some true)
    (xty0 : PySem.W.typeIn K (.ref X0) = some (.type "type"))
    (xkp0 : PySem.W.keepIn K (.ref X0) = true)
    (xga0 : PySem.W.findIn K (.ref X0) "__getattribute__" = some (some (.builtin "BaseException.__getattribute__")))
    (xgg0 : PySem.W.findIn K (.ref X0) "__getattr__" = some none)
    (xhd0 : PySem.W.hasDictIn K X0 = true)
    (xss0 : PySem.W.subIn K (.ref X0) (.ref X0) = some true)
    (xp0_part : PySem.W.findIn K (.ref X0) "part" = some none)
    (xp0_index : PySem.W.findIn K (.ref X0) "index" = some none)
    (aX1 : PySem.W.nsIn K mainGlobals "NoSession" = some (some (.ref X1)))
    (xL1 : K.lookup X1 = some (PySem.excClassObj xn1 xq1 X1 xN1 xb1 [.ref CB, .type "ValueError", .type "Exception", .type "BaseException", .type "object"] true xs1 xu1 xa1 xc1 xd1 xe1 xf1 xg1 xh1 xi1 "ValueError.__new__"))
    (xsa1 : PySem.W.findIn K (.ref X1) "__setattr__" = some (some (.builtin "object.__setattr__")))
    (xex1 : PySem.W.subIn K (.ref X1) (.type "BaseException") = some true)
    (xty1 : PySem.W.typeIn K (.ref X1) = some (.type "type"))
    (xkp1 : PySem.W.keepIn K (.ref X1) = true)
    (xga1 : PySem.W.findIn K (.ref X1) "__getattribute__" = some (some (.builtin "BaseException.__getattribute__")))
    (xgg1 : PySem.W.findIn K (.ref X1) "__getattr__" = some none)
    (xhd1 : PySem.W.hasDictIn K X1 = true)
    (xss1 : PySem.W.subIn K (.ref X1) (.ref X1) = some true)
    (xp1_session : PySem.W.findIn K (.ref X1) "session" = some none)
    (sx0_0 : PySem.W.subIn K (.ref X0) (.ref X0) = some true)
    (sx0_1 : PySem.W.subIn K (.ref X0) (.ref X1) = some false)
    (sx1_0 : PySem.W.subIn K (.ref X1) (.ref X0) = some false)
    (sx1_1 : PySem.W.subIn K (.ref X1) (.ref X1) = some true)
    (fB : PySem.W.specialIn K (.ref CB) "__getattribute__" = some (some (.builtin "type.__getattribute__")))
    (fR : PySem.W.readsIn K CB (.type "type") = true)
    (fV : PySem.W.findCls K (.ref CB) (.type "type") "__init__" = some (.val (.builtin "ValueError.__init__")))
    (pg : PySem.W.plainGet K C0 Str.empty = true)
    (hd : PySem.W.hasDictIn K C0 = true)
    (po : PySem.W.plainOver K C0 = true)
    (sa : PySem.W.findIn K (.ref C0) "__setattr__" = some (some (.builtin "object.__setattr__")))
    (mk : PySem.W.makesIn K C0 = true)
    (kc : PySem.W.keepIn K (.ref C0) = true)
    (icls : PySem.W.findIn K (.ref C0) "__class__" = some (some (.builtin "object.__class__")))
    (iget : PySem.W.specialIn K (.builtin "object.__class__") "__get__" = some (some (.builtin "getset_descriptor.__get__")))
    (itak : PySem.W.takesIn K (.builtin "object.__class__") = some true)
    (imro : PySem.W.mroIn K C0 (.type "object") = some true)
    (ki0_tup : PySem.W.kitOne K (.type "tuple") (.ref C0) = some false)
    (ine : PySem.W.findIn K (.ref C0) "__ne__" = some (some (.builtin "object.__ne__")))
    (imro2 : PySem.W.mroIn K C0 (.type "object") = some true)
    (n_many : PySem.W.findIn K (.ref C0) "many" = some none)
    (n_rows : PySem.W.findIn K (.ref C0) "rows" = some none)
    (n_most : PySem.W.findIn K (.ref C0) "most" = some none)
    (zlen : PySem.W.nsIn K mainGlobals "len" = some none)
    (ztuple : PySem.W.nsIn K mainGlobals "tuple" = some none)
    (zlist : PySem.W.nsIn K mainGlobals "list" = some none)
    (zint : PySem.W.nsIn K mainGlobals "int" = some none)
    (zsum : PySem.W.nsIn K mainGlobals "sum" = some none)
    (zall : PySem.W.nsIn K mainGlobals "all" = some none)
    (zmax : PySem.W.nsIn K mainGlobals "max" = some none)
    (zmin : PySem.W.nsIn K mainGlobals "min" = some none)
    (zsorted : PySem.W.nsIn K mainGlobals "sorted" = some none)
    (zisinstance : PySem.W.nsIn K mainGlobals "isinstance" = some none)
    (zenumerate : PySem.W.nsIn K mainGlobals "enumerate" = some none)
    (zrange : PySem.W.nsIn K mainGlobals "range" = some none)
    (zset : PySem.W.nsIn K mainGlobals "set" = some none)
    (zbool : PySem.W.nsIn K mainGlobals "bool" = some none)
    (zstr : PySem.W.nsIn K mainGlobals "str" = some none)
    (zzip : PySem.W.nsIn K mainGlobals "zip" = some none)
    (zdict : PySem.W.nsIn K mainGlobals "dict" = some none)
    (zrepr : PySem.W.nsIn K mainGlobals "repr" = some none)
    (g_MAX_SERVERS : PySem.W.nsIn K mainGlobals "MAX_SERVERS" = some (some (.int 30 t_MAX_SERVERS)))
    (g_MAX_SESSIONS : PySem.W.nsIn K mainGlobals "MAX_SESSIONS" = some (some (.int 60 t_MAX_SESSIONS)))
    (a_NoFarmdd_initdd : PySem.W.findIn K (.ref X0) "__init__" = some (some (.ref f_NoFarmdd_initdd)))
    (l_NoFarmdd_initdd : K.lookup f_NoFarmdd_initdd = some ⟨oc_NoFarmdd_initdd, od_NoFarmdd_initdd, .func (PySem.W.fnOf "__init__" "NoFarm.__init__" (defArgs s_x0) (defBody s_x0) (defScope s_x0) .none kV_NoFarmdd_initdd dc_NoFarmdd_initdd pm_NoFarmdd_initdd an_NoFarmdd_initdd cd_NoFarmdd_initdd ct_NoFarmdd_initdd), sl_NoFarmdd_initdd⟩)
    (c_NoFarmdd_initdd : PySem.W.codeIn K cd_NoFarmdd_initdd "NoFarm.__init__" = true)
    (k_NoFarmdd_initdd : PySem.W.keepIn K (.ref f_NoFarmdd_initdd) = true)
    (i_NoFarmdd_initdd : PySem.W.typeIn K (.ref f_NoFarmdd_initdd) = some (.type "function"))
    (a_NoSessiondd_initdd : PySem.W.findIn K (.ref X1) "__init__" = some (some (.ref f_NoSessiondd_initdd)))
    (l_NoSessiondd_initdd : K.lookup f_NoSessiondd_initdd = some ⟨oc_NoSessiondd_initdd, od_NoSessiondd_initdd, .func (PySem.W.fnOf "__init__" "NoSession.__init__" (defArgs s_x1) (defBody s_x1) (defScope s_x1) .none kV_NoSessiondd_initdd dc_NoSessiondd_initdd pm_NoSessiondd_initdd an_NoSessiondd_initdd cd_NoSessiondd_initdd ct_NoSessiondd_initdd), sl_NoSessiondd_initdd⟩)
    (c_NoSessiondd_initdd : PySem.W.codeIn K cd_NoSessiondd_initdd "NoSession.__init__" = true)
    (k_NoSessiondd_initdd : PySem.W.keepIn K (.ref f_NoSessiondd_initdd) = true)
    (i_NoSessiondd_initdd : PySem.W.typeIn K (.ref f_NoSessiondd_initdd) = some (.type "function"))
    (a_Farmdd_initdd : PySem.W.findIn K (.ref C0) "__init__" = some (some (.ref f_Farmdd_initdd)))
    (l_Farmdd_initdd : K.lookup f_Farmdd_initdd = some ⟨oc_Farmdd_initdd, od_Farmdd_initdd, .func (PySem.W.fnOf "__init__" "Farm.__init__" (defArgs s_Farmdd_initdd) (defBody s_Farmdd_initdd) (defScope s_Farmdd_initdd) .none kV_Farmdd_initdd dc_Farmdd_initdd pm_Farmdd_initdd an_Farmdd_initdd cd_Farmdd_initdd ct_Farmdd_initdd), sl_Farmdd_initdd⟩)
    (c_Farmdd_initdd : PySem.W.codeIn K cd_Farmdd_initdd "Farm.__init__" = true)
    (k_Farmdd_initdd : PySem.W.keepIn K (.ref f_Farmdd_initdd) = true)
    (i_Farmdd_initdd : PySem.W.isFn K (.ref f_Farmdd_initdd) = true)
    (a_Farm_lists : PySem.W.findIn K (.ref C0) "lists" = some (some (.ref f_Farm_lists)))
    (l_Farm_lists : K.lookup f_Farm_lists = some ⟨oc_Farm_lists, od_Farm_lists, .func (PySem.W.fnOf "lists" "Farm.lists" (defArgs s_Farm_lists) (defBody s_Farm_lists) (defScope s_Farm_lists) .none kV_Farm_lists dc_Farm_lists pm_Farm_lists an_Farm_lists cd_Farm_lists ct_Farm_lists), sl_Farm_lists⟩)
    (c_Farm_lists : PySem.W.codeIn K cd_Farm_lists "Farm.lists" = true)
    (k_Farm_lists : PySem.W.keepIn K (.ref f_Farm_lists) = true)
    (i_Farm_lists : PySem.W.isFn K (.ref f_Farm_lists) = true)
    (a_Farm_servers : PySem.W.findIn K (.ref C0) "servers" = some (some (.ref f_Farm_servers)))
    (l_Farm_servers : K.lookup f_Farm_servers = some ⟨oc_Farm_servers, od_Farm_servers, .func (PySem.W.fnOf "servers" "Farm.servers" (defArgs s_Farm_servers) (defBody s_Farm_servers) (defScope s_Farm_servers) .none kV_Farm_servers dc_Farm_servers pm_Farm_servers an_Farm_servers cd_Farm_servers ct_Farm_servers), sl_Farm_servers⟩)
    (c_Farm_servers : PySem.W.codeIn K cd_Farm_servers "Farm.servers" = true)
    (k_Farm_servers : PySem.W.keepIn K (.ref f_Farm_servers) = true)
    (i_Farm_servers : PySem.W.isFn K (.ref f_Farm_servers) = true)
    (a_Farm_failures : PySem.W.findIn K (.ref C0) "failures" = some (some (.ref f_Farm_failures)))
    (l_Farm_failures : K.lookup f_Farm_failures = some ⟨oc_Farm_failures, od_Farm_failures, .func (PySem.W.fnOf "failures" "Farm.failures" (defArgs s_Farm_failures) (defBody s_Farm_failures) (defScope s_Farm_failures) .none kV_Farm_failures dc_Farm_failures pm_Farm_failures an_Farm_failures cd_Farm_failures ct_Farm_failures), sl_Farm_failures⟩)
    (c_Farm_failures : PySem.W.codeIn K cd_Farm_failures "Farm.failures" = true)
    (k_Farm_failures : PySem.W.keepIn K (.ref f_Farm_failures) = true)
    (i_Farm_failures : PySem.W.isFn K (.ref f_Farm_failures) = true)
    (a_Farmdd_lendd : PySem.W.findIn K (.ref C0) "__len__" = some (some (.ref f_Farmdd_lendd)))
    (l_Farmdd_lendd : K.lookup f_Farmdd_lendd = some ⟨oc_Farmdd_lendd, od_Farmdd_lendd, .func (PySem.W.fnOf "__len__" "Farm.__len__" (defArgs s_Farmdd_lendd) (defBody s_Farmdd_lendd) (defScope s_Farmdd_lendd) .none kV_Farmdd_lendd dc_Farmdd_lendd pm_Farmdd_lendd an_Farmdd_lendd cd_Farmdd_lendd ct_Farmdd_lendd), sl_Farmdd_lendd⟩)
    (c_Farmdd_lendd : PySem.W.codeIn K cd_Farmdd_lendd "Farm.__len__" = true)
    (k_Farmdd_lendd : PySem.W.keepIn K (.ref f_Farmdd_lendd) = true)
    (i_Farmdd_lendd : PySem.W.isFn K (.ref f_Farmdd_lendd) = true)
    (a_Farm_check_session : PySem.W.findIn K (.ref C0) "check_session" = some (some (.ref f_Farm_check_session)))
    (l_Farm_check_session : K.lookup f_Farm_check_session = some ⟨oc_Farm_check_session, od_Farm_check_session, .func (PySem.W.fnOf "check_session" "Farm.check_session" (defArgs s_Farm_check_session) (defBody s_Farm_check_session) (defScope s_Farm_check_session) .none kV_Farm_check_session dc_Farm_check_session pm_Farm_check_session an_Farm_check_session cd_Farm_check_session ct_Farm_check_session), sl_Farm_check_session⟩)
    (c_Farm_check_session : PySem.W.codeIn K cd_Farm_check_session "Farm.check_session" = true)
    (k_Farm_check_session : PySem.W.keepIn K (.ref f_Farm_check_session) = true)
    (i_Farm_check_session : PySem.W.isFn K (.ref f_Farm_check_session) = true)
    (a_Farm_row : PySem.W.findIn K (.ref C0) "row" = some (some (.ref f_Farm_row)))
    (l_Farm_row : K.lookup f_Farm_row = some ⟨oc_Farm_row, od_Farm_row, .func (PySem.W.fnOf "row" "Farm.row" (defArgs s_Farm_row) (defBody s_Farm_row) (defScope s_Farm_row) .none kV_Farm_row dc_Farm_row pm_Farm_row an_Farm_row cd_Farm_row ct_Farm_row), sl_Farm_row⟩)
    (c_Farm_row : PySem.W.codeIn K cd_Farm_row "Farm.row" = true)
    (k_Farm_row : PySem.W.keepIn K (.ref f_Farm_row) = true)
    (i_Farm_row : PySem.W.isFn K (.ref f_Farm_row) = true)
    (a_Farmdd_eqdd : PySem.W.findIn K (.ref C0) "__eq__" = some (some (.ref f_Farmdd_eqdd)))
    (l_Farmdd_eqdd : K.lookup f_Farmdd_eqdd = some ⟨oc_Farmdd_eqdd, od_Farmdd_eqdd, .func (PySem.W.fnOf "__eq__" "Farm.__eq__" (defArgs s_Farmdd_eqdd) (defBody s_Farmdd_eqdd) (defScope s_Farmdd_eqdd) .none kV_Farmdd_eqdd dc_Farmdd_eqdd pm_Farmdd_eqdd an_Farmdd_eqdd cd_Farmdd_eqdd ct_Farmdd_eqdd), sl_Farmdd_eqdd⟩)
    (c_Farmdd_eqdd : PySem.W.codeIn K cd_Farmdd_eqdd "Farm.__eq__" = true)
    (k_Farmdd_eqdd : PySem.W.keepIn K (.ref f_Farmdd_eqdd) = true)
    (i_Farmdd_eqdd : PySem.W.isFn K (.ref f_Farmdd_eqdd) = true)
    (a_law_draw : PySem.W.nsIn K mainGlobals "_law_draw" = some (some (.ref f_law_draw)))
    (l_law_draw : K.lookup f_law_draw = some ⟨oc_law_draw, od_law_draw, .func (PySem.W.fnOf "_law_draw" "_law_draw" (defArgs s_law_draw) (defBody s_law_draw) (defScope s_law_draw) .none kV_law_draw dc_law_draw pm_law_draw an_law_draw cd_law_draw ct_law_draw), sl_law_draw⟩)
    (c_law_draw : PySem.W.codeIn K cd_law_draw "_law_draw" = true)
    (k_law_draw : PySem.W.keepIn K (.ref f_law_draw) = true)
    (a_law_farm : PySem.W.nsIn K mainGlobals "_law_farm" = some (some (.ref f_law_farm)))
    (l_law_farm : K.lookup f_law_farm = some ⟨oc_law_farm, od_law_farm, .func (PySem.W.fnOf "_law_farm" "_law_farm" (defArgs s_law_farm) (defBody s_law_farm) (defScope s_law_farm) .none kV_law_farm dc_law_farm pm_law_farm an_law_farm cd_law_farm ct_law_farm), sl_law_farm⟩)
    (c_law_farm : PySem.W.codeIn K cd_law_farm "_law_farm" = true)
    (k_law_farm : PySem.W.keepIn K (.ref f_law_farm) = true)
    (a_is_int : PySem.W.nsIn K mainGlobals "is_int" = some (some (.ref f_is_int)))
    (l_is_int : K.lookup f_is_int = some ⟨oc_is_int, od_is_int, .func (PySem.W.fnOf "is_int" "is_int" (defArgs s_is_int) (defBody s_is_int) (defScope s_is_int) .none kV_is_int dc_is_int pm_is_int an_is_int cd_is_int ct_is_int), sl_is_int⟩)
    (c_is_int : PySem.W.codeIn K cd_is_int "is_int" = true)
    (k_is_int : PySem.W.keepIn K (.ref f_is_int) = true)
    (a_is_from : PySem.W.nsIn K mainGlobals "is_from" = some (some (.ref f_is_from)))
    (l_is_from : K.lookup f_is_from = some ⟨oc_is_from, od_is_from, .func (PySem.W.fnOf "is_from" "is_from" (defArgs s_is_from) (defBody s_is_from) (defScope s_is_from) .none kV_is_from dc_is_from pm_is_from an_is_from cd_is_from ct_is_from), sl_is_from⟩)
    (c_is_from : PySem.W.codeIn K cd_is_from "is_from" = true)
    (k_is_from : PySem.W.keepIn K (.ref f_is_from) = true)
    (a_is_row : PySem.W.nsIn K mainGlobals "is_row" = some (some (.ref f_is_row)))
    (l_is_row : K.lookup f_is_row = some ⟨oc_is_row, od_is_row, .func (PySem.W.fnOf "is_row" "is_row" (defArgs s_is_row) (defBody s_is_row) (defScope s_is_row) .none kV_is_row dc_is_row pm_is_row an_is_row cd_is_row ct_is_row), sl_is_row⟩)
    (c_is_row : PySem.W.codeIn K cd_is_row "is_row" = true)
    (k_is_row : PySem.W.keepIn K (.ref f_is_row) = true)
    (a_law_equal_right : PySem.W.nsIn K mainGlobals "_law_equal_right" = some (some (.ref f_law_equal_right)))
    (l_law_equal_right : K.lookup f_law_equal_right = some ⟨oc_law_equal_right, od_law_equal_right, .func (PySem.W.fnOf "_law_equal_right" "_law_equal_right" (defArgs s_law_equal_right) (defBody s_law_equal_right) (defScope s_law_equal_right) .none kV_law_equal_right dc_law_equal_right pm_law_equal_right an_law_equal_right cd_law_equal_right ct_law_equal_right), sl_law_equal_right⟩)
    (c_law_equal_right : PySem.W.codeIn K cd_law_equal_right "_law_equal_right" = true)
    (k_law_equal_right : PySem.W.keepIn K (.ref f_law_equal_right) = true)
    (a_law_raised : PySem.W.nsIn K mainGlobals "_law_raised" = some (some (.ref f_law_raised)))
    (l_law_raised : K.lookup f_law_raised = some ⟨oc_law_raised, od_law_raised, .func (PySem.W.fnOf "_law_raised" "_law_raised" (defArgs s_law_raised) (defBody s_law_raised) (defScope s_law_raised) .none kV_law_raised dc_law_raised pm_law_raised an_law_raised cd_law_raised ct_law_raised), sl_law_raised⟩)
    (c_law_raised : PySem.W.codeIn K cd_law_raised "_law_raised" = true)
    (k_law_raised : PySem.W.keepIn K (.ref f_law_raised) = true)
    (a_law_bent : PySem.W.nsIn K mainGlobals "_law_bent" = some (some (.ref f_law_bent)))
    (l_law_bent : K.lookup f_law_bent = some ⟨oc_law_bent, od_law_bent, .func (PySem.W.fnOf "_law_bent" "_law_bent" (defArgs s_law_bent) (defBody s_law_bent) (defScope s_law_bent) .none kV_law_bent dc_law_bent pm_law_bent an_law_bent cd_law_bent ct_law_bent), sl_law_bent⟩)
    (c_law_bent : PySem.W.codeIn K cd_law_bent "_law_bent" = true)
    (k_law_bent : PySem.W.keepIn K (.ref f_law_bent) = true)
    (a_law_within : PySem.W.nsIn K mainGlobals "_law_within" = some (some (.ref f_law_within)))
    (l_law_within : K.lookup f_law_within = some ⟨oc_law_within, od_law_within, .func (PySem.W.fnOf "_law_within" "_law_within" (defArgs s_law_within) (defBody s_law_within) (defScope s_law_within) .none kV_law_within dc_law_within pm_law_within an_law_within cd_law_within ct_law_within), sl_law_within⟩)
    (c_law_within : PySem.W.codeIn K cd_law_within "_law_within" = true)
    (k_law_within : PySem.W.keepIn K (.ref f_law_within) = true)
    (a_law_bad : PySem.W.nsIn K mainGlobals "_law_bad" = some (some (.ref f_law_bad)))
    (l_law_bad : K.lookup f_law_bad = some ⟨oc_law_bad, od_law_bad, .func (PySem.W.fnOf "_law_bad" "_law_bad" (defArgs s_law_bad) (defBody s_law_bad) (defScope s_law_bad) .none kV_law_bad dc_law_bad pm_law_bad an_law_bad cd_law_bad ct_law_bad), sl_law_bad⟩)
    (c_law_bad : PySem.W.codeIn K cd_law_bad "_law_bad" = true)
    (k_law_bad : PySem.W.keepIn K (.ref f_law_bad) = true)
    (tb_law_right : PySem.W.tabIn K "_law_right" = some (cc_law_right, PP_law_right))
    (nl_law_right : K.lookup PP_law_right = none)
    (a_law_right : PySem.W.nsIn K mainGlobals "_law_right" = some (some (.ref f_law_right)))
    (l_law_right : K.lookup f_law_right = some ⟨oc_law_right, od_law_right, .func (PySem.W.fnOf "_law_right" "_law_right" (defArgs s_law_right) (defBody s_law_right) (defScope s_law_right) .none kV_law_right dc_law_right pm_law_right an_law_right (.ref cc_law_right) ct_law_right), sl_law_right⟩)
    (c_law_right : PySem.W.codeIn K (.ref cc_law_right) "_law_right" = true)
    (k_law_right : PySem.W.keepIn K (.ref f_law_right) = true)
    (a_law : PySem.W.nsIn K mainGlobals "law" = some (some (.ref f_law)))
    (l_law : K.lookup f_law = some ⟨oc_law, od_law, .func (PySem.W.fnOf "law" "law" (defArgs s_law) (defBody s_law) (defScope s_law) .none kV_law dc_law pm_law an_law cd_law ct_law), sl_law⟩)
    (c_law : PySem.W.codeIn K cd_law "law" = true)
    (k_law : PySem.W.keepIn K (.ref f_law) = true) :
    ∃ (fd : FuncData) (cs : List (Addr × Addr)), (∀ p ∈ cs, h.get? p.2 = some (PySem.W.tabObj #[])) ∧ (∀ p ∈ cs, K.lookup p.2 = none) ∧ (∀ p ∈ cs, PySem.W.CodeHd h p.1 p.2) ∧ (∀ (s : Shared) (v : Value), BindsTo s fd ⟨[v], []⟩ [("_law_script", v)]) ∧ ∀ base : Heap, K.In base → base.Ns mainGlobals mg → (∀ p ∈ cs, LamX.TabB base mg p.1 p.2) → FnOk l.prog w K mg base (L2.CX l.prog w) 9 fa fd ["_law_script"] (spLawT K cs) := by
  have e := hfa.symm.trans (PySem.W.mg_of X G a_law)
  cases e
  have blt : Blt mg := ⟨PySem.W.mg_none_of X G zlen, PySem.W.mg_none_of X G ztuple, PySem.W.mg_none_of X G zlist, PySem.W.mg_none_of X G zint, PySem.W.mg_none_of X G zsum, PySem.W.mg_none_of X G zall, PySem.W.mg_none_of X G zmax, PySem.W.mg_none_of X G zmin, PySem.W.mg_none_of X G zsorted, PySem.W.mg_none_of X G zisinstance, PySem.W.mg_none_of X G zenumerate, PySem.W.mg_none_of X G zrange, PySem.W.mg_none_of X G zset, PySem.W.mg_none_of X G zbool, PySem.W.mg_none_of X G zstr⟩
  have T : Txt K mg C0 := ⟨blt, ⟨pg, hd, po, sa⟩, n_many, n_rows, n_most, PySem.W.mg_none_of X G zzip, PySem.W.mg_none_of X G zdict, PySem.W.mg_none_of X G zrepr, ⟨_, PySem.W.mg_of X G g_MAX_SERVERS⟩, ⟨_, PySem.W.mg_of X G g_MAX_SESSIONS⟩⟩
  have i_Farm : IsFk K mg (cfK l.prog w K C0 ([X0, X1].getD · 0)) := ⟨PySem.W.mg_of X G aFarm, ⟨pg, hd, po, sa⟩, icls, iget, itak, imro⟩
  have TB : BaseX K mg CB := ⟨PySem.W.mg_of X G aFE, fB, fR, fV⟩
  have O0 : OexC K X0 := ⟨⟨_, _, _, _, _, _, _, _, _, _, _, _, _, _, _, xL0, mro_ok⟩, xsa0, xex0, xty0, xkp0⟩
  have O1 : OexC K X1 := ⟨⟨_, _, _, _, _, _, _, _, _, _, _, _, _, _, _, xL1, mro_ok⟩, xsa1, xex1, xty1, xkp1⟩
  have F_NoFarmdd_initdd : FunD K "__init__" "NoFarm.__init__" (defArgs s_x0) (defBody s_x0) (defScope s_x0) [] [] _ _ := ⟨⟨_, _, _, _, _, _, _, _, _, _, rfl, l_NoFarmdd_initdd, c_NoFarmdd_initdd, .inl ⟨rfl, rfl⟩, .inl rfl⟩, k_NoFarmdd_initdd⟩
  have b_NoFarmdd_initdd : Binds K _ ["self", "part", "index"] [] := F_NoFarmdd_initdd.bindsN fun _ _ _ _ _ _ us hl => match us, hl with | [_, _, _], _ => rfl
  have F_NoSessiondd_initdd : FunD K "__init__" "NoSession.__init__" (defArgs s_x1) (defBody s_x1) (defScope s_x1) [] [] _ _ := ⟨⟨_, _, _, _, _, _, _, _, _, _, rfl, l_NoSessiondd_initdd, c_NoSessiondd_initdd, .inl ⟨rfl, rfl⟩, .inl rfl⟩, k_NoSessiondd_initdd⟩
  have b_NoSessiondd_initdd : Binds K _ ["self", "session"] [] := F_NoSessiondd_initdd.bindsN fun _ _ _ _ _ _ us hl => match us, hl with | [_, _], _ => rfl
  have F_Farmdd_initdd : FunD K "__init__" "Farm.__init__" (defArgs s_Farmdd_initdd) (defBody s_Farmdd_initdd) (defScope s_Farmdd_initdd) [] [] _ _ := ⟨⟨_, _, _, _, _, _, _, _, _, _, rfl, l_Farmdd_initdd, c_Farmdd_initdd, .inl ⟨rfl, rfl⟩, .inl rfl⟩, k_Farmdd_initdd⟩
  have b_Farmdd_initdd : Binds K _ ["self", "servers", "lists", "failures"] [] := F_Farmdd_initdd.bindsN fun _ _ _ _ _ _ us hl => match us, hl with | [_, _, _, _], _ => rfl
  have F_Farm_lists : FunD K "lists" "Farm.lists" (defArgs s_Farm_lists) (defBody s_Farm_lists) (defScope s_Farm_lists) [] [] _ _ := ⟨⟨_, _, _, _, _, _, _, _, _, _, rfl, l_Farm_lists, c_Farm_lists, .inl ⟨rfl, rfl⟩, .inl rfl⟩, k_Farm_lists⟩
  have b_Farm_lists : Binds K _ ["self"] [] := F_Farm_lists.bindsN fun _ _ _ _ _ _ us hl => match us, hl with | [_], _ => rfl
  have F_Farm_servers : FunD K "servers" "Farm.servers" (defArgs s_Farm_servers) (defBody s_Farm_servers) (defScope s_Farm_servers) [] [] _ _ := ⟨⟨_, _, _, _, _, _, _, _, _, _, rfl, l_Farm_servers, c_Farm_servers, .inl ⟨rfl, rfl⟩, .inl rfl⟩, k_Farm_servers⟩
  have b_Farm_servers : Binds K _ ["self"] [] := F_Farm_servers.bindsN fun _ _ _ _ _ _ us hl => match us, hl with | [_], _ => rfl
  have F_Farm_failures : FunD K "failures" "Farm.failures" (defArgs s_Farm_failures) (defBody s_Farm_failures) (defScope s_Farm_failures) [] [] _ _ := ⟨⟨_, _, _, _, _, _, _, _, _, _, rfl, l_Farm_failures, c_Farm_failures, .inl ⟨rfl, rfl⟩, .inl rfl⟩, k_Farm_failures⟩
  have b_Farm_failures : Binds K _ ["self"] [] := F_Farm_failures.bindsN fun _ _ _ _ _ _ us hl => match us, hl with | [_], _ => rfl
  have F_Farmdd_lendd : FunD K "__len__" "Farm.__len__" (defArgs s_Farmdd_lendd) (defBody s_Farmdd_lendd) (defScope s_Farmdd_lendd) [] [] _ _ := ⟨⟨_, _, _, _, _, _, _, _, _, _, rfl, l_Farmdd_lendd, c_Farmdd_lendd, .inl ⟨rfl, rfl⟩, .inl rfl⟩, k_Farmdd_lendd⟩
  have b_Farmdd_lendd : Binds K _ ["self"] [] := F_Farmdd_lendd.bindsN fun _ _ _ _ _ _ us hl => match us, hl with | [_], _ => rfl
  have F_Farm_check_session : FunD K "check_session" "Farm.check_session" (defArgs s_Farm_check_session) (defBody s_Farm_check_session) (defScope s_Farm_check_session) [] [] _ _ := ⟨⟨_, _, _, _, _, _, _, _, _, _, rfl, l_Farm_check_session, c_Farm_check_session, .inl ⟨rfl, rfl⟩, .inl rfl⟩, k_Farm_check_session⟩
  have b_Farm_check_session : Binds K _ ["self", "session"] [] := F_Farm_check_session.bindsN fun _ _ _ _ _ _ us hl => match us, hl with | [_, _], _ => rfl
  have F_Farm_row : FunD K "row" "Farm.row" (defArgs s_Farm_row) (defBody s_Farm_row) (defScope s_Farm_row) [] [] _ _ := ⟨⟨_, _, _, _, _, _, _, _, _, _, rfl, l_Farm_row, c_Farm_row, .inl ⟨rfl, rfl⟩, .inl rfl⟩, k_Farm_row⟩
  have b_Farm_row : Binds K _ ["self", "session"] [] := F_Farm_row.bindsN fun _ _ _ _ _ _ us hl => match us, hl with | [_, _], _ => rfl
  have F_Farmdd_eqdd : FunD K "__eq__" "Farm.__eq__" (defArgs s_Farmdd_eqdd) (defBody s_Farmdd_eqdd) (defScope s_Farmdd_eqdd) [] [] _ _ := ⟨⟨_, _, _, _, _, _, _, _, _, _, rfl, l_Farmdd_eqdd, c_Farmdd_eqdd, .inl ⟨rfl, rfl⟩, .inl rfl⟩, k_Farmdd_eqdd⟩
  have b_Farmdd_eqdd : Binds K _ ["self", "other"] [] := F_Farmdd_eqdd.bindsN fun _ _ _ _ _ _ us hl => match us, hl with | [_, _], _ => rfl
  have F_law_draw : FunD K "_law_draw" "_law_draw" (defArgs s_law_draw) (defBody s_law_draw) (defScope s_law_draw) [] [] _ _ := ⟨⟨_, _, _, _, _, _, _, _, _, _, rfl, l_law_draw, c_law_draw, .inl ⟨rfl, rfl⟩, .inl rfl⟩, k_law_draw⟩
  have b_law_draw : Binds K _ ["_law_well", "_law_many"] [] := F_law_draw.bindsN fun _ _ _ _ _ _ us hl => match us, hl with | [_, _], _ => rfl
  have F_law_farm : FunD K "_law_farm" "_law_farm" (defArgs s_law_farm) (defBody s_law_farm) (defScope s_law_farm) [] [] _ _ := ⟨⟨_, _, _, _, _, _, _, _, _, _, rfl, l_law_farm, c_law_farm, .inl ⟨rfl, rfl⟩, .inl rfl⟩, k_law_farm⟩
  have b_law_farm : Binds K _ ["_law_well", "_law_most", "_law_many"] [] := F_law_farm.bindsN fun _ _ _ _ _ _ us hl => match us, hl with | [_, _, _], _ => rfl
  have F_is_int : FunD K "is_int" "is_int" (defArgs s_is_int) (defBody s_is_int) (defScope s_is_int) [] [] _ _ := ⟨⟨_, _, _, _, _, _, _, _, _, _, rfl, l_is_int, c_is_int, .inl ⟨rfl, rfl⟩, .inl rfl⟩, k_is_int⟩
  have b_is_int : Binds K _ ["value"] [] := F_is_int.bindsN fun _ _ _ _ _ _ us hl => match us, hl with | [_], _ => rfl
  have F_is_from : FunD K "is_from" "is_from" (defArgs s_is_from) (defBody s_is_from) (defScope s_is_from) [] [] _ _ := ⟨⟨_, _, _, _, _, _, _, _, _, _, rfl, l_is_from, c_is_from, .inl ⟨rfl, rfl⟩, .inl rfl⟩, k_is_from⟩
  have b_is_from : Binds K _ ["value", "low", "high"] [] := F_is_from.bindsN fun _ _ _ _ _ _ us hl => match us, hl with | [_, _, _], _ => rfl
  have F_is_row : FunD K "is_row" "is_row" (defArgs s_is_row) (defBody s_is_row) (defScope s_is_row) [] [] _ _ := ⟨⟨_, _, _, _, _, _, _, _, _, _, rfl, l_is_row, c_is_row, .inl ⟨rfl, rfl⟩, .inl rfl⟩, k_is_row⟩
  have b_is_row : Binds K _ ["value", "servers"] [] := F_is_row.bindsN fun _ _ _ _ _ _ us hl => match us, hl with | [_, _], _ => rfl
  have F_law_equal_right : FunD K "_law_equal_right" "_law_equal_right" (defArgs s_law_equal_right) (defBody s_law_equal_right) (defScope s_law_equal_right) [] [] _ _ := ⟨⟨_, _, _, _, _, _, _, _, _, _, rfl, l_law_equal_right, c_law_equal_right, .inl ⟨rfl, rfl⟩, .inl rfl⟩, k_law_equal_right⟩
  have b_law_equal_right : Binds K _ ["_law_hosts", "_law_rows", "_law_most"] [] := F_law_equal_right.bindsN fun _ _ _ _ _ _ us hl => match us, hl with | [_, _, _], _ => rfl
  have F_law_raised : FunD K "_law_raised" "_law_raised" (defArgs s_law_raised) (defBody s_law_raised) (defScope s_law_raised) [] [] _ _ := ⟨⟨_, _, _, _, _, _, _, _, _, _, rfl, l_law_raised, c_law_raised, .inl ⟨rfl, rfl⟩, .inl rfl⟩, k_law_raised⟩
  have b_law_raised : Binds K _ ["_law_ask"] [] := F_law_raised.bindsN fun _ _ _ _ _ _ us hl => match us, hl with | [_], _ => rfl
  have F_law_bent : FunD K "_law_bent" "_law_bent" (defArgs s_law_bent) (defBody s_law_bent) (defScope s_law_bent) [] [] _ _ := ⟨⟨_, _, _, _, _, _, _, _, _, _, rfl, l_law_bent, c_law_bent, .inl ⟨rfl, rfl⟩, .inl rfl⟩, k_law_bent⟩
  have b_law_bent : Binds K _ ["_law_well", "_law_rows", "_law_hosts"] [] := F_law_bent.bindsN fun _ _ _ _ _ _ us hl => match us, hl with | [_, _, _], _ => rfl
  have F_law_within : FunD K "_law_within" "_law_within" (defArgs s_law_within) (defBody s_law_within) (defScope s_law_within) [] [] _ _ := ⟨⟨_, _, _, _, _, _, _, _, _, _, rfl, l_law_within, c_law_within, .inl ⟨rfl, rfl⟩, .inl rfl⟩, k_law_within⟩
  have b_law_within : Binds K _ ["_law_value", "_law_low", "_law_high"] [] := F_law_within.bindsN fun _ _ _ _ _ _ us hl => match us, hl with | [_, _, _], _ => rfl
  have F_law_bad : FunD K "_law_bad" "_law_bad" (defArgs s_law_bad) (defBody s_law_bad) (defScope s_law_bad) [] [] _ _ := ⟨⟨_, _, _, _, _, _, _, _, _, _, rfl, l_law_bad, c_law_bad, .inl ⟨rfl, rfl⟩, .inl rfl⟩, k_law_bad⟩
  have b_law_bad : Binds K _ ["_law_hosts", "_law_rows", "_law_most"] [] := F_law_bad.bindsN fun _ _ _ _ _ _ us hl => match us, hl with | [_, _, _], _ => rfl
  have F_law_right : FunD K "_law_right" "_law_right" (defArgs s_law_right) (defBody s_law_right) (defScope s_law_right) [] [] _ _ := ⟨⟨_, _, _, _, _, _, _, _, _, _, rfl, l_law_right, c_law_right, .inl ⟨rfl, rfl⟩, .inl rfl⟩, k_law_right⟩
  have b_law_right : Binds K _ ["_law_well"] [] := F_law_right.bindsN fun _ _ _ _ _ _ us hl => match us, hl with | [_], _ => rfl
  have F_law : FunD K "law" "law" (defArgs s_law) (defBody s_law) (defScope s_law) [] [] _ _ := ⟨⟨_, _, _, _, _, _, _, _, _, _, rfl, l_law, c_law, .inl ⟨rfl, rfl⟩, .inl rfl⟩, k_law⟩
  have b_law : Binds K _ ["_law_script"] [] := F_law.bindsN fun _ _ _ _ _ _ us hl => match us, hl with | [_], _ => rfl
  obtain ⟨rr_law_right, hr_law_right⟩ := rec_law_right
  have hd_law_right := htab _ _ _ _ hr_law_right tb_law_right
  refine ⟨_, [(cc_law_right, PP_law_right)], fun p hp => by
    cases List.mem_singleton.mp hp; exact hd_law_right.2, fun p hp => by
    cases List.mem_singleton.mp hp; exact nl_law_right, fun p hp => by
    cases List.mem_singleton.mp hp; exact hd_law_right.1, fun s v => F_law.bindsA (ps := ["_law_script"]) (fun _ _ _ _ _ _ us hl => match us, hl with | [_], _ => rfl) s [v] rfl, fun base _ _ hTB => ?_⟩
  have TB_law_right := hTB (cc_law_right, PP_law_right) (by simp)
  have c_law_draw : Cal l.prog w K mg base (cfK l.prog w K C0 ([X0, X1].getD · 0)) 1 "_law_draw" [0] 2 m_law_draw := ⟨_, _, _, ok_law_draw T  F_law_draw, PySem.W.mg_of X G a_law_draw, k_law_draw, b_law_draw⟩
  have c_law_farm : Cal l.prog w K mg base (cfK l.prog w K C0 ([X0, X1].getD · 0)) 2 "_law_farm" [0] 3 m_law_farm := ⟨_, _, _, ok_law_farm T c_law_draw F_law_farm, PySem.W.mg_of X G a_law_farm, k_law_farm, b_law_farm⟩
  have c_is_int : Cal l.prog w K mg base (cfK l.prog w K C0 ([X0, X1].getD · 0)) 1 "is_int" [] 1 m_is_int := ⟨_, _, _, ok_is_int T  F_is_int, PySem.W.mg_of X G a_is_int, k_is_int, b_is_int⟩
  have c_is_from : Cal l.prog w K mg base (cfK l.prog w K C0 ([X0, X1].getD · 0)) 2 "is_from" [] 3 m_is_from := ⟨_, _, _, ok_is_from T c_is_int F_is_from, PySem.W.mg_of X G a_is_from, k_is_from, b_is_from⟩
  have c_NoFarm : CalX2 l.prog w K mg base (cfK l.prog w K C0 ([X0, X1].getD · 0)) 1 0 "NoFarm" "part" "index" := ⟨⟨_, _, _, ⟨PySem.W.mg_of X G aX0, O0, a_NoFarmdd_initdd, i_NoFarmdd_initdd⟩, ok_x0 TB O0 xp0_part xp0_index F_NoFarmdd_initdd, b_NoFarmdd_initdd⟩, rfl⟩
  have t_NoFarm : CatX K mg (cfK l.prog w K C0 ([X0, X1].getD · 0)) 0 "NoFarm" ["index", "part"] := ⟨PySem.W.mg_of X G aX0, ⟨xga0, xgg0, xex0, xhd0⟩, PySem.W.exm_ref xex0 xhd0 xty0 xss0, rfl, fun f hf => by simp at hf; rcases hf with rfl | rfl; exact xp0_index; exact xp0_part⟩
  have c_is_row : Cal l.prog w K mg base (cfK l.prog w K C0 ([X0, X1].getD · 0)) 3 "is_row" [] 2 m_is_row := ⟨_, _, _, ok_is_row T c_is_from F_is_row, PySem.W.mg_of X G a_is_row, k_is_row, b_is_row⟩
  have c_Farm : CalM l.prog w K mg base (cfK l.prog w K C0 ([X0, X1].getD · 0)) 4 "Farm" 4 m_Farmdd_initdd := ⟨_, _, _, ⟨mk, a_Farmdd_initdd, i_Farmdd_initdd, kc⟩, ok_Farmdd_initdd T c_is_from c_NoFarm c_is_row F_Farmdd_initdd, PySem.W.mg_of X G aFarm, b_Farmdd_initdd⟩
  have c_Farm_lists : CalF l.prog w K mg base (cfK l.prog w K C0 ([X0, X1].getD · 0)) 1 "lists" 1 m_Farm_lists := ⟨_, _, _, ⟨a_Farm_lists, i_Farm_lists, k_Farm_lists⟩, ok_Farm_lists T  F_Farm_lists, b_Farm_lists⟩
  have r_Farm_lists : CalFr l.prog w K mg base (cfK l.prog w K C0 ([X0, X1].getD · 0)) 1 "lists" mf_Farm_lists := ⟨_, _, _, ⟨a_Farm_lists, i_Farm_lists, k_Farm_lists⟩, okr_Farm_lists T  F_Farm_lists, b_Farm_lists⟩
  have c_Farm_servers : CalF l.prog w K mg base (cfK l.prog w K C0 ([X0, X1].getD · 0)) 1 "servers" 1 m_Farm_servers := ⟨_, _, _, ⟨a_Farm_servers, i_Farm_servers, k_Farm_servers⟩, ok_Farm_servers T  F_Farm_servers, b_Farm_servers⟩
  have c_Farm_failures : CalF l.prog w K mg base (cfK l.prog w K C0 ([X0, X1].getD · 0)) 1 "failures" 1 m_Farm_failures := ⟨_, _, _, ⟨a_Farm_failures, i_Farm_failures, k_Farm_failures⟩, ok_Farm_failures T  F_Farm_failures, b_Farm_failures⟩
  have c_len : CalL l.prog w K mg base (cfK l.prog w K C0 ([X0, X1].getD · 0)) 1 m_Farmdd_lendd := ⟨_, _, _, a_Farmdd_lendd, i_Farmdd_lendd, ok_Farmdd_lendd T  F_Farmdd_lendd, b_Farmdd_lendd⟩
  have c_NoSession : CalX1 l.prog w K mg base (cfK l.prog w K C0 ([X0, X1].getD · 0)) 1 1 "NoSession" "session" := ⟨⟨_, _, _, ⟨PySem.W.mg_of X G aX1, O1, a_NoSessiondd_initdd, i_NoSessiondd_initdd⟩, ok_x1 TB O1 xp1_session F_NoSessiondd_initdd, b_NoSessiondd_initdd⟩, rfl⟩
  have t_NoSession : CatX K mg (cfK l.prog w K C0 ([X0, X1].getD · 0)) 1 "NoSession" ["session"] := ⟨PySem.W.mg_of X G aX1, ⟨xga1, xgg1, xex1, xhd1⟩, PySem.W.exm_ref xex1 xhd1 xty1 xss1, rfl, fun f hf => by simp at hf; subst hf; exact xp1_session⟩
  have c_Farm_check_session : CalF l.prog w K mg base (cfK l.prog w K C0 ([X0, X1].getD · 0)) 3 "check_session" 2 m_Farm_check_session := ⟨_, _, _, ⟨a_Farm_check_session, i_Farm_check_session, k_Farm_check_session⟩, ok_Farm_check_session T c_is_from c_NoSession F_Farm_check_session, b_Farm_check_session⟩
  have c_Farm_row : CalF l.prog w K mg base (cfK l.prog w K C0 ([X0, X1].getD · 0)) 4 "row" 2 m_Farm_row := ⟨_, _, _, ⟨a_Farm_row, i_Farm_row, k_Farm_row⟩, ok_Farm_row T c_Farm_check_session F_Farm_row, b_Farm_row⟩
  have c_eq : CalE l.prog w K mg base (cfK l.prog w K C0 ([X0, X1].getD · 0)) 1 m_Farmdd_eqdd := ⟨_, _, _, a_Farmdd_eqdd, i_Farmdd_eqdd, ok_Farmdd_eqdd T i_Farm ki0_tup F_Farmdd_eqdd, b_Farmdd_eqdd⟩
  have n_eq : CalNE l.prog w K mg base (cfK l.prog w K C0 ([X0, X1].getD · 0)) 1 m_Farmdd_eqdd := ⟨c_eq, ine, imro2⟩
  have c_law_equal_right : Cal l.prog w K mg base (cfK l.prog w K C0 ([X0, X1].getD · 0)) 6 "_law_equal_right" [] 3 m_law_equal_right := ⟨_, _, _, ok_law_equal_right T c_Farm n_eq c_eq F_law_equal_right, PySem.W.mg_of X G a_law_equal_right, k_law_equal_right, b_law_equal_right⟩
  have as_law_raised : AskC K (cfK l.prog w K C0 ([X0, X1].getD · 0)) [0, 1] [0, 1] := ⟨fun k hk j hj => by simp only [List.mem_cons, List.not_mem_nil, or_false] at hk; rcases hk with rfl | rfl <;> (simp only [List.mem_cons, List.not_mem_nil, or_false] at hj; rcases hj with rfl | rfl <;> first | exact PySem.W.exm_ref xex0 xhd0 xty0 sx0_0 | exact PySem.W.exm_ref xex1 xhd1 xty1 sx0_1 | exact PySem.W.exm_ref xex0 xhd0 xty0 sx1_0 | exact PySem.W.exm_ref xex1 xhd1 xty1 sx1_1)⟩
  have ask_law_raised : AskF K mg "_law_raised" s_law_raised "_law_ask" := ⟨_, _, _, _, _, _, _, _, _, _, _, l_law_raised, PySem.W.mg_of X G a_law_raised, k_law_raised, c_law_raised, b_law_raised⟩
  have c_law_bent : Cal l.prog w K mg base (cfK l.prog w K C0 ([X0, X1].getD · 0)) 2 "_law_bent" [0] 3 m_law_bent := ⟨_, _, _, ok_law_bent T c_law_draw F_law_bent, PySem.W.mg_of X G a_law_bent, k_law_bent, b_law_bent⟩
  have c_law_within : Cal l.prog w K mg base (cfK l.prog w K C0 ([X0, X1].getD · 0)) 1 "_law_within" [] 3 m_law_within := ⟨_, _, _, ok_law_within T  F_law_within, PySem.W.mg_of X G a_law_within, k_law_within, b_law_within⟩
  have c_law_bad : Cal l.prog w K mg base (cfK l.prog w K C0 ([X0, X1].getD · 0)) 2 "_law_bad" [] 3 m_law_bad := ⟨_, _, _, ok_law_bad T c_law_within F_law_bad, PySem.W.mg_of X G a_law_bad, k_law_bad, b_law_bad⟩
  have c_law_right : CalT [(PP_law_right, (("_law_right" : Str) ++ ".<locals>." ++ "<lambda>"))] l.prog w K mg base (cfK l.prog w K C0 ([X0, X1].getD · 0)) 8 "_law_right" [0] 1 m_law_right := ⟨_, _, _, ok_law_right (TL := [(PP_law_right, (("_law_right" : Str) ++ ".<locals>." ++ "<lambda>"))]) T c_law_farm c_law_draw c_Farm r_Farm_lists c_Farm_lists c_Farm_servers c_Farm_failures c_len c_Farm_row c_law_equal_right ask_law_raised as_law_raised t_NoFarm t_NoSession c_law_bent c_law_bad TB_law_right (by simp) (fun p hp hq => by cases List.mem_singleton.mp hp; rfl) l_law_right c_law_right, PySem.W.mg_of X G a_law_right, k_law_right, b_law_right⟩
  exact (ok_law (TL := [(PP_law_right, (("_law_right" : Str) ++ ".<locals>." ++ "<lambda>"))]) T c_law_right c_Farm_lists c_Farm l_law c_law : FnOk l.prog w K mg base (L2.CX l.prog w) 9 _ _ _ (spMT [(PP_law_right, (("_law_right" : Str) ++ ".<locals>." ++ "<lambda>"))] (cfK l.prog w K C0 ([X0, X1].getD · 0)) [] 1 m_law)).imp (law_impT (c := cfK l.prog w K C0 ([X0, X1].getD · 0)) (cs := [(cc_law_right, PP_law_right)]) (fun q hq => by cases List.mem_singleton.mp hq; exact ⟨_, List.mem_singleton.mpr rfl, rfl⟩) plain)
end Fx
open PySem PySem.W PyProof.Rows
set_option maxRecDepth 100000 in
set_option maxHeartbeats 0 in
theorem PySem.Challenge.cw_stickyservers_k01_farms_holds : PySem.Challenge.rw_stickyservers_k01_farms.Holds := by
  w_on; o_law; k_head; (case hw => w_witness2)
  k_fill
  refine Fx.walk_fxT (l := PySem.Challenge.rw_stickyservers_k01_farms) (k := 9) (x := "_law_script") rfl rfl ⟨rfl, by decide, by decide⟩ (fun w h Y => PySem.W.km_in_of Y) ?F
  case F =>
    intro w mg fa h KX G hmg htab
    refine' Fx.wire Fx.plain_law KX G hmg htab ?rec_law_right ?aFarm ?aFE ?aX0 ?xL0 ?xsa0 ?xex0 ?xty0 ?xkp0 ?xga0 ?xgg0 ?xhd0 ?xss0 ?xp0_part ?xp0_index ?aX1 ?xL1 ?xsa1 ?xex1 ?xty1 ?xkp1 ?xga1 ?xgg1 ?xhd1 ?xss1 ?xp1_session ?sx0_0 ?sx0_1 ?sx1_0 ?sx1_1 ?fB ?fR ?fV ?pg ?hd ?po ?sa ?mk ?kc ?icls ?iget ?itak ?imro ?ki0_tup ?ine ?imro2 ?n_many ?n_rows ?n_most ?zlen ?ztuple ?zlist ?zint ?zsum ?zall ?zmax ?zmin ?zsorted ?zisinstance ?zenumerate ?zrange ?zset ?zbool ?zstr ?zzip ?zdict ?zrepr ?g_MAX_SERVERS ?g_MAX_SESSIONS ?a_NoFarmdd_initdd ?l_NoFarmdd_initdd ?c_NoFarmdd_initdd ?k_NoFarmdd_initdd ?i_NoFarmdd_initdd ?a_NoSessiondd_initdd ?l_NoSessiondd_initdd ?c_NoSessiondd_initdd ?k_NoSessiondd_initdd ?i_NoSessiondd_initdd ?a_Farmdd_initdd ?l_Farmdd_initdd ?c_Farmdd_initdd ?k_Farmdd_initdd ?i_Farmdd_initdd ?a_Farm_lists ?l_Farm_lists ?c_Farm_lists ?k_Farm_lists ?i_Farm_lists ?a_Farm_servers ?l_Farm_servers ?c_Farm_servers ?k_Farm_servers ?i_Farm_servers ?a_Farm_failures ?l_Farm_failures ?c_Farm_failures ?k_Farm_failures ?i_Farm_failures ?a_Farmdd_lendd ?l_Farmdd_lendd ?c_Farmdd_lendd ?k_Farmdd_lendd ?i_Farmdd_lendd ?a_Farm_check_session ?l_Farm_check_session ?c_Farm_check_session ?k_Farm_check_session ?i_Farm_check_session ?a_Farm_row ?l_Farm_row ?c_Farm_row ?k_Farm_row ?i_Farm_row ?a_Farmdd_eqdd ?l_Farmdd_eqdd ?c_Farmdd_eqdd ?k_Farmdd_eqdd ?i_Farmdd_eqdd ?a_law_draw ?l_law_draw ?c_law_draw ?k_law_draw ?a_law_farm ?l_law_farm ?c_law_farm ?k_law_farm ?a_is_int ?l_is_int ?c_is_int ?k_is_int ?a_is_from ?l_is_from ?c_is_from ?k_is_from ?a_is_row ?l_is_row ?c_is_row ?k_is_row ?a_law_equal_right ?l_law_equal_right ?c_law_equal_right ?k_law_equal_right ?a_law_raised ?l_law_raised ?c_law_raised ?k_law_raised ?a_law_bent ?l_law_bent ?c_law_bent ?k_law_bent ?a_law_within ?l_law_within ?c_law_within ?k_law_within ?a_law_bad ?l_law_bad ?c_law_bad ?k_law_bad ?tb_law_right ?nl_law_right ?a_law_right ?l_law_right ?c_law_right ?k_law_right ?a_law ?l_law ?c_law ?k_law
    (case rec_law_right => exact ⟨_, rfl⟩)
    (case aFarm => k_is); (case aFE => k_is); (case aX0 => k_is); (case xL0 => k_is); (case xsa0 => k_is); (case xex0 => k_is)
    (case xty0 => k_is); (case xkp0 => k_is); (case xga0 => k_is); (case xgg0 => k_is); (case xhd0 => k_is); (case xss0 => k_is)
    (case xp0_part => k_is); (case xp0_index => k_is); (case aX1 => k_is); (case xL1 => k_is); (case xsa1 => k_is); (case xex1 => k_is)
    (case xty1 => k_is); (case xkp1 => k_is); (case xga1 => k_is); (case xgg1 => k_is); (case xhd1 => k_is); (case xss1 => k_is)
    (case xp1_session => k_is); (case sx0_0 => k_is); (case sx0_1 => k_is); (case sx1_0 => k_is); (case sx1_1 => k_is); (case fB => k_is)
    (case fR => k_is); (case fV => k_is); (case pg => k_is); (case hd => k_is); (case po => k_is); (case sa => k_is)
    (case mk => k_is); (case kc => k_is); (case icls => k_is); (case iget => k_is); (case itak => k_is); (case imro => k_is)
    (case ki0_tup => kit_is); (case ine => k_is); (case imro2 => k_is); (case n_many => k_is); (case n_rows => k_is); (case n_most => k_is)
    (case zlen => k_is); (case ztuple => k_is); (case zlist => k_is); (case zint => k_is); (case zsum => k_is); (case zall => k_is)
    (case zmax => k_is); (case zmin => k_is); (case zsorted => k_is); (case zisinstance => k_is); (case zenumerate => k_is); (case zrange => k_is)
    (case zset => k_is); (case zbool => k_is); (case zstr => k_is); (case zzip => k_is); (case zdict => k_is); (case zrepr => k_is)
    (case g_MAX_SERVERS => k_is); (case g_MAX_SESSIONS => k_is); (case a_NoFarmdd_initdd => k_is); (case l_NoFarmdd_initdd => k_is); (case c_NoFarmdd_initdd => k_is); (case k_NoFarmdd_initdd => k_is)
    (case i_NoFarmdd_initdd => k_is); (case a_NoSessiondd_initdd => k_is); (case l_NoSessiondd_initdd => k_is); (case c_NoSessiondd_initdd => k_is); (case k_NoSessiondd_initdd => k_is); (case i_NoSessiondd_initdd => k_is)
    (case a_Farmdd_initdd => k_is); (case l_Farmdd_initdd => k_is); (case c_Farmdd_initdd => k_is); (case k_Farmdd_initdd => k_is); (case i_Farmdd_initdd => k_is); (case a_Farm_lists => k_is)
    (case l_Farm_lists => k_is); (case c_Farm_lists => k_is); (case k_Farm_lists => k_is); (case i_Farm_lists => k_is); (case a_Farm_servers => k_is); (case l_Farm_servers => k_is)
    (case c_Farm_servers => k_is); (case k_Farm_servers => k_is); (case i_Farm_servers => k_is); (case a_Farm_failures => k_is); (case l_Farm_failures => k_is); (case c_Farm_failures => k_is)
    (case k_Farm_failures => k_is); (case i_Farm_failures => k_is); (case a_Farmdd_lendd => k_is); (case l_Farmdd_lendd => k_is); (case c_Farmdd_lendd => k_is); (case k_Farmdd_lendd => k_is)
    (case i_Farmdd_lendd => k_is); (case a_Farm_check_session => k_is); (case l_Farm_check_session => k_is); (case c_Farm_check_session => k_is); (case k_Farm_check_session => k_is); (case i_Farm_check_session => k_is)
    (case a_Farm_row => k_is); (case l_Farm_row => k_is); (case c_Farm_row => k_is); (case k_Farm_row => k_is); (case i_Farm_row => k_is); (case a_Farmdd_eqdd => k_is)
    (case l_Farmdd_eqdd => k_is); (case c_Farmdd_eqdd => k_is); (case k_Farmdd_eqdd => k_is); (case i_Farmdd_eqdd => k_is); (case a_law_draw => k_is); (case l_law_draw => k_is)
    (case c_law_draw => k_is); (case k_law_draw => k_is); (case a_law_farm => k_is); (case l_law_farm => k_is); (case c_law_farm => k_is); (case k_law_farm => k_is)
    (case a_is_int => k_is); (case l_is_int => k_is); (case c_is_int => k_is); (case k_is_int => k_is); (case a_is_from => k_is); (case l_is_from => k_is)
    (case c_is_from => k_is); (case k_is_from => k_is); (case a_is_row => k_is); (case l_is_row => k_is); (case c_is_row => k_is); (case k_is_row => k_is)
    (case a_law_equal_right => k_is); (case l_law_equal_right => k_is); (case c_law_equal_right => k_is); (case k_law_equal_right => k_is); (case a_law_raised => k_is); (case l_law_raised => k_is)
    (case c_law_raised => k_is); (case k_law_raised => k_is); (case a_law_bent => k_is); (case l_law_bent => k_is); (case c_law_bent => k_is); (case k_law_bent => k_is)
    (case a_law_within => k_is); (case l_law_within => k_is); (case c_law_within => k_is); (case k_law_within => k_is); (case a_law_bad => k_is); (case l_law_bad => k_is)
    (case c_law_bad => k_is); (case k_law_bad => k_is); (case a_law_right => k_is); (case l_law_right => k_is); (case c_law_right => k_is); (case k_law_right => k_is)
    (case a_law => k_is); (case l_law => k_is); (case c_law => k_is); (case k_law => k_is)
    (case tb_law_right => exact (show PySem.W.tabIn _ _ = some (_, 203) from by kernel_rfl))
    (case nl_law_right => kernel_rfl)

