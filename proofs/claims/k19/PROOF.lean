import PyProof.Rows.All
import Wide.All
import OpenK.AllK
import Wide.FinOn
import PySem.Challenge.RW_stickyservers_k19_exceptions
import HandS.ForMost
import HandS.ForExc
import HandS.ExcInit
import HandS.ExcField
import HandS.CallSlots
import HandS.IsInst
import HandS.Deep
import HandS.TupAny
import HandS.TupMul
import HandS.SortInts
import HandS.SetFor
import HandS.Strs
import KE.KDictDisplayH
import KE.GoesEnum
import KE.GoesMore
import HandS.Defaults
import HandS.DictComp
import HandS.Conv
import HandS.Words
import HandS.Ends
import HandS.Style
import HandS.ExcIs
import HandS.Zip
import HandS.OwnEq
import HandS.More
import HandS.Lambda
import HandS.EndTab
import KE.KFmtOwn
import HandS.MakeKwOnly
import HandS.Dict
import PyProof.ReprRoads
import PyProof.ReprLen
import HandS.RaiseMore
import HandS.TupLen
import KE.KDictCopyH
import HandS.TryMany
import KE.SortKeyHeap
import HandS.DeepEq
import KE.KMinKey
import HandS.Small
import PyProof.ReprHeadsEmpty
import HandS.Sort
import PyProof.ReprNest
import PyProof.LongRange
import PyProof.DefMake
import PyProof.WalksMore
import HandS.Exc
import KE.KExcIs
import HandS.ExcValue
import HandS.ExcBuiltin
set_option Elab.async false
set_option linter.all false
set_option maxRecDepth 100000
set_option maxHeartbeats 4000000
namespace Fx
open PySem L2

inductive D where
  | non | bl (b : Bool) | int (i : Int) | str (x : Str)
  | tup (ds : List D) | lst (ds : List D) | dic (ks : List Key) (ds : List D)
  | rcd (ns : List Str) (ds : List D) | exc (c : Nat) (fs : List D) | raw (v : V)

/-- what the laws' programs have beside the module's own text: the class of farms, the classes of errors with their fields (last stored first) -/
structure Cf where
  K : PySem.W.Frag
  farm : Addr
  exc : Nat → Addr
  flds : Nat → List Str
  P : Program
  w : World


mutual
def nk : D → Option NestedKey
  | .non => some .none
  | .bl b => some (.num (if b = true then 1 else 0))
  | .int i => some (.num i)
  | .str x => some (.text x)
  | .tup ds => match nkL ds with
    | some ks => some (.tup ks)
    | none => none
  | .lst _ => none
  | .dic _ _ => none
  | .rcd _ _ => none
  | .exc _ _ => none
  | .raw _ => none
def nkL : List D → Option (List NestedKey)
  | [] => some []
  | d :: ds => match nk d, nkL ds with
    | some k, some ks => some (k :: ks)
    | _, _ => none
end
/-- such a dict: its object -/
def KdO (P : Program) (w : World) (a : Addr) (xs : List (NestedKey × Addr)) : HO := .ext fun h => (a == sysModules) = false ∧ ∃ (o : Obj) (es : Array DictEntry) (ep : Nat), h.get? a = some o ∧ o.ExactDict ∧ o.data = .dict es ep ∧ es.toList = xs.map fun x => entryOfKey (nestedKind P w) (x.1, x.2, .bool true)
/-- a dict of states with values of any kind -/
def KmO (P : Program) (w : World) (a : Addr) (xs : List (NestedKey × Addr × Value)) : HO := .ext fun h => (a == sysModules) = false ∧ ∃ (o : Obj) (es : Array DictEntry) (ep : Nat), h.get? a = some o ∧ o.ExactDict ∧ o.data = .dict es ep ∧ es.toList = xs.map (entryOfKey (nestedKind P w))
/-- how one is told: its keys (0: all values True; 1: the keys, then the values) -/
def KdAt (c : Cf) (k : Nat) (o : Option HO) (xs : List V) (ks : List NestedKey) : Prop :=
  (k = 0 ∧ ∃ (a : Addr) (ps : List Addr), o = some (KdO c.P c.w a (ks.zip ps)) ∧ ks.length = ps.length ∧ xs = ps.map V.ref ∧ ks.Nodup ∧ ks.length ≤ 16777216 ∧ ∀ k ∈ ks, k.depth ≤ 8) ∨
    (k = 1 ∧ ∃ (a : Addr) (ps : List Addr) (us : List Value) (vs : List V), o = some (KmO c.P c.w a (ks.zip (ps.zip us))) ∧ ks.length = ps.length ∧ us.length = ps.length ∧ Vals vs us ∧ xs = ps.map V.ref ++ vs ∧ ks.Nodup ∧ ks.length ≤ 16777216 ∧ ∀ k ∈ ks, k.depth ≤ 8)
def keysOf (k : Nat) (ds : List D) : List D := match k with
  | 0 => ds
  | _ + 1 => ds.take (ds.length / 2)

/-- a list of the written part, its object known -/
def KL (K : PySem.W.Frag) (a : Addr) (xs : List V) : Prop := ∃ (its : List Value) (n : Nat), K.lookup a = some { cls := .type "list", data := .seq its.toArray n } ∧ its.length ≤ sizeLine ∧ Vals xs its
/-- a list that may be read -/
def LsG (K : PySem.W.Frag) (G : Hp) (a : Addr) (xs : List V) : Prop := Rd G a (.lst xs) ∨ KL K a xs
theorem LsG.sq {K : PySem.W.Frag} {G : Hp} {a : Addr} {xs : List V} (h : LsG K G a xs) : SqL K G a xs := by
  rcases h with h | ⟨its, n, h1, h2, h3⟩
  · exact .inl h
  · exact .inr ⟨_, its.toArray, n, h1, rfl, rfl, rfl, by rw [List.size_toArray]; exact h2, by simpa using h3⟩
theorem LsG.mono {K : PySem.W.Frag} {G G' : Hp} {a : Addr} {xs : List V} (e : Same G G') (h : LsG K G a xs) : LsG K G' a xs := by
  rcases h with (h | ⟨o, h⟩) | h
  · exact .inl (.inl (e _ _ h))
  · exact .inl (.inr ⟨o, e _ _ h⟩)
  · exact .inr h
/-- a tuple that may be read and whose methods may be called: its object is known to have no dict -/
def TupAt (K : PySem.W.Frag) (G : Hp) (a : Addr) (xs : List V) : Prop :=
  (∃ o, G a = some (.frz o (.tup xs)) ∧ o.dict = none) ∨
    ∃ (o : Obj) (its : Array Value) (n : Nat), K.lookup a = some o ∧ o.cls = .type "tuple" ∧ o.dict = none ∧ o.data = .seq its n ∧ its.size ≤ sizeLine ∧ Vals xs its.toList
theorem TupAt.sq {K : PySem.W.Frag} {G : Hp} {a : Addr} {xs : List V} (h : TupAt K G a xs) : SqT K G a xs := by
  rcases h with ⟨o, h, _⟩ | ⟨o, its, n, h1, h2, h3, h4, h5, h6⟩
  · exact .inl (.inr ⟨o, h⟩)
  · exact .inr ⟨o, its, n, h1, h2, h4, h5, h6⟩
theorem TupAt.mono {K : PySem.W.Frag} {G G' : Hp} {a : Addr} {xs : List V} (e : Same G G') (h : TupAt K G a xs) : TupAt K G' a xs := by
  rcases h with ⟨o, h, d⟩ | h
  · exact .inl ⟨o, e _ _ h, d⟩
  · exact .inr h
section
variable (c : Cf) (G : Hp)
mutual
inductive Rep : V → D → Prop
  | non : Rep .non .non
  | bl (b : Bool) : Rep (.bl b) (.bl b)
  | int (i : Int) : Rep (.int i) (.int i)
  | str (x : Str) : Rep (.str x) (.str x)
  | tup {a : Addr} {xs : List V} {ds : List D} : TupAt c.K G a xs → RepL xs ds → Rep (.ref a) (.tup ds)
  | lst {a : Addr} {xs : List V} {ds : List D} : LsG c.K G a xs → RepL xs ds → Rep (.ref a) (.lst ds)
  | dic {a : Addr} {ks : List Key} {xs : List V} {ds : List D} : Rd G a (.dK (ks.zip xs)) → ks.length = xs.length → RepL xs ds → Rep (.ref a) (.dic ks ds)
  | rcd {a dx : Addr} {ns : List Str} {xs : List V} {ds : List D} : G a = some (.ins c.farm dx (ns.zip xs)) → ns.length = xs.length → RepL xs ds → Rep (.ref a) (.rcd ns ds)
  | raw (v : V) : Rep v (.raw v)
  | err {a dx : Addr} {k : Nat} {xs : List V} {ds : List D} : G a = some (exo a (c.exc k) (some dx)) → G dx = some (exd dx ((c.flds k).zip xs)) → (c.flds k).length = xs.length → RepL xs ds → Rep (.ref a) (.exc (k + 2) ds)
  | std {a : Addr} {k : Nat} {xs : List V} {ds : List D} {ks : List NestedKey} : KdAt c k (G a) xs ks → RepL xs ds → nkL (keysOf k ds) = some ks → Rep (.ref a) (.exc k ds)
inductive RepL : List V → List D → Prop
  | nil : RepL [] []
  | cons {v : V} {vs : List V} {d : D} {ds : List D} : Rep v d → RepL vs ds → RepL (v :: vs) (d :: ds)
end
end
section
variable {c : Cf} {G G' H : Hp}
theorem KdAt.mono {a : Addr} {k : Nat} {xs : List V} {ks : List NestedKey} (e : Same G G') (h : KdAt c k (G a) xs ks) : KdAt c k (G' a) xs ks := by
  rcases h with ⟨h0, b, ps, h1, h2⟩ | ⟨h0, b, ps, us, vs, h1, h2⟩
  · exact .inl ⟨h0, b, ps, e _ _ h1, h2⟩
  · exact .inr ⟨h0, b, ps, us, vs, e _ _ h1, h2⟩
theorem KdAt.zero {o : Option HO} {xs : List V} {ks : List NestedKey} (h : KdAt c 0 o xs ks) : ∃ (a : Addr) (ps : List Addr), o = some (KdO c.P c.w a (ks.zip ps)) ∧ ks.length = ps.length ∧ xs = ps.map V.ref ∧ ks.Nodup ∧ ks.length ≤ 16777216 ∧ ∀ k ∈ ks, k.depth ≤ 8 := by
  rcases h with ⟨_, h⟩ | ⟨z, _⟩
  · exact h
  · cases z
theorem KdAt.anO {k : Nat} {o : Option HO} {xs : List V} {ks : List NestedKey} (h : KdAt c k o xs ks) : ∃ φ, o = some (.ext φ) := by
  rcases h with ⟨_, b, ps, h1, _⟩ | ⟨_, b, ps, us, vs, h1, _⟩
  · exact ⟨_, h1⟩
  · exact ⟨_, h1⟩
theorem same_rd {a : Addr} {u : HO} (e : Same G G') (h : Rd G a u) : Rd G' a u := by
  rcases h with h | ⟨o, h⟩
  · exact .inl (e _ _ h)
  · exact .inr ⟨o, e _ _ h⟩
mutual
theorem Rep.mono (e : Same G G') : ∀ {v : V} {d : D}, Rep c G v d → Rep c G' v d
  | _, _, .non => .non
  | _, _, .bl b => .bl b
  | _, _, .int i => .int i
  | _, _, .str x => .str x
  | _, _, .tup s r => .tup (s.mono e) (RepL.mono e r)
  | _, _, .lst s r => .lst (s.mono e) (RepL.mono e r)
  | _, _, .dic s l r => .dic (same_rd e s) l (RepL.mono e r)
  | _, _, .rcd s l r => .rcd (e _ _ s) l (RepL.mono e r)
  | _, _, .raw v => .raw v
  | _, _, .std h r k => .std (KdAt.mono e h) (RepL.mono e r) k
  | _, _, .err h1 h2 l r => .err (e _ _ h1) (e _ _ h2) l (RepL.mono e r)
theorem RepL.mono (e : Same G G') : ∀ {vs : List V} {ds : List D}, RepL c G vs ds → RepL c G' vs ds
  | _, _, .nil => .nil
  | _, _, .cons h t => .cons (Rep.mono e h) (RepL.mono e t)
end
theorem RepL.length : ∀ {vs : List V} {ds : List D}, RepL c G vs ds → vs.length = ds.length
  | _, _, .nil => rfl
  | _, _, .cons _ t => by rw [List.length_cons, List.length_cons, RepL.length t]
theorem RepL.get : ∀ {vs : List V} {ds : List D} {i : Nat} {d : D}, RepL c G vs ds → ds[i]? = some d → ∃ v, vs[i]? = some v ∧ Rep c G v d
  | _, _, _, _, .nil, e => by simp at e
  | _, _, 0, _, .cons r _, e => by simp at e; subst e; exact ⟨_, rfl, r⟩
  | _, _, i + 1, d, .cons _ t, e => by
    obtain ⟨u, h1, h2⟩ := RepL.get (i := i) (d := d) t (by simpa using e)
    exact ⟨u, by simpa using h1, h2⟩
theorem RepL.getV : ∀ {vs : List V} {ds : List D} {i : Nat} {v : V}, RepL c G vs ds → vs[i]? = some v → ∃ d, ds[i]? = some d ∧ Rep c G v d
  | _, _, _, _, .nil, e => by simp at e
  | _, _, 0, _, .cons r _, e => by simp at e; subst e; exact ⟨_, rfl, r⟩
  | _, _, i + 1, d, .cons _ t, e => by
    obtain ⟨u, h1, h2⟩ := RepL.getV (i := i) (v := d) t (by simpa using e)
    exact ⟨u, by simpa using h1, h2⟩
theorem RepL.append : ∀ {vs ws : List V} {ds es : List D}, RepL c G vs ds → RepL c G ws es → RepL c G (vs ++ ws) (ds ++ es)
  | _, _, _, _, .nil, s => s
  | _, _, _, _, .cons r t, s => .cons r (RepL.append t s)
theorem RepL.take : ∀ {vs : List V} {ds : List D} (n : Nat), RepL c G vs ds → RepL c G (vs.take n) (ds.take n)
  | _, _, 0, _ => .nil
  | _, _, _ + 1, .nil => .nil
  | _, _, n + 1, .cons r t => .cons r (RepL.take n t)
theorem RepL.drop : ∀ {vs : List V} {ds : List D} (n : Nat), RepL c G vs ds → RepL c G (vs.drop n) (ds.drop n)
  | _, _, 0, r => r
  | _, _, _ + 1, .nil => .nil
  | _, _, n + 1, .cons _ t => RepL.drop n t
theorem RepL.set {x : V} {d : D} (r : Rep c G x d) : ∀ {vs : List V} {ds : List D} (i : Nat), RepL c G vs ds → RepL c G (vs.set i x) (ds.set i d)
  | _, _, _, .nil => .nil
  | _, _, 0, .cons _ t => .cons r t
  | _, _, i + 1, .cons q t => .cons q (RepL.set r i t)
theorem RepL.one {v : V} {d : D} (r : Rep c G v d) : RepL c G [v] [d] := .cons r .nil

/-- a list (or dict) that the def may change: its content -/
def Own (c : Cf) (G : Hp) (o : Option HO) : D → Prop
  | .lst ds => ∃ xs, o = some (.lst xs) ∧ RepL c G xs ds
  | .dic ks ds => ∃ xs, o = some (.dK (ks.zip xs)) ∧ ks.length = xs.length ∧ RepL c G xs ds
  | .rcd ns ds => ∃ dx xs, o = some (.ins c.farm dx (ns.zip xs)) ∧ ns.length = xs.length ∧ RepL c G xs ds
  | .exc k ds => ∃ xs ks, KdAt c k o xs ks ∧ RepL c G xs ds ∧ nkL (keysOf k ds) = some ks
  | _ => False
theorem Own.mono {o : Option HO} {d : D} (e : Same G G') (h : Own c G o d) : Own c G' o d := by
  cases d <;> first | exact h.elim | skip
  · obtain ⟨xs, h1, h2⟩ := h; exact ⟨xs, h1, h2.mono e⟩
  · obtain ⟨xs, h1, h3, h2⟩ := h; exact ⟨xs, h1, h3, h2.mono e⟩
  · obtain ⟨dx, xs, h1, h3, h2⟩ := h; exact ⟨dx, xs, h1, h3, h2.mono e⟩
  · obtain ⟨xs, ks, h1, h2, h3⟩ := h; exact ⟨xs, ks, h1, h2.mono e, h3⟩
theorem Own.some {o : Option HO} {d : D} (h : Own c G o d) : ∃ u, o = some u := by
  cases d <;> first | exact h.elim | skip
  · obtain ⟨xs, h1, _⟩ := h; exact ⟨_, h1⟩
  · obtain ⟨xs, h1, _⟩ := h; exact ⟨_, h1⟩
  · obtain ⟨dx, xs, h1, _⟩ := h; exact ⟨_, h1⟩
  · obtain ⟨_, _, h1, _⟩ := h; obtain ⟨φ, h1⟩ := h1.anO; exact ⟨_, h1⟩
/-- frozen, what was owned is data -/
theorem Own.rep {a : Addr} {d : D} (h : Own c G (G' a) d) (e : Same G G') : Rep c G' (.ref a) d := by
  cases d <;> first | exact h.elim | skip
  · obtain ⟨xs, h1, h2⟩ := h; exact .lst (.inl (.inl h1)) (h2.mono e)
  · obtain ⟨xs, h1, h3, h2⟩ := h; exact .dic (.inl h1) h3 (h2.mono e)
  · obtain ⟨dx, xs, h1, h3, h2⟩ := h; exact .rcd h1 h3 (h2.mono e)
  · obtain ⟨xs, ks, h1, h2, h3⟩ := h; exact .std h1 (h2.mono e) h3

inductive Cell where
  | no | dat (d : D) | own (d : D)
abbrev Cells := List Cell
/-- an error: its class, its fields -/
structure Exc where
  c : Nat
  fs : List D
inductive Out (α : Type) where
  | stuck | ok (a : α) (ρ : Cells) | exc (x : Exc) (ρ : Cells)
abbrev M (α : Type) := Cells → Out α
def Out.andThen {α β : Type} (o : Out α) (k : α → M β) : Out β := match o with
  | .stuck => .stuck
  | .ok a ρ => k a ρ
  | .exc x ρ => .exc x ρ
def M.bind {α β : Type} (f : M α) (k : α → M β) : M β := fun ρ => (f ρ).andThen k
def M.pure {α : Type} (a : α) : M α := fun ρ => .ok a ρ
def M.stuck {α : Type} : M α := fun _ => .stuck
def M.lift {α : Type} (o : Option α) : M α := fun ρ => match o with
  | some a => .ok a ρ
  | none => .stuck
inductive OutS where
  | stuck | next (ρ : Cells) | ret (d : D) (ρ : Cells) | brk (ρ : Cells) | cont (ρ : Cells) | exc (x : Exc) (ρ : Cells)
abbrev MS := Cells → OutS

structure Rel (c : Cf) (B : List (Nat × Addr)) (G : Hp) (A : Addr → Prop) (H : Hp) (σ : L2.St) (ρ : Cells) : Prop where
  same : Same G H
  len : σ.length = ρ.length
  ownA : ∀ b, A b → G b = none ∧ ∃ o, H b = some o
  dat : ∀ (i : Nat) (d : D), ρ[i]? = some (.dat d) → ∃ v, σ[i]? = some (some v) ∧ Rep c G v d
  own : ∀ (i : Nat) (d : D), ρ[i]? = some (.own d) → ∃ p, σ[i]? = some (some (.ref p)) ∧ A p ∧ Own c G (H p) d
  dis : ∀ (i j : Nat) (d e : D) (p : Addr), i ≠ j → ρ[i]? = some (.own d) → ρ[j]? = some (.own e) → σ[i]? = some (some (.ref p)) → σ[j]? = some (some (.ref p)) → False
  byr : ∀ q ∈ B, σ[q.1]? = some (some (.ref q.2)) ∧ A q.2 ∧ ∃ d, ρ[q.1]? = some (.own d)
/-- the heap has grown by what is new -/
structure Ext (G H G' H' : Hp) : Prop where
  gg : Same G G'
  hh : Same H H'
  gh : Same G' H'
  new : ∀ b o, H b = some o → G' b = G b
theorem Ext.refl (h : Same G H) : Ext G H G H := ⟨Same.refl _, Same.refl _, h, fun _ _ _ => rfl⟩
theorem Ext.trans {G1 G2 H1 H2 : Hp} (a : Ext G H G1 H1) (b : Ext G1 H1 G2 H2) : Ext G H G2 H2 :=
  ⟨a.gg.trans b.gg, a.hh.trans b.hh, b.gh, fun x o h => (b.new x o (a.hh x o h)).trans (a.new x o h)⟩
theorem same_upd {p : Addr} {o : HO} (hp : H p = none) : Same H (upd H p o) := fun b u e => by
  rw [upd_ne (ne_of_none e hp)]; exact e
theorem Ext.upd {p : Addr} {o : HO} (h : Same G H) (hp : H p = none) : Ext G H (upd G p o) (upd H p o) :=
  ⟨same_upd (h.free hp), same_upd hp, fun b u e => by
    by_cases z : b = p
    · subst z; rw [upd_same] at e ⊢; exact e
    · rw [upd_ne z] at e ⊢; exact h b u e, fun b u e => upd_ne (ne_of_none e hp)⟩
theorem Ext.updH {p : Addr} {o : HO} (h : Same G H) (hp : H p = none) : Ext G H G (L2.upd H p o) :=
  ⟨Same.refl _, same_upd hp, h.trans (same_upd hp), fun b u e => rfl⟩
/-- what is not owned stands -/
def Keep (A : Addr → Prop) (G H G' H' : Hp) : Prop := ∀ b o, H b = some o → ¬ A b → H' b = some o ∧ G' b = G b
theorem Keep.refl {A : Addr → Prop} (G H : Hp) : Keep A G H G H := fun _ _ h _ => ⟨h, rfl⟩
theorem Keep.trans {A : Addr → Prop} {G1 G2 H1 H2 : Hp} (a : Keep A G H G1 H1) (b : Keep A G1 H1 G2 H2) : Keep A G H G2 H2 := fun x o h n => ⟨(b x o (a x o h n).1 n).1, (b x o (a x o h n).1 n).2.trans (a x o h n).2⟩
theorem Ext.keep {A : Addr → Prop} {H' : Hp} (e : Ext G H G' H') : Keep A G H G' H' := fun b o h _ => ⟨e.hh b o h, e.new b o h⟩
theorem Rel.ext {B : List (Nat × Addr)} {A : Addr → Prop} {H' : Hp} {σ : L2.St} {ρ : Cells} (R : Rel c B G A H σ ρ) (e : Ext G H G' H') : Rel c B G' A H' σ ρ where
  same := e.gh
  len := R.len
  ownA := fun b hb => by
    obtain ⟨h1, o, h2⟩ := R.ownA b hb
    exact ⟨(e.new b o h2).trans h1, o, e.hh b o h2⟩
  dat := fun i d h => by
    obtain ⟨v, h1, h2⟩ := R.dat i d h
    exact ⟨v, h1, h2.mono e.gg⟩
  own := fun i d h => by
    obtain ⟨p, h1, h2, h3⟩ := R.own i d h
    obtain ⟨u, hu⟩ := h3.some
    refine ⟨p, h1, h2, ?_⟩
    rw [e.hh p u hu, ← hu]
    exact h3.mono e.gg
  dis := R.dis
  byr := R.byr

/-- how an error lies: its own dict at dd -/
def ExcAt (c : Cf) (G : Hp) (x : Exc) (dd : Addr) : Prop := ∃ vs, G dd = some (.xd ((c.flds x.c).zip vs)) ∧ RepL c G vs x.fs
theorem ExcAt.mono {x : Exc} {dd : Addr} (e : Same G G') (h : ExcAt c G x dd) : ExcAt c G' x dd := by
  obtain ⟨vs, h1, h2⟩ := h
  exact ⟨vs, e _ _ h1, h2.mono e⟩

def After {α : Type} (c : Cf) (B : List (Nat × Addr)) (W : WX) (G : Hp) (A : Addr → Prop) (H : Hp) (σ : L2.St) (o : Out α) (Q : α → Cells → Hp → Hp → Prop) : Prop := match o with
  | .stuck => False
  | .ok a ρ' => ∀ G' H', Same G G' → Keep A G H G' H' → Rel c B G' A H' σ ρ' → Q a ρ' G' H'
  | .exc x ρ' => ∀ G' H' dd, Same G G' → Keep A G H G' H' → Rel c B G' A H' σ ρ' → ExcAt c G' x dd → W (.ref (c.exc x.c)) (some dd) σ H'
variable {B : List (Nat × Addr)} {W : WX} {A : Addr → Prop} {σ : L2.St} {ρ : Cells}
theorem After.imp {α : Type} {o : Out α} {Q Q' : α → Cells → Hp → Hp → Prop} (h : After c B W G A H σ o Q) (k : ∀ a ρ' G' H', Same G G' → Keep A G H G' H' → Rel c B G' A H' σ ρ' → Q a ρ' G' H' → Q' a ρ' G' H') : After c B W G A H σ o Q' := by
  cases o with
  | stuck => exact h
  | ok a ρ' => exact fun G' H' s kk R => k a ρ' G' H' s kk R (h G' H' s kk R)
  | exc x ρ' => exact h
theorem After.of {α : Type} {o : Out α} {Q : α → Cells → Hp → Hp → Prop} {G' H' : Hp} (s : Same G G') (k : Keep A G H G' H') (h : After c B W G A H σ o Q) : After c B W G' A H' σ o Q := by
  cases o with
  | stuck => exact h
  | ok a ρ' => exact fun G2 H2 s2 k2 R => h G2 H2 (s.trans s2) (k.trans k2) R
  | exc x ρ' => exact fun G2 H2 dd s2 k2 R => h G2 H2 dd (s.trans s2) (k.trans k2) R
theorem After.split {α β : Type} {f : M α} {k : α → M β} {Q : β → Cells → Hp → Hp → Prop} (h : After c B W G A H σ ((f.bind k) ρ) Q) :
    After c B W G A H σ (f ρ) fun a ρ' G' H' => After c B W G' A H' σ (k a ρ') Q := by
  unfold M.bind at h
  cases e : f ρ with
  | stuck => rw [e] at h; exact h
  | ok a ρ' =>
    rw [e] at h
    exact fun G' H' s kk R => After.of s kk h
  | exc x ρ' => rw [e] at h; exact h
theorem After.ok {α : Type} {a : α} {Q : α → Cells → Hp → Hp → Prop} (h : After c B W G A H σ (.ok a ρ) Q) (R : Rel c B G A H σ ρ) : Q a ρ G H := h G H (Same.refl _) (Keep.refl _ _) R
end

/-- an operand: evaluated to data, or a slot that owns its content (read when the operation is done) -/
inductive Opn where
  | dat (f : M D) | own (i : Nat)
def cellD : Option Cell → Option D
  | some (.dat d) => some d
  | some (.own d) => some d
  | _ => none
def Opn.pre : Opn → M D
  | .dat f => f
  | .own i => fun ρ => match cellD ρ[i]? with
    | some _ => .ok .non ρ
    | none => .stuck
def Opn.rd : Opn → D → Cells → Option D
  | .dat _, d, _ => some d
  | .own i, _, ρ => cellD ρ[i]?
def rdM (o : Opn) (d : D) : M D := fun ρ => match o.rd d ρ with
  | some e => .ok e ρ
  | none => .stuck
/-- a value that stands for d, frozen or owned -/
def Opr (c : Cf) (G H : Hp) (v : V) (d : D) : Prop := Rep c G v d ∨ ∃ p, v = .ref p ∧ Own c G (H p) d

def tM (c : Cf) (B : List (Nat × Addr)) (W : WX) (f : M D) : TE := fun σ H Q => ∃ G A ρ, Rel c B G A H σ ρ ∧ After c B W G A H σ (f ρ) fun d _ G' H' => ∀ v, Rep c G' v d → Q v H'
def tO (c : Cf) (B : List (Nat × Addr)) (W : WX) (o : Opn) : TE := fun σ H Q => ∃ G A ρ, Rel c B G A H σ ρ ∧ After c B W G A H σ (o.pre ρ) fun d _ G' H' => ∀ v,
  (∀ G2 H2 ρ2 d2, Same G' G2 → Rel c B G2 A H2 σ ρ2 → o.rd d ρ2 = some d2 → Opr c G2 H2 v d2) → Q v H'
/-- a new list or dict, not yet frozen -/
def tF (c : Cf) (B : List (Nat × Addr)) (W : WX) (f : M D) : TE := fun σ H Q => ∃ G A ρ, Rel c B G A H σ ρ ∧ After c B W G A H σ (f ρ) fun d _ G' H' => ∀ p H2, H' p = none → Same H' H2 → Own c G' (H2 p) d → Q (.ref p) H2
def tT (c : Cf) (B : List (Nat × Addr)) (W : WX) (f : M Bool) : TT := fun σ H Q => ∃ G A ρ, Rel c B G A H σ ρ ∧ After c B W G A H σ (f ρ) fun b _ _ H' => Q b H'

theorem pe_imp {X : Cx} {e : Expr} {t t' : TE} (h : PE X e t) (k : ∀ σ H Q, t' σ H Q → t σ H Q) : PE X e t' := ⟨fun pins s σ H Q I q => h.run pins s σ H Q I (k σ H Q q)⟩
theorem pt_imp {X : Cx} {e : Expr} {t t' : TT} (h : PT X e t) (k : ∀ σ H Q, t' σ H Q → t σ H Q) : PT X e t' := ⟨fun pins s σ H Q I q => h.run pins s σ H Q I (k σ H Q q)⟩
theorem pa_imp {X : Cx} {e : List Expr} {t t' : TA} (h : PA X e t) (k : ∀ σ H Q, t' σ H Q → t σ H Q) : PA X e t' := ⟨fun pos pins s σ H Q I q => h.run pos pins s σ H Q I (k σ H Q q)⟩
theorem ps_imp {X : Cx} {e : Stmt} {t t' : TS} (h : PS X e t) (k : ∀ D σ H, t' D σ H → t D σ H) : PS X e t' := ⟨fun pins s σ H D I q => h.run pins s σ H D I (k D σ H q)⟩
theorem pss_imp {X : Cx} {e : List Stmt} {t t' : TS} (h : PSs X e t) (k : ∀ D σ H, t' D σ H → t D σ H) : PSs X e t' := ⟨fun pins s σ H D I q => h.run pins s σ H D I (k D σ H q)⟩
theorem pg_imp {X : Cx} {e : Expr} {t t' : TG} (h : PG X e t) (k : ∀ v σ H Q, t' v σ H Q → t v σ H Q) : PG X e t' := ⟨fun pins s σ H v u Q I r q => h.run pins s σ H v u Q I r (k v σ H Q q)⟩
theorem pi_imp {X : Cx} {tg e : Expr} {t t' : TI} (h : PI X tg e t) (k : ∀ σ H Q, t' σ H Q → t σ H Q) : PI X tg e t' := ⟨fun pins s σ H Q I q => h.run pins s σ H Q I (k σ H Q q)⟩

section
variable {c : Cf} {B : List (Nat × Addr)} {W : WX} {X : Cx}
theorem Opr.mono {G G' H : Hp} {v : V} {d : D} (e : Same G G') (h : Opr c G H v d) : Opr c G' H v d := by
  rcases h with h | ⟨p, h1, h2⟩
  · exact .inl (h.mono e)
  · exact .inr ⟨p, h1, h2.mono e⟩
/-- data as an operand -/
theorem po_dat {e : Expr} {f : M D} (h : PE X e (tM c B W f)) : PE X e (tO c B W (.dat f)) := pe_imp h fun σ H Q ⟨G, A, ρ, R, a⟩ =>
  ⟨G, A, ρ, R, a.imp fun d ρ' G' H' _ _ _ q v r => q v fun G2 H2 ρ2 d2 s2 _ e2 => by cases e2; exact .inl (r.mono s2)⟩
theorem Rel.cell {G H : Hp} {A : Addr → Prop} {σ : L2.St} {ρ : Cells} {i : Nat} {d : D} (R : Rel c B G A H σ ρ) (e : cellD ρ[i]? = some d) : ∃ v, σ[i]? = some (some v) ∧ Opr c G H v d := by
  cases q : ρ[i]? with
  | none => rw [q] at e; cases e
  | some cl =>
    rw [q] at e
    cases cl with
    | no => cases e
    | dat d' =>
      cases e
      obtain ⟨w, h1, h2⟩ := R.dat i _ q
      exact ⟨w, h1, .inl h2⟩
    | own d' =>
      cases e
      obtain ⟨p, h1, _, h3⟩ := R.own i _ q
      exact ⟨_, h1, .inr ⟨p, rfl, h3⟩⟩
/-- a slot that owns, as an operand -/
theorem po_own (i : Nat) {x : Str} {pos : Pos} (hN : X.N[i]? = some x := by rfl) (hv : Vis X.env.scope x := by first | exact Or.inl rfl | exact Or.inr (Or.inl rfl) | exact Or.inr (Or.inr rfl)) (hd : (x == ("__debug__" : Str)) = false := by decide)
    (hcd : (x == ("__classdict__" : Str)) = false := by decide) : PE X (.Name x pos) (tO c B W (.own i)) := pe_imp (pe_var hN hv hd hcd) fun σ H Q ⟨G, A, ρ, R, a⟩ => by
  have a' : After c B W G A H σ (match cellD ρ[i]? with | some _ => Out.ok D.non ρ | none => Out.stuck) _ := a
  cases e : cellD ρ[i]? with
  | none => rw [e] at a'; exact a'.elim
  | some d =>
    rw [e] at a'
    obtain ⟨v, hv, _⟩ := R.cell e
    refine ⟨v, hv, After.ok a' R v fun G2 H2 ρ2 d2 _ R2 e2 => ?_⟩
    obtain ⟨w, h1, h2⟩ := R2.cell (i := i) (d := d2) e2
    rw [hv] at h1; cases h1
    exact h2
end
end Fx
set_option Elab.async false
set_option linter.all false
set_option maxRecDepth 100000
set_option maxHeartbeats 4000000
namespace Fx
open PySem PySem.Spec PyProof.Rows L2
def tob (its : List Value) : Obj := { cls := .type "tuple", data := .seq its.toArray }
section
variable {X : Cx} {pins : List (Addr × Obj)} {σ : L2.St} {H : Hp} {s : Shared}
theorem tnew {ys : List V} {its : List Value} {t' : Nat} (I : Inv X pins σ H s) (hv : Vals ys its) (hz : ys.length ≤ sizeLine) :
    Inv X pins σ (upd H s.heap.objs.size (.frz (tob its) (.tup ys))) { s with heap := s.heap.push (tob its), toks := t' } :=
  I.laid (fun _ _ q => Heap.get?_push_of_some _ q) (Nat.le_refl _) ⟨Heap.get?_push_size _ rfl, hz, its, hv, IsTup.new _ _⟩
theorem fresh (I : Inv X pins σ H s) : H s.heap.objs.size = none := I.hok.fresh (Nat.le_refl _)
end
/-- a new tuple of xs -/
def TN (H : Hp) (xs : List V) (Q : VK) : Prop := ∀ p its, H p = none → Q (.ref p) (upd H p (.frz (tob its) (.tup xs)))
section
variable {X : Cx} {e : Expr} {es : List Expr} {te : TE} {t : TA} {pos : Pos}
def tTupN (t : TA) : TE := fun σ H Q => t σ H fun xs H1 => xs.length ≤ sizeLine ∧ TN H1 xs Q
theorem pe_tupN {x1} (h : PA X es t) : PE X (.Tuple es x1 pos) (tTupN t) := by
  refine ⟨fun pins s σ H Q I hq => ?_⟩
  refine wpAny_Tuple_spliced (thn (h.run pos pins s σ H _ I hq) fun us s1 ⟨xs, H1, I1, r, z, q⟩ => ⟨by rw [← r.length]; exact z, ?_⟩)
  exact ⟨.ref s1.heap.objs.size, _, tnew (t' := s1.toks) I1 r z, rfl, q _ us (fresh I1)⟩
def rCatN (K : PySem.W.Frag) : R2 := fun x y H Q => ∃ a b xs ys, x = .ref a ∧ y = .ref b ∧ SqT K H a xs ∧ SqT K H b ys ∧ xs.length + ys.length ≤ sizeLine ∧
  (xs = [] → Q (.ref b) H) ∧ (xs ≠ [] → ys = [] → Q (.ref a) H) ∧ (xs ≠ [] → ys ≠ [] → TN H (xs ++ ys) Q)
theorem op_catN : OpR X (binaryOp .Add) (rCatN X.K) := by
  intro pins s σ H x y v u Q I rx ry h
  obtain ⟨a, b, xs, ys, rfl, rfl, ha, hb, hz, q0, q1, q2⟩ := h
  cases rx
  cases ry
  obtain ⟨its, r1, p1, _⟩ := I.tuple ha
  obtain ⟨its2, r2, p2, _⟩ := I.tuple hb
  by_cases hx : xs = []
  · subst hx
    cases r1
    exact cat_tup0 p1 p2 ⟨.ref b, H, I, rfl, q0 rfl⟩
  · refine HT.cat_tup p1 p2 (fun z => hx (r1.nil_iff.mp z)) (fun z => ⟨.ref a, H, I, rfl, q1 hx (r2.nil_iff.mp z)⟩) (fun z => ?_) (by rw [← r1.length, ← r2.length]; exact hz)
    have I2 := tnew (t' := s.toks) I (r1.append r2) (by rw [List.length_append]; exact hz)
    exact ⟨.ref s.heap.objs.size, _, I2, rfl, q2 hx (fun w => z (r2.nil_iff.mpr w)) _ _ (fresh I)⟩
def rSlN (K : PySem.W.Frag) : V → Option Int → Option Int → Hp → VK → Prop := fun x lo hi H Q => ∃ a xs, x = .ref a ∧ SqT K H a xs ∧
  (HT.sIx xs.length 0 lo = 0 ∧ HT.sIx xs.length xs.length hi = xs.length → Q (.ref a) H) ∧ (¬ (HT.sIx xs.length 0 lo = 0 ∧ HT.sIx xs.length xs.length hi = xs.length) → TN H (cutV xs lo hi) Q)
theorem sl_tupN : SlR X (rSlN X.K) := by
  intro pins s σ H x v vl vu lo hi sl Q I rx hs pl pu h
  obtain ⟨a, xs, rfl, hx, q1, q2⟩ := h
  cases rx
  obtain ⟨its, r, ht, hz⟩ := I.tuple hx
  have hlen : its.toArray.size = xs.length := by rw [List.size_toArray]; exact r.length.symm
  refine ⟨"tuple", _, PyProof.Rows.slot_tuple_getitem.lookup, ht.typeIs, ?_⟩
  by_cases hw : HT.sIx xs.length 0 lo = 0 ∧ HT.sIx xs.length xs.length hi = xs.length
  · exact getItem_tuple_whole ht hs pl pu (by rw [hlen]; exact hw) ⟨.ref a, H, I, rfl, q1 hw⟩
  · refine HT.getItem_tuple_cut ht hs pl pu (by rw [hlen]; exact hw) ?_ (by rw [hlen]; exact hz)
    rw [hlen]
    have I2 := tnew (t' := s.toks) I ((r.drop (HT.sIx xs.length 0 lo)).take (HT.sIx xs.length xs.length hi - HT.sIx xs.length 0 lo)) (Nat.le_trans (cutV_length xs lo hi) hz)
    exact ⟨.ref s.heap.objs.size, _, I2, rfl, q2 hw _ _ (fresh I)⟩
theorem LsG.ok {pins : List (Addr × Obj)} {σ : L2.St} {H : Hp} {s : Shared} {a : Addr} {xs : List V} (I : Inv X pins σ H s) (h : Fx.LsG X.K H a xs) : xs.length ≤ sizeLine ∧ ∃ (its : List Value) (n : Nat), Vals xs its ∧ s.heap.get? a = some { cls := .type "list", data := .seq its.toArray n } := by
  rcases h with h | ⟨its, n, h1, h2, h3⟩
  · obtain ⟨z, its, n, r, e⟩ := h.ok I.hok
    exact ⟨z, its, n, r, e⟩
  · exact ⟨by rw [h3.length]; exact h2, its, n, h3, I.kIn _ _ h1⟩
/-- list + list, each tracked or frozen -/
def rCatR (K : PySem.W.Frag) : R2 := fun x y H Q => ∃ l b xs zs, x = .ref l ∧ y = .ref b ∧ LsG K H l xs ∧ LsG K H b zs ∧ xs.length + zs.length ≤ sizeLine ∧ ∀ p, H p = none → Q (.ref p) (upd H p (.lst (xs ++ zs)))
theorem op_catR : OpR X (binaryOp .Add) (rCatR X.K) := by
  intro pins s σ H x y v u Q I rx ry h
  obtain ⟨l, b, xs, zs, rfl, rfl, hH, hB, hz, q⟩ := h
  cases rx
  cases ry
  obtain ⟨z, its, n, r, e⟩ := LsG.ok I hH
  obtain ⟨z2, its2, n2, r2, e2⟩ := LsG.ok I hB
  have hl := r.length
  have hl2 := r2.length
  refine PySem.P.add_list e e2 ?_ (by rw [List.size_toArray, List.size_toArray]; omega)
  have ea : its.toArray ++ its2.toArray = (its ++ its2).toArray := by simp
  rw [ea]
  exact ⟨.ref _, _, I.lnew (t' := s.toks) (r.append r2) (by rw [List.length_append]; omega), rfl, q _ I.fresh⟩
/-- list * int, tracked or frozen -/
def rRepR (K : PySem.W.Frag) : R2 := fun x y H Q => ∃ l k xs, x = .ref l ∧ y = .int k ∧ LsG K H l xs ∧ -(2 ^ 63) ≤ k ∧ k < 2 ^ 63 ∧ xs.length * k.toNat ≤ sizeLine ∧
  ∀ p, H p = none → Q (.ref p) (upd H p (.lst (List.replicate k.toNat xs).flatten))
theorem op_repR : OpR X (binaryOp .Mult) (rRepR X.K) := by
  intro pins s σ H x y v u Q I rx ry h
  obtain ⟨l, k, xs, rfl, rfl, hH, h1, h2, hz, q⟩ := h
  cases rx
  obtain ⟨t, rfl⟩ := ry
  obtain ⟨z, its, n, r, e⟩ := LsG.ok I hH
  have hl := r.length
  have hlen : its.toArray.size * k.toNat ≤ sizeLine := by rw [List.size_toArray, ← hl]; exact hz
  have hcap : ¬ its.toArray.size * k.toNat > (2 ^ 63 - 1) / 8 := by
    have : (sizeLine : Nat) ≤ (2 ^ 63 - 1) / 8 := by decide
    omega
  have hfit : ¬ (!Builtin.List.listFitsIndex k) = true := by
    rw [fitsIndex_both h1 h2]
    exact Bool.false_ne_true
  have hlong : ¬ Builtin.List.listTooLong (its.toArray.size * k.toNat) = true := by
    rw [notLongL hlen]
    exact Bool.false_ne_true
  have hnew : List.foldl (fun x1 x2 => x1 ++ x2) #[] (List.replicate (if its.toArray.isEmpty = true then 0 else k.toNat) its.toArray) = (List.replicate k.toNat its).flatten.toArray := by
    have f0 : ∀ m : Nat, List.foldl (fun x1 x2 => x1 ++ x2) #[] (List.replicate m its.toArray) = (List.replicate m its).flatten.toArray := fun m => by
      have := foldl_rep its m []
      rw [List.nil_append] at this
      exact this
    rw [f0]
    cases its with
    | nil => simp
    | cons a r' => rw [if_neg (by simp)]
  refine wpAny_binaryOp_repeat_ref (T := "list") (U := "int") (by decide) ⟨_, e, rfl⟩ (fun s' => typeIs_int s' k t) noFill_list_mul PySem.F.fills_int_mul PySem.F.slot_int_rmul repeat_list PySem.F.slot_int_index.lookup
    (call_meets PySem.F.slot_int_rmul (typeIs_int s k t) PySem.F.entry_int_rmul (PySem.F.args_int_rmul_2 _ _) (int___rmul___int_list k t l its.toArray n)
      ⟨e, rfl, ⟨_, e, rfl⟩, call_meets PySem.F.slot_list_mul ⟨_, e, rfl⟩ PySem.F.entry_list_mul (PySem.F.args_list_mul_2 _ _) (AutoListH.list___mul___list_int_3 l its.toArray n k t hfit hcap hlong) ⟨e, ?_⟩⟩)
  rw [hnew]
  exact ⟨.ref _, _, I.lnew (t' := s.toks) (r.rep k.toNat) (by rw [PyProof.Rows.lm_len_rep_flat, Nat.mul_comm]; exact hz), rfl, q _ I.fresh⟩
end
end Fx
set_option Elab.async false
set_option linter.all false
set_option maxRecDepth 100000
set_option maxHeartbeats 4000000
namespace Fx
open PySem L2
section
variable {c : Cf} {B : List (Nat × Addr)} {W : WX} {X : Cx}

def K1 (c : Cf) (G H : Hp) (d : D) (Q : VK) : Prop := ∀ G' H' v, Ext G H G' H' → Rep c G' v d → Q v H'
def K2 (c : Cf) (G H : Hp) (d : D) (Q : VK) : Prop := ∀ p H', H p = none → Same H H' → Own c G (H' p) d → Q (.ref p) H'
theorem ext_own {G H H' : Hp} {p : Addr} {d : D} (s : Same G H) (hp : H p = none) (hh : Same H H') (o : Own c G (H' p) d) : ∃ G', Ext G H G' H' ∧ Rep c G' (.ref p) d := by
  obtain ⟨u, hu⟩ := o.some
  have gp : G p = none := s.free hp
  have e : Ext G H (upd G p u) H' := ⟨same_upd gp, hh, fun b w q => by
    by_cases z : b = p
    · subst z; rw [upd_same] at q; rw [hu]; exact q
    · rw [upd_ne z] at q; exact hh b w (s b w q), fun b w q => upd_ne (ne_of_none q hp)⟩
  refine ⟨_, e, ?_⟩
  have o' : Own c G ((upd G p u) p) d := by rw [upd_same, ← hu]; exact o
  exact o'.rep e.gg
theorem K1.to2 {G H : Hp} {d : D} {Q : VK} (s : Same G H) (k : K1 c G H d Q) : K2 c G H d Q := fun p H' hp hh o => by
  obtain ⟨G', e, r⟩ := ext_own s hp hh o
  exact k G' H' _ e r
theorem K1.flat {G H : Hp} {d : D} {Q : VK} (s : Same G H) (k : K1 c G H d Q) {v : V} (r : Rep c G v d) : Q v H := k G H v (Ext.refl s) r
theorem K1.new {G H : Hp} {d : D} {Q : VK} (s : Same G H) (k : K1 c G H d Q) {p : Addr} {o : HO} (hp : H p = none) (r : Rep c (upd G p o) (.ref p) d) : Q (.ref p) (upd H p o) := k _ _ _ (Ext.upd s hp) r
theorem K1.tup {G H : Hp} {ds : List D} {Q : VK} (s : Same G H) (k : K1 c G H (.tup ds) Q) {p : Addr} {its : List Value} {xs : List V} (hp : H p = none) (r : RepL c G xs ds) : Q (.ref p) (upd H p (.frz (tob its) (.tup xs))) :=
  k.new s hp (.tup (.inl ⟨_, upd_same, rfl⟩) (r.mono (same_upd (s.free hp))))
theorem K2.lst {G H : Hp} {ds : List D} {Q : VK} (k : K2 c G H (.lst ds) Q) {p : Addr} {xs : List V} (hp : H p = none) (r : RepL c G xs ds) : Q (.ref p) (upd H p (.lst xs)) :=
  k p _ hp (same_upd hp) ⟨xs, upd_same, r⟩

/-- what r asks follows from the operation's function on data -/
def Sem2 (c : Cf) (r : R2) (sem : D → D → Option D) : Prop := ∀ (G H : Hp) (x y : V) (d1 d2 d : D) (Q : VK), Same G H → Opr c G H x d1 → Opr c G H y d2 → sem d1 d2 = some d → K1 c G H d Q → r x y H Q
def Sem2F (c : Cf) (r : R2) (sem : D → D → Option D) : Prop := ∀ (G H : Hp) (x y : V) (d1 d2 d : D) (Q : VK), Same G H → Opr c G H x d1 → Opr c G H y d2 → sem d1 d2 = some d → K2 c G H d Q → r x y H Q
theorem Sem2F.plain {r : R2} {sem : D → D → Option D} (h : Sem2F c r sem) : Sem2 c r sem := fun G H x y d1 d2 d Q s a b e k => h G H x y d1 d2 d Q s a b e (k.to2 s)
/-- the meaning of an operation with two operands -/
def mOp2 (sem : D → D → Option D) (oa ob : Opn) : M D := oa.pre.bind fun a => ob.pre.bind fun b => (rdM oa a).bind fun d1 => (rdM ob b).bind fun d2 => M.lift (sem d1 d2)

theorem After.lift {α : Type} {G H : Hp} {A : Addr → Prop} {σ : L2.St} {ρ : Cells} {o : Option α} {Q : α → Cells → Hp → Hp → Prop} (h : After c B W G A H σ (M.lift o ρ) Q) (R : Rel c B G A H σ ρ) : ∃ d, o = some d ∧ Q d ρ G H := by
  cases o with
  | none => exact h.elim
  | some d => exact ⟨d, rfl, After.ok h R⟩
theorem After.rd {α : Type} {G H : Hp} {A : Addr → Prop} {σ : L2.St} {ρ : Cells} {o : Opn} {a : D} {k : D → M α} {Q : α → Cells → Hp → Hp → Prop} (h : After c B W G A H σ (((rdM o a).bind k) ρ) Q) : ∃ d, o.rd a ρ = some d ∧ After c B W G A H σ (k d ρ) Q := by
  unfold M.bind rdM at h
  cases e : o.rd a ρ with
  | none => rw [e] at h; exact h.elim
  | some d => rw [e] at h; exact ⟨d, rfl, h⟩
/-- the heart of a two-operand rule -/
theorem op2_core {r : R2} {sem : D → D → Option D} {oa ob : Opn} {σ : L2.St} {H : Hp} {Q : VK} {Qd : D → Hp → Hp → Prop} {A : Addr → Prop} {G : Hp} {ρ : Cells} (R : Rel c B G A H σ ρ) (a : After c B W G A H σ (mOp2 sem oa ob ρ) fun d _ G' H' => Qd d G' H')
    (k : ∀ G' H' x y d1 d2 d, Same G' H' → Opr c G' H' x d1 → Opr c G' H' y d2 → sem d1 d2 = some d → Qd d G' H' → r x y H' Q) : tOp r (tO c B W oa) (tO c B W ob) σ H Q := by
  refine ⟨G, A, ρ, R, a.split.imp fun da ρ1 G1 H1 _ _ R1 a1 x fx => ?_⟩
  refine ⟨G1, A, ρ1, R1, a1.split.imp fun db ρ2 G2 H2 s2 _ R2 a2 y fy => ?_⟩
  obtain ⟨d1, e1, a2⟩ := a2.rd
  obtain ⟨d2, e2, a2⟩ := a2.rd
  obtain ⟨d, e, q⟩ := a2.lift R2
  exact k G2 H2 x y d1 d2 d R2.same (fx G2 H2 ρ2 d1 s2 R2 e1) (fy G2 H2 ρ2 d2 (Same.refl _) R2 e2) e q
theorem After.k1 {G H : Hp} {A : Addr → Prop} {σ : L2.St} {ρ : Cells} {f : M D} {Q : VK} (a : After c B W G A H σ (f ρ) fun d _ G' H' => ∀ v, Rep c G' v d → Q v H') : After c B W G A H σ (f ρ) fun d _ G' H' => K1 c G' H' d Q := by
  cases e : f ρ with
  | stuck => rw [e] at a; exact a
  | exc x ρ' => rw [e] at a; exact a
  | ok d ρ' =>
    rw [e] at a
    intro G' H' s k R G2 H2 v x r
    exact a G2 H2 (s.trans x.gg) (k.trans x.keep) (R.ext x) v r
theorem After.k2 {G H : Hp} {A : Addr → Prop} {σ : L2.St} {ρ : Cells} {f : M D} {Q : VK} (a : After c B W G A H σ (f ρ) fun d _ G' H' => ∀ p H2, H' p = none → Same H' H2 → Own c G' (H2 p) d → Q (.ref p) H2) : After c B W G A H σ (f ρ) fun d _ G' H' => K2 c G' H' d Q := a
theorem pm_op {e : Expr} {r : R2} {sem : D → D → Option D} {oa ob : Opn} (hs : Sem2 c r sem) (h : PE X e (tOp r (tO c B W oa) (tO c B W ob))) : PE X e (tM c B W (mOp2 sem oa ob)) :=
  pe_imp h fun σ H Q ⟨G, A, ρ, R, a⟩ => op2_core R a.k1 fun G' H' x y d1 d2 d s o1 o2 e q => hs G' H' x y d1 d2 d Q s o1 o2 e q
theorem pf_op {e : Expr} {r : R2} {sem : D → D → Option D} {oa ob : Opn} (hs : Sem2F c r sem) (h : PE X e (tOp r (tO c B W oa) (tO c B W ob))) : PE X e (tF c B W (mOp2 sem oa ob)) :=
  pe_imp h fun σ H Q ⟨G, A, ρ, R, a⟩ => op2_core R a.k2 fun G' H' x y d1 d2 d s o1 o2 e q => hs G' H' x y d1 d2 d Q s o1 o2 e q
/-- what is new may be frozen -/
theorem pm_of_pf {e : Expr} {f : M D} (h : PE X e (tF c B W f)) : PE X e (tM c B W f) := pe_imp h fun σ H Q ⟨G, A, ρ, R, a⟩ => ⟨G, A, ρ, R, a.k1.imp fun d ρ' G' H' _ _ R' k => k.to2 R'.same⟩

def mVar (i : Nat) : M D := fun ρ => match ρ[i]? with
  | some (.dat d) => .ok d ρ
  | _ => .stuck
theorem pm_var (i : Nat) {x : Str} {pos : Pos} (hN : X.N[i]? = some x := by rfl) (hv : Vis X.env.scope x := by first | exact Or.inl rfl | exact Or.inr (Or.inl rfl) | exact Or.inr (Or.inr rfl)) (hd : (x == ("__debug__" : Str)) = false := by decide)
    (hcd : (x == ("__classdict__" : Str)) = false := by decide) : PE X (.Name x pos) (tM c B W (mVar i)) := pe_imp (pe_var hN hv hd hcd) fun σ H Q ⟨G, A, ρ, R, a⟩ => by
  unfold mVar at a
  cases q : ρ[i]? with
  | none => rw [q] at a; exact a.elim
  | some cl =>
    rw [q] at a
    cases cl with
    | no => exact a.elim
    | own d => exact a.elim
    | dat d =>
      obtain ⟨v, h1, h2⟩ := R.dat i d q
      exact ⟨v, h1, After.ok a R v h2⟩
theorem pm_c {e : Expr} {v : V} {d : D} (h : PE X e (tC v)) (r : ∀ G, Rep c G v d) : PE X e (tM c B W (M.pure d)) := pe_imp h fun σ H Q ⟨G, A, ρ, R, a⟩ => After.ok a R v (r G)
theorem pm_int {i j pos} : PE X (.Constant (.int i) j pos) (tM c B W (M.pure (.int i))) := pm_c pe_int fun _ => .int i
theorem pm_bl {i j pos} : PE X (.Constant (.bool i) j pos) (tM c B W (M.pure (.bl i))) := pm_c pe_bl fun _ => .bl i
theorem pm_non {j pos} : PE X (.Constant .none j pos) (tM c B W (M.pure .non)) := pm_c pe_non fun _ => .non
theorem pm_str {x j pos} : PE X (.Constant (.str x) j pos) (tM c B W (M.pure (.str x))) := pm_c pe_str fun _ => .str x
def mB (f : M D) : M Bool := f.bind fun d => match d with
  | .bl b => M.pure b
  | _ => M.stuck
theorem mB_core {G H : Hp} {A : Addr → Prop} {σ : L2.St} {ρ : Cells} {f : M D} {Q : Bool → Cells → Hp → Hp → Prop} (R : Rel c B G A H σ ρ) (a : After c B W G A H σ (mB f ρ) Q) : After c B W G A H σ (f ρ) fun d ρ' G' H' => ∃ b, d = .bl b ∧ Q b ρ' G' H' :=
  a.split.imp fun d ρ' G' H' _ _ R' q => by
    cases d <;> first | exact q.elim | skip
    exact ⟨_, rfl, After.ok q R'⟩
theorem rep_bl {G : Hp} {v : V} {b : Bool} (r : Rep c G v (.bl b)) : v = .bl b := by cases r; rfl
theorem rep_int {G : Hp} {v : V} {b : Int} (r : Rep c G v (.int b)) : v = .int b := by cases r; rfl
theorem tB_core {σ : L2.St} {H : Hp} {f : M D} {Q : Bool → Hp → Prop} (h : tT c B W (mB f) σ H Q) : tM c B W f σ H fun x H1 => ∃ b, x = .bl b ∧ Q b H1 := by
  obtain ⟨G, A, ρ, R, a⟩ := h
  refine ⟨G, A, ρ, R, (mB_core R a).imp fun d ρ' G' H' _ _ _ ⟨b, e, q⟩ v r => ?_⟩
  subst e
  exact ⟨b, rep_bl r, q⟩
/-- a value as a test -/
theorem pt_v {e : Expr} {f : M D} (h : PE X e (tM c B W f)) (he : ∀ whole, isTrue e X.env whole = (do let v ← whole; standAt e.pos; holding [v] (truthy v)) := by intro _; rfl) : PT X e (tT c B W (mB f)) :=
  pt_imp (pt_val h he) fun σ H Q h => tB_core h
/-- a comparison as a test -/
theorem pt_op {e : Expr} {r : R2} {sem : D → D → Option D} {oa ob : Opn} (hs : Sem2 c r sem) (h : PT X e (tTest (tOp r (tO c B W oa) (tO c B W ob)))) : PT X e (tT c B W (mB (mOp2 sem oa ob))) :=
  pt_imp h fun σ H Q h => by
    obtain ⟨G, A, ρ, R, a⟩ := tB_core h
    exact op2_core R a.k1 fun G' H' x y d1 d2 d s o1 o2 e q => hs G' H' x y d1 d2 d _ s o1 o2 e q
def mAnd (f g : M Bool) : M Bool := f.bind fun b => if b = true then g else M.pure false
def mOr (f g : M Bool) : M Bool := f.bind fun b => if b = true then M.pure true else g
def mNot (f : M Bool) : M Bool := f.bind fun b => M.pure (!b)
def mIf {α : Type} (b : M Bool) (f g : M α) : M α := b.bind fun b => if b = true then f else g
theorem ite_prop {b : Bool} {P Q : Prop} (h1 : b = true → P) (h2 : b = false → Q) : if b = true then P else Q := by
  cases b with
  | true => rw [if_pos rfl]; exact h1 rfl
  | false => rw [if_neg Bool.false_ne_true]; exact h2 rfl
theorem pw_and1' {op} {a : Expr} {f : M Bool} (h : PT X a (tT c B W f)) : PW X (.BoolOp op [a] pos) (tT c B W f) := by
  first
    | exact pw_and1 h
    | exact pw_or1 h
    | (cases op <;> first | exact pw_and1 h | exact pw_or1 h)
theorem pw_orM {a b : Expr} {rest : List Expr} {pos : Pos} {f g : M Bool} (ha : PT X a (tT c B W f)) (hb : PW X (.BoolOp .Or (b :: rest) pos) (tT c B W g)) : PW X (.BoolOp .Or (a :: b :: rest) pos) (tT c B W (mOr f g)) := by
  refine ⟨fun whole pins s σ H Q I h => (pw_or ha hb).run whole pins s σ H Q I ?_⟩
  obtain ⟨G, A, ρ, R, a⟩ := h
  refine ⟨G, A, ρ, R, a.split.imp fun x ρ' G' H' _ _ R' q => ite_prop (fun e => ?_) (fun e => ?_)⟩
  · rw [if_pos e] at q; exact After.ok q R'
  · rw [if_neg (by rw [e]; exact Bool.false_ne_true)] at q; exact ⟨G', A, ρ', R', q⟩
theorem pt_notM {a : Expr} {pos : Pos} {f : M Bool} (ha : PT X a (tT c B W f)) : PT X (.UnaryOp .Not a pos) (tT c B W (mNot f)) :=
  pt_imp (pt_not ha) fun σ H Q ⟨G, A, ρ, R, a⟩ => ⟨G, A, ρ, R, a.split.imp fun x ρ' G' H' _ _ R' q => After.ok q R'⟩
/-- as values -/
def mV (f : M Bool) : M D := f.bind fun b => M.pure (.bl b)
def mAndV (f g : M D) : M D := (mB f).bind fun b => if b = true then g else M.pure (.bl false)
def mOrV (f g : M D) : M D := (mB f).bind fun b => if b = true then M.pure (.bl true) else g
def mNotV (f : M D) : M D := (mB f).bind fun b => M.pure (.bl (!b))
theorem pm_notV {a : Expr} {pos : Pos} {f : M D} (ha : PE X a (tM c B W f)) : PE X (.UnaryOp .Not a pos) (tM c B W (mNotV f)) :=
  pe_imp (pe_not ha) fun σ H Q ⟨G, A, ρ, R, a⟩ => by
    refine ⟨G, A, ρ, R, (mB_core R a.split).imp fun d ρ' G' H' _ _ R' ⟨b, e, q⟩ v r => ?_⟩
    subst e
    exact ⟨b, rep_bl r, After.ok q R' _ (.bl _)⟩
def mChain (s1 s2 : D → D → Option D) (oa ob oc : Opn) : M D := oa.pre.bind fun a => ob.pre.bind fun b => (rdM oa a).bind fun d1 => (rdM ob b).bind fun d2 => (M.lift (s1 d1 d2)).bind fun z => match z with
  | .bl true => oc.pre.bind fun e => (rdM ob b).bind fun d2 => (rdM oc e).bind fun d3 => M.lift (s2 d2 d3)
  | .bl false => M.pure (.bl false)
  | _ => M.stuck
theorem After.liftB {α β : Type} {G H : Hp} {A : Addr → Prop} {σ : L2.St} {ρ : Cells} {o : Option α} {k : α → M β} {Q : β → Cells → Hp → Hp → Prop} (h : After c B W G A H σ (((M.lift o).bind k) ρ) Q) : ∃ d, o = some d ∧ After c B W G A H σ (k d ρ) Q := by
  cases o with
  | none => exact h.elim
  | some d => exact ⟨d, rfl, h⟩
end
end Fx
set_option Elab.async false
set_option linter.all false
set_option maxRecDepth 100000
set_option maxHeartbeats 4000000
namespace Fx
open PySem L2

mutual
def toPy : D → PyData
  | .non => .none
  | .bl b => .bool b
  | .int i => .int i
  | .str x => .str x
  | .tup ds => .tuple (toPys ds)
  | .lst ds => .list (toPys ds)
  | .dic _ _ => .dict []
  | .rcd _ _ => .dict []
  | .exc _ _ => .dict []
  | .raw _ => .dict []
def toPys : List D → List PyData
  | [] => []
  | d :: ds => toPy d :: toPys ds
end
/-- what == and in may look at -/
def plain (d : D) : Bool := (toPy d).canLay0
section
variable {c : Cf} {G H : Hp}
mutual
theorem Rep.dp (s : Same G H) : ∀ {v : V} {d : D}, Rep c G v d → plain d = true → Dp c.K H v (toPy d)
  | _, _, .non, _ => by unfold toPy; exact .non
  | _, _, .bl b, _ => by unfold toPy; exact .bl b
  | _, _, .int i, _ => by unfold toPy; exact .int i
  | _, _, .str x, _ => by unfold toPy; exact .str x
  | _, _, .tup e r, h => by
    unfold plain at h
    rw [toPy] at h ⊢
    unfold PyData.canLay0 at h
    exact .tup (e.mono s).sq (RepL.dp s r h)
  | _, _, .lst e r, h => by
    unfold plain at h
    rw [toPy] at h ⊢
    unfold PyData.canLay0 at h
    exact .lst (e.mono s).sq (RepL.dp s r h)
  | _, _, .dic .., h => by unfold plain toPy PyData.canLay0 at h; cases h
  | _, _, .rcd .., h => by unfold plain toPy PyData.canLay0 at h; cases h
  | _, _, .raw _, h => by unfold plain toPy PyData.canLay0 at h; cases h
theorem RepL.dp (s : Same G H) : ∀ {vs : List V} {ds : List D}, RepL c G vs ds → PyData.canLayAll0 (toPys ds) = true → DpAll c.K H vs (toPys ds)
  | _, _, .nil, _ => by unfold toPys; exact .nil
  | _, _, .cons r t, h => by
    unfold toPys at h ⊢
    unfold PyData.canLayAll0 at h
    rw [Bool.and_eq_true] at h
    exact .cons (Rep.dp s r h.1) (RepL.dp s t h.2)
end
theorem Opr.dp (s : Same G H) {v : V} {d : D} (h : Opr c G H v d) (p : plain d = true) : Dp c.K H v (toPy d) := by
  rcases h with h | ⟨q, rfl, h⟩
  · exact h.dp s p
  · cases d <;> first | exact h.elim | skip
    · obtain ⟨xs, h1, h2⟩ := h
      unfold plain at p
      rw [toPy] at p ⊢
      unfold PyData.canLay0 at p
      exact .lst (SqL.of h1) (h2.dp s p)
    · unfold plain toPy PyData.canLay0 at p; cases p
    · unfold plain toPy PyData.canLay0 at p; cases p
    · unfold plain toPy PyData.canLay0 at p; cases p
/-- a list, owned or frozen -/
theorem Opr.lst (s : Same G H) {v : V} {ds : List D} (h : Opr c G H v (.lst ds)) : ∃ p xs, v = .ref p ∧ LsG c.K H p xs ∧ RepL c G xs ds := by
  rcases h with h | ⟨q, rfl, h⟩
  · cases h with
    | lst e r => exact ⟨_, _, rfl, e.mono s, r⟩
  · obtain ⟨xs, h1, h2⟩ := h
    exact ⟨_, _, rfl, .inl (.inl h1), h2⟩
theorem Opr.tup (s : Same G H) {v : V} {ds : List D} (h : Opr c G H v (.tup ds)) : ∃ p xs, v = .ref p ∧ TupAt c.K H p xs ∧ RepL c G xs ds ∧ Rep c G v (.tup ds) := by
  rcases h with h | ⟨q, rfl, h⟩
  · cases h with
    | tup e r => exact ⟨_, _, rfl, e.mono s, r, .tup e r⟩
  · exact h.elim
theorem Opr.rep {v : V} {d : D} (h : Opr c G H v d) (k : ∀ o, ¬ Own c G o d) : Rep c G v d := by
  rcases h with h | ⟨q, rfl, h⟩
  · exact h
  · exact absurd h (k _)
theorem Opr.int {v : V} {i : Int} (h : Opr c G H v (.int i)) : v = .int i := rep_int (h.rep fun o z => z)
theorem Opr.bl {v : V} {i : Bool} (h : Opr c G H v (.bl i)) : v = .bl i := rep_bl (h.rep fun o z => z)
end

def seqM : List (M D) → M (List D)
  | [] => M.pure []
  | f :: fs => f.bind fun a => (seqM fs).bind fun as => M.pure (a :: as)
def preL : List Opn → M (List D)
  | [] => M.pure []
  | o :: os => o.pre.bind fun a => (preL os).bind fun as => M.pure (a :: as)
def rdL : List Opn → List D → Cells → Option (List D)
  | [], [], _ => some []
  | o :: os, a :: as, ρ => match o.rd a ρ, rdL os as ρ with
    | some d, some ds => some (d :: ds)
    | _, _ => none
  | _, _, _ => none
def rdLM (os : List Opn) (as : List D) : M (List D) := fun ρ => match rdL os as ρ with
  | some ds => .ok ds ρ
  | none => .stuck
abbrev OprL (c : Cf) (G H : Hp) : List V → List D → Prop := Paired (Opr c G H)
def tD (c : Cf) (B : List (Nat × Addr)) (W : WX) (fs : List (M D)) : TA := fun σ H Q => ∃ G A ρ, Rel c B G A H σ ρ ∧ After c B W G A H σ (seqM fs ρ) fun ds _ G' H' => ∀ vs, RepL c G' vs ds → Q vs H'
def tA (c : Cf) (B : List (Nat × Addr)) (W : WX) (os : List Opn) : TA := fun σ H Q => ∃ G A ρ, Rel c B G A H σ ρ ∧ After c B W G A H σ (preL os ρ) fun as _ G' H' => ∀ vs,
  (∀ G2 H2 ρ2 es, Same G' G2 → Rel c B G2 A H2 σ ρ2 → rdL os as ρ2 = some es → OprL c G2 H2 vs es) → Q vs H'
section
variable {c : Cf} {B : List (Nat × Addr)} {W : WX} {X : Cx}
theorem pd_nil : PA X [] (tD c B W []) := pa_imp pa_nil fun σ H Q ⟨G, A, ρ, R, a⟩ => After.ok a R [] .nil
theorem pd_cons {e : Expr} {es : List Expr} {f : M D} {fs : List (M D)} (ha : PE X e (tM c B W f)) (hr : PA X es (tD c B W fs)) (hs : starEach (e :: es) X.env = (false, eval e X.env) :: starEach es X.env := by rfl) : PA X (e :: es) (tD c B W (f :: fs)) :=
  pa_imp (pa_cons ha hr hs) fun σ H Q ⟨G, A, ρ, R, a⟩ => by
    refine ⟨G, A, ρ, R, a.split.imp fun d ρ1 G1 H1 _ _ R1 a1 v r => ?_⟩
    refine ⟨G1, A, ρ1, R1, a1.split.imp fun ds ρ2 G2 H2 s2 _ R2 a2 vs rs => ?_⟩
    exact After.ok a2 R2 (v :: vs) (.cons (r.mono s2) rs)
theorem pa_nilO : PA X [] (tA c B W []) := pa_imp pa_nil fun σ H Q ⟨G, A, ρ, R, a⟩ => After.ok a R [] fun _ _ _ es _ _ e => by cases e; exact .nil
theorem pa_consO {e : Expr} {es : List Expr} {o : Opn} {os : List Opn} (ha : PE X e (tO c B W o)) (hr : PA X es (tA c B W os)) (hs : starEach (e :: es) X.env = (false, eval e X.env) :: starEach es X.env := by rfl) : PA X (e :: es) (tA c B W (o :: os)) :=
  pa_imp (pa_cons ha hr hs) fun σ H Q ⟨G, A, ρ, R, a⟩ => by
    refine ⟨G, A, ρ, R, a.split.imp fun d ρ1 G1 H1 _ _ R1 a1 v fv => ?_⟩
    refine ⟨G1, A, ρ1, R1, a1.split.imp fun ds ρ2 G2 H2 s2 _ R2 a2 vs fvs => ?_⟩
    refine After.ok a2 R2 (v :: vs) fun G3 H3 ρ3 es s3 R3 e3 => ?_
    unfold rdL at e3
    cases e4 : o.rd d ρ3 with
    | none => rw [e4] at e3; cases e3
    | some d' =>
      cases e5 : rdL os ds ρ3 with
      | none => rw [e4, e5] at e3; cases e3
      | some ds' =>
        rw [e4, e5] at e3
        cases e3
        exact .cons (fv G3 H3 ρ3 d' (s2.trans s3) R3 e4) (fvs G3 H3 ρ3 ds' s3 R3 e5)

def SemC (c : Cf) (r : List V → Hp → VK → Prop) (sem : List D → Option D) : Prop := ∀ (G H : Hp) (vs : List V) (ds : List D) (d : D) (Q : VK), Same G H → OprL c G H vs ds → sem ds = some d → K1 c G H d Q → r vs H Q
def mCall (sem : List D → Option D) (os : List Opn) : M D := (preL os).bind fun as => (rdLM os as).bind fun ds => M.lift (sem ds)
theorem After.rdL {α : Type} {G H : Hp} {A : Addr → Prop} {σ : L2.St} {ρ : Cells} {os : List Opn} {as : List D} {k : List D → M α} {Q : α → Cells → Hp → Hp → Prop} (h : After c B W G A H σ (((rdLM os as).bind k) ρ) Q) : ∃ ds, Fx.rdL os as ρ = some ds ∧ After c B W G A H σ (k ds ρ) Q := by
  unfold M.bind rdLM at h
  cases e : Fx.rdL os as ρ with
  | none => rw [e] at h; exact h.elim
  | some d => rw [e] at h; exact ⟨d, rfl, h⟩
theorem call_core {r : List V → Hp → VK → Prop} {sem : List D → Option D} {os : List Opn} {σ : L2.St} {H : Hp} {Q : VK} {Qd : D → Hp → Hp → Prop} {A : Addr → Prop} {G : Hp} {ρ : Cells} (R : Rel c B G A H σ ρ) (a : After c B W G A H σ (mCall sem os ρ) fun d _ G' H' => Qd d G' H')
    (k : ∀ G' H' vs ds d, Same G' H' → OprL c G' H' vs ds → sem ds = some d → Qd d G' H' → r vs H' Q) : tCB r (tA c B W os) σ H Q := by
  refine ⟨G, A, ρ, R, a.split.imp fun as ρ1 G1 H1 _ _ R1 a1 vs fv => ?_⟩
  obtain ⟨ds, e1, a1⟩ := a1.rdL
  obtain ⟨d, e, q⟩ := a1.lift R1
  exact k G1 H1 vs ds d R1.same (fv G1 H1 ρ1 ds (Same.refl _) R1 e1) e q
theorem pm_call {e : Expr} {r : List V → Hp → VK → Prop} {sem : List D → Option D} {os : List Opn} (hs : SemC c r sem) (h : PE X e (tCB r (tA c B W os))) : PE X e (tM c B W (mCall sem os)) :=
  pe_imp h fun σ H Q ⟨G, A, ρ, R, a⟩ => call_core R a.k1 fun G' H' vs ds d s o e q => hs G' H' vs ds d Q s o e q
def isLst : D → Bool
  | .lst _ => true
  | _ => false
/-- the receiver is looked at twice: its class ahead of the arguments, its content behind them -/
def mMeth (is : D → Bool) (sem : D → List D → Option D) (o : Opn) (os : List Opn) : M D := o.pre.bind fun a => (rdM o a).bind fun d0 => if is d0 = true then (preL os).bind fun as => (rdM o a).bind fun d => (rdLM os as).bind fun ds => M.lift (sem d ds) else M.stuck
def ownAt (i : Nat) : M D := fun ρ => match ρ[i]? with
  | some (.own d) => .ok d ρ
  | _ => .stuck
def setOwn (i : Nat) (d : D) : M Unit := fun ρ => .ok () (ρ.set i (.own d))
def mMethW (sem : D → List D → Option (D × D)) (i : Nat) (os : List Opn) : M D := (ownAt i).bind fun d0 => if isLst d0 = true then (preL os).bind fun as => (rdLM os as).bind fun ds => (ownAt i).bind fun d => (M.lift (sem d ds)).bind fun r => (setOwn i r.2).bind fun _ => M.pure r.1 else M.stuck
theorem After.ownAt {α : Type} {G H : Hp} {A : Addr → Prop} {σ : L2.St} {ρ : Cells} {i : Nat} {k : D → M α} {Q : α → Cells → Hp → Hp → Prop} (h : After c B W G A H σ (((ownAt i).bind k) ρ) Q) : ∃ d, ρ[i]? = some (.own d) ∧ After c B W G A H σ (k d ρ) Q := by
  unfold M.bind Fx.ownAt at h
  cases e : ρ[i]? with
  | none => rw [e] at h; exact h.elim
  | some cl =>
    rw [e] at h
    cases cl with
    | no => exact h.elim
    | dat d => exact h.elim
    | own d => exact ⟨d, rfl, h⟩
/-- an owned content is changed -/
theorem Rel.setOwn {G H : Hp} {A : Addr → Prop} {σ : L2.St} {ρ : Cells} (R : Rel c B G A H σ ρ) {i : Nat} {d d' : D} {p : Addr} {o : HO} (e : ρ[i]? = some (.own d)) (es : σ[i]? = some (some (.ref p))) (ho : Own c G (some o) d') : Rel c B G A (upd H p o) σ (ρ.set i (.own d')) ∧ Keep A G H G (upd H p o) ∧ Same G (upd H p o) := by
  obtain ⟨p', es', hA, hO⟩ := R.own i d e
  rw [es] at es'; cases es'
  obtain ⟨gp, u, hu⟩ := R.ownA p hA
  have hs : Same G (upd H p o) := fun b w q => by rw [upd_ne (ne_of_none q gp)]; exact R.same b w q
  have hi : i < ρ.length := (List.getElem?_eq_some_iff.mp e).1
  refine ⟨⟨hs, by rw [R.len, List.length_set], fun b hb => ?_, fun j x h => ?_, fun j x h => ?_, fun j k x y q hjk h1 h2 h3 h4 => ?_, fun q hq => ?_⟩, fun b w q hn => ?_, hs⟩
  · obtain ⟨h1, w, h2⟩ := R.ownA b hb
    refine ⟨h1, ?_⟩
    by_cases z : b = p
    · subst z; exact ⟨o, upd_same⟩
    · exact ⟨w, by rw [upd_ne z]; exact h2⟩
  · by_cases z : j = i
    · subst z; rw [List.getElem?_set_self hi] at h; cases h
    · rw [List.getElem?_set_ne (Ne.symm z)] at h; exact R.dat j x h
  · by_cases z : j = i
    · subst z
      rw [List.getElem?_set_self hi] at h; cases h
      exact ⟨p, es, hA, by rw [upd_same]; exact ho⟩
    · rw [List.getElem?_set_ne (Ne.symm z)] at h
      obtain ⟨q, h1, h2, h3⟩ := R.own j x h
      have ne : q ≠ p := fun w => R.dis j i x d p z h e (by rw [← w]; exact h1) es
      exact ⟨q, h1, h2, by rw [upd_ne ne]; exact h3⟩
  · have g : ∀ (j : Nat) (x : D), (ρ.set i (.own d'))[j]? = some (.own x) → ∃ y, ρ[j]? = some (.own y) := fun j x h => by
      by_cases z : j = i
      · subst z; exact ⟨d, e⟩
      · rw [List.getElem?_set_ne (Ne.symm z)] at h; exact ⟨x, h⟩
    obtain ⟨x', h1'⟩ := g j x h1
    obtain ⟨y', h2'⟩ := g k y h2
    exact R.dis j k x' y' q hjk h1' h2' h3 h4
  · obtain ⟨h1, h2, x, h3⟩ := R.byr q hq
    refine ⟨h1, h2, ?_⟩
    by_cases z : q.1 = i
    · exact ⟨d', by rw [z, List.getElem?_set_self hi]⟩
    · exact ⟨x, by rw [List.getElem?_set_ne (Ne.symm z)]; exact h3⟩
  · exact ⟨by rw [upd_ne (fun z => hn (by rw [z]; exact hA))]; exact q, rfl⟩
theorem seqM_length : ∀ {fs : List (M D)} {ρ ρ' : Cells} {ds : List D}, seqM fs ρ = .ok ds ρ' → ds.length = fs.length
  | [], ρ, ρ', ds, h => by cases h; rfl
  | f :: fs, ρ, ρ', ds, h => by
    unfold seqM M.bind at h
    cases e : f ρ with
    | stuck => rw [e] at h; cases h
    | exc x r => rw [e] at h; cases h
    | ok a ρ1 =>
      rw [e] at h
      have h' : ((seqM fs ρ1).andThen fun as => M.pure (a :: as)) = .ok ds ρ' := h
      cases e2 : seqM fs ρ1 with
      | stuck => rw [e2] at h'; cases h'
      | exc x r => rw [e2] at h'; cases h'
      | ok as ρ2 =>
        rw [e2] at h'
        cases h'
        rw [List.length_cons, List.length_cons, seqM_length e2]
def mTup (fs : List (M D)) : M D := (seqM fs).bind fun ds => M.pure (.tup ds)
def mLst (fs : List (M D)) : M D := (seqM fs).bind fun ds => M.pure (.lst ds)
theorem After.len {fs : List (M D)} {G H : Hp} {A : Addr → Prop} {σ : L2.St} {ρ : Cells} {Q : List D → Cells → Hp → Hp → Prop} (h : After c B W G A H σ (seqM fs ρ) Q) : After c B W G A H σ (seqM fs ρ) fun ds ρ' G' H' => ds.length = fs.length ∧ Q ds ρ' G' H' := by
  cases e : seqM fs ρ with
  | stuck => rw [e] at h; exact h
  | exc x r => rw [e] at h; exact h
  | ok a ρ1 => rw [e] at h; exact fun G' H' s k R => ⟨seqM_length e, h G' H' s k R⟩
theorem pm_tup {es : List Expr} {fs : List (M D)} {pos : Pos} {x1} (h : PA X es (tD c B W fs)) (hl : fs.length ≤ 1000 := by decide) : PE X (.Tuple es x1 pos) (tM c B W (mTup fs)) :=
  pe_imp (pe_tupN h) fun σ H Q ⟨G, A, ρ, R, a⟩ => by
    refine ⟨G, A, ρ, R, a.split.len.imp fun ds ρ1 G1 H1 _ _ R1 ⟨hz, a1⟩ vs r => ⟨?_, fun p its hp => ?_⟩⟩
    · rw [r.length, hz]; exact Nat.le_of_lt (small1000 hl)
    · exact K1.tup R1.same (After.k1 (f := M.pure (D.tup ds)) a1 |>.ok R1) hp r
theorem pf_lst {es : List Expr} {fs : List (M D)} {pos : Pos} (h : PA X es (tD c B W fs)) (hl : fs.length ≤ 1000 := by decide) : PE X (.List es pos) (tF c B W (mLst fs)) :=
  pe_imp (pe_lst h) fun σ H Q ⟨G, A, ρ, R, a⟩ => by
    refine ⟨G, A, ρ, R, a.split.len.imp fun ds ρ1 G1 H1 _ _ R1 ⟨hz, a1⟩ vs r => ⟨?_, fun p hp => ?_⟩⟩
    · rw [r.length, hz]; exact Nat.le_of_lt (small1000 hl)
    · exact K2.lst (After.ok a1 R1) hp r

def mPart : Option (M D) → M (Option Int)
  | none => M.pure none
  | some f => f.bind fun d => match d with
    | .int i => M.pure (some i)
    | _ => M.stuck
def tPt (c : Cf) (B : List (Nat × Addr)) (W : WX) (f : Option (M D)) : TO := fun σ H Q => ∃ G A ρ, Rel c B G A H σ ρ ∧ After c B W G A H σ (mPart f ρ) fun i _ _ H' => Q i H'
theorem pp_none : L2.PO X none (tPt c B W none) := ⟨fun pins s σ H Q I ⟨G, A, ρ, R, a⟩ => po_none.run pins s σ H Q I (After.ok a R)⟩
theorem pp_some {e : Expr} {f : M D} (h : PE X e (tM c B W f)) : L2.PO X (some e) (tPt c B W (some f)) := ⟨fun pins s σ H Q I ⟨G, A, ρ, R, a⟩ => (po_some h).run pins s σ H Q I (by
  refine ⟨G, A, ρ, R, (show After c B W G A H σ ((f.bind _) ρ) _ from a).split.imp fun d ρ1 G1 H1 _ _ R1 a1 v r => ?_⟩
  cases d <;> first | exact a1.elim | skip
  exact ⟨_, rep_int r, After.ok a1 R1⟩)⟩
def cutD (xs : List D) (lo hi : Option Int) : List D := (xs.drop (HT.sIx xs.length 0 lo)).take (HT.sIx xs.length xs.length hi - HT.sIx xs.length 0 lo)
def mSl (sem : D → Option Int → Option Int → Option D) (o : Opn) (lo hi : Option (M D)) : M D := o.pre.bind fun a => (mPart lo).bind fun l => (mPart hi).bind fun u => (rdM o a).bind fun d => M.lift (sem d l u)
def SemS (c : Cf) (r : V → Option Int → Option Int → Hp → VK → Prop) (sem : D → Option Int → Option Int → Option D) : Prop := ∀ (G H : Hp) (x : V) (d e : D) (l u : Option Int) (Q : VK), Same G H → Opr c G H x d → sem d l u = some e → K1 c G H e Q → r x l u H Q
def SemSF (c : Cf) (r : V → Option Int → Option Int → Hp → VK → Prop) (sem : D → Option Int → Option Int → Option D) : Prop := ∀ (G H : Hp) (x : V) (d e : D) (l u : Option Int) (Q : VK), Same G H → Opr c G H x d → sem d l u = some e → K2 c G H e Q → r x l u H Q
theorem sl_core {r : V → Option Int → Option Int → Hp → VK → Prop} {sem : D → Option Int → Option Int → Option D} {o : Opn} {lo hi : Option (M D)} {σ : L2.St} {H : Hp} {Q : VK} {Qd : D → Hp → Hp → Prop} {A : Addr → Prop} {G : Hp} {ρ : Cells} (R : Rel c B G A H σ ρ) (a : After c B W G A H σ (mSl sem o lo hi ρ) fun d _ G' H' => Qd d G' H')
    (k : ∀ G' H' x d e l u, Same G' H' → Opr c G' H' x d → sem d l u = some e → Qd e G' H' → r x l u H' Q) : tSl r (tO c B W o) (tPt c B W lo) (tPt c B W hi) σ H Q := by
  refine ⟨G, A, ρ, R, a.split.imp fun a0 ρ1 G1 H1 _ _ R1 a1 x fx => ?_⟩
  refine ⟨G1, A, ρ1, R1, a1.split.imp fun l ρ2 G2 H2 s2 _ R2 a2 => ?_⟩
  refine ⟨G2, A, ρ2, R2, a2.split.imp fun u ρ3 G3 H3 s3 _ R3 a3 => ?_⟩
  obtain ⟨d, e1, a3⟩ := a3.rd
  obtain ⟨e, e2, q⟩ := a3.lift R3
  exact k G3 H3 x d e l u R3.same (fx G3 H3 ρ3 d (s2.trans s3) R3 e1) e2 q
theorem pm_sl {e : Expr} {r : V → Option Int → Option Int → Hp → VK → Prop} {sem : D → Option Int → Option Int → Option D} {o : Opn} {lo hi : Option (M D)} (hs : SemS c r sem) (h : PE X e (tSl r (tO c B W o) (tPt c B W lo) (tPt c B W hi))) : PE X e (tM c B W (mSl sem o lo hi)) :=
  pe_imp h fun σ H Q ⟨G, A, ρ, R, a⟩ => sl_core R a.k1 fun G' H' x d e l u s o1 e1 q => hs G' H' x d e l u Q s o1 e1 q
end
end Fx
set_option Elab.async false
set_option linter.all false
set_option maxRecDepth 100000
set_option maxHeartbeats 4000000
namespace Fx
open PySem L2
def inR (i : Int) : Bool := decide (-(2 ^ 64) < i) && decide (i < 2 ^ 64)
def sAdd : D → D → Option D
  | .int a, .int b => some (.int (a + b))
  | .tup a, .tup b => if a.length + b.length ≤ 16777216 then some (.tup (a ++ b)) else none
  | .lst a, .lst b => if a.length + b.length ≤ 16777216 then some (.lst (a ++ b)) else none
  | _, _ => none
def sAddL : D → D → Option D
  | .lst a, .lst b => if a.length + b.length ≤ 16777216 then some (.lst (a ++ b)) else none
  | _, _ => none
def sMul : D → D → Option D
  | .int a, .int b => if (inR a || inR b) = true then some (.int (a * b)) else none
  | _, _ => none
def sMulL : D → D → Option D
  | .lst a, .int k => if k < 2 ^ 62 ∧ -(2 ^ 62) ≤ k ∧ a.length * k.toNat ≤ 16777216 then some (.lst (List.replicate k.toNat a).flatten) else none
  | _, _ => none
def sFdiv : D → D → Option D
  | .int a, .int b => if b ≠ 0 ∧ b.natAbs < 1073741824 then some (.int (a.fdiv b)) else none
  | _, _ => none
def sMod : D → D → Option D
  | .int a, .int b => if b ≠ 0 then some (.int (a.fmod b)) else none
  | _, _ => none
def sPow : D → D → Option D
  | .int a, .int b => if 0 ≤ b ∧ b ≤ 1000000 ∧ a.natAbs < 2 ^ 64 then some (.int (a ^ b.toNat)) else none
  | _, _ => none
def sGt : D → D → Option D
  | .int a, .int b => some (.bl (decide (b < a)))
  | _, _ => none
def sGe : D → D → Option D
  | .int a, .int b => some (.bl (decide (b ≤ a)))
  | _, _ => none
def isNon : D → Bool
  | .non => true
  | _ => false
def sIsN : D → D → Option D
  | .raw _, _ => none
  | d, .non => some (.bl (isNon d))
  | _, _ => none
def sNotN : D → D → Option D
  | .raw _, _ => none
  | d, .non => some (.bl (!isNon d))
  | _, _ => none
def eqD (d e : D) : Bool := PyData.eqv (toPy d) (toPy e)
def sEq (d e : D) : Option D := if (plain d && plain e && decide (min (toPy d).depth (toPy e).depth ≤ 63)) = true then some (.bl (eqD d e)) else none
def sNe (d e : D) : Option D := if (plain d && plain e && decide (min (toPy d).depth (toPy e).depth ≤ 63)) = true then some (.bl (!eqD d e)) else none
def itemsOf : D → Option (List D)
  | .lst ds => some ds
  | .tup ds => some ds
  | _ => none
def inD (d : D) (ds : List D) : Bool := ds.any fun y => eqD y d
def sIn (d e : D) : Option D := (itemsOf e).bind fun ds => if (plain d && PyData.canLayAll0 (toPys ds) && decide (min (PyData.depthAll (toPys ds)) (toPy d).depth ≤ 63)) = true then some (.bl (inD d ds)) else none
def sNin (d e : D) : Option D := (itemsOf e).bind fun ds => if (plain d && PyData.canLayAll0 (toPys ds) && decide (min (PyData.depthAll (toPys ds)) (toPy d).depth ≤ 63)) = true then some (.bl (!inD d ds)) else none
def sIx : D → D → Option D
  | .lst ds, .int i => atI ds i
  | .tup ds, .int i => atI ds i
  | _, _ => none
def sCut : D → Option Int → Option Int → Option D
  | .lst ds, l, u => some (.lst (cutD ds l u))
  | .tup ds, l, u => some (.tup (cutD ds l u))
  | _, _, _ => none
def sCutL : D → Option Int → Option Int → Option D
  | .lst ds, l, u => some (.lst (cutD ds l u))
  | _, _, _ => none
def sLen : List D → Option D
  | [.lst ds] => some (.int ds.length)
  | [.tup ds] => some (.int ds.length)
  | _ => none
def sInt : List D → Option D
  | [.int i] => some (.int i)
  | [.bl b] => some (.int (if b then 1 else 0))
  | _ => none
def intsOf : List D → Option (List Int)
  | [] => some []
  | .int i :: ds => (intsOf ds).map fun is => i :: is
  | _ => none
/-- the built-in classes that isinstance is asked about -/
def tyName : D → Option String
  | .non => some "NoneType"
  | .bl _ => some "bool"
  | .int _ => some "int"
  | .str _ => some "str"
  | .tup _ => some "tuple"
  | .lst _ => some "list"
  | .dic _ _ => some "dict"
  | _ => none
def sIsi : List D → Option D
  | [d, .raw (.ty n)] => (tyName d).bind fun t => (kitB t n).map .bl
  | _ => none
section
variable {c : Cf} {G H : Hp}
theorem sl : sizeLine = 16777216 := sizeLine_eq
theorem repInts : ∀ is : List Int, RepL c G (is.map V.int) (is.map D.int)
  | [] => .nil
  | i :: is => .cons (.int i) (repInts is)
theorem rep_inj : ∀ {vs : List V} {ds : List D}, RepL c G vs ds → (vs = [] ↔ ds = [])
  | _, _, .nil => by simp
  | _, _, .cons _ _ => by simp
theorem or2 {X : Cx} {f : Value → Value → Sem Value} {r r' : R2} (h : OpR X f r) (h' : OpR X f r') : OpR X f (fun x y H Q => r x y H Q ∨ r' x y H Q) := fun pins s σ H x y v u Q I rx ry q => q.elim (h pins s σ H x y v u Q I rx ry) (h' pins s σ H x y v u Q I rx ry)
def rAdd (K : PySem.W.Frag) : R2 := fun x y H Q => (rI0 (fun i j => V.int (i + j)) x y H Q ∨ rCatN K x y H Q) ∨ rCatR K x y H Q
theorem op_addA {X : Cx} : OpR X (binaryOp .Add) (rAdd X.K) := or2 (or2 op_add op_catN) op_catR
theorem semAddL : Sem2F c (rCatR c.K) sAddL := fun G H x y d1 d2 d Q s a b e k => by
  cases d1 <;> cases d2 <;> first | (cases e; done) | skip
  rename_i xs ys
  simp only [sAddL] at e
  split at e
  · rename_i hz
    cases e
    obtain ⟨p, us, rfl, hp, r1⟩ := a.lst s
    obtain ⟨q, ws, rfl, hq, r2⟩ := b.lst s
    exact ⟨p, q, us, ws, rfl, rfl, hp, hq, by rw [r1.length, r2.length, sl]; exact hz, fun z hz => k.lst hz (r1.append r2)⟩
  · cases e
theorem semAdd : Sem2 c (rAdd c.K) sAdd := fun G H x y d1 d2 d Q s a b e k => by
  cases d1 <;> cases d2 <;> first | (cases e; done) | skip
  · cases e
    exact .inl (.inl ⟨_, _, a.int, b.int, k.flat s (.int _)⟩)
  · rename_i xs ys
    simp only [sAdd] at e
    split at e
    · rename_i hz
      cases e
      obtain ⟨p, us, rfl, hp, r1, R1⟩ := a.tup s
      obtain ⟨q, ws, rfl, hq, r2, R2⟩ := b.tup s
      refine .inl (.inr ⟨p, q, us, ws, rfl, rfl, hp.sq, hq.sq, by rw [r1.length, r2.length, sl]; exact hz, fun z => ?_, fun _ z => ?_, fun _ _ z its hz => ?_⟩)
      · have z' := (rep_inj r1).mp z
        subst z'
        exact k.flat s R2
      · have z' := (rep_inj r2).mp z
        subst z'
        exact k.flat s (by rw [List.append_nil]; exact R1)
      · exact k.tup s hz (r1.append r2)
    · cases e
  · exact .inr (semAddL G H x y _ _ d Q s a b e (k.to2 s))
theorem semMul : Sem2 c (rI CMul fun i j => .int (i * j)) sMul := fun G H x y d1 d2 d Q s a b e k => by
  cases d1 <;> cases d2 <;> first | (cases e; done) | skip
  simp only [sMul] at e
  split at e
  · rename_i h
    cases e
    unfold inR at h
    simp only [Bool.or_eq_true, Bool.and_eq_true, decide_eq_true_eq] at h
    exact ⟨_, _, a.int, b.int, h, k.flat s (.int _)⟩
  · cases e
theorem rep_flatten {vs : List V} {ds : List D} (r : RepL c G vs ds) : ∀ n : Nat, RepL c G (List.replicate n vs).flatten (List.replicate n ds).flatten
  | 0 => .nil
  | n + 1 => by rw [List.replicate_succ, List.replicate_succ, List.flatten_cons, List.flatten_cons]; exact r.append (rep_flatten r n)
theorem semMulL : Sem2F c (rRepR c.K) sMulL := fun G H x y d1 d2 d Q s a b e k => by
  cases d1 <;> cases d2 <;> first | (cases e; done) | skip
  simp only [sMulL] at e
  split at e
  · rename_i h
    cases e
    obtain ⟨p, us, rfl, hp, r1⟩ := a.lst s
    exact ⟨p, _, us, rfl, b.int, hp, by omega, by omega, by rw [r1.length, sl]; exact h.2.2, fun z hz => k.lst hz (rep_flatten r1 _)⟩
  · cases e
theorem semFdiv : Sem2 c (rI CDivN fun i j => .int (i.fdiv j)) sFdiv := fun G H x y d1 d2 d Q s a b e k => by
  cases d1 <;> cases d2 <;> first | (cases e; done) | skip
  simp only [sFdiv] at e
  split at e
  · rename_i h
    cases e
    exact ⟨_, _, a.int, b.int, h, k.flat s (.int _)⟩
  · cases e
theorem semMod : Sem2 c (rI (fun _ j => j ≠ 0) fun i j => .int (i.fmod j)) sMod := fun G H x y d1 d2 d Q s a b e k => by
  cases d1 <;> cases d2 <;> first | (cases e; done) | skip
  simp only [sMod] at e
  split at e
  · rename_i h
    cases e
    exact ⟨_, _, a.int, b.int, h, k.flat s (.int _)⟩
  · cases e
theorem semPow : Sem2 c (rI CPow fun i j => .int (i ^ j.toNat)) sPow := fun G H x y d1 d2 d Q s a b e k => by
  cases d1 <;> cases d2 <;> first | (cases e; done) | skip
  simp only [sPow] at e
  split at e
  · rename_i h
    cases e
    exact ⟨_, _, a.int, b.int, h, k.flat s (.int _)⟩
  · cases e
theorem semGt : Sem2 c (rI0 fun i j => .bl (decide (j < i))) sGt := fun G H x y d1 d2 d Q s a b e k => by
  cases d1 <;> cases d2 <;> first | (cases e; done) | skip
  cases e
  exact ⟨_, _, a.int, b.int, k.flat s (.bl _)⟩
theorem semGe : Sem2 c (rI0 fun i j => .bl (decide (j ≤ i))) sGe := fun G H x y d1 d2 d Q s a b e k => by
  cases d1 <;> cases d2 <;> first | (cases e; done) | skip
  cases e
  exact ⟨_, _, a.int, b.int, k.flat s (.bl _)⟩
def rEqN (K : PySem.W.Frag) (n : Bool) : R2 := fun x y H Q => ∃ d e, Dp K H x d ∧ Dp K H y e ∧ d.canLay0 = true ∧ e.canLay0 = true ∧ min d.depth e.depth ≤ 63 ∧ Q (.bl (n ^^ PyData.eqv d e)) H
theorem op_eqN {X : Cx} (hu : X.A.units + 64 < cLine) : OpR X (compareOp .Eq) (rEqN X.K false) := by
  intro pins s σ H x y v u Q I rx ry h
  obtain ⟨d, e, hd, he, sd, se, hz, q⟩ := h
  obtain ⟨as, r1⟩ := Dp.reads I d x v hd rx
  obtain ⟨bs, r2⟩ := Dp.reads I e y u he ry
  rw [Bool.false_xor] at q
  exact SeqAt.compareEq_reads r1 r2 sd se (by omega) ⟨.bl _, H, I, rfl, q⟩
theorem op_neN {X : Cx} (hu : X.A.units + 64 < cLine) : OpR X (compareOp .NotEq) (rEqN X.K true) := by
  intro pins s σ H x y v u Q I rx ry h
  obtain ⟨d, e, hd, he, sd, se, hz, q⟩ := h
  obtain ⟨as, r1⟩ := Dp.reads I d x v hd rx
  obtain ⟨bs, r2⟩ := Dp.reads I e y u he ry
  rw [Bool.true_xor] at q
  exact SeqAt.compareNe_reads r1 r2 sd se (by omega) ⟨.bl _, H, I, rfl, q⟩
theorem semEq : Sem2 c (rEqN c.K false) sEq := fun G H x y d1 d2 d Q s a b e k => by
  unfold sEq at e
  split at e
  · rename_i h
    cases e
    simp only [Bool.and_eq_true, decide_eq_true_eq] at h
    exact ⟨_, _, a.dp s h.1.1, b.dp s h.1.2, h.1.1, h.1.2, h.2, k.flat s (by rw [Bool.false_xor]; exact .bl _)⟩
  · cases e
theorem semNe : Sem2 c (rEqN c.K true) sNe := fun G H x y d1 d2 d Q s a b e k => by
  unfold sNe at e
  split at e
  · rename_i h
    cases e
    simp only [Bool.and_eq_true, decide_eq_true_eq] at h
    exact ⟨_, _, a.dp s h.1.1, b.dp s h.1.2, h.1.1, h.1.2, h.2, k.flat s (by rw [Bool.true_xor]; exact .bl _)⟩
  · cases e
theorem rep_atI {vs : List V} {ds : List D} {i : Int} {d : D} (r : RepL c G vs ds) (h : atI ds i = some d) : ∃ v, atI vs i = some v ∧ Rep c G v d := by
  unfold atI at h ⊢
  rw [r.length]
  cases e : ixN ds.length i with
  | none => rw [e] at h; cases h
  | some j =>
    rw [e, Option.bind_some] at h
    obtain ⟨v, h1, h2⟩ := r.get h
    exact ⟨v, by rw [Option.bind_some]; exact h1, h2⟩
def rIxN (K : PySem.W.Frag) : R2 := fun x y H Q => rIxL K x y H Q ∨ rIxT K x y H Q
theorem ix_N {X : Cx} : IxR X (rIxN X.K) := fun value slice pins s σ H x y v u Q I rx ry q hs => q.elim (fun q => ix_list value slice pins s σ H x y v u Q I rx ry q hs) (fun q => ix_tup value slice pins s σ H x y v u Q I rx ry q hs)
theorem semIx : Sem2 c (rIxN c.K) sIx := fun G H x y d1 d2 d Q s a b e k => by
  cases d1 <;> cases d2 <;> first | (cases e; done) | skip
  · obtain ⟨p, us, rfl, hp, r1, _⟩ := a.tup s
    obtain ⟨v, h1, h2⟩ := rep_atI r1 (show atI _ _ = some d from e)
    exact .inr ⟨p, us, _, v, rfl, b.int, hp.sq, h1, k.flat s h2⟩
  · obtain ⟨p, us, rfl, hp, r1⟩ := a.lst s
    obtain ⟨v, h1, h2⟩ := rep_atI r1 (show atI _ _ = some d from e)
    exact .inl ⟨p, us, _, v, rfl, b.int, hp.sq, h1, k.flat s h2⟩
theorem rep_cut {vs : List V} {ds : List D} (r : RepL c G vs ds) (l u : Option Int) : RepL c G (cutV vs l u) (cutD ds l u) := by
  unfold cutV cutD
  rw [r.length]
  exact (r.drop _).take _
theorem cut_whole {ds : List D} {l u : Option Int} (h : HT.sIx ds.length 0 l = 0 ∧ HT.sIx ds.length ds.length u = ds.length) : cutD ds l u = ds := by
  unfold cutD
  rw [h.1, h.2]
  simp
theorem semCutL : SemSF c (rSlL c.K) sCutL := fun G H x d e l u Q s a h k => by
  cases d <;> first | (cases h; done) | skip
  cases h
  obtain ⟨p, us, rfl, hp, r1⟩ := a.lst s
  exact ⟨p, us, rfl, hp.sq, fun q hq => k.lst hq (rep_cut r1 l u)⟩
theorem semCut : SemS c (fun x lo hi H Q => rSlL c.K x lo hi H Q ∨ rSlN c.K x lo hi H Q) sCut := fun G H x d e l u Q s a h k => by
  cases d <;> first | (cases h; done) | skip
  · cases h
    obtain ⟨p, us, rfl, hp, r1, R1⟩ := a.tup s
    refine .inr ⟨p, us, rfl, hp.sq, fun w => ?_, fun _ q its hq => k.tup s hq (rep_cut r1 l u)⟩
    rw [r1.length] at w
    rw [cut_whole w] at k
    exact k.flat s R1
  · exact .inl (semCutL G H x _ e l u Q s a h (k.to2 s))
theorem sl_N {X : Cx} : SlR X (fun x lo hi H Q => rSlL X.K x lo hi H Q ∨ rSlN X.K x lo hi H Q) := SlR.or sl_list sl_tupN
end
end Fx
set_option Elab.async false
set_option linter.all false
set_option maxRecDepth 100000
set_option maxHeartbeats 4000000
namespace Fx
open PySem PyProof.Rows Srt
section
variable {prog : Program} {w : World} {A : Around} {E : Value → Shared → Prop} {s : Shared}
end
end Fx
namespace SrtO
open PySem PyProof.Rows Srt
section
variable {prog : Program} {w : World} {A : Around} {E : Value → Shared → Prop} {s : Shared}
end
end SrtO
namespace L2
open PySem PySem.Spec PyProof.Rows
end L2
set_option Elab.async false
set_option linter.all false
set_option maxRecDepth 100000
set_option maxHeartbeats 4000000
namespace Fx
open PySem L2
section
variable {c : Cf} {G H : Hp}
theorem oprL1 {vs : List V} {d : D} (h : OprL c G H vs [d]) : ∃ v, vs = [v] ∧ Opr c G H v d := by
  cases h with
  | cons a t => cases t; exact ⟨_, rfl, a⟩
theorem semInt : SemC c (fun xs H Q => (∃ i, xs = [.int i] ∧ Q (.int i) H) ∨ ∃ k, xs = [.bl k] ∧ Q (.int (if k then 1 else 0)) H) sInt := fun G H vs ds d Q s a e k => by
  match ds, e with
  | [.int i], e =>
    cases e
    obtain ⟨v, rfl, o⟩ := oprL1 a
    exact .inl ⟨i, by rw [o.int], k.flat s (.int _)⟩
  | [.bl i], e =>
    cases e
    obtain ⟨v, rfl, o⟩ := oprL1 a
    exact .inr ⟨i, by rw [o.bl], k.flat s (.int _)⟩
theorem repL1 {vs : List V} {d : D} (h : RepL c G vs [d]) : ∃ v, vs = [v] ∧ Rep c G v d := by
  cases h with
  | cons a t => cases t; exact ⟨_, rfl, a⟩
end
section
variable {c : Cf} {B : List (Nat × Addr)} {W : WX} {X : Cx}
def mMethWR (sem : D → List D → Option (D × D)) (i : Nat) (fs : List (M D)) : M D := (ownAt i).bind fun d0 => if isLst d0 = true then (seqM fs).bind fun ds => (ownAt i).bind fun d => (M.lift (sem d ds)).bind fun r => (setOwn i r.2).bind fun _ => M.pure r.1 else M.stuck
end
end Fx
set_option Elab.async false
set_option linter.all false
set_option maxRecDepth 100000
set_option maxHeartbeats 4000000
namespace PySem
open Sem (wp)
open AutoSeq1 (wpAny_loadPart')
theorem fx_enum_new {v : Value} {o : Obj} {H : Heap → Prop} (B : Begins v o H) :
    Meets (Builtin.«enumerate.__new__» ⟨[.type "enumerate", v], []⟩) (fun _ R s => H s.heap ∧
      R (.ok (.ret (.ref (s.heap.push o).objs.size))) { s with heap := (s.heap.push o).push { cls := .type "enumerate", data := .fields #[.none, .bool false, .ref s.heap.objs.size, rawInt 0, .none, .none] } }) :=
  .of_wp fun prog w A R s h => by
    obtain ⟨hp, g, d, tk, os⟩ := s; obtain ⟨h1, h⟩ := h
    have hsub := sub_enumerate
    have q1 : ∀ {A' : Around} {E : Value → Shared → Prop} {Q : Value → Shared → Prop}, Q (.ref hp.objs.size) ⟨hp.push o, g, d, tk, os⟩ → wpAny (model prog w) A' (pyIter v) Q E ⟨hp, g, d, tk, os⟩ :=
      fun q => B.iter prog w _ _ ⟨hp, g, d, tk, os⟩ _ h1 q
    wp_walk using q1
    refine wpAny_stack_any fun st => wpAny_pure ?_
    split
    · rename_i c _ _ _ _ _
      cases (c == Value.type "enumerate")
      · wp_walk using q1
        exact ⟨_, rfl, h⟩
      · wp_walk using q1
        exact ⟨_, rfl, h⟩
    · wp_walk using q1
      exact ⟨_, rfl, h⟩
section
variable {prog : Program} {w : World} {A : Around} {E : Value → Shared → Prop} {s : Shared}
theorem fx_enum_begins {v : Value} {o : Obj} {H : Heap → Prop} {Q : Value → Shared → Prop} (B : Begins v o H) (h1 : H s.heap)
    (h : ∀ h', IsEnum h' (s.heap.objs.size + 1) s.heap.objs.size 0 .none → h'.get? s.heap.objs.size = some o → h'.objs.size = s.heap.objs.size + 2 →
      (∀ b o, s.heap.get? b = some o → h'.get? b = some o) → Q (.ref (s.heap.objs.size + 1)) { s with heap := h' }) :
    wpAny (model prog w) A (call (.type "enumerate") [v]) Q E s := by
  refine callType_new F.called_enumerate (by decide) (F.typeCall_enumerate_1 _) (F.newCall_enumerate_1 _) (fun obj => F.args_object_init_2 obj _) F.entry_enumerate_new
    (fx_enum_new B) ⟨h1, ?_⟩
  have hz : (s.heap.push o).objs.size = s.heap.objs.size + 1 := Heap.size_push ..
  show _ ∧ _
  rw [hz]
  have he : IsEnum ((s.heap.push o).push { cls := .type "enumerate", data := .fields #[.none, .bool false, .ref s.heap.objs.size, rawInt 0, .none, .none] }) (s.heap.objs.size + 1) s.heap.objs.size 0 .none := by
    have := Heap.get?_push_size (s.heap.push o) (o := { cls := .type "enumerate", data := .fields #[.none, .bool false, .ref s.heap.objs.size, rawInt 0, .none, .none] }) rfl
    rw [hz] at this; exact this
  refine ⟨⟨_, he, rfl⟩, h _ he (Heap.get?_push_of_some _ (Heap.get?_push_size _ B.free)) (by rw [Heap.size_push, hz]) fun b o x => Heap.get?_push_of_some _ (Heap.get?_push_of_some _ x)⟩
theorem fx_enum_end {e it l : Addr} {i : Nat} {items : Array Value} {old : Value} {Q : Option Value → Shared → Prop} (hh : A.in1.handled = none)
    (he : IsEnum s.heap e it i old) (hit : s.heap.IsTupleIter it l i) (hl : s.heap.IsTuple l items) (hx : items[i]? = none)
    (hQ : ∀ h', Heap.ExtBut it s.heap h' → Q none { s with heap := h' }) : wpAny (model prog w) A (pyNext (.ref e)) Q E s := by
  have hT : s.TypeIs (.ref e) "enumerate" := ⟨_, he, rfl⟩
  unfold pyNext
  refine wpAny_bind (wpAny_attempt (wpAny_callSpecial?_slot (name := Str.ofString "__next__") hT F.slot_enumerate_next
    (wpAny_call_entry F.slot_enumerate_next hT F.entry_enumerate_next ?_ (F.args_enumerate_next_1 _))))
  show wpAny _ _ (field (.ref e) 2 >>= _) _ _ _
  refine wpAny_bind (wpAny_field he rfl (x := .ref it) rfl ?_)
  refine wpAny_bind (wpAny_nextOf_tuple_end hh hit hl hx fun h' x he' hx' => ?_)
  obtain ⟨o, ho, hc⟩ := hx'
  refine wpAny_bind (wpAny_isInstance (T := "StopIteration") (b := true) ⟨o, ho, hc⟩ isSubtype_stop ?_)
  exact wpAny_pure (hQ _ he')
end
end PySem
namespace Fx
open PySem PySem.Spec PyProof.Rows L2
def Iet (K : PySem.W.Frag) (a : Addr) : It :=
  ⟨fun i H => ∃ (xs : List V) (x : V), SqT K H a xs ∧ xs[i]? = some x, fun i H v H' => ∃ T x, v = .ref T ∧ H T = none ∧ H' = upd H T (.tup [.int (i : Nat), x]) ∧ ∀ xs, SqT K H a xs → xs[i]? = some x, fun i H => ∃ xs : List V, SqT K H a xs ∧ xs.length ≤ i⟩
theorem turn_enumT {P : Program} {w : World} {K : PySem.W.Frag} {elts : List Expr} {kk : Nat} {tpos : Pos} (a e it : Addr) :
    Turn P w K (.Tuple elts kk tpos) (Iet K a) [e, it] e (fun i h => (∃ old, IsEnum h e it ((i : Nat) : Int) old) ∧ h.IsTupleIter it a i ∧ e ≠ it ∧ a ≠ it ∧ e ≠ a) where
  mem := by simp
  obj := fun i h st b hb => by
    obtain ⟨⟨old, he⟩, ⟨o, ho, hc, hd⟩, _⟩ := st
    have e' : b = e ∨ b = it := by simpa using hb
    rcases e' with z | z
    · rw [z]; exact ⟨_, he, fun v q => nomatch q⟩
    · rw [z]; exact ⟨o, ho, fun v q => by rw [hd] at q; cases q⟩
  keep := fun i h h' st k => let ⟨⟨old, he⟩, hi, hne⟩ := st; ⟨⟨old, k e (by simp) _ he⟩, hi.at fun o q => k it (by simp) o q, hne⟩
  item := by
    intro X hP hw hK hc i pins s σ H E I hf st hg
    subst hP hw hK
    obtain ⟨⟨old, he⟩, hit, hne, hai, hea⟩ := st
    obtain ⟨xs, x, hq, hx⟩ := hg
    obtain ⟨its, rv, p, hz⟩ := I.tuple hq
    obtain ⟨u, hu, ru⟩ := rv.get hx
    have hel : e < s.heap.objs.size := Heap.lt_size he
    have hil : it < s.heap.objs.size := by obtain ⟨_, q, _⟩ := hit; exact Heap.lt_size q
    have hlen : i < its.toArray.size := by
      have := (List.getElem?_eq_some_iff.mp hu).1
      rw [List.size_toArray]; exact this
    have hh : X.A.in1.handled = none := I.ok.hd hc
    refine wpAny_pyNext_enum_itemD (Draws.tuple hh it a hai its.toArray) he ⟨hit, p⟩ hlen hne (by simp [hne, hea]) fun y h' tk hy ho st' hT hsz hk => ?_
    have ey : y = u := by
      have : its.toArray[i]? = some y := hy
      have h2 : its[i]? = some y := by simpa using this
      rw [hu] at h2; exact (Option.some.inj h2).symm
    subst ey
    refine ⟨_, rfl, wpAny_letOwnedTupleGo_enum (s := { s with heap := h', toks := tk + 1 }) ho fun h'' he' sb => ?_⟩
    have hT2 : h''.get? s.heap.objs.size = some { cls := .type "tuple", data := .seq #[.int i tk, y] } := (sb.2 _ (Nat.ne_of_gt hel)).trans hT
    have new : ObjOk X.prog X.w (upd H s.heap.objs.size (.tup [.int (i : Nat), x])) h'' s.heap.objs.size (.tup [.int (i : Nat), x]) :=
      ⟨by show 2 ≤ sizeLine; decide, [.int i tk, y], .cons ⟨_, rfl⟩ (.cons ru .nil), ⟨_, hT2, rfl, _, rfl⟩⟩
    have I1 : Inv X pins σ (upd H s.heap.objs.size (.tup [.int (i : Nat), x])) { s with heap := h'', toks := tk + 1 } :=
      I.turnedNew (ch := [e, it]) (fun b ob hb q => (sb.2 b (fun z => hb (by simp [z]))).trans (hk b ob (fun z => hb (by simp [z])) (fun z => hb (by simp [z])) q)) hf (Nat.le_refl _) new
    refine ⟨.ref s.heap.objs.size, _, I1, rfl, ⟨_, x, rfl, I.hok.fresh (Nat.le_refl _), rfl, fun ys hy => by rw [I.tuple_inj hy hq]; exact hx⟩, ⟨⟨y, ?_⟩, st'.1.at fun o q => (sb.2 it (Ne.symm hne)).trans q, hne, hai, hea⟩, fun b hb => ?_⟩
    · have e1 : ((i + 1 : Nat) : Int) = (i : Int) + 1 := by omega
      rw [e1]; exact he'
    · have hb' : b < s.heap.objs.size := by
        have e' : b = e ∨ b = it := by simpa using hb
        rcases e' with z | z
        · rw [z]; exact hel
        · rw [z]; exact hil
      rw [upd_ne (Nat.ne_of_lt hb')]
      exact (hf b hb).1
  done := by
    intro X hP hw hK hc i pins s σ H E I hf st hg
    subst hP hw hK
    obtain ⟨⟨old, he⟩, hit, hne, hai, hea⟩ := st
    obtain ⟨xs, hq, hx⟩ := hg
    obtain ⟨its, rv, p, hz⟩ := I.tuple hq
    obtain ⟨f0, f1, f2, f3, f4, f5⟩ := hf it (by simp)
    have hl := rv.length
    have hh : X.A.in1.handled = none := I.ok.hd hc
    exact fx_enum_end hh he hit p (by simp; omega) fun h' eb => ⟨rfl, I.turned (t' := s.toks) (fun b o hb q => eb b o hb q) f0 f1 f3 f4 f5⟩
  self := fun A i s Q E st h => let ⟨⟨_, he⟩, _⟩ := st; wpAny_pyIter_enum he h
section
variable {X : Cx} {tg : Expr}
/-- enumerate of a list or of a tuple -/
def iEnumS (K : PySem.W.Frag) (ta : TA) : TI := fun σ H R => ta σ H fun vs H1 => ∃ a xs, vs = [.ref a] ∧ ((SqL K H1 a xs ∧ R (Ite K a) H1) ∨ (SqT K H1 a xs ∧ R (Iet K a) H1))
theorem pi_enumS {e : Expr} {ta : TA} {p pos tpos : Pos} {elts : List Expr} {kk : Nat} (hg : Gl X "enumerate") (hm : X.mg "enumerate" = none) (ha : PA X [e] ta) (hs : starEach [e] X.env = [(false, eval e X.env)] := by rfl) :
    PI X (.Tuple elts kk tpos) (.Call (.Name "enumerate" p) [e] [] pos) (iEnumS X.K ta) := by
  refine ⟨fun pins s σ H R I h => ?_⟩
  refine Call_ (ld_blt I hg hm boot_enumerate (PyProof.Rows.callWith_type1 (thn (ha.run pos pins s σ H _ I h) fun us s1 ⟨vs, H1, I1, r1, q1⟩ => ?_) hs rfl))
  obtain ⟨a, xs, ex, q⟩ := q1
  subst ex
  cases r1 with
  | cons r rr =>
    cases rr
    cases r
    rcases q with ⟨hq, q⟩ | ⟨hq, q⟩
    · obtain ⟨its, rv, p', hz⟩ := I1.list hq
      refine call_enumerate_list p'.isList fun h' he hit hsz hk => wpAny_pyIter_enum he ?_
      have I2 : Inv X pins σ H1 { s1 with heap := h' } := I1.kept (t' := s1.toks) hk
      refine ⟨s1.heap.objs.size + 1, [s1.heap.objs.size + 1, s1.heap.objs.size], _, _, H1, rfl, I2, turn_enum a (s1.heap.objs.size + 1) s1.heap.objs.size, ⟨⟨.none, he⟩, hit, Nat.succ_ne_self _⟩, fun b hb => ?_, q⟩
      have e' : b = s1.heap.objs.size + 1 ∨ b = s1.heap.objs.size := by simpa using hb
      have hle : s1.heap.objs.size ≤ b := by
        rcases e' with z | z
        · rw [z]; exact Nat.le_add_right _ _
        · rw [z]; exact Nat.le_refl _
      exact I1.fpOk hle (I1.hok.fresh hle)
    · obtain ⟨its, rv, p', hz⟩ := I1.tuple hq
      refine fx_enum_begins (begins_tuple a its.toArray) p' fun h' he hit hsz hk => wpAny_pyIter_enum he ?_
      have I2 : Inv X pins σ H1 { s1 with heap := h' } := I1.kept (t' := s1.toks) hk
      have hal : a < s1.heap.objs.size := p'.lt
      refine ⟨s1.heap.objs.size + 1, [s1.heap.objs.size + 1, s1.heap.objs.size], _, _, H1, rfl, I2, turn_enumT a (s1.heap.objs.size + 1) s1.heap.objs.size, ⟨⟨.none, he⟩, ⟨_, hit, rfl, rfl⟩, Nat.succ_ne_self _, Nat.ne_of_lt hal, Ne.symm (Nat.ne_of_lt (Nat.lt_succ_of_lt hal))⟩, fun b hb => ?_, q⟩
      have e' : b = s1.heap.objs.size + 1 ∨ b = s1.heap.objs.size := by simpa using hb
      have hle : s1.heap.objs.size ≤ b := by
        rcases e' with z | z
        · rw [z]; exact Nat.le_add_right _ _
        · rw [z]; exact Nat.le_refl _
      exact I1.fpOk hle (I1.hok.fresh hle)
/-- a list or a tuple, walked -/
def iSeq (K : PySem.W.Frag) (tl : TE) : TI := fun σ H R => tl σ H fun x H1 => ∃ a xs, x = .ref a ∧ ((SqL K H1 a xs ∧ R (Itl K a) H1) ∨ (SqT K H1 a xs ∧ R (Itt K a) H1))
theorem pi_seq {l : Expr} {tl : TE} (hl : PE X l tl) : PI X tg l (iSeq X.K tl) := by
  refine ⟨fun pins s σ H R I h => ?_⟩
  refine thn (hl.run pins s σ H _ I h) fun v s1 ⟨x, H1, I1, r1, q1⟩ => ?_
  obtain ⟨a, xs, e, q⟩ := q1
  subst e
  cases r1
  rcases q with ⟨hq, q⟩ | ⟨hq, q⟩
  · obtain ⟨its, rv, p, hz⟩ := I1.list hq
    refine wpAny_pyIter_list p.isList ?_
    refine ⟨s1.heap.objs.size, [s1.heap.objs.size], _, _, H1, rfl, I1.kept (t' := s1.toks) fun b o e => Heap.get?_push_of_some _ e, turn_list a _, ⟨_, Heap.get?_push_size _ rfl, rfl, rfl⟩, fun b hb => ?_, q⟩
    have e : b = s1.heap.objs.size := by simpa using hb
    subst e
    exact I1.fpOk (Nat.le_refl _) (I1.hok.fresh (Nat.le_refl _))
  · obtain ⟨its, rv, p, hz⟩ := I1.tuple hq
    refine wpAny_pyIter_tuple (show s1.heap.IsTuple a its.toArray from p) ?_
    refine ⟨s1.heap.objs.size, [s1.heap.objs.size], _, _, H1, rfl, I1.kept (t' := s1.toks) fun b o e => Heap.get?_push_of_some _ e, turn_tuple a _, ⟨_, Heap.get?_push_size _ rfl, rfl, rfl⟩, fun b hb => ?_, q⟩
    have e : b = s1.heap.objs.size := by simpa using hb
    subst e
    exact I1.fpOk (Nat.le_refl _) (I1.hok.fresh (Nat.le_refl _))
end
end Fx
set_option Elab.async false
set_option linter.all false
set_option maxRecDepth 100000
set_option maxHeartbeats 4000000
namespace Fx
open PySem L2
/-- a step of statements: A what is owned ahead, A' behind -/
structure Stp (G : Hp) (A : Addr → Prop) (H G' : Hp) (A' : Addr → Prop) (H' : Hp) : Prop where
  gg : Same G G'
  kp : Keep A G H G' H'
  aa : ∀ b, A' b → A b ∨ H b = none
section
variable {G G1 G2 H H1 H2 : Hp} {A A1 A2 : Addr → Prop}
theorem Stp.refl : Stp G A H G A H := ⟨Same.refl _, Keep.refl _ _, fun _ h => .inl h⟩
theorem Stp.trans (a : Stp G A H G1 A1 H1) (b : Stp G1 A1 H1 G2 A2 H2) (hA : ∀ b, A b → ∃ o, H b = some o) : Stp G A H G2 A2 H2 where
  gg := a.gg.trans b.gg
  kp := fun x o h n => by
    have h1 := a.kp x o h n
    have h2 := b.kp x o h1.1 fun z => (a.aa x z).elim n fun w => by rw [w] at h; cases h
    exact ⟨h2.1, h2.2.trans h1.2⟩
  aa := fun x h => (b.aa x h).elim (a.aa x) fun w => by
    by_cases n : A x
    · exact .inl n
    · refine .inr ?_
      cases q : H x with
      | none => rfl
      | some o => have := (a.kp x o q n).1; rw [w] at this; cases this
theorem Stp.same (s : Same G G1) (k : Keep A G H G1 H1) : Stp G A H G1 A H1 := ⟨s, k, fun _ h => .inl h⟩
end
def AfterS (c : Cf) (B : List (Nat × Addr)) (W : WX) (G : Hp) (A : Addr → Prop) (H : Hp) (o : OutS) (D : Ends) : Prop := match o with
  | .stuck => False
  | .next ρ' => ∀ G' A' H' σ', Stp G A H G' A' H' → Rel c B G' A' H' σ' ρ' → D.nx σ' H'
  | .ret d ρ' => ∀ G' A' H' σ' v, Stp G A H G' A' H' → Rel c B G' A' H' σ' ρ' → Rep c G' v d → D.rt v H'
  | .brk ρ' => ∀ G' A' H' σ', Stp G A H G' A' H' → Rel c B G' A' H' σ' ρ' → D.bk σ' H'
  | .cont ρ' => ∀ G' A' H' σ', Stp G A H G' A' H' → Rel c B G' A' H' σ' ρ' → D.ct σ' H'
  | .exc x ρ' => ∀ G' A' H' σ' dd, Stp G A H G' A' H' → Rel c B G' A' H' σ' ρ' → ExcAt c G' x dd → W (.ref (c.exc x.c)) (some dd) σ' H'
def tS (c : Cf) (B : List (Nat × Addr)) (W : WX) (m : MS) : TS := fun D σ H => ∃ G A ρ, Rel c B G A H σ ρ ∧ AfterS c B W G A H (m ρ) D
section
variable {c : Cf} {B : List (Nat × Addr)} {W : WX} {X : Cx} {G H : Hp} {A : Addr → Prop} {σ : L2.St} {ρ : Cells} {Z : Ends}
theorem Rel.own_there (R : Rel c B G A H σ ρ) : ∀ b, A b → ∃ o, H b = some o := fun b h => (R.ownA b h).2
theorem AfterS.of {o : OutS} {G' H' : Hp} {A' : Addr → Prop} (hA : ∀ b, A b → ∃ o, H b = some o) (s : Stp G A H G' A' H') (h : AfterS c B W G A H o Z) : AfterS c B W G' A' H' o Z := by
  cases o with
  | stuck => exact h
  | next ρ' => exact fun G2 A2 H2 σ2 s2 R => h G2 A2 H2 σ2 (s.trans s2 hA) R
  | ret d ρ' => exact fun G2 A2 H2 σ2 v s2 R r => h G2 A2 H2 σ2 v (s.trans s2 hA) R r
  | brk ρ' => exact fun G2 A2 H2 σ2 s2 R => h G2 A2 H2 σ2 (s.trans s2 hA) R
  | cont ρ' => exact fun G2 A2 H2 σ2 s2 R => h G2 A2 H2 σ2 (s.trans s2 hA) R
  | exc x ρ' => exact fun G2 A2 H2 σ2 dd s2 R r => h G2 A2 H2 σ2 dd (s.trans s2 hA) R r
theorem AfterS.nx (h : AfterS c B W G A H (.next ρ) Z) (R : Rel c B G A H σ ρ) : Z.nx σ H := h G A H σ Stp.refl R
/-- an expression's outcome inside a statement -/
def mDo {α : Type} (f : M α) (k : α → MS) : MS := fun ρ => match f ρ with
  | .stuck => .stuck
  | .ok a ρ' => k a ρ'
  | .exc x ρ' => .exc x ρ'
theorem AfterS.split {α : Type} {f : M α} {k : α → MS} (h : AfterS c B W G A H (mDo f k ρ) Z) (R : Rel c B G A H σ ρ) : After c B W G A H σ (f ρ) fun a ρ' G' H' => AfterS c B W G' A H' (k a ρ') Z := by
  unfold mDo at h
  cases e : f ρ with
  | stuck => rw [e] at h; exact h
  | ok a ρ' =>
    rw [e] at h
    exact fun G' H' s kk R' => AfterS.of R.own_there (Stp.same s kk) h
  | exc x ρ' =>
    rw [e] at h
    exact fun G' H' dd s kk R' r => h G' A H' σ dd (Stp.same s kk) R' r

def mSkip : MS := fun ρ => .next ρ
def mSeq (m n : MS) : MS := fun ρ => match m ρ with
  | .next ρ' => n ρ'
  | o => o
theorem pss_nilM : PSs X [] (tS c B W mSkip) := pss_imp pss_nil fun D σ H ⟨G, A, ρ, R, a⟩ => a.nx R
theorem AfterS.seq {m n : MS} (h : AfterS c B W G A H (mSeq m n ρ) Z) (R : Rel c B G A H σ ρ) : AfterS c B W G A H (m ρ) { Z with nx := tS c B W n Z } := by
  unfold mSeq at h
  cases e : m ρ with
  | next ρ' =>
    rw [e] at h
    exact fun G' A' H' σ' s R' => ⟨G', A', ρ', R', AfterS.of R.own_there s h⟩
  | stuck => rw [e] at h; exact h
  | ret d ρ' => rw [e] at h; exact h
  | brk ρ' => rw [e] at h; exact h
  | cont ρ' => rw [e] at h; exact h
  | exc x ρ' => rw [e] at h; exact h
theorem pss_consM {st : Stmt} {rest : List Stmt} {m n : MS} (h1 : PS X st (tS c B W m)) (h2 : PSs X rest (tS c B W n)) : PSs X (st :: rest) (tS c B W (mSeq m n)) :=
  pss_imp (pss_cons h1 h2) fun D σ H ⟨G, A, ρ, R, a⟩ => ⟨G, A, ρ, R, a.seq R⟩
theorem pss_oneM {st : Stmt} {m : MS} (h1 : PS X st (tS c B W m)) : PSs X [st] (tS c B W m) := pss_one h1

def mRet (f : M D) : MS := mDo f fun d ρ => .ret d ρ
theorem ps_retM {e : Expr} {f : M D} {pos : Pos} (he : PE X e (tM c B W f)) : PS X (.Return (some e) pos) (tS c B W (mRet f)) :=
  ps_imp (ps_ret he) fun D σ H ⟨G, A, ρ, R, a⟩ => ⟨G, A, ρ, R, (a.split R).imp fun d ρ' G' H' _ _ R' q v r => q G' A H' σ v Stp.refl R' r⟩
def mRetN : MS := fun ρ => .ret .non ρ
def mExpr (f : M D) : MS := mDo f fun _ ρ => .next ρ
def mIfS (b : M Bool) (m n : MS) : MS := mDo b fun b ρ => if b = true then m ρ else n ρ
theorem ps_ifM {t : Expr} {a b : List Stmt} {pos : Pos} {f : M Bool} {m n : MS} (ht : PT X t (tT c B W f)) (ha : PSs X a (tS c B W m)) (hb : PSs X b (tS c B W n)) : PS X (.If t a b pos) (tS c B W (mIfS f m n)) :=
  ps_imp (ps_if ht ha hb) fun D σ H ⟨G, A, ρ, R, a⟩ => by
    refine ⟨G, A, ρ, R, (a.split R).imp fun x ρ' G' H' _ _ R' q => ite_prop (fun e => ?_) (fun e => ?_)⟩
    · rw [if_pos e] at q; exact ⟨G', A, ρ', R', q⟩
    · rw [if_neg (by rw [e]; exact Bool.false_ne_true)] at q; exact ⟨G', A, ρ', R', q⟩

/-- a slot is filled with data -/
theorem Rel.setDat (R : Rel c B G A H σ ρ) {i : Nat} {d : D} {v : V} (r : Rep c G v d) (hb : B.all (fun q => q.1 != i) = true) : Rel c B G A H (σ.set i (some v)) (ρ.set i (.dat d)) := by
  refine ⟨R.same, by rw [List.length_set, List.length_set]; exact R.len, R.ownA, fun j x h => ?_, fun j x h => ?_, fun j k x y q hjk h1 h2 h3 h4 => ?_, fun q hq => ?_⟩
  · by_cases z : j = i
    · subst z
      have hi : j < ρ.length := by
        have := (List.getElem?_eq_some_iff.mp h).1
        rwa [List.length_set] at this
      rw [List.getElem?_set_self hi] at h; cases h
      exact ⟨v, by rw [List.getElem?_set_self (by rw [R.len]; exact hi)], r⟩
    · rw [List.getElem?_set_ne (Ne.symm z)] at h
      obtain ⟨w, h1, h2⟩ := R.dat j x h
      exact ⟨w, by rw [List.getElem?_set_ne (Ne.symm z)]; exact h1, h2⟩
  · by_cases z : j = i
    · subst z
      have hi : j < ρ.length := by
        have := (List.getElem?_eq_some_iff.mp h).1
        rwa [List.length_set] at this
      rw [List.getElem?_set_self hi] at h; cases h
    · rw [List.getElem?_set_ne (Ne.symm z)] at h
      obtain ⟨p, h1, h2, h3⟩ := R.own j x h
      exact ⟨p, by rw [List.getElem?_set_ne (Ne.symm z)]; exact h1, h2, h3⟩
  · have g : ∀ (j : Nat) (x : D), (ρ.set i (.dat d))[j]? = some (.own x) → j ≠ i ∧ ρ[j]? = some (.own x) := fun j x h => by
      by_cases z : j = i
      · subst z
        have hi : j < ρ.length := by
          have := (List.getElem?_eq_some_iff.mp h).1
          rwa [List.length_set] at this
        rw [List.getElem?_set_self hi] at h; cases h
      · rw [List.getElem?_set_ne (Ne.symm z)] at h; exact ⟨z, h⟩
    obtain ⟨n1, h1'⟩ := g j x h1
    obtain ⟨n2, h2'⟩ := g k y h2
    rw [List.getElem?_set_ne (Ne.symm n1)] at h3
    rw [List.getElem?_set_ne (Ne.symm n2)] at h4
    exact R.dis j k x y q hjk h1' h2' h3 h4
  · obtain ⟨h1, h2, x, h3⟩ := R.byr q hq
    have z : q.1 ≠ i := by
      have := List.all_eq_true.mp hb q hq
      simpa using this
    exact ⟨by rw [List.getElem?_set_ne (Ne.symm z)]; exact h1, h2, x, by rw [List.getElem?_set_ne (Ne.symm z)]; exact h3⟩
/-- what a target does with data -/
abbrev TgM := D → Cells → Option Cells
/-- only the slots ts have changed -/
def Only (ts : List Nat) (σ σ' : L2.St) : Prop := σ'.length = σ.length ∧ ∀ j, j ∉ ts → σ'[j]? = σ[j]?
/-- what stands for an item: data, or a pair that is about to be unpacked -/
abbrev VP := Cf → Hp → Hp → V → D → Prop
def vRep : VP := fun c G _ v d => Rep c G v d
def vAny : VP := fun c G H v d => Rep c G v d ∨ ∃ a xs es, v = .ref a ∧ SqT c.K H a xs ∧ d = .tup es ∧ RepL c G xs es
def tG (c : Cf) (B : List (Nat × Addr)) (P : VP) (ts : List Nat) (g : TgM) : TG := fun v σ H Q => ∃ G A ρ d ρ', Rel c B G A H σ ρ ∧ P c G H v d ∧ g d ρ = some ρ' ∧ ∀ σ', Rel c B G A H σ' ρ' → Only ts σ σ' → Q σ' H
def gNm (i : Nat) : TgM := fun d ρ => some (ρ.set i (.dat d))
theorem pg_nm (i : Nat) {x : Str} {pos : Pos} (hN : X.N.Nodup) (hb : B.all (fun q => q.1 != i) = true) (hi : X.N[i]? = some x := by rfl) (hx : Loc X.env.scope x := by first | exact Or.inl rfl | exact Or.inr rfl) (hf : X.fn x = true ∨ X.env.scope.names.lookup x = some .local := by first | exact .inl rfl | exact .inr rfl) : PG X (.Name x pos) (tG c B vRep [i] (gNm i)) :=
  pg_imp (pg_name hN hi hx hf) fun v σ H Q ⟨G, A, ρ, d, ρ', R, r, e, q⟩ => by
    cases e
    exact q _ (R.setDat r hb) ⟨List.length_set, fun j hj => List.getElem?_set_ne (fun z => hj (by simp [z]))⟩
/-- two or more names -/
def gNms : List Nat → List D → Cells → Option Cells
  | [], [], ρ => some ρ
  | i :: is, d :: ds, ρ => gNms is ds (ρ.set i (.dat d))
  | _, _, _ => none
def gTp (is : List Nat) : TgM := fun d ρ => match d with
  | .tup ds => gNms is ds ρ
  | _ => none
def tGs (c : Cf) (B : List (Nat × Addr)) (is : List Nat) : TGs := fun vs σ H Q => ∃ G A ρ ds ρ', Rel c B G A H σ ρ ∧ RepL c G vs ds ∧ gNms is ds ρ = some ρ' ∧ ∀ σ', Rel c B G A H σ' ρ' → Only is σ σ' → Q σ' H
theorem pgs_imp {es : List Expr} {t t' : TGs} (h : PGs X es t) (k : ∀ v σ H Q, t' v σ H Q → t v σ H Q) : PGs X es t' := ⟨fun pins s σ H v u Q I r q => h.run pins s σ H v u Q I r (k v σ H Q q)⟩
theorem pgs_nilM : PGs X [] (tGs c B []) := pgs_imp pgs_nil fun vs σ H Q ⟨G, A, ρ, ds, ρ', R, r, e, q⟩ => by
  cases r with
  | nil => cases e; exact ⟨rfl, q σ R ⟨rfl, fun _ _ => rfl⟩⟩
  | cons _ _ => cases e
theorem pgs_consM {e : Expr} {es : List Expr} {i : Nat} {is : List Nat} (h1 : PG X e (tG c B vRep [i] (gNm i))) (h2 : PGs X es (tGs c B is)) (hs : (assignEach (e :: es) X.env).map (·.2) = assign e X.env :: (assignEach es X.env).map (·.2) := by rfl) : PGs X (e :: es) (tGs c B (i :: is)) :=
  pgs_imp (pgs_cons h1 h2 hs) fun vs σ H Q ⟨G, A, ρ, ds, ρ', R, r, e, q⟩ => by
    cases r with
    | nil => cases e
    | cons h t => exact ⟨_, _, rfl, G, A, ρ, _, _, R, h, rfl, fun σ' R' o' => ⟨G, A, _, _, ρ', R', t, e, fun σ2 R2 o2 => q σ2 R2 ⟨o2.1.trans o'.1, fun j hj => (o2.2 j fun z => hj (List.mem_cons_of_mem _ z)).trans (o'.2 j fun z => hj (by simp at z; simp [z]))⟩⟩⟩
theorem gNms_len : ∀ {is : List Nat} {ds : List D} {ρ ρ' : Cells}, gNms is ds ρ = some ρ' → ds.length = is.length
  | [], [], _, _, _ => rfl
  | [], _ :: _, _, _, h => by cases h
  | _ :: _, [], _, _, h => by cases h
  | _ :: is, _ :: ds, _, _, h => by rw [List.length_cons, List.length_cons, gNms_len (is := is) (ds := ds) h]
theorem vAny.tup {G H : Hp} {v : V} {ds : List D} (s : Same G H) (h : vAny c G H v (.tup ds)) : ∃ a xs, v = .ref a ∧ SqT c.K H a xs ∧ RepL c G xs ds := by
  rcases h with h | ⟨a, xs, es, rfl, h1, h2, h3⟩
  · cases h with
    | tup e r => exact ⟨_, _, rfl, (e.mono s).sq, r⟩
  · cases h2; exact ⟨a, xs, rfl, h1, h3⟩
theorem pg_tpM {es : List Expr} {k : Nat} {pos : Pos} {is : List Nat} (hK : c.K = X.K) (hc : X.calm = true) (h : PGs X es (tGs c B is)) (hn : (assignEach es X.env).length = is.length := by rfl) (hst : (assignEach es X.env).findIdx? (·.1) = none := by rfl) : PG X (.Tuple es k pos) (tG c B vAny is (gTp is)) :=
  pg_imp (pg_tup hc h hn hst) fun v σ H Q ⟨G, A, ρ, d, ρ', R, r, e, q⟩ => by
    cases d <;> first | (cases e; done) | skip
    rename_i ds
    have e' : gNms is ds ρ = some ρ' := e
    obtain ⟨a, xs, rfl, h1, h2⟩ := vAny.tup R.same r
    exact ⟨a, xs, rfl, by rw [← hK]; exact h1, by rw [h2.length, gNms_len e'], G, A, ρ, ds, ρ', R, h2, e', q⟩
def mAsg (f : M D) (g : TgM) : MS := mDo f fun d ρ => match g d ρ with
  | some ρ' => .next ρ'
  | none => .stuck
theorem ps_asgM {tg e : Expr} {f : M D} {ts : List Nat} {g : TgM} {pos : Pos} (he : PE X e (tM c B W f)) (hg : PG X tg (tG c B vRep ts g)) (hs : swapsWithSole [tg] e pos.line X.env = pure false := by rfl) (hw : swappedStores [tg] e X.env = pure none := by rfl) (h1 : (assignEach [tg] X.env).map (·.2) = [assign tg X.env] := by rfl) :
    PS X (.Assign [tg] e pos) (tS c B W (mAsg f g)) :=
  ps_imp (ps_asg he hg hs hw h1) fun Z σ H ⟨G, A, ρ, R, a⟩ => by
    refine ⟨G, A, ρ, R, (a.split R).imp fun d ρ' G' H' _ _ R' q v r => ?_⟩
    cases e : g d ρ' with
    | none => rw [e] at q; exact q.elim
    | some ρ2 =>
      rw [e] at q
      exact ⟨G', A, ρ', d, ρ2, R', r, e, fun σ' R2 _ => q.nx R2⟩
def mNew (f : M D) (i : Nat) : MS := mDo f fun d ρ => .next (ρ.set i (.own d))
/-- what a slot owns is frozen -/
theorem Rel.freeze (R : Rel c B G A H σ ρ) {i : Nat} {d : D} {p : Addr} {u : HO} (e : ρ[i]? = some (.own d)) (es : σ[i]? = some (some (.ref p))) (hu : H p = some u) (hb : B.all (fun q => q.1 != i) = true) :
    Rel c B (upd G p u) (fun b => A b ∧ b ≠ p) H σ (ρ.set i (.dat d)) := by
  obtain ⟨p', es', hA, hO⟩ := R.own i d e
  rw [es] at es'; cases es'
  obtain ⟨gp, _⟩ := R.ownA p hA
  have gg : Same G (upd G p u) := same_upd gp
  have hi : i < ρ.length := (List.getElem?_eq_some_iff.mp e).1
  refine ⟨fun b w q => ?_, by rw [List.length_set]; exact R.len, fun b ⟨h1, h2⟩ => ?_, fun j x h => ?_, fun j x h => ?_, fun j k x y q hjk h1 h2 h3 h4 => ?_, fun q hq => ?_⟩
  · by_cases z : b = p
    · subst z; rw [upd_same] at q; cases q; exact hu
    · rw [upd_ne z] at q; exact R.same b w q
  · obtain ⟨h3, h4⟩ := R.ownA b h1
    exact ⟨by rw [upd_ne h2]; exact h3, h4⟩
  · by_cases z : j = i
    · subst z
      rw [List.getElem?_set_self hi] at h; cases h
      refine ⟨.ref p, es, ?_⟩
      have o' : Own c G ((upd G p u) p) d := by rw [upd_same, ← hu]; exact hO
      exact o'.rep gg
    · rw [List.getElem?_set_ne (Ne.symm z)] at h
      obtain ⟨w, h1, h2⟩ := R.dat j x h
      exact ⟨w, h1, h2.mono gg⟩
  · by_cases z : j = i
    · subst z; rw [List.getElem?_set_self hi] at h; cases h
    · rw [List.getElem?_set_ne (Ne.symm z)] at h
      obtain ⟨q, h1, h2, h3⟩ := R.own j x h
      exact ⟨q, h1, ⟨h2, fun w => R.dis j i x d p z h e (by rw [← w]; exact h1) es⟩, h3.mono gg⟩
  · have g : ∀ (j : Nat) (x : D), (ρ.set i (.dat d))[j]? = some (.own x) → ρ[j]? = some (.own x) := fun j x h => by
      by_cases z : j = i
      · subst z; rw [List.getElem?_set_self hi] at h; cases h
      · rw [List.getElem?_set_ne (Ne.symm z)] at h; exact h
    exact R.dis j k x y q hjk (g j x h1) (g k y h2) h3 h4
  · obtain ⟨h1, h2, x, h3⟩ := R.byr q hq
    have z : q.1 ≠ i := by
      have := List.all_eq_true.mp hb q hq
      simpa using this
    refine ⟨h1, ⟨h2, fun w => ?_⟩, x, by rw [List.getElem?_set_ne (Ne.symm z)]; exact h3⟩
    exact R.dis q.1 i x d p z h3 e (by rw [← w]; exact h1) es
def mFrz (i : Nat) (m : MS) : MS := fun ρ => match ρ[i]? with
  | some (.own d) => m (ρ.set i (.dat d))
  | _ => m ρ
theorem AfterS.frz {i : Nat} {m : MS} (R : Rel c B G A H σ ρ) (hb : B.all (fun q => q.1 != i) = true) (a : AfterS c B W G A H (mFrz i m ρ) Z) : ∃ G' A' ρ', Rel c B G' A' H σ ρ' ∧ AfterS c B W G' A' H (m ρ') Z := by
  unfold mFrz at a
  cases e : ρ[i]? with
  | none => rw [e] at a; exact ⟨G, A, ρ, R, a⟩
  | some cl =>
    rw [e] at a
    cases cl with
    | no => exact ⟨G, A, ρ, R, a⟩
    | dat d => exact ⟨G, A, ρ, R, a⟩
    | own d =>
      obtain ⟨p, es, hA, hO⟩ := R.own i d e
      obtain ⟨u, hu⟩ := hO.some
      have gp := (R.ownA p hA).1
      refine ⟨_, _, _, R.freeze e es hu hb, AfterS.of R.own_there ⟨same_upd gp, fun b o h n => ⟨h, upd_ne fun z => n (by rw [z]; exact hA)⟩, fun b h => .inl h.1⟩ a⟩
end
end Fx
set_option Elab.async false
set_option linter.all false
set_option maxRecDepth 100000
set_option maxHeartbeats 4000000
namespace Fx
open PySem L2
structure ItOk (c : Cf) (P : VP) (J : It) (ds : List D) (G : Hp) : Prop where
  len : ds.length ≤ sizeLine
  go : ∀ i H', i < ds.length → Same G H' → J.go i H'
  yld : ∀ i G' H' x H'', i < ds.length → Same G G' → Same G' H' → J.yld i H' x H'' → ∃ G'' d, ds[i]? = some d ∧ Ext G' H' G'' H'' ∧ P c G'' H'' x d
  stop : ∀ H', Same G H' → J.stop ds.length H'
def tI (c : Cf) (B : List (Nat × Addr)) (W : WX) (P : VP) (f : M (List D)) : TI := fun σ H R => ∃ G A ρ, Rel c B G A H σ ρ ∧ After c B W G A H σ (f ρ) fun ds _ G' H' => ∀ J, ItOk c P J ds G' → R J H'
/-- a value's list or tuple is not longer than the line -/
def LenOk (v : V) (H : Hp) : Prop := ∀ a xs, v = .ref a → (Rd H a (.lst xs) ∨ Rd H a (.tup xs)) → xs.length ≤ sizeLine
section
variable {c : Cf} {B : List (Nat × Addr)} {W : WX} {X : Cx} {G H : Hp} {A : Addr → Prop} {σ : L2.St} {ρ : Cells} {Z : Ends}
theorem lenOk_of {pins : List (Addr × Obj)} {s : Shared} (I : Inv X pins σ H s) (v : V) : LenOk v H := fun a xs _ h => by
  rcases h with h | h
  · have q := h.ok I.hok; exact q.1
  · have q := h.ok I.hok; exact q.1
theorem pe_len {e : Expr} {t : TE} (h : PE X e t) : PE X e (fun σ H Q => t σ H fun v H' => LenOk v H' → Q v H') :=
  ⟨fun pins s σ H Q I q => thn (h.run pins s σ H _ I q) fun u s1 ⟨v, H1, I1, r, k⟩ => ⟨v, H1, I1, r, k (lenOk_of I1 v)⟩⟩
theorem pa_len {es : List Expr} {t : TA} (h : PA X es t) : PA X es (fun σ H Q => t σ H fun vs H' => (∀ v ∈ vs, LenOk v H') → Q vs H') :=
  ⟨fun pos pins s σ H Q I q => thn (h.run pos pins s σ H _ I q) fun u s1 ⟨v, H1, I1, r, k⟩ => ⟨v, H1, I1, r, k fun w _ => lenOk_of I1 w⟩⟩

def mSeqI (f : M D) : M (List D) := f.bind fun d => M.lift (itemsOf d)
theorem rep_seq {v : V} {d : D} {ds : List D} (s : Same G H) (r : Rep c G v d) (h : itemsOf d = some ds) (lo : LenOk v H) :
    ∃ a us, v = .ref a ∧ RepL c G us ds ∧ us.length ≤ sizeLine ∧ (LsG c.K G a us ∨ TupAt c.K G a us) := by
  cases r <;> first | (cases h; done) | skip
  · rename_i a xs es e rl
    cases h
    refine ⟨a, xs, rfl, rl, ?_, .inr e⟩
    rcases e with ⟨o, e, _⟩ | ⟨o, its, n, h1, h2, h3, h4, h5, h6⟩
    · exact lo a xs rfl (.inr (.inr ⟨o, s _ _ e⟩))
    · have e6 : xs.length = its.size := by rw [h6.length]; exact Array.length_toList
      rw [e6]
      exact h5
  · rename_i a xs es e rl
    cases h
    refine ⟨a, xs, rfl, rl, ?_, .inl e⟩
    rcases e with e | ⟨its, n, h1, h2, h3⟩
    · exact lo a xs rfl (.inl (same_rd s e))
    · rw [h3.length]; exact h2
theorem itl_ok {K : PySem.W.Frag} {a : Addr} {us : List V} {ds : List D} (r : RepL c G us ds) (hl : us.length ≤ sizeLine) (hr : LsG K G a us) : ItOk c vRep (Itl K a) ds G where
  len := by rw [← r.length]; exact hl
  go := fun i H' hi s => by
    obtain ⟨v, h1, _⟩ := r.get (List.getElem?_eq_getElem hi)
    exact ⟨us, v, (hr.mono s).sq, h1⟩
  yld := fun i G' H' x H'' hi s1 s2 ⟨e, h⟩ => by
    have hx := h us (hr.mono (s1.trans s2)).sq
    obtain ⟨d, h1, h2⟩ := r.getV hx
    subst e
    exact ⟨G', d, h1, Ext.refl s2, h2.mono s1⟩
  stop := fun H' s => ⟨us, (hr.mono s).sq, by rw [r.length]; exact Nat.le_refl _⟩
theorem itt_ok {K : PySem.W.Frag} (hK : c.K = K) {a : Addr} {us : List V} {ds : List D} (r : RepL c G us ds) (hl : us.length ≤ sizeLine) (hr : TupAt K G a us) : ItOk c vRep (Itt K a) ds G where
  len := by rw [← r.length]; exact hl
  go := fun i H' hi s => by
    obtain ⟨v, h1, _⟩ := r.get (List.getElem?_eq_getElem hi)
    exact ⟨us, v, (hr.mono s).sq, h1⟩
  yld := fun i G' H' x H'' hi s1 s2 ⟨e, h⟩ => by
    have hx := h us ((hr.mono (s1.trans s2)).sq)
    obtain ⟨d, h1, h2⟩ := r.getV hx
    subst e
    exact ⟨G', d, h1, Ext.refl s2, h2.mono s1⟩
  stop := fun H' s => ⟨us, (hr.mono s).sq, by rw [r.length]; exact Nat.le_refl _⟩
theorem pi_seqM (hK : c.K = X.K) {tg l : Expr} {f : M D} (h : PE X l (tM c B W f)) : PI X tg l (tI c B W vRep (mSeqI f)) :=
  pi_imp (pi_seq (pe_len h)) fun σ H R ⟨G, A, ρ, Rl, a⟩ => by
    refine ⟨G, A, ρ, Rl, a.split.imp fun d ρ' G' H' _ _ R' q v r lo => ?_⟩
    obtain ⟨ds, e, k⟩ := q.lift R'
    obtain ⟨p, us, rfl, rl, hl, hr | hr⟩ := rep_seq R'.same r e lo
    · exact ⟨p, us, rfl, .inl ⟨by rw [← hK]; exact (hr.mono R'.same).sq, k _ (itl_ok rl hl (by rw [← hK]; exact hr))⟩⟩
    · exact ⟨p, us, rfl, .inr ⟨by rw [← hK]; exact (hr.mono R'.same).sq, k _ (itt_ok hK rl hl (by rw [← hK]; exact hr))⟩⟩
def enumD : Nat → List D → List D
  | _, [] => []
  | n, d :: ds => .tup [.int (n : Int), d] :: enumD (n + 1) ds
theorem enumD_len : ∀ (n : Nat) (ds : List D), (enumD n ds).length = ds.length
  | _, [] => rfl
  | n, d :: ds => by rw [enumD, List.length_cons, List.length_cons, enumD_len]
theorem enumD_get : ∀ (n i : Nat) (ds : List D) (d : D), ds[i]? = some d → (enumD n ds)[i]? = some (.tup [.int ((n + i : Nat) : Int), d])
  | n, 0, e :: ds, d, h => by simp at h; subst h; rfl
  | n, i + 1, e :: ds, d, h => by
    have := enumD_get (n + 1) i ds d (by simpa using h)
    rw [enumD, List.getElem?_cons_succ, this]
    congr 4
    omega
def mEnum (f : M D) : M (List D) := f.bind fun d => (M.lift (itemsOf d)).bind fun ds => M.pure (enumD 0 ds)
theorem enum_yld {G' H' H'' : Hp} {x y : V} {d : D} {i : Nat} {T : Addr} (s2 : Same G' H') (hT : H' T = none) (e : H'' = upd H' T (.tup [.int (i : Nat), y])) (ex : x = .ref T) (r : Rep c G' y d) :
    ∃ G'', Ext G' H' G'' H'' ∧ vAny c G'' H'' x (.tup [.int (i : Nat), d]) := by
  subst e ex
  refine ⟨G', Ext.updH s2 hT, .inr ⟨T, _, _, rfl, SqT.of upd_same, rfl, .cons (.int _) (.one r)⟩⟩
theorem ite_ok {K : PySem.W.Frag} (hK : c.K = K) {a : Addr} {us : List V} {ds : List D} (r : RepL c G us ds) (hl : us.length ≤ sizeLine) (hr : LsG K G a us) : ItOk c vAny (Ite K a) (enumD 0 ds) G where
  len := by rw [enumD_len, ← r.length]; exact hl
  go := fun i H' hi s => by
    rw [enumD_len] at hi
    obtain ⟨v, h1, _⟩ := r.get (List.getElem?_eq_getElem hi)
    exact ⟨us, v, (hr.mono s).sq, h1⟩
  yld := fun i G' H' x H'' hi s1 s2 ⟨T, y, ex, hT, e, h⟩ => by
    have hx := h us (hr.mono (s1.trans s2)).sq
    obtain ⟨d, h1, h2⟩ := r.getV hx
    obtain ⟨G'', q1, q2⟩ := enum_yld s2 hT e ex (h2.mono s1)
    exact ⟨G'', _, by rw [enumD_get 0 i ds d h1, Nat.zero_add], q1, q2⟩
  stop := fun H' s => ⟨us, (hr.mono s).sq, by rw [enumD_len, r.length]; exact Nat.le_refl _⟩
theorem iet_ok {K : PySem.W.Frag} (hK : c.K = K) {a : Addr} {us : List V} {ds : List D} (r : RepL c G us ds) (hl : us.length ≤ sizeLine) (hr : TupAt K G a us) : ItOk c vAny (Iet K a) (enumD 0 ds) G where
  len := by rw [enumD_len, ← r.length]; exact hl
  go := fun i H' hi s => by
    rw [enumD_len] at hi
    obtain ⟨v, h1, _⟩ := r.get (List.getElem?_eq_getElem hi)
    exact ⟨us, v, (hr.mono s).sq, h1⟩
  yld := fun i G' H' x H'' hi s1 s2 ⟨T, y, ex, hT, e, h⟩ => by
    have hx := h us ((hr.mono (s1.trans s2)).sq)
    obtain ⟨d, h1, h2⟩ := r.getV hx
    obtain ⟨G'', q1, q2⟩ := enum_yld s2 hT e ex (h2.mono s1)
    exact ⟨G'', _, by rw [enumD_get 0 i ds d h1, Nat.zero_add], q1, q2⟩
  stop := fun H' s => ⟨us, (hr.mono s).sq, by rw [enumD_len, r.length]; exact Nat.le_refl _⟩
theorem pi_enumM {e : Expr} {f : M D} {p pos tpos : Pos} {elts : List Expr} {kk : Nat} (hK : c.K = X.K) (hm : X.mg "enumerate" = none) (h : PE X e (tM c B W f)) (hg : Gl X "enumerate" := by rfl) (hs : starEach [e] X.env = [(false, eval e X.env)] := by rfl) :
    PI X (.Tuple elts kk tpos) (.Call (.Name "enumerate" p) [e] [] pos) (tI c B W vAny (mEnum f)) :=
  pi_imp (pi_enumS hg hm (pa_len (pd_cons h pd_nil (by rw [hs]; rfl))) hs) fun σ H R ⟨G, A, ρ, Rl, a⟩ => by
    refine ⟨G, A, ρ, Rl, ?_⟩
    have a' : After c B W G A H σ ((seqM [f]) ρ) fun ds _ G' H' => ∀ vs, RepL c G' vs ds → (∀ v ∈ vs, LenOk v H') → ∃ a xs, vs = [V.ref a] ∧ ((SqL X.K H' a xs ∧ R (Ite X.K a) H') ∨ (SqT X.K H' a xs ∧ R (Iet X.K a) H')) := by
      have b := (show After c B W G A H σ ((f.bind _) ρ) _ from a).split
      show After c B W G A H σ ((f.bind fun d => M.pure [d]) ρ) _
      unfold M.bind
      cases hf : f ρ with
      | stuck => rw [hf] at b; exact b
      | exc x r => rw [hf] at b; exact b
      | ok d ρ1 =>
        rw [hf] at b
        intro G' H' s k R1 vs rs lo
        have q := b G' H' s k R1
        have q2 := q.split
        obtain ⟨ds, ed, q3⟩ := q.liftB
        have q4 := After.ok q3 R1
        obtain ⟨v, rfl, r⟩ := repL1 rs
        obtain ⟨p, us, rfl, rl, hl, hr | hr⟩ := rep_seq R1.same r ed (lo v (by simp))
        · exact ⟨p, us, rfl, .inl ⟨by rw [← hK]; exact (hr.mono R1.same).sq, q4 _ (ite_ok hK rl hl (by rw [← hK]; exact hr))⟩⟩
        · exact ⟨p, us, rfl, .inr ⟨by rw [← hK]; exact (hr.mono R1.same).sq, q4 _ (iet_ok hK rl hl (by rw [← hK]; exact hr))⟩⟩
    exact a'
def rangeD (lo : Int) (n : Nat) : List D := (List.range n).map fun (k : Nat) => D.int (lo + (k : Int))
theorem rangeD_len (lo : Int) (n : Nat) : (rangeD lo n).length = n := by unfold rangeD; rw [List.length_map, List.length_range]
def mRange1 (f : M D) : M (List D) := f.bind fun d => match d with
  | .int j => if j ≤ 16777216 ∧ -16777216 ≤ j then M.pure (rangeD 0 j.toNat) else M.stuck
  | _ => M.stuck
theorem itr_ok {lo : Int} {n : Nat} (hn : n ≤ 16777216) : ItOk c vRep (Itr lo n) (rangeD lo n) G where
  len := by rw [rangeD_len, sl]; exact hn
  go := fun i H' hi s => by rw [rangeD_len] at hi; exact hi
  yld := fun i G' H' x H'' hi s1 s2 ⟨e, h⟩ => by
    rw [rangeD_len] at hi
    subst e h
    refine ⟨G', .int (lo + (i : Int)), ?_, Ext.refl s2, .int _⟩
    unfold rangeD
    rw [List.getElem?_map, List.getElem?_range hi]
    rfl
  stop := fun H' s => by show n ≤ (rangeD lo n).length; rw [rangeD_len]; exact Nat.le_refl _
theorem pi_range1M {tg e : Expr} {f : M D} {p pos : Pos} (hm : X.mg "range" = none) (h : PE X e (tM c B W f)) (hg : Gl X "range" := by rfl) (hs : starEach [e] X.env = [(false, eval e X.env)] := by rfl) :
    PI X tg (.Call (.Name "range" p) [e] [] pos) (tI c B W vRep (mRange1 f)) :=
  pi_imp (pi_range1 hg hm (pd_cons h pd_nil (by rw [hs]; rfl)) hs) fun σ H R ⟨G, A, ρ, Rl, a⟩ => by
    refine ⟨G, A, ρ, Rl, ?_⟩
    have b := (show After c B W G A H σ ((f.bind _) ρ) _ from a).split
    show After c B W G A H σ ((f.bind fun d => M.pure [d]) ρ) _
    unfold M.bind
    cases hf : f ρ with
    | stuck => rw [hf] at b; exact b
    | exc x r => rw [hf] at b; exact b
    | ok d ρ1 =>
      rw [hf] at b
      intro G' H' s k R1 vs rs
      have q := b G' H' s k R1
      cases d <;> first | exact q.elim | skip
      rename_i j
      obtain ⟨v, rfl, r⟩ := repL1 rs
      have q : After c B W G' A H' σ ((if j ≤ 16777216 ∧ -16777216 ≤ j then M.pure (rangeD 0 j.toNat) else M.stuck) ρ1) _ := q
      split at q
      · rename_i hj
        exact ⟨j, by rw [rep_int r], by omega, by omega, After.ok q R1 _ (itr_ok (by omega))⟩
      · exact q.elim

def loopM (g : TgM) (body : MS) : List D → MS
  | [], ρ => .next ρ
  | d :: ds, ρ => match g d ρ with
    | none => .stuck
    | some ρ1 => match body ρ1 with
      | .next ρ2 => loopM g body ds ρ2
      | .cont ρ2 => loopM g body ds ρ2
      | .brk ρ2 => .next ρ2
      | .stuck => .stuck
      | .ret d ρ2 => .ret d ρ2
      | .exc x ρ2 => .exc x ρ2
def mFor (fi : M (List D)) (g : TgM) (body : MS) : MS := mDo fi fun ds => loopM g body ds
theorem ps_forM {tg iter : Expr} {body : List Stmt} {fi : M (List D)} {P : VP} {ts : List Nat} {g : TgM} {m : MS} {pos : Pos} (hp : PassesOwn (model X.prog X.w) X.A X.env X.xe) (hc : X.calm = true) (hi : PI X tg iter (tI c B W P fi)) (hg : PG X tg (tG c B P ts g)) (hb : PSs X body (tS c B W m))
    (hs : ∀ x, foldedSetIterable iter X.env x = pure x := by intro _; rfl) : PS X (.For tg iter body [] pos) (tS c B W (mFor fi g m)) :=
  ps_imp (ps_for hp hc hi hg hb hs) fun Z σ H ⟨G, A, ρ, R, a⟩ => by
    refine ⟨G, A, ρ, R, (a.split R).imp fun ds ρ1 G1 H1 _ _ R1 a1 J ok => ?_⟩
    refine ⟨fun i n σ2 H2 => n = ds.length - i ∧ i ≤ ds.length ∧ ∃ G2 A2 ρ2, Same G1 G2 ∧ Rel c B G2 A2 H2 σ2 ρ2 ∧ AfterS c B W G2 A2 H2 (loopM g m (ds.drop i) ρ2) Z, ⟨_, rfl, Nat.zero_le _, G1, A, ρ1, Same.refl _, R1, a1⟩, ?_⟩
    rintro i n σ2 H2 ⟨rfl, hi, G2, A2, ρ2, s2, R2, a2⟩
    by_cases hlt : i < ds.length
    · refine .inr ⟨ok.go i H2 hlt (s2.trans R2.same), fun σ3 H3 => ∃ G3 A3 ρ3, Same G1 G3 ∧ Rel c B G3 A3 H3 σ3 ρ3 ∧ AfterS c B W G3 A3 H3 (loopM g m (ds.drop (i + 1)) ρ3) Z, fun σ3 H3 q => ⟨_, by omega, rfl, hlt, q⟩, fun x H3 hy => ?_⟩
      obtain ⟨G3, d, e1, x3, pr⟩ := ok.yld i G2 H2 x H3 hlt s2 R2.same hy
      have R3 := R2.ext x3
      have a3 := AfterS.of R2.own_there (Stp.same x3.gg x3.keep) a2
      have ed : ds.drop i = d :: ds.drop (i + 1) := by
        rw [List.drop_eq_getElem_cons hlt]
        congr 1
        rw [List.getElem?_eq_getElem hlt] at e1
        exact Option.some.inj e1
      rw [ed] at a3
      unfold loopM at a3
      cases eg : g d ρ2 with
      | none => rw [eg] at a3; exact a3.elim
      | some ρ3 =>
        rw [eg] at a3
        have a3 : AfterS c B W G3 A2 H3 (match m ρ3 with
          | .next ρ2 => loopM g m (ds.drop (i + 1)) ρ2
          | .cont ρ2 => loopM g m (ds.drop (i + 1)) ρ2
          | .brk ρ2 => .next ρ2
          | .stuck => .stuck
          | .ret d ρ2 => .ret d ρ2
          | .exc x ρ2 => .exc x ρ2) Z := a3
        refine ⟨G3, A2, ρ2, d, ρ3, R3, pr, eg, fun σ3 R4 _ => ⟨G3, A2, ρ3, R4, ?_⟩⟩
        have sG : Same G1 G3 := s2.trans x3.gg
        cases em : m ρ3 with
        | stuck => rw [em] at a3; exact a3.elim
        | next ρ4 => rw [em] at a3; exact fun G5 A5 H5 σ5 s5 R5 => ⟨G5, A5, ρ4, sG.trans s5.gg, R5, AfterS.of R4.own_there s5 a3⟩
        | cont ρ4 => rw [em] at a3; exact fun G5 A5 H5 σ5 s5 R5 => ⟨G5, A5, ρ4, sG.trans s5.gg, R5, AfterS.of R4.own_there s5 a3⟩
        | brk ρ4 => rw [em] at a3; exact fun G5 A5 H5 σ5 s5 R5 => a3 G5 A5 H5 σ5 s5 R5
        | ret d' ρ4 => rw [em] at a3; exact a3
        | exc x ρ4 => rw [em] at a3; exact a3
    · have ei : i = ds.length := by omega
      subst ei
      rw [List.drop_length] at a2
      exact .inl ⟨ok.stop H2 (s2.trans R2.same), a2.nx R2⟩
def whileM (t : M Bool) (body : MS) : Nat → MS
  | 0, _ => .stuck
  | n + 1, ρ => match t ρ with
    | .stuck => .stuck
    | .exc x ρ1 => .exc x ρ1
    | .ok b ρ1 => if b = true then (match body ρ1 with
      | .next ρ2 => whileM t body n ρ2
      | .cont ρ2 => whileM t body n ρ2
      | .brk ρ2 => .next ρ2
      | .stuck => .stuck
      | .ret d ρ2 => .ret d ρ2
      | .exc x ρ2 => .exc x ρ2) else .next ρ1
end
end Fx
set_option Elab.async false
set_option linter.all false
set_option maxRecDepth 100000
set_option maxHeartbeats 4000000
namespace Fx
open PySem L2
def wipeC (ρ : Cells) : List Nat → Cells
  | [] => ρ
  | v :: vs => (wipeC ρ vs).set v .no
def cellOr : Option Cell → Cell
  | some x => x
  | none => .no
def unwipe (ρ0 ρ : Cells) : List Nat → Cells
  | [] => ρ
  | v :: vs => (unwipe ρ0 ρ vs).set v (cellOr ρ0[v]?)
def isOwn : Option Cell → Bool
  | some (.own _) => true
  | _ => false
def lcM (g : TgM) (tt : M Bool) (fe : M D) (vs : List Nat) : List D → Cells → Option (List D × Cells)
  | [], ρ => some ([], ρ)
  | d :: ds, ρ => match g d (wipeC ρ vs) with
    | none => none
    | some ρ1 => match tt ρ1 with
      | .ok b ρ2 => if b = true then (match fe ρ2 with
        | .ok e ρ3 => (lcM g tt fe vs ds ρ3).map fun r => (e :: r.1, r.2)
        | _ => none) else lcM g tt fe vs ds ρ2
      | _ => none
def mLc (fi : M (List D)) (g : TgM) (tt : M Bool) (fe : M D) (vs : List Nat) : M D := fi.bind fun ds => fun ρ => if vs.all (fun v => !isOwn ρ[v]?) = true then (match lcM g tt fe vs ds ρ with
  | some (es, ρ') => .ok (.lst es) (unwipe ρ ρ' vs)
  | none => .stuck) else .stuck
theorem wipeC_len (ρ : Cells) : ∀ vs : List Nat, (wipeC ρ vs).length = ρ.length
  | [] => rfl
  | v :: vs => by unfold wipeC; rw [List.length_set, wipeC_len]
theorem unwipe_len (ρ0 ρ : Cells) : ∀ vs : List Nat, (unwipe ρ0 ρ vs).length = ρ.length
  | [] => rfl
  | v :: vs => by unfold unwipe; rw [List.length_set, unwipe_len]
theorem wipeC_out {ρ : Cells} {i : Nat} : ∀ {vs : List Nat}, i ∉ vs → (wipeC ρ vs)[i]? = ρ[i]?
  | [], _ => rfl
  | v :: vs, h => by
    simp only [List.mem_cons, not_or] at h
    unfold wipeC
    rw [List.getElem?_set_ne (Ne.symm h.1), wipeC_out h.2]
theorem wipeC_in {ρ : Cells} {i : Nat} : ∀ {vs : List Nat}, i ∈ vs → (wipeC ρ vs)[i]? = none ∨ (wipeC ρ vs)[i]? = some .no
  | v :: vs, h => by
    unfold wipeC
    by_cases z : v = i
    · subst z
      by_cases hl : v < (wipeC ρ vs).length
      · exact .inr (List.getElem?_set_self hl)
      · exact .inl (List.getElem?_eq_none (by rw [List.length_set]; omega))
    · rw [List.getElem?_set_ne z]
      rcases List.mem_cons.mp h with e | e
      · exact absurd e.symm z
      · exact wipeC_in e
theorem wipe_out {σ : L2.St} {i : Nat} : ∀ {vs : List Nat}, i ∉ vs → (wipe σ vs)[i]? = σ[i]?
  | [], _ => rfl
  | v :: vs, h => by
    simp only [List.mem_cons, not_or] at h
    unfold wipe
    rw [List.getElem?_set_ne (Ne.symm h.1), wipe_out h.2]
theorem wipe_in {σ : L2.St} {i : Nat} (hl : i < σ.length) : ∀ {vs : List Nat}, i ∈ vs → (wipe σ vs)[i]? = some none
  | v :: vs, h => by
    unfold wipe
    by_cases z : v = i
    · subst z; exact List.getElem?_set_self (by rw [wipe_length]; exact hl)
    · rw [List.getElem?_set_ne z]
      rcases List.mem_cons.mp h with e | e
      · exact absurd e.symm z
      · exact wipe_in hl e
theorem wipe_only {σ σ' : L2.St} {ts vs : List Nat} (h : Only ts (wipe σ vs) σ') (ht : ∀ t ∈ ts, t ∈ vs) : wipe σ' vs = wipe σ vs := by
  have hl : σ'.length = σ.length := h.1.trans (wipe_length σ vs)
  apply List.ext_getElem?
  intro i
  by_cases hi : i ∈ vs
  · by_cases hlt : i < σ.length
    · rw [wipe_in hlt hi, wipe_in (by rw [hl]; exact hlt) hi]
    · rw [List.getElem?_eq_none (by rw [wipe_length, hl]; omega), List.getElem?_eq_none (by rw [wipe_length]; omega)]
  · rw [wipe_out hi, h.2 i fun z => hi (ht i z)]
theorem unwipe_out {ρ0 ρ : Cells} {i : Nat} : ∀ {vs : List Nat}, i ∉ vs → (unwipe ρ0 ρ vs)[i]? = ρ[i]?
  | [], _ => rfl
  | v :: vs, h => by
    simp only [List.mem_cons, not_or] at h
    unfold unwipe
    rw [List.getElem?_set_ne (Ne.symm h.1), unwipe_out h.2]
theorem unwipe_in {ρ0 ρ : Cells} {i : Nat} (hl : i < ρ.length) : ∀ {vs : List Nat}, i ∈ vs → (unwipe ρ0 ρ vs)[i]? = some (cellOr ρ0[i]?)
  | v :: vs, h => by
    unfold unwipe
    by_cases z : v = i
    · subst z; exact List.getElem?_set_self (by rw [unwipe_len]; exact hl)
    · rw [List.getElem?_set_ne z]
      rcases List.mem_cons.mp h with e | e
      · exact absurd e.symm z
      · exact unwipe_in hl e
section
variable {c : Cf} {B : List (Nat × Addr)} {W : WX} {X : Cx} {G H : Hp} {A : Addr → Prop} {σ : L2.St} {ρ : Cells} {Z : Ends}
theorem Rel.wipe (R : Rel c B G A H σ ρ) {vs : List Nat} (hB : B.all (fun q => !vs.contains q.1) = true) : Rel c B G A H (wipe σ vs) (wipeC ρ vs) := by
  have nin : ∀ (i : Nat) (x : Cell), (wipeC ρ vs)[i]? = some x → x ≠ .no → i ∉ vs ∧ ρ[i]? = some x := fun i x h hx => by
    by_cases hi : i ∈ vs
    · rcases wipeC_in (ρ := ρ) hi with e | e
      · rw [e] at h; cases h
      · rw [e] at h; cases h; exact absurd rfl hx
    · exact ⟨hi, by rw [wipeC_out hi] at h; exact h⟩
  refine ⟨R.same, by rw [wipe_length, wipeC_len]; exact R.len, R.ownA, fun i d h => ?_, fun i d h => ?_, fun i j d e p hij h1 h2 h3 h4 => ?_, fun q hq => ?_⟩
  · obtain ⟨hi, h'⟩ := nin i _ h (fun z => by cases z)
    obtain ⟨v, h1, h2⟩ := R.dat i d h'
    exact ⟨v, by rw [wipe_out hi]; exact h1, h2⟩
  · obtain ⟨hi, h'⟩ := nin i _ h (fun z => by cases z)
    obtain ⟨v, h1, h2⟩ := R.own i d h'
    exact ⟨v, by rw [wipe_out hi]; exact h1, h2⟩
  · obtain ⟨hi, h1'⟩ := nin i _ h1 (fun z => by cases z)
    obtain ⟨hj, h2'⟩ := nin j _ h2 (fun z => by cases z)
    rw [wipe_out hi] at h3
    rw [wipe_out hj] at h4
    exact R.dis i j d e p hij h1' h2' h3 h4
  · obtain ⟨h1, h2, x, h3⟩ := R.byr q hq
    have hi : q.1 ∉ vs := by
      have := List.all_eq_true.mp hB q hq
      simpa using this
    exact ⟨by rw [wipe_out hi]; exact h1, h2, x, by rw [wipeC_out hi]; exact h3⟩
theorem Rel.unwipe (R : Rel c B G A H σ ρ) {G' H' : Hp} {ρ' : Cells} {vs : List Nat} (s : Same G G') (hv : vs.all (fun v => !isOwn ρ[v]?) = true) (hB : B.all (fun q => !vs.contains q.1) = true) (R' : Rel c B G' A H' (L2.wipe σ vs) (wipeC ρ' vs)) : Rel c B G' A H' σ (Fx.unwipe ρ ρ' vs) := by
  have hl : ρ'.length = σ.length := by
    have := R'.len
    rw [wipe_length, wipeC_len] at this
    exact this.symm
  have get : ∀ (i : Nat) (x : Cell), (Fx.unwipe ρ ρ' vs)[i]? = some x → x ≠ .no → (i ∈ vs ∧ ρ[i]? = some x ∧ ∀ d, x ≠ .own d) ∨ (i ∉ vs ∧ (wipeC ρ' vs)[i]? = some x) := fun i x h hx => by
    by_cases hi : i ∈ vs
    · have hlt : i < ρ'.length := by
        have := (List.getElem?_eq_some_iff.mp h).1
        rwa [unwipe_len] at this
      rw [unwipe_in hlt hi] at h
      refine .inl ⟨hi, ?_, fun d z => ?_⟩
      · cases e : ρ[i]? with
        | none => rw [e] at h; cases h; exact absurd rfl hx
        | some y => rw [e] at h; exact h
      · subst z
        have := List.all_eq_true.mp hv i hi
        cases e : ρ[i]? with
        | none => rw [e] at h; cases h
        | some y =>
          rw [e] at h this
          cases h
          cases this
    · exact .inr ⟨hi, by rw [wipeC_out hi]; rw [unwipe_out hi] at h; exact h⟩
  refine ⟨R'.same, by rw [unwipe_len, hl], R'.ownA, fun i d h => ?_, fun i d h => ?_, fun i j d e p hij h1 h2 h3 h4 => ?_, fun q hq => ?_⟩
  · rcases get i _ h (fun z => by cases z) with ⟨hi, h', _⟩ | ⟨hi, h'⟩
    · obtain ⟨v, h1, h2⟩ := R.dat i d h'
      exact ⟨v, h1, h2.mono s⟩
    · obtain ⟨v, h1, h2⟩ := R'.dat i d h'
      rw [wipe_out hi] at h1
      exact ⟨v, h1, h2⟩
  · rcases get i _ h (fun z => by cases z) with ⟨hi, h', n⟩ | ⟨hi, h'⟩
    · exact absurd rfl (n d)
    · obtain ⟨v, h1, h2⟩ := R'.own i d h'
      rw [wipe_out hi] at h1
      exact ⟨v, h1, h2⟩
  · rcases get i _ h1 (fun z => by cases z) with ⟨hi, h', n⟩ | ⟨hi, h1'⟩
    · exact absurd rfl (n d)
    · rcases get j _ h2 (fun z => by cases z) with ⟨hj, h', n⟩ | ⟨hj, h2'⟩
      · exact absurd rfl (n e)
      · exact R'.dis i j d e p hij h1' h2' (by rw [wipe_out hi]; exact h3) (by rw [wipe_out hj]; exact h4)
  · have hi : q.1 ∉ vs := by
      have := List.all_eq_true.mp hB q hq
      simpa using this
    obtain ⟨h1, h2, x, h3⟩ := R'.byr q hq
    rw [wipe_out hi] at h1
    rw [wipeC_out hi] at h3
    exact ⟨h1, h2, x, by rw [unwipe_out hi]; exact h3⟩
/-- a cell that nobody speaks of is changed, or forgotten -/
theorem Rel.other (R : Rel c B G A H σ ρ) {H' : Hp} {p : Addr} (gp : G p = none) (na : ¬ A p) (k : ∀ b, b ≠ p → H' b = H b) : Rel c B G A H' σ ρ := by
  refine ⟨fun b o e => ?_, R.len, fun b h => ?_, R.dat, fun i d h => ?_, R.dis, R.byr⟩
  · rw [k b (ne_of_none e gp)]; exact R.same b o e
  · obtain ⟨h1, o, h2⟩ := R.ownA b h
    exact ⟨h1, o, by rw [k b fun z => na (by rw [← z]; exact h)]; exact h2⟩
  · obtain ⟨q, h1, h2, h3⟩ := R.own i d h
    exact ⟨q, h1, h2, by rw [k q fun z => na (by rw [← z]; exact h2)]; exact h3⟩
abbrev W0 : WX := fun _ _ _ _ => False
/-- the heart of a comprehension -/
theorem lc_read {fi : M (List D)} {P : VP} {ts vs : List Nat} {g : TgM} {tt : M Bool} {fe : M D} {Q : VK} (ht : ts.all (fun t => vs.contains t) = true) (hB : B.all (fun q => !vs.contains q.1) = true) (h : tF c B W (mLc fi g tt fe vs) σ H Q) :
    tLc (tI c B W P fi) (tG c B P ts g) (tT c B W0 tt) (tM c B W0 fe) vs σ H Q := by
  have ht' : ∀ t ∈ ts, t ∈ vs := fun t h => by
    have := List.all_eq_true.mp ht t h
    simpa using this
  obtain ⟨G, A, ρ, R, a⟩ := h
  refine ⟨G, A, ρ, R, a.split.imp fun ds ρ1 G1 H1 _ _ R1 a1 J okJ D hD => ?_⟩
  cases hv : vs.all (fun v => !isOwn ρ1[v]?) with
  | false => 
    have a1 : After c B W G1 A H1 σ (if vs.all (fun v => !isOwn ρ1[v]?) = true then (match lcM g tt fe vs ds ρ1 with | some (es, ρ') => Out.ok (Fx.D.lst es) (Fx.unwipe ρ1 ρ' vs) | none => .stuck) else .stuck) _ := a1
    rw [if_neg (by rw [hv]; exact Bool.false_ne_true)] at a1
    exact a1.elim
  | true =>
    have a1 : After c B W G1 A H1 σ (if vs.all (fun v => !isOwn ρ1[v]?) = true then (match lcM g tt fe vs ds ρ1 with | some (es, ρ') => Out.ok (Fx.D.lst es) (Fx.unwipe ρ1 ρ' vs) | none => .stuck) else .stuck) _ := a1
    rw [if_pos hv] at a1
    cases hl : lcM g tt fe vs ds ρ1 with
    | none => rw [hl] at a1; exact a1.elim
    | some r =>
      obtain ⟨es, ρe⟩ := r
      rw [hl] at a1
      have gD : G1 D = none := R1.same.free hD
      have nD : ¬ A D := fun z => by obtain ⟨_, o, q⟩ := R1.ownA D z; rw [hD] at q; cases q
      refine ⟨fun i n H2 => n = ds.length - i ∧ i ≤ ds.length ∧ ∃ G2 ρ2 acc es1 es2, Same G1 G2 ∧ G2 D = none ∧ Keep A G1 H1 G2 H2 ∧ Rel c B G2 A H2 (L2.wipe σ vs) (wipeC ρ2 vs) ∧ H2 D = some (.lst acc) ∧ RepL c G2 acc es1 ∧ acc.length ≤ i ∧
        lcM g tt fe vs (ds.drop i) ρ2 = some (es2, ρe) ∧ es1 ++ es2 = es, ⟨_, rfl, Nat.zero_le _, G1, ρ1, [], [], es, Same.refl _, gD, fun b o e n => ⟨by rw [upd_ne (ne_of_none e hD)]; exact e, rfl⟩, (R1.other gD nD fun b hb => upd_ne hb).wipe hB, upd_same, .nil, Nat.le_refl _, hl, rfl⟩, ?_⟩
      rintro i n H2 ⟨rfl, hi, G2, ρ2, acc, es1, es2, s2, g2, k2, R2, hacc, racc, hlen, hlc, hes⟩
      by_cases hlt : i < ds.length
      · refine .inr ⟨okJ.go i H2 hlt (s2.trans R2.same), fun H' => ∃ G2 ρ2 acc es1 es2, Same G1 G2 ∧ G2 D = none ∧ Keep A G1 H1 G2 H' ∧ Rel c B G2 A H' (L2.wipe σ vs) (wipeC ρ2 vs) ∧ H' D = some (.lst acc) ∧ RepL c G2 acc es1 ∧ acc.length ≤ i + 1 ∧
          lcM g tt fe vs (ds.drop (i + 1)) ρ2 = some (es2, ρe) ∧ es1 ++ es2 = es, fun H' q => ⟨_, by omega, rfl, hlt, q⟩, fun x H3 hy => ?_⟩
        obtain ⟨G3, d, e1, x3, pr⟩ := okJ.yld i G2 H2 x H3 hlt s2 R2.same hy
        have R3 := R2.ext x3
        have hacc3 := x3.hh D _ hacc
        have g3 : G3 D = none := (x3.new D _ hacc).trans g2
        have k3 : Keep A G1 H1 G3 H3 := k2.trans x3.keep
        have ed : ds.drop i = d :: ds.drop (i + 1) := by
          rw [List.drop_eq_getElem_cons hlt]
          congr 1
          rw [List.getElem?_eq_getElem hlt] at e1
          exact Option.some.inj e1
        rw [ed] at hlc
        unfold lcM at hlc
        cases eg : g d (wipeC ρ2 vs) with
        | none => rw [eg] at hlc; cases hlc
        | some ρ3 =>
          rw [eg] at hlc
          refine ⟨G3, A, _, d, ρ3, R3, pr, eg, fun σ4 R4 o4 => ⟨wipe_only o4 ht', G3, A, ρ3, R4, ?_⟩⟩
          have ew := wipe_only o4 ht'
          cases et : tt ρ3 with
          | stuck => simp only [et] at hlc; cases hlc
          | exc x r => simp only [et] at hlc; cases hlc
          | ok b ρ4 =>
            simp only [et] at hlc
            intro G4 H4 s4 k4 R5
            have hacc4 := k4 D _ hacc3 nD
            refine ite_prop (fun eb => ?_) (fun eb => ?_)
            · rw [if_pos eb] at hlc
              refine ⟨G4, A, ρ4, R5, ?_⟩
              cases ef : fe ρ4 with
              | stuck => simp only [ef] at hlc; cases hlc
              | exc x r => simp only [ef] at hlc; cases hlc
              | ok e ρ5 =>
                simp only [ef] at hlc
                intro G5 H5 s5 k5 R6 v rv
                have hacc5 := k5 D _ hacc4.1 nD
                cases er : lcM g tt fe vs (ds.drop (i + 1)) ρ5 with
                | none => rw [er] at hlc; cases hlc
                | some r =>
                  obtain ⟨es3, ρe'⟩ := r
                  rw [er] at hlc
                  have hlc' : some (e :: es3, ρe') = some (es2, ρe) := hlc
                  cases hlc'
                  have g5 : G5 D = none := hacc5.2.trans (hacc4.2.trans g3)
                  have hsl := okJ.len
                  refine ⟨acc, hacc5.1, by omega, G5, ρ5, acc ++ [v], es1 ++ [e], es3, s2.trans (x3.gg.trans (s4.trans s5)), g5, ?_, ?_, upd_same, (racc.mono (x3.gg.trans (s4.trans s5))).append (.one rv), by rw [List.length_append]; simp; exact hlen, er, by rw [List.append_assoc]; exact hes⟩
                  · intro b o hb hn
                    have q := (k3.trans (k4.trans k5)) b o hb hn
                    exact ⟨by rw [upd_ne (ne_of_none hb hD)]; exact q.1, q.2⟩
                  · rw [← ew]
                    exact (R6.other g5 nD fun b hb => upd_ne hb).wipe hB
            · rw [if_neg (by rw [eb]; exact Bool.false_ne_true)] at hlc
              refine ⟨G4, ρ4, acc, es1, es2, s2.trans (x3.gg.trans s4), hacc4.2.trans g3, k3.trans k4, ?_, hacc4.1, racc.mono (x3.gg.trans s4), by omega, hlc, hes⟩
              rw [← ew]
              exact R5.wipe hB
      · have ei : i = ds.length := by omega
        subst ei
        rw [List.drop_length] at hlc
        cases hlc
        rw [List.append_nil] at hes
        subst hes
        have R3 : Rel c B G2 A (fun b => if b = D then none else H2 b) (L2.wipe σ vs) (wipeC ρe vs) := R2.other g2 nD fun b hb => if_neg hb
        have R4 := R1.unwipe s2 hv hB R3
        refine .inl ⟨okJ.stop H2 (s2.trans R2.same), a1 G2 _ s2 (fun b o hb hn => ?_) R4 D H2 (if_pos rfl) (fun b o hb => ?_) ⟨acc, hacc, racc⟩⟩
        · have q := k2 b o hb hn
          exact ⟨by show (if b = D then none else H2 b) = some o; rw [if_neg (ne_of_none hb hD)]; exact q.1, q.2⟩
        · have hb : (if b = D then none else H2 b) = some o := hb
          by_cases z : b = D
          · rw [if_pos z] at hb; cases hb
          · rw [if_neg z] at hb; exact hb
theorem pts_nilM : PTs X [] (tT c B W (M.pure true)) := ⟨fun pins s σ H Q I ⟨G, A, ρ, R, a⟩ => pts_nil.run pins s σ H Q I (After.ok a R)⟩
theorem pf_lc {elt tg iter : Expr} {ifs : List Expr} {scope : Scope} (own : List (Str × Nat)) {pos : Pos} {fi : M (List D)} {P : VP} {ts : List Nat} {g : TgM} {tt : M Bool} {fe : M D} (hc : X.calm = true) (hN : X.N.Nodup) (hi : PI X tg iter (tI c B W P fi)) (ok : BlkOk X.N X.env.scope scope own)
    (ht : ts.all (fun t => (own.map (·.2)).contains t) = true) (hB : B.all (fun q => !(own.map (·.2)).contains q.1) = true)
    (hg : ∀ (s : Shared) (H : Hp) (C : Addr) (cl : List (Str × Addr)) (fp : List Addr), PG (X.blk s H scope (compEnvC scope cl C X.env) fp) tg (tG c B P ts g)) (htt : ∀ (s : Shared) (H : Hp) (C : Addr) (cl : List (Str × Addr)) (fp : List Addr), PTs (X.blk s H scope (compEnvC scope cl C X.env) fp) ifs (tT c B W0 tt))
    (he : ∀ (s : Shared) (H : Hp) (C : Addr) (cl : List (Str × Addr)) (fp : List Addr), PE (X.blk s H scope (compEnvC scope cl C X.env) fp) elt (tM c B W0 fe)) (hs : ∀ x, foldedSetIterable iter X.env x = pure x := by intro _; rfl) :
    PE X (.ListComp elt [⟨tg, iter, ifs, 0⟩] scope pos) (tF c B W (mLc fi g tt fe (own.map (·.2)))) :=
  pe_imp (pe_lc hc hN hi ok hg htt he hs) fun σ H Q h => lc_read ht hB h
end
end Fx
set_option Elab.async false
set_option linter.all false
set_option maxRecDepth 100000
set_option maxHeartbeats 4000000
namespace Fx
open PySem L2
inductive FOut where
  | stuck | ret (d : D) (outs : List D) | exc (x : Exc) (outs : List D)
abbrev Fn := List D → FOut
/-- the arguments as they lie; bs: the places by reference -/
structure ArgsOk (c : Cf) (bs : List Nat) (G : Hp) (A : Addr → Prop) (H : Hp) (vs : List V) (ds : List D) : Prop where
  same : Same G H
  ownA : ∀ b, A b → G b = none ∧ ∃ o, H b = some o
  len : vs.length = ds.length
  dat : ∀ (i : Nat) (d : D), ds[i]? = some d → i ∉ bs → ∃ v, vs[i]? = some v ∧ Rep c G v d
  own : ∀ (i : Nat) (d : D), ds[i]? = some d → i ∈ bs → ∃ p, vs[i]? = some (.ref p) ∧ A p ∧ Own c G (H p) d
  dis : ∀ (i j : Nat) (p : Addr), i ≠ j → i ∈ bs → j ∈ bs → vs[i]? = some (.ref p) → vs[j]? = some (.ref p) → False
def Outs (c : Cf) (bs : List Nat) (G H : Hp) (vs : List V) (outs : List D) : Prop := outs.length = bs.length ∧ ∀ (k i : Nat) (d : D), bs[k]? = some i → outs[k]? = some d → ∃ p, vs[i]? = some (.ref p) ∧ Own c G (H p) d
/-- behind a call -/
structure Ret (c : Cf) (bs : List Nat) (G : Hp) (A : Addr → Prop) (H : Hp) (vs : List V) (outs : List D) (G' H' : Hp) : Prop where
  gg : Same G G'
  kp : Keep A G H G' H'
  gh : Same G' H'
  ownA : ∀ b, A b → G' b = none ∧ ∃ o, H' b = some o
  outs : Outs c bs G' H' vs outs
def AfterF (c : Cf) (bs : List Nat) (G : Hp) (A : Addr → Prop) (H : Hp) (vs : List V) (o : FOut) (Q : VK) (E : XK) : Prop := match o with
  | .stuck => False
  | .ret d outs => ∀ G' H' v, Ret c bs G A H vs outs G' H' → Rep c G' v d → Q v H'
  | .exc x outs => ∀ G' H' dd, Ret c bs G A H vs outs G' H' → ExcAt c G' x dd → E (.ref (c.exc x.c)) (some dd) H'
/-- a def keeps its meaning F -/
def spM (c : Cf) (bs : List Nat) (n : Nat) (F : Fn) : Sp := fun vs H Q E => ∃ G A ds, ds.length = n ∧ ArgsOk c bs G A H vs ds ∧ AfterF c bs G A H vs (F ds) Q E

def ownPos : Nat → List Opn → List Nat
  | _, [] => []
  | n, .dat _ :: os => ownPos (n + 1) os
  | n, .own _ :: os => n :: ownPos (n + 1) os
def ownSlots : List Opn → List Nat
  | [] => []
  | .dat _ :: os => ownSlots os
  | .own k :: os => k :: ownSlots os
def rdA : List Opn → List D → Cells → Option (List D)
  | [], [], _ => some []
  | .dat _ :: os, a :: as, ρ => (rdA os as ρ).map fun ds => a :: ds
  | .own k :: os, _ :: as, ρ => match ρ[k]? with
    | some (.own d) => (rdA os as ρ).map fun ds => d :: ds
    | _ => none
  | _, _, _ => none
def setOuts : List Nat → List D → Cells → Cells
  | k :: ks, o :: outs, ρ => setOuts ks outs (ρ.set k (.own o))
  | _, _, ρ => ρ
def mCallF (F : Fn) (os : List Opn) : M D := (preL os).bind fun as => fun ρ => match rdA os as ρ with
  | none => .stuck
  | some ds => match F ds with
    | .stuck => .stuck
    | .ret d outs => .ok d (setOuts (ownSlots os) outs ρ)
    | .exc x outs => .exc x (setOuts (ownSlots os) outs ρ)
inductive ArgV (c : Cf) (G : Hp) (σ : L2.St) : List Opn → List D → List V → Prop
  | nil : ArgV c G σ [] [] []
  | dat {f : M D} {os as vs a v} : Rep c G v a → ArgV c G σ os as vs → ArgV c G σ (.dat f :: os) (a :: as) (v :: vs)
  | own {k : Nat} {v : V} {os as vs a} : σ[k]? = some (some v) → ArgV c G σ os as vs → ArgV c G σ (.own k :: os) (a :: as) (v :: vs)
theorem ArgV.mono {c : Cf} {G G' : Hp} {σ : L2.St} (e : Same G G') : ∀ {os as vs}, ArgV c G σ os as vs → ArgV c G' σ os as vs
  | _, _, _, .nil => .nil
  | _, _, _, .dat r t => .dat (r.mono e) (t.mono e)
  | _, _, _, .own r t => .own r (t.mono e)
def tR (c : Cf) (B : List (Nat × Addr)) (W : WX) (os : List Opn) : TA := fun σ H Q => ∃ G A ρ, Rel c B G A H σ ρ ∧ After c B W G A H σ (preL os ρ) fun as _ G' H' => ∀ vs, ArgV c G' σ os as vs → Q vs H'
section
variable {c : Cf} {B : List (Nat × Addr)} {W : WX} {X : Cx} {G H : Hp} {A : Addr → Prop} {σ : L2.St} {ρ : Cells}
theorem pr_nil : PA X [] (tR c B W []) := pa_imp pa_nil fun σ H Q ⟨G, A, ρ, R, a⟩ => After.ok a R [] .nil
theorem pr_dat {e : Expr} {es : List Expr} {f : M D} {os : List Opn} (ha : PE X e (tM c B W f)) (hr : PA X es (tR c B W os)) (hs : starEach (e :: es) X.env = (false, eval e X.env) :: starEach es X.env := by rfl) : PA X (e :: es) (tR c B W (.dat f :: os)) :=
  pa_imp (pa_cons ha hr hs) fun σ H Q ⟨G, A, ρ, R, a⟩ => by
    refine ⟨G, A, ρ, R, (show After c B W G A H σ ((f.bind _) ρ) _ from a).split.imp fun d ρ1 G1 H1 _ _ R1 a1 v r => ?_⟩
    refine ⟨G1, A, ρ1, R1, a1.split.imp fun ds ρ2 G2 H2 s2 _ R2 a2 vs rs => ?_⟩
    exact After.ok a2 R2 (v :: vs) (.dat (r.mono s2) rs)
theorem pr_own (i : Nat) {x : Str} {pos : Pos} {es : List Expr} {os : List Opn} (hr : PA X es (tR c B W os)) (hN : X.N[i]? = some x := by rfl) (hv : Vis X.env.scope x := by first | exact Or.inl rfl | exact Or.inr (Or.inl rfl) | exact Or.inr (Or.inr rfl)) (hd : (x == ("__debug__" : Str)) = false := by decide)
    (hcd : (x == ("__classdict__" : Str)) = false := by decide) (hs : starEach (.Name x pos :: es) X.env = (false, eval (.Name x pos) X.env) :: starEach es X.env := by rfl) : PA X (.Name x pos :: es) (tR c B W (.own i :: os)) :=
  pa_imp (pa_cons (pe_var hN hv hd hcd) hr hs) fun σ H Q ⟨G, A, ρ, R, a⟩ => by
    have a' := (show After c B W G A H σ (((Opn.own i).pre.bind _) ρ) _ from a).split
    unfold Opn.pre at a'
    cases e : cellD ρ[i]? with
    | none => simp only [e] at a'; exact a'.elim
    | some d =>
      simp only [e] at a'
      obtain ⟨v, hv, o⟩ := R.cell e
      refine ⟨v, hv, G, A, ρ, R, (After.ok a' R).split.imp fun ds ρ2 G2 H2 s2 k2 R2 q vs rs => ?_⟩
      exact After.ok q R2 (v :: vs) (.own hv rs)
/-- the addresses that a call may change -/
def callA (σ : L2.St) (ks : List Nat) : Addr → Prop := fun b => ∃ k ∈ ks, σ[k]? = some (some (.ref b))
theorem mem_ownPos : ∀ {os : List Opn} {n i : Nat}, i ∈ ownPos n os → n ≤ i
  | .dat _ :: os, n, i, h => by have := mem_ownPos (os := os) (n := n + 1) h; omega
  | .own _ :: os, n, i, h => by
    rcases List.mem_cons.mp h with e | e
    · omega
    · have := mem_ownPos (os := os) (n := n + 1) e; omega
/-- the arguments as the callee finds them -/
theorem argV_at (R : Rel c B G A H σ ρ) : ∀ {os : List Opn} {as ds : List D} {vs : List V} (n : Nat), ArgV c G σ os as vs → rdA os as ρ = some ds →
    vs.length = ds.length ∧ vs.length = os.length ∧ (∀ (i : Nat) (d : D), ds[i]? = some d → n + i ∉ ownPos n os → ∃ v, vs[i]? = some v ∧ Rep c G v d) ∧
      (∀ (i : Nat) (d : D), ds[i]? = some d → n + i ∈ ownPos n os → ∃ k p, k ∈ ownSlots os ∧ σ[k]? = some (some (.ref p)) ∧ ρ[k]? = some (.own d) ∧ vs[i]? = some (.ref p) ∧ A p ∧ Own c G (H p) d)
  | _, _, _, _, n, .nil, h => by cases h; exact ⟨rfl, rfl, fun i d e => by simp at e, fun i d e => by simp at e⟩
  | _, _, ds, _, n, @ArgV.dat _ _ _ f os as vs a v r t, h => by
    unfold rdA at h
    cases e : rdA os as ρ with
    | none => rw [e] at h; cases h
    | some ds' =>
      rw [e] at h
      cases h
      obtain ⟨h1, h2, h3, h4⟩ := argV_at R (n + 1) t e
      refine ⟨by simp [h1], by simp [h2], fun i d hd hn => ?_, fun i d hd hn => ?_⟩
      · cases i with
        | zero => simp at hd; subst hd; exact ⟨v, rfl, r⟩
        | succ i =>
          obtain ⟨w, k1, k2⟩ := h3 i d (by simpa using hd) (fun z => hn (by show n + (i + 1) ∈ ownPos (n + 1) os; rw [show n + (i + 1) = n + 1 + i by omega]; exact z))
          exact ⟨w, by simpa using k1, k2⟩
      · cases i with
        | zero => have := mem_ownPos (os := os) (n := n + 1) (i := n + 0) hn; omega
        | succ i =>
          obtain ⟨k, p, q1, q2, q3, q4, q5⟩ := h4 i d (by simpa using hd) (by have hn' : n + (i + 1) ∈ ownPos (n + 1) os := hn; rw [show n + (i + 1) = n + 1 + i by omega] at hn'; exact hn')
          exact ⟨k, p, q1, q2, q3, by simpa using q4, q5⟩
  | _, _, ds, _, n, @ArgV.own _ _ _ k v os as vs a r t, h => by
    unfold rdA at h
    cases ek : ρ[k]? with
    | none => simp only [ek] at h; cases h
    | some cl =>
      simp only [ek] at h
      cases cl with
      | no => cases h
      | dat d => cases h
      | own d0 =>
        obtain ⟨p, es, hA, hO⟩ := R.own k d0 ek
        rw [r] at es; cases es
        cases e : rdA os as ρ with
        | none => simp only [e] at h; cases h
        | some ds' =>
          simp only [e] at h
          cases h
          obtain ⟨h1, h2, h3, h4⟩ := argV_at R (n + 1) t e
          refine ⟨by simp [h1], by simp [h2], fun i d hd hn => ?_, fun i d hd hn => ?_⟩
          · cases i with
            | zero => exact absurd (List.mem_cons_self : n ∈ n :: ownPos (n + 1) os) hn
            | succ i =>
              obtain ⟨w, k1, k2⟩ := h3 i d (by simpa using hd) (fun z => hn (List.mem_cons_of_mem _ (by rw [show n + (i + 1) = n + 1 + i by omega]; exact z)))
              exact ⟨w, by simpa using k1, k2⟩
          · cases i with
            | zero => simp at hd; subst hd; exact ⟨k, p, List.mem_cons_self, r, ek, rfl, hA, hO⟩
            | succ i =>
              have hn' : n + (i + 1) ∈ n :: ownPos (n + 1) os := hn
              rcases List.mem_cons.mp hn' with e | e
              · omega
              · rw [show n + (i + 1) = n + 1 + i by omega] at e
                obtain ⟨k, p, q1, q2, q3, q4, q5⟩ := h4 i d (by simpa using hd) e
                exact ⟨k, p, List.mem_cons_of_mem _ q1, q2, q3, by simpa using q4, q5⟩
/-- the outs go to the slots -/
theorem argV_slots : ∀ {os : List Opn} {as : List D} {vs : List V} (n : Nat), ArgV c G σ os as vs → ∀ (j i : Nat), (ownPos n os)[j]? = some i → ∃ k v, (ownSlots os)[j]? = some k ∧ n ≤ i ∧ vs[i - n]? = some v ∧ σ[k]? = some (some v)
  | _, _, _, n, .nil, j, i, h => by simp [ownPos] at h
  | _, _, _, n, @ArgV.dat _ _ _ f os as vs a v r t, j, i, h => by
    obtain ⟨k, w, h1, h2, h3, h4⟩ := argV_slots (n + 1) t j i h
    refine ⟨k, w, h1, by omega, ?_, h4⟩
    rw [show i - n = (i - (n + 1)) + 1 by omega]
    simpa using h3
  | _, _, _, n, @ArgV.own _ _ _ k v os as vs a r t, 0, i, h => by
    have h' : some n = some i := h
    cases h'
    exact ⟨k, v, rfl, Nat.le_refl _, by simp, r⟩
  | _, _, _, n, @ArgV.own _ _ _ k v os as vs a r t, j + 1, i, h => by
    obtain ⟨k', w, h1, h2, h3, h4⟩ := argV_slots (n + 1) t j i (by simpa [ownPos] using h)
    refine ⟨k', w, by simpa [ownSlots] using h1, by omega, ?_, h4⟩
    rw [show i - n = (i - (n + 1)) + 1 by omega]
    simpa using h3
theorem setOuts_len : ∀ (ks : List Nat) (outs : List D) (ρ : Cells), (setOuts ks outs ρ).length = ρ.length
  | [], _, _ => rfl
  | _ :: _, [], _ => rfl
  | k :: ks, o :: outs, ρ => by unfold setOuts; rw [setOuts_len, List.length_set]
theorem setOuts_out : ∀ {ks : List Nat} {outs : List D} {ρ : Cells} {i : Nat}, i ∉ ks → (setOuts ks outs ρ)[i]? = ρ[i]?
  | [], _, _, _, _ => rfl
  | _ :: _, [], _, _, _ => rfl
  | k :: ks, o :: outs, ρ, i, h => by
    simp only [List.mem_cons, not_or] at h
    unfold setOuts
    rw [setOuts_out h.2, List.getElem?_set_ne (Ne.symm h.1)]
theorem setOuts_in : ∀ {ks : List Nat} {outs : List D} {ρ : Cells} {i : Nat}, ks.Nodup → ks.length = outs.length → i ∈ ks → i < ρ.length → ∃ (j : Nat) (d : D), ks[j]? = some i ∧ outs[j]? = some d ∧ (setOuts ks outs ρ)[i]? = some (.own d)
  | k :: ks, o :: outs, ρ, i, nd, hl, h, hi => by
    obtain ⟨n1, n2⟩ := List.nodup_cons.mp nd
    unfold setOuts
    rcases List.mem_cons.mp h with e | e
    · subst e
      exact ⟨0, o, rfl, rfl, by rw [setOuts_out n1, List.getElem?_set_self hi]⟩
    · obtain ⟨j, d, h1, h2, h3⟩ := setOuts_in (ρ := ρ.set k (.own o)) n2 (by simpa using hl) e (by rw [List.length_set]; exact hi)
      exact ⟨j + 1, d, by simpa using h1, by simpa using h2, h3⟩
/-- behind a call the cells are as the outs say -/
theorem Rel.ret (R : Rel c B G A H σ ρ) {os : List Opn} {as : List D} {ds outs : List D} {vs : List V} {G' H' : Hp} (nd : (ownSlots os).Nodup) (hv : ArgV c G σ os as vs) (hd : rdA os as ρ = some ds) (hr : Ret c (ownPos 0 os) G (callA σ (ownSlots os)) H vs outs G' H') :
    Same G G' ∧ Keep A G H G' H' ∧ Rel c B G' A H' σ (setOuts (ownSlots os) outs ρ) := by
  have sub : ∀ b, callA σ (ownSlots os) b → ∃ k d, k ∈ ownSlots os ∧ σ[k]? = some (some (.ref b)) ∧ ρ[k]? = some (.own d) ∧ A b := by
    intro b ⟨k, hk, hs⟩
    have : ∀ {os : List Opn} {as : List D} {vs : List V} {ds : List D}, ArgV c G σ os as vs → rdA os as ρ = some ds → k ∈ ownSlots os → ∃ d, ρ[k]? = some (.own d) := by
      intro os as vs ds hv
      induction hv generalizing ds with
      | nil => intro _ h; cases h
      | @dat f os as vs a v r t ih =>
        intro h hk
        unfold rdA at h
        cases e : rdA os as ρ with
        | none => rw [e] at h; cases h
        | some ds' => exact ih e hk
      | @own k' v os as vs a r t ih =>
        intro h hk
        unfold rdA at h
        cases ek : ρ[k']? with
        | none => simp only [ek] at h; cases h
        | some cl =>
          simp only [ek] at h
          cases cl with
          | no => cases h
          | dat d => cases h
          | own d0 =>
            cases e : rdA os as ρ with
            | none => simp only [e] at h; cases h
            | some ds' =>
              rcases List.mem_cons.mp hk with z | z
              · subst z; exact ⟨d0, ek⟩
              · exact ih e z
    obtain ⟨d, e⟩ := this hv hd hk
    obtain ⟨p, es, hA, _⟩ := R.own k d e
    rw [hs] at es; cases es
    exact ⟨k, d, hk, hs, e, hA⟩
  have kp : Keep A G H G' H' := fun b o h n => hr.kp b o h fun z => by obtain ⟨_, _, _, _, _, q⟩ := sub b z; exact n q
  refine ⟨hr.gg, kp, hr.gh, by rw [setOuts_len]; exact R.len, fun b hb => ?_, fun i d h => ?_, fun i d h => ?_, fun i j d e p hij h1 h2 h3 h4 => ?_, fun q hq => ?_⟩
  · by_cases z : callA σ (ownSlots os) b
    · exact hr.ownA b z
    · obtain ⟨h1, o, h2⟩ := R.ownA b hb
      obtain ⟨k1, k2⟩ := hr.kp b o h2 z
      exact ⟨k2.trans h1, o, k1⟩
  · have ni : i ∉ ownSlots os := fun z => by
      have hl : (ownSlots os).length = outs.length := by
        have h1 := hr.outs.1
        have h2 : ∀ (n : Nat) (os : List Opn), (ownPos n os).length = (ownSlots os).length := by
          intro n os
          induction os generalizing n with
          | nil => rfl
          | cons o os ih => cases o with
            | dat f => exact ih (n + 1)
            | own k => show _ + 1 = _ + 1; rw [ih (n + 1)]
        rw [← h2 0 os, h1]
      have hi : i < ρ.length := by
        have := (List.getElem?_eq_some_iff.mp h).1
        rwa [setOuts_len] at this
      obtain ⟨j, d', _, _, h3⟩ := setOuts_in nd hl z hi
      rw [h3] at h; cases h
    rw [setOuts_out ni] at h
    obtain ⟨v, h1, h2⟩ := R.dat i d h
    exact ⟨v, h1, h2.mono hr.gg⟩
  · have hlen : ∀ (n : Nat) (os : List Opn), (ownPos n os).length = (ownSlots os).length := by
      intro n os
      induction os generalizing n with
      | nil => rfl
      | cons o os ih => cases o with
        | dat f => exact ih (n + 1)
        | own k => show _ + 1 = _ + 1; rw [ih (n + 1)]
    have hl : (ownSlots os).length = outs.length := by rw [← hlen 0 os, hr.outs.1]
    by_cases z : i ∈ ownSlots os
    · have hi : i < ρ.length := by
        have := (List.getElem?_eq_some_iff.mp h).1
        rwa [setOuts_len] at this
      obtain ⟨j, d', h1, h2, h3⟩ := setOuts_in nd hl z hi
      rw [h3] at h; cases h
      have hj : j < (ownPos 0 os).length := by rw [hlen]; exact (List.getElem?_eq_some_iff.mp h1).1
      obtain ⟨k, v, k1, k2, k3, k4⟩ := argV_slots 0 hv j _ (List.getElem?_eq_getElem hj)
      rw [h1] at k1; cases k1
      obtain ⟨p, p1, p2⟩ := hr.outs.2 j _ d (List.getElem?_eq_getElem hj) h2
      rw [Nat.sub_zero] at k3
      rw [p1] at k3; cases k3
      obtain ⟨_, _, _, _, _, hA⟩ := sub p ⟨i, z, k4⟩
      exact ⟨p, k4, hA, p2⟩
    · rw [setOuts_out z] at h
      obtain ⟨p, h1, h2, h3⟩ := R.own i d h
      have np : ¬ callA σ (ownSlots os) p := fun w => by
        obtain ⟨k, e, q1, q2, q3, _⟩ := sub p w
        exact R.dis i k d e p (fun y => z (by rw [y]; exact q1)) h q3 h1 q2
      obtain ⟨u, hu⟩ := h3.some
      obtain ⟨k1, k2⟩ := hr.kp p u hu np
      exact ⟨p, h1, h2, by rw [k1, ← hu]; exact h3.mono hr.gg⟩
  · have old : ∀ (i : Nat) (d : D), (setOuts (ownSlots os) outs ρ)[i]? = some (.own d) → ∃ d', ρ[i]? = some (.own d') := fun i d h => by
      by_cases z : i ∈ ownSlots os
      · have hi : i < ρ.length := by
          have := (List.getElem?_eq_some_iff.mp h).1
          rwa [setOuts_len] at this
        have : ∀ {os : List Opn} {as : List D} {vs : List V} {ds : List D}, ArgV c G σ os as vs → rdA os as ρ = some ds → i ∈ ownSlots os → ∃ d, ρ[i]? = some (.own d) := by
          intro os as vs ds hv
          induction hv generalizing ds with
          | nil => intro _ h; cases h
          | @dat f os as vs a v r t ih =>
            intro h hk
            unfold rdA at h
            cases e : rdA os as ρ with
            | none => rw [e] at h; cases h
            | some ds' => exact ih e hk
          | @own k' v os as vs a r t ih =>
            intro h hk
            unfold rdA at h
            cases ek : ρ[k']? with
            | none => simp only [ek] at h; cases h
            | some cl =>
              simp only [ek] at h
              cases cl with
              | no => cases h
              | dat d => cases h
              | own d0 =>
                cases e : rdA os as ρ with
                | none => simp only [e] at h; cases h
                | some ds' =>
                  rcases List.mem_cons.mp hk with z | z
                  · subst z; exact ⟨d0, ek⟩
                  · exact ih e z
        exact this hv hd z
      · rw [setOuts_out z] at h; exact ⟨d, h⟩
    obtain ⟨d', h1'⟩ := old i d h1
    obtain ⟨e', h2'⟩ := old j e h2
    exact R.dis i j d' e' p hij h1' h2' h3 h4
  · obtain ⟨h1, h2, x, h3⟩ := R.byr q hq
    refine ⟨h1, h2, ?_⟩
    by_cases z : q.1 ∈ ownSlots os
    · have hi : q.1 < ρ.length := (List.getElem?_eq_some_iff.mp h3).1
      have hlen : ∀ (n : Nat) (os : List Opn), (ownPos n os).length = (ownSlots os).length := by
        intro n os
        induction os generalizing n with
        | nil => rfl
        | cons o os ih => cases o with
          | dat f => exact ih (n + 1)
          | own k => show _ + 1 = _ + 1; rw [ih (n + 1)]
      obtain ⟨j, d', _, _, h5⟩ := setOuts_in (ρ := ρ) nd (by rw [← hlen 0 os, hr.outs.1]) z hi
      exact ⟨d', h5⟩
    · exact ⟨x, by rw [setOuts_out z]; exact h3⟩
/-- what a call asks -/
theorem args_ok (R : Rel c B G A H σ ρ) {os : List Opn} {as : List D} {ds : List D} {vs : List V} (nd : (ownSlots os).Nodup) (hv : ArgV c G σ os as vs) (hd : rdA os as ρ = some ds) : ArgsOk c (ownPos 0 os) G (callA σ (ownSlots os)) H vs ds := by
  obtain ⟨h1, h2, h3, h4⟩ := argV_at R 0 hv hd
  have aa : ∀ b, callA σ (ownSlots os) b → A b := by
    intro b ⟨k, hk, hs⟩
    have : ∀ {os : List Opn} {as : List D} {vs : List V} {ds : List D}, ArgV c G σ os as vs → rdA os as ρ = some ds → k ∈ ownSlots os → ∃ d, ρ[k]? = some (.own d) := by
      intro os as vs ds hv
      induction hv generalizing ds with
      | nil => intro _ h; cases h
      | @dat f os as vs a v r t ih =>
        intro h hk
        unfold rdA at h
        cases e : rdA os as ρ with
        | none => rw [e] at h; cases h
        | some ds' => exact ih e hk
      | @own k' v os as vs a r t ih =>
        intro h hk
        unfold rdA at h
        cases ek : ρ[k']? with
        | none => simp only [ek] at h; cases h
        | some cl =>
          simp only [ek] at h
          cases cl with
          | no => cases h
          | dat d => cases h
          | own d0 =>
            cases e : rdA os as ρ with
            | none => simp only [e] at h; cases h
            | some ds' =>
              rcases List.mem_cons.mp hk with z | z
              · subst z; exact ⟨d0, ek⟩
              · exact ih e z
    obtain ⟨d, e⟩ := this hv hd hk
    obtain ⟨p, es, hA, _⟩ := R.own k d e
    rw [hs] at es; cases es
    exact hA
  refine ⟨R.same, fun b hb => R.ownA b (aa b hb), h1, fun i d hi hn => h3 i d hi (by rw [Nat.zero_add]; exact hn), fun i d hi hn => ?_, fun i j p hij hi hj e1 e2 => ?_⟩
  · obtain ⟨k, p, q1, q2, q3, q4, q5, q6⟩ := h4 i d hi (by rw [Nat.zero_add]; exact hn)
    exact ⟨p, q4, ⟨k, q1, q2⟩, q6⟩
  · obtain ⟨a, ha⟩ := List.mem_iff_getElem?.mp hi
    obtain ⟨b, hb⟩ := List.mem_iff_getElem?.mp hj
    obtain ⟨k, v, k1, _, k3, k4⟩ := argV_slots 0 hv a i ha
    obtain ⟨l, w, l1, _, l3, l4⟩ := argV_slots 0 hv b j hb
    rw [Nat.sub_zero, e1] at k3; cases k3
    rw [Nat.sub_zero, e2] at l3; cases l3
    have li : i < ds.length := by rw [← h1]; exact (List.getElem?_eq_some_iff.mp e1).1
    have lj : j < ds.length := by rw [← h1]; exact (List.getElem?_eq_some_iff.mp e2).1
    obtain ⟨k', p', _, k6, k7, k8, _⟩ := h4 i _ (List.getElem?_eq_getElem li) (by rw [Nat.zero_add]; exact hi)
    obtain ⟨l', p'', _, l6, l7, l8, _⟩ := h4 j _ (List.getElem?_eq_getElem lj) (by rw [Nat.zero_add]; exact hj)
    rw [e1] at k8; cases k8
    rw [e2] at l8; cases l8
    have kl : k ≠ l := fun z => by
      subst z
      have := nd_ix nd k1 l1
      subst this
      rw [ha] at hb; cases hb; exact hij rfl
    -- both slots own the same address
    have own_at : ∀ (k : Nat), k ∈ ownSlots os → ∃ d, ρ[k]? = some (.own d) := by
      intro k hk
      have : ∀ {os : List Opn} {as : List D} {vs : List V} {ds : List D}, ArgV c G σ os as vs → rdA os as ρ = some ds → k ∈ ownSlots os → ∃ d, ρ[k]? = some (.own d) := by
        intro os as vs ds hv
        induction hv generalizing ds with
        | nil => intro _ h; cases h
        | @dat f os as vs a v r t ih =>
          intro h hk
          unfold rdA at h
          cases e : rdA os as ρ with
          | none => rw [e] at h; cases h
          | some ds' => exact ih e hk
        | @own k' v os as vs a r t ih =>
          intro h hk
          unfold rdA at h
          cases ek : ρ[k']? with
          | none => simp only [ek] at h; cases h
          | some cl =>
            simp only [ek] at h
            cases cl with
            | no => cases h
            | dat d => cases h
            | own d0 =>
              cases e : rdA os as ρ with
              | none => simp only [e] at h; cases h
              | some ds' =>
                rcases List.mem_cons.mp hk with z | z
                · subst z; exact ⟨d0, ek⟩
                · exact ih e z
      exact this hv hd hk
    obtain ⟨d1, f1⟩ := own_at k (List.mem_of_getElem? k1)
    obtain ⟨d2, f2⟩ := own_at l (List.mem_of_getElem? l1)
    exact R.dis k l d1 d2 p kl f1 f2 k4 l4
end
end Fx
set_option Elab.async false
set_option linter.all false
set_option maxRecDepth 100000
set_option maxHeartbeats 4000000
namespace Fx
open PySem L2
section
variable {c : Cf} {B : List (Nat × Addr)} {W : WX} {X : Cx} {G H : Hp} {A : Addr → Prop} {σ : L2.St} {ρ : Cells}
/-- further data behind the arguments -/
theorem ArgsOk.app {bs : List Nat} {vs ws : List V} {ds es : List D} (h : ArgsOk c bs G A H vs ds) (r : RepL c G ws es) (hb : ∀ i ∈ bs, i < ds.length) : ArgsOk c bs G A H (vs ++ ws) (ds ++ es) := by
  refine ⟨h.same, h.ownA, by rw [List.length_append, List.length_append, h.len, r.length], fun i d e n => ?_, fun i d e n => ?_, fun i j p hij hi hj e1 e2 => ?_⟩
  · by_cases hi : i < ds.length
    · rw [List.getElem?_append_left hi] at e
      obtain ⟨v, h1, h2⟩ := h.dat i d e n
      exact ⟨v, by rw [List.getElem?_append_left (by rw [h.len]; exact hi)]; exact h1, h2⟩
    · rw [List.getElem?_append_right (by omega)] at e
      obtain ⟨v, h1, h2⟩ := r.get e
      exact ⟨v, by rw [List.getElem?_append_right (by rw [h.len]; omega), h.len]; exact h1, h2⟩
  · have hi := hb i n
    rw [List.getElem?_append_left hi] at e
    obtain ⟨p, h1, h2⟩ := h.own i d e n
    exact ⟨p, by rw [List.getElem?_append_left (by rw [h.len]; exact hi)]; exact h1, h2⟩
  · rw [List.getElem?_append_left (by rw [h.len]; exact hb i hi)] at e1
    rw [List.getElem?_append_left (by rw [h.len]; exact hb j hj)] at e2
    exact h.dis i j p hij hi hj e1 e2
theorem Ret.app {bs : List Nat} {vs ws : List V} {outs : List D} {G' H' : Hp} (hb : ∀ i ∈ bs, i < vs.length) (h : Ret c bs G A H (vs ++ ws) outs G' H') : Ret c bs G A H vs outs G' H' :=
  ⟨h.gg, h.kp, h.gh, h.ownA, h.outs.1, fun k i d e1 e2 => by
    obtain ⟨p, h1, h2⟩ := h.outs.2 k i d e1 e2
    rw [List.getElem?_append_left (hb i (List.mem_of_getElem? e1))] at h1
    exact ⟨p, h1, h2⟩⟩
theorem ownPos_lt {os : List Opn} : ∀ {n i : Nat}, i ∈ ownPos n os → i < n + os.length := by
  induction os with
  | nil => intro n i h; cases h
  | cons o os ih =>
    intro n i h
    cases o with
    | dat f => have := ih (n := n + 1) h; rw [List.length_cons]; omega
    | own k =>
      rcases List.mem_cons.mp h with e | e
      · rw [List.length_cons]; omega
      · have := ih (n := n + 1) e; rw [List.length_cons]; omega
theorem rdA_len : ∀ {os : List Opn} {as ds : List D} {ρ : Cells}, rdA os as ρ = some ds → ds.length = os.length
  | [], [], _, _, h => by cases h; rfl
  | [], _ :: _, _, _, h => by cases h
  | .dat _ :: _, [], _, _, h => by cases h
  | .own _ :: _, [], _, _, h => by cases h
  | .dat _ :: os, a :: as, ds, ρ, h => by
    unfold rdA at h
    cases e : rdA os as ρ with
    | none => rw [e] at h; cases h
    | some ds' => rw [e] at h; cases h; rw [List.length_cons, List.length_cons, rdA_len e]
  | .own k :: os, _ :: as, ds, ρ, h => by
    unfold rdA at h
    cases ek : ρ[k]? with
    | none => simp only [ek] at h; cases h
    | some cl =>
      simp only [ek] at h
      cases cl with
      | no => cases h
      | dat d => cases h
      | own d0 =>
        cases e : rdA os as ρ with
        | none => simp only [e] at h; cases h
        | some ds' => simp only [e] at h; cases h; rw [List.length_cons, List.length_cons, rdA_len e]
/-- f(e, ..), the defaults behind -/
theorem pm_callF {F : Fn} {os : List Opn} {k n : Nat} {f : Addr} {fd : FuncData} {ps : List Str} {dvs : List V} {vds : List Value} {dds : List D} {x : Str} {p pos : Pos} {e : Expr} {es : List Expr}
    (Fo : FnOk X.prog X.w X.K X.mg X.base (L2.CX X.prog X.w) k f fd ps (spM c (ownPos 0 os) n F)) (hr : Room k X.A) (tk : Takes X W) (hm : X.mg x = some (.ref f)) (hk : PySem.W.keepIn X.K (.ref f) = true) (hb : Binds X.K fd ps vds) (hd : Vals dvs vds) (hdd : ∀ G, RepL c G dvs dds)
    (ha : PA X (e :: es) (tR c B W os)) (nd : (ownSlots os).Nodup := by decide) (hn : os.length + dds.length = n := by rfl) (hg : Gl X x := by rfl) (hdb : (x == ("__debug__" : Str)) = false := by decide)
    (he : starEach (e :: es) X.env = (false, eval e X.env) :: starEach es X.env := by rfl) (hpl : (backTo pos (starEach es X.env)).any (·.1) = false := by rfl) :
    PE X (.Call (.Name x p) (e :: es) [] pos) (tM c B W (mCallF (fun ds => F (ds ++ dds)) os)) :=
  pe_imp (pe_callSD Fo hr hg hm hk hb hd (fun σ => passAt tk σ) ha hdb he hpl) fun σ H Q ⟨G, A, ρ, R, a⟩ => by
    refine ⟨G, A, ρ, R, a.split.imp fun as ρ1 G1 H1 _ _ R1 q vs hv => ?_⟩
    have q : After c B W G1 A H1 σ (match rdA os as ρ1 with
      | none => .stuck
      | some ds => match F (ds ++ dds) with
        | .stuck => .stuck
        | .ret d outs => .ok d (setOuts (ownSlots os) outs ρ1)
        | .exc x outs => .exc x (setOuts (ownSlots os) outs ρ1)) (fun d x G' H' => ∀ v, Rep c G' v d → Q v H') := q
    cases ed : rdA os as ρ1 with
    | none => rw [ed] at q; exact q.elim
    | some ds =>
      rw [ed] at q
      have ok := args_ok R1 nd hv ed
      have hlen := rdA_len ed
      have hlt : ∀ i ∈ ownPos 0 os, i < ds.length := fun i hi => by have := ownPos_lt hi; rw [hlen]; omega
      have hlv : ∀ i ∈ ownPos 0 os, i < vs.length := fun i hi => by rw [ok.len]; exact hlt i hi
      refine ⟨G1, _, ds ++ dds, by rw [List.length_append, hlen]; exact hn, ok.app (hdd G1) hlt, ?_⟩
      cases ef : F (ds ++ dds) with
      | stuck => simp only [ef] at q; exact q.elim
      | ret d outs =>
        simp only [ef] at q
        intro G' H' v r rv
        obtain ⟨s1, k1, R2⟩ := R1.ret nd hv ed (r.app hlv)
        exact q G' H' s1 k1 R2 v rv
      | exc y outs =>
        simp only [ef] at q
        intro G' H' dd r rx
        obtain ⟨s1, k1, R2⟩ := R1.ret nd hv ed (r.app hlv)
        exact q G' H' dd s1 k1 R2 rx
/-- keywords -/
theorem pkd_nil : PK X [] (tD c B W []) := ⟨fun pos pins s σ H Q I ⟨G, A, ρ, R, a⟩ => pk_nil.run pos pins s σ H Q I (After.ok a R [] .nil)⟩
theorem pkd_cons {nm : Option Str} {e : Expr} {kpos : Pos} {kws : List Keyword} {f : M D} {fs : List (M D)} (ha : PE X e (tM c B W f)) (hr : PK X kws (tD c B W fs)) : PK X (⟨nm, e, kpos⟩ :: kws) (tD c B W (f :: fs)) :=
  ⟨fun pos pins s σ H Q I ⟨G, A, ρ, R, a⟩ => (pk_cons ha hr).run pos pins s σ H Q I (by
    refine ⟨G, A, ρ, R, a.split.imp fun d ρ1 G1 H1 _ _ R1 a1 v r => ?_⟩
    refine ⟨G1, A, ρ1, R1, a1.split.imp fun ds ρ2 G2 H2 s2 _ R2 a2 vs rs => ?_⟩
    exact After.ok a2 R2 (v :: vs) (.cons (r.mono s2) rs))⟩
def appF (F : Fn) (ds : List D) : M D := fun ρ => match F ds with
  | .stuck => .stuck
  | .ret d _ => .ok d ρ
  | .exc x _ => .exc x ρ
def mCallK (F : Fn) (g : List D → List D → List D) (fs ks : List (M D)) : M D := (seqM fs).bind fun ds => (seqM ks).bind fun es => appF F (g ds es)
theorem argsOk_rep (s : Same G H) {vs : List V} {ds : List D} (r : RepL c G vs ds) : ArgsOk c [] G (fun _ => False) H vs ds :=
  ⟨s, fun _ h => h.elim, r.length, fun i d e _ => r.get e, fun i d e n => by simp at n, fun i j p _ hi => by simp at hi⟩
theorem Ret.rel (R : Rel c B G A H σ ρ) {vs : List V} {outs : List D} {G' H' : Hp} (r : Ret c [] G (fun _ => False) H vs outs G' H') : Same G G' ∧ Keep A G H G' H' ∧ Rel c B G' A H' σ ρ := by
  have hh : ∀ b o, H b = some o → H' b = some o ∧ G' b = G b := fun b o e => r.kp b o e (fun z => z)
  exact ⟨r.gg, fun b o e _ => hh b o e, R.ext ⟨r.gg, fun b o e => (hh b o e).1, r.gh, fun b o e => (hh b o e).2⟩⟩
end

def initAt (bs : List Nat) : Nat → List D → Cells
  | _, [] => []
  | i, d :: ds => (if bs.contains i = true then Cell.own d else Cell.dat d) :: initAt bs (i + 1) ds
def initC (len : Nat) (bs : List Nat) (ds : List D) : Cells := initAt bs 0 ds ++ List.replicate (len - ds.length) .no
def outAt (ρ : Cells) (i : Nat) : D := match ρ[i]? with
  | some (Cell.own d) => d
  | _ => D.non
def outsOf (bs : List Nat) (ρ : Cells) : List D := bs.map (outAt ρ)
def mkFn (len : Nat) (bs : List Nat) (m : MS) : Fn := fun ds => match m (initC len bs ds) with
  | .next ρ => .ret .non (outsOf bs ρ)
  | .ret d ρ => .ret d (outsOf bs ρ)
  | .exc x ρ => .exc x (outsOf bs ρ)
  | _ => .stuck
theorem initAt_get (bs : List Nat) : ∀ (n i : Nat) (ds : List D) (x : Cell), (initAt bs n ds)[i]? = some x → ∃ d, ds[i]? = some d ∧ x = if bs.contains (n + i) = true then Cell.own d else Cell.dat d
  | n, i, [], x, h => by simp [initAt] at h
  | n, 0, d :: ds, x, h => by
    simp [initAt] at h
    exact ⟨d, rfl, by rw [Nat.add_zero]; simp [← h]⟩
  | n, i + 1, d :: ds, x, h => by
    obtain ⟨e, h1, h2⟩ := initAt_get bs (n + 1) i ds x (by simpa [initAt] using h)
    exact ⟨e, by simpa using h1, by rw [show n + (i + 1) = n + 1 + i by omega]; exact h2⟩
theorem initAt_put (bs : List Nat) : ∀ (n i : Nat) (ds : List D) (d : D), ds[i]? = some d → (initAt bs n ds)[i]? = some (if bs.contains (n + i) = true then Cell.own d else Cell.dat d)
  | n, i, [], d, h => by simp at h
  | n, 0, e :: ds, d, h => by simp at h; subst h; rfl
  | n, i + 1, e :: ds, d, h => by
    have := initAt_put bs (n + 1) i ds d (by simpa using h)
    rw [show n + (i + 1) = n + 1 + i by omega]
    simpa [initAt] using this
theorem initAt_len (bs : List Nat) : ∀ (n : Nat) (ds : List D), (initAt bs n ds).length = ds.length
  | _, [] => rfl
  | n, d :: ds => by unfold initAt; rw [List.length_cons, List.length_cons, initAt_len]
section
variable {c : Cf} {G H : Hp} {A : Addr → Prop}
theorem initC_get {len : Nat} {bs : List Nat} {ds : List D} {i : Nat} {x : Cell} (h : (initC len bs ds)[i]? = some x) (hx : x ≠ .no) : ∃ d, ds[i]? = some d ∧ i < ds.length ∧ x = if bs.contains i = true then Cell.own d else Cell.dat d := by
  unfold initC at h
  by_cases hi : i < ds.length
  · rw [List.getElem?_append_left (by rw [initAt_len]; exact hi)] at h
    obtain ⟨d, h1, h2⟩ := initAt_get bs 0 i ds x h
    exact ⟨d, h1, hi, by rw [Nat.zero_add] at h2; exact h2⟩
  · rw [List.getElem?_append_right (by rw [initAt_len]; omega)] at h
    have := List.mem_of_getElem? h
    exact absurd (List.eq_of_mem_replicate this) hx
/-- the cells at a def's start -/
theorem rel_start {N : List Str} {bs : List Nat} {vs : List V} {ds : List D} (h : ArgsOk c bs G A H vs ds) (hl : vs.length ≤ N.length) (B : List (Nat × Addr)) (hB : ∀ q ∈ B, q.1 ∈ bs ∧ vs[q.1]? = some (.ref q.2)) (hbs : ∀ i ∈ bs, i < ds.length) :
    Rel c B G (fun b => ∃ i ∈ bs, vs[i]? = some (.ref b)) H (L2.start N vs) (initC N.length bs ds) := by
  have st : ∀ (i : Nat) (v : V), vs[i]? = some v → (L2.start N vs)[i]? = some (some v) := fun i v e => by
    have hi := (List.getElem?_eq_some_iff.mp e).1
    unfold L2.start
    rw [List.getElem?_append_left (by rw [List.length_map]; exact hi), List.getElem?_map, e]
    rfl
  have aa : ∀ b, (∃ i ∈ bs, vs[i]? = some (V.ref b)) → A b := fun b ⟨i, hi, e⟩ => by
    have hlt := hbs i hi
    obtain ⟨p, h1, h2, _⟩ := h.own i _ (List.getElem?_eq_getElem hlt) hi
    rw [e] at h1; cases h1; exact h2
  refine ⟨h.same, ?_, fun b hb => h.ownA b (aa b hb), fun i d e => ?_, fun i d e => ?_, fun i j d e p hij h1 h2 h3 h4 => ?_, fun q hq => ?_⟩
  · unfold L2.start initC
    rw [List.length_append, List.length_append, List.length_map, List.length_replicate, List.length_replicate, initAt_len, h.len]
  · obtain ⟨d', h1, hi, h2⟩ := initC_get e (fun z => by cases z)
    by_cases hb : bs.contains i = true
    · rw [if_pos hb] at h2; cases h2
    · rw [if_neg hb] at h2; cases h2
      obtain ⟨v, k1, k2⟩ := h.dat i d h1 (fun z => hb (by simpa using z))
      exact ⟨v, st i v k1, k2⟩
  · obtain ⟨d', h1, hi, h2⟩ := initC_get e (fun z => by cases z)
    by_cases hb : bs.contains i = true
    · rw [if_pos hb] at h2; cases h2
      have hm : i ∈ bs := by simpa using hb
      obtain ⟨p, k1, k2, k3⟩ := h.own i d h1 hm
      exact ⟨p, st i _ k1, ⟨i, hm, k1⟩, k3⟩
    · rw [if_neg hb] at h2; cases h2
  · obtain ⟨d', e1, hi, f1⟩ := initC_get h1 (fun z => by cases z)
    obtain ⟨e', e2, hj, f2⟩ := initC_get h2 (fun z => by cases z)
    have hb1 : bs.contains i = true := by
      by_cases hb : bs.contains i = true
      · exact hb
      · rw [if_neg hb] at f1; cases f1
    have hb2 : bs.contains j = true := by
      by_cases hb : bs.contains j = true
      · exact hb
      · rw [if_neg hb] at f2; cases f2
    have hm1 : i ∈ bs := by simpa using hb1
    have hm2 : j ∈ bs := by simpa using hb2
    obtain ⟨p1, k1, _⟩ := h.own i d' e1 hm1
    obtain ⟨p2, k2, _⟩ := h.own j e' e2 hm2
    have q1 := st i _ k1
    have q2 := st j _ k2
    rw [h3] at q1; cases q1
    rw [h4] at q2; cases q2
    exact h.dis i j p hij hm1 hm2 k1 k2
  · obtain ⟨h1, h2⟩ := hB q hq
    have hlt := hbs q.1 h1
    refine ⟨st _ _ h2, ⟨q.1, h1, h2⟩, ds[q.1], ?_⟩
    · unfold initC
      rw [List.getElem?_append_left (by rw [initAt_len]; exact hlt), initAt_put bs 0 q.1 ds _ (List.getElem?_eq_getElem hlt), Nat.zero_add, if_pos (by simpa using h1)]
/-- behind a body -/
theorem ret_of {bs : List Nat} {vs : List V} {ds : List D} {B : List (Nat × Addr)} {G' H' : Hp} {A' : Addr → Prop} {σ' : L2.St} {ρ' : Cells} (h : ArgsOk c bs G A H vs ds) (hbs : ∀ i ∈ bs, i < ds.length) (hB : ∀ i ∈ bs, ∃ p, (i, p) ∈ B ∧ vs[i]? = some (.ref p))
    (s : Stp G (fun b => ∃ i ∈ bs, vs[i]? = some (.ref b)) H G' A' H') (R : Rel c B G' A' H' σ' ρ') : Ret c bs G A H vs (outsOf bs ρ') G' H' := by
  have aa : ∀ b, (∃ i ∈ bs, vs[i]? = some (V.ref b)) → A b := fun b ⟨i, hi, e⟩ => by
    have hlt := hbs i hi
    obtain ⟨p, h1, h2, _⟩ := h.own i _ (List.getElem?_eq_getElem hlt) hi
    rw [e] at h1; cases h1; exact h2
  refine ⟨s.gg, fun b o e n => s.kp b o e fun z => n (aa b z), R.same, fun b hb => ?_, by unfold outsOf; rw [List.length_map], fun k i d e1 e2 => ?_⟩
  · by_cases z : ∃ i ∈ bs, vs[i]? = some (V.ref b)
    · obtain ⟨i, hi, e⟩ := z
      obtain ⟨p, hp, e'⟩ := hB i hi
      rw [e] at e'; cases e'
      exact R.ownA b (R.byr _ hp).2.1
    · obtain ⟨h1, o, h2⟩ := h.ownA b hb
      obtain ⟨k1, k2⟩ := s.kp b o h2 z
      exact ⟨k2.trans h1, o, k1⟩
  · have hi : i ∈ bs := List.mem_of_getElem? e1
    obtain ⟨p, hp, e⟩ := hB i hi
    obtain ⟨q1, q2, x, q3⟩ := R.byr _ hp
    have ed : d = x := by
      unfold outsOf at e2
      rw [List.getElem?_map, e1] at e2
      have e2 : some (match ρ'[i]? with | some (Cell.own d) => d | _ => D.non) = some d := e2
      have q3 : ρ'[i]? = some (.own x) := q3
      rw [q3] at e2
      exact (Option.some.inj e2).symm
    subst ed
    obtain ⟨p', h1, h2, h3⟩ := R.own i d q3
    rw [show σ'[i]? = some (some (V.ref p)) from q1] at h1
    cases h1
    exact ⟨p, e, h3⟩
end
section
variable {P : Program} {w : World} {K : PySem.W.Frag} {mg : Str → Option Value} {base : Heap} {c : Cf}
theorem fn_core {qual : Str} {st : Stmt} {f : Addr} {N ps : List Str} {m : MS} (bs : List Nat) (hN : ps.length ≤ N.length) (hbs : ∀ i ∈ bs, i < ps.length) {cdv : Value} {A : Around} {outer : List Env} {s : Shared} {H : Hp} {vs : List V} {Q : VK} {E : XK}
    (body : ∀ (B : List (Nat × Addr)), B.map (·.1) = bs → PSs (cxOf (L2.CX P w) P w K mg base N qual (defScope st) f cdv A outer s H E) (defBody st) (tS c B (fun cls d _ H => E cls d H) m)) (h : spM c bs ps.length (mkFn N.length bs m) vs H Q E) :
    ∃ t, PSs (cxOf (L2.CX P w) P w K mg base N qual (defScope st) f cdv A outer s H E) (defBody st) t ∧ t { nx := fun _ H' => Q .non H', rt := Q } (start N vs) H := by
  obtain ⟨G, A0, ds, hn, ok, a⟩ := h
  have hl : vs.length = ps.length := by rw [ok.len, hn]
  have hlt : ∀ i ∈ bs, i < ds.length := fun i hi => by rw [hn]; exact hbs i hi
  -- the addresses of what is handed by reference
  have : ∃ B : List (Nat × Addr), B.map (·.1) = bs ∧ ∀ q ∈ B, vs[q.1]? = some (.ref q.2) := by
    have : ∀ l : List Nat, (∀ i ∈ l, i ∈ bs) → ∃ B : List (Nat × Addr), B.map (·.1) = l ∧ ∀ q ∈ B, vs[q.1]? = some (.ref q.2) := by
      intro l
      induction l with
      | nil => intro _; exact ⟨[], rfl, fun q h => by cases h⟩
      | cons i l ih =>
        intro hi
        obtain ⟨B, h1, h2⟩ := ih fun j hj => hi j (List.mem_cons_of_mem _ hj)
        have him := hi i List.mem_cons_self
        obtain ⟨p, e, _⟩ := ok.own i _ (List.getElem?_eq_getElem (hlt i him)) him
        refine ⟨(i, p) :: B, by rw [List.map_cons, h1], fun q hq => ?_⟩
        rcases List.mem_cons.mp hq with z | z
        · subst z; exact e
        · exact h2 q z
    exact this bs fun _ h => h
  obtain ⟨B, hB1, hB2⟩ := this
  have hBm : ∀ q ∈ B, q.1 ∈ bs ∧ vs[q.1]? = some (.ref q.2) := fun q hq => ⟨by rw [← hB1]; exact List.mem_map_of_mem hq, hB2 q hq⟩
  have hBi : ∀ i ∈ bs, ∃ p, (i, p) ∈ B ∧ vs[i]? = some (.ref p) := fun i hi => by
    rw [← hB1] at hi
    obtain ⟨q, hq, e⟩ := List.mem_map.mp hi
    subst e
    exact ⟨q.2, hq, hB2 q hq⟩
  refine ⟨_, body B hB1, G, _, _, rel_start ok (by rw [hl]; exact hN) B hBm hlt, ?_⟩
  have a : AfterF c bs G A0 H vs (match m (initC N.length bs ds) with
    | .next ρ => .ret .non (outsOf bs ρ)
    | .ret d ρ => .ret d (outsOf bs ρ)
    | .exc x ρ => .exc x (outsOf bs ρ)
    | _ => .stuck) Q E := a
  cases e : m (initC N.length bs ds) with
  | stuck => rw [e] at a; exact a.elim
  | brk ρ => rw [e] at a; exact a.elim
  | cont ρ => rw [e] at a; exact a.elim
  | next ρ => rw [e] at a; exact fun G' A' H' σ' s' R' => a G' H' .non (ret_of ok hlt hBi s' R') .non
  | ret d ρ => rw [e] at a; exact fun G' A' H' σ' v s' R' r => a G' H' v (ret_of ok hlt hBi s' R') r
  | exc x ρ => rw [e] at a; exact fun G' A' H' σ' dd s' R' r => a G' H' dd (ret_of ok hlt hBi s' R') r
/-- THE RULE for a def: its body's meaning is m -/
theorem fn_ok {x qual : Str} {st : Stmt} {f : Addr} {fd : FuncData} {N ps : List Str} {k : Nat} {dvs : List V} {kws : List (Str × V)} {m : MS} (bs : List Nat) (F : FunD K x qual (defArgs st) (defBody st) (defScope st) dvs kws f fd) (S : FnScope N ps (defScope st)) (hN : ps.length ≤ N.length) (hbs : ∀ i ∈ bs, i < ps.length)
    (body : ∀ (B : List (Nat × Addr)), B.map (·.1) = bs → ∀ (cdv : Value) (A : Around) (outer : List Env) (s : Shared) (H : Hp) (E : XK), Room k (A.deeper (PyProof.Rows.envOfC qual (defScope st) s.heap.objs.size f cdv)) →
      PSs (cxOf (L2.CX P w) P w K mg base N qual (defScope st) f cdv A outer s H E) (defBody st) (tS c B (fun cls d _ H => E cls d H) m)) :
    FnOk P w K mg base (L2.CX P w) (k + 1) f fd ps (spM c bs ps.length (mkFn N.length bs m)) :=
  F.ok S (fun vs H Q E h => by
    obtain ⟨G, A, ds, hn, ok, _⟩ := h
    rw [ok.len, hn]) fun cdv A outer s H vs Q E hr h => fn_core bs hN hbs (fun B hB => body B hB cdv A outer s H E hr) h
theorem fn_ok0 {x qual : Str} {st : Stmt} {f : Addr} {fd : FuncData} {N ps : List Str} {k : Nat} {dvs : List V} {kws : List (Str × V)} {m : MS} (F : FunD K x qual (defArgs st) (defBody st) (defScope st) dvs kws f fd) (S : FnScope N ps (defScope st)) (hN : ps.length ≤ N.length)
    (body : ∀ (cdv : Value) (A : Around) (outer : List Env) (s : Shared) (H : Hp) (E : XK), Room k (A.deeper (PyProof.Rows.envOfC qual (defScope st) s.heap.objs.size f cdv)) →
      PSs (cxOf (L2.CX P w) P w K mg base N qual (defScope st) f cdv A outer s H E) (defBody st) (tS c [] (fun cls d _ H => E cls d H) m)) :
    FnOk P w K mg base (L2.CX P w) (k + 1) f fd ps (spM c [] ps.length (mkFn N.length [] m)) :=
  fn_ok [] F S hN (fun i h => by simp at h) fun B hB => by
    have : B = [] := by simpa using hB
    subst this
    exact body
theorem fn_ok1 (i : Nat) {x qual : Str} {st : Stmt} {f : Addr} {fd : FuncData} {N ps : List Str} {k : Nat} {dvs : List V} {kws : List (Str × V)} {m : MS} (F : FunD K x qual (defArgs st) (defBody st) (defScope st) dvs kws f fd) (S : FnScope N ps (defScope st)) (hN : ps.length ≤ N.length) (hi : i < ps.length)
    (body : ∀ (a : Addr) (cdv : Value) (A : Around) (outer : List Env) (s : Shared) (H : Hp) (E : XK), Room k (A.deeper (PyProof.Rows.envOfC qual (defScope st) s.heap.objs.size f cdv)) →
      PSs (cxOf (L2.CX P w) P w K mg base N qual (defScope st) f cdv A outer s H E) (defBody st) (tS c [(i, a)] (fun cls d _ H => E cls d H) m)) :
    FnOk P w K mg base (L2.CX P w) (k + 1) f fd ps (spM c [i] ps.length (mkFn N.length [i] m)) :=
  fn_ok [i] F S hN (fun j h => by simp at h; subst h; exact hi) fun B hB => by
    match B, hB with
    | [(j, a)], hB =>
      have : j = i := by simpa using hB
      subst this
      exact body a
end
end Fx
set_option Elab.async false
set_option linter.all false
set_option maxRecDepth 100000
set_option maxHeartbeats 4000000
namespace Fx
open PySem L2
/-- what the written part says of FarmError -/
structure BaseX (K : PySem.W.Frag) (mg : Str → Option Value) (CB : Addr) : Prop where
  gB : mg "FarmError" = some (.ref CB)
  sB : PySem.W.specialIn K (.ref CB) "__getattribute__" = some (some (.builtin "type.__getattribute__"))
  rB : PySem.W.readsIn K CB (.type "type") = true
  vB : PySem.W.findCls K (.ref CB) (.type "type") "__init__" = some (.val (.builtin "ValueError.__init__"))
section
variable {X : Cx} {o e : Expr} {es : List Expr} {to te : TE} {ta : TA} {f : Str} {p p' p1 p2 pos : Pos}
theorem pe_feinit {CB : Addr} {pl : Sem Bool} (T : BaseX X.K X.mg CB) (ha : PA X (e :: es) ta) (hg : Gl X "FarmError" := by rfl)
    (hc : eval (.Call (.Attribute (.Name "FarmError" p1) "__init__" p2) (e :: es) [] pos) X.env = (do
      let ov ← eval (.Name "FarmError" p1) X.env
      standAt p2.atName
      let (f, first) ← holding [ov] (getMethod ov "__init__" pl)
      callWith pos f first (backTo pos (starEach (e :: es) X.env)) (backToKw pos (keywordEach [] X.env))) := by rfl)
    (he : starEach (e :: es) X.env = (false, eval e X.env) :: starEach es X.env := by rfl) (hpl : (backTo pos (starEach es X.env)).any (·.1) = false := by rfl) :
    PE X (.Call (.Attribute (.Name "FarmError" p1) "__init__" p2) (e :: es) [] pos) (tVeI X.K ta) := by
  refine ⟨fun pins s σ H Q I h => ?_⟩
  refine PySem.W.methodCall_KW (ld_glob I hg T.gB ?_ (by decide)) hc
  refine PySem.W.method_cls I.kIn T.sB (PySem.W.cls_value I.kIn T.rB T.vB (by decide +kernel) ?_)
  show wpAny _ _ (callWith pos (Value.builtin "ValueError.__init__") [] (backTo pos (starEach (e :: es) X.env)) []) _ _ _
  refine PyProof.Rows.callWith_method1 (thn (ha.run pos pins _ σ H _ (I.tok _) h) fun us s1 ⟨vs, H1, I1, r1, a, C, ws, ev, hl, T, ea, q⟩ => ?_) he hpl
  subst ev
  cases r1 with
  | @cons _ u0 _ ur ra rw' =>
    obtain rfl : u0 = Value.ref a := ra
    have hlen : ur.length ≤ sizeLine := by
      rw [← Paired.length rw', sizeLine_eq]
      omega
    exact oinit_ok T I1 ea hlen fun s' J => ⟨.non, H1, J, rfl, q⟩
end
/-- __init__ with one field, with two -/
def spI1 (C : Addr) (f : Str) : Sp := fun vs H Q _ => ∃ a y, vs = [.ref a, y] ∧ H a = some (exo a C none) ∧ ∀ dx, H dx = none → dx ≠ a → Q .non (upd (upd H dx (exd dx [(f, y)])) a (exo a C (some dx)))
def spI2 (C : Addr) (f g : Str) : Sp := fun vs H Q _ => ∃ a y z, vs = [.ref a, y, z] ∧ H a = some (exo a C none) ∧ ∀ dx, H dx = none → dx ≠ a → Q .non (upd (upd (upd H dx (exd dx [(f, y)])) a (exo a C (some dx))) dx (exd dx [(g, z), (f, y)]))
theorem read1 {K : PySem.W.Frag} {C : Addr} {f msg : Str} {N : List Str} (hN : N.length = 2) (T : OexC K C) (hf : PySem.W.findIn K (.ref C) f = some none) {vs : List V} {H : Hp} {Q : VK} {E : XK} (h : spI1 C f vs H Q E) :
    tSeq (tDrop (tVeI K (tCons (tVar 0) (tCons (tC (.str msg)) tNil)))) (tOst K f (tVar 0) (tVar 1)) { nx := fun _ H' => Q .non H', rt := Q } (L2.start N vs) H := by
  obtain ⟨a, y, rfl, ha, k⟩ := h
  have e0 : (L2.start N [V.ref a, y])[0]? = some (some (V.ref a)) := rfl
  have e1 : (L2.start N [V.ref a, y])[1]? = some (some y) := rfl
  exact ⟨_, e0, a, C, [.str msg], rfl, by simp, T, ha, _, e1, _, e0, a, C, rfl, T, hf, .inl ⟨ha, fun dx n ne => k dx n ne⟩⟩
theorem read2 {K : PySem.W.Frag} {C : Addr} {f g msg : Str} {N : List Str} (hN : N.length = 3) (T : OexC K C) (hf : PySem.W.findIn K (.ref C) f = some none) (hg : PySem.W.findIn K (.ref C) g = some none) {vs : List V} {H : Hp} {Q : VK} {E : XK} (h : spI2 C f g vs H Q E) :
    tSeq (tDrop (tVeI K (tCons (tVar 0) (tCons (tC (.str msg)) tNil)))) (tSeq (tOst K f (tVar 0) (tVar 1)) (tOst K g (tVar 0) (tVar 2))) { nx := fun _ H' => Q .non H', rt := Q } (L2.start N vs) H := by
  obtain ⟨a, y, z, rfl, ha, k⟩ := h
  have e0 : (L2.start N [V.ref a, y, z])[0]? = some (some (V.ref a)) := rfl
  have e1 : (L2.start N [V.ref a, y, z])[1]? = some (some y) := rfl
  have e2 : (L2.start N [V.ref a, y, z])[2]? = some (some z) := rfl
  refine ⟨_, e0, a, C, [.str msg], rfl, by simp, T, ha, _, e1, _, e0, a, C, rfl, T, hf, .inl ⟨ha, fun dx n ne => ?_⟩⟩
  exact ⟨_, e2, _, e0, a, C, rfl, T, hg, .inr ⟨dx, _, upd_same, by rw [upd_ne ne, upd_same], by simp, k dx n ne⟩⟩
section
variable {c : Cf} {B : List (Nat × Addr)} {W : WX} {X : Cx} {G H : Hp} {A : Addr → Prop} {σ : L2.St} {ρ : Cells} {Z : Ends}
/-- a class of errors as the written part has it: its code x -/
structure XcK (c : Cf) (K : PySem.W.Frag) (mg : Str → Option Value) (x : Nat) (nm : Str) (fI : Addr) : Prop where
  gC : mg nm = some (.ref (c.exc x))
  oex : OexC K (c.exc x)
  iC : PySem.W.findIn K (.ref (c.exc x)) "__init__" = some (some (.ref fI))
  tI : PySem.W.typeIn K (.ref fI) = some (.type "function")
def mRaise (x : Nat) (fs : List (M D)) : MS := mDo (seqM fs) fun ds ρ => .exc ⟨x, ds.reverse⟩ ρ
end
end Fx
set_option Elab.async false
set_option linter.all false
set_option maxRecDepth 100000
set_option maxHeartbeats 4000000
namespace Fx
open PySem L2
section
variable {c : Cf} {B : List (Nat × Addr)} {W : WX} {X : Cx} {G H : Hp} {A : Addr → Prop} {σ : L2.St} {ρ : Cells} {Z : Ends}
def mFld (fe : M D) (f : Str) : M D := fe.bind fun d => match d with
  | .rcd ns ds => M.lift ((ns.zip ds).lookup f)
  | _ => M.stuck
def mMake (F : Fn) (fs : List (M D)) : M D := (seqM fs).bind fun ds ρ => match F (.rcd [] [] :: ds) with
  | .ret .non [.rcd ns es] => .ok (.rcd ns es) ρ
  | .exc x _ => .exc x ρ
  | _ => .stuck
def noName (m : Str) : D → Bool
  | .rcd ns _ => !ns.contains m
  | _ => false
def mMethF (F : Fn) (m : Str) (fo : M D) (fs : List (M D)) : M D := fo.bind fun d => if noName m d = true then (seqM fs).bind fun ds => appF F (d :: ds) else M.stuck
end
end Fx
set_option Elab.async false
set_option linter.all false
set_option maxRecDepth 100000
set_option maxHeartbeats 4000000
namespace Fx
open PySem L2
section
variable {c : Cf} {B : List (Nat × Addr)} {W : WX} {X : Cx} {G H : Hp} {A : Addr → Prop} {σ : L2.St} {ρ : Cells} {Z : Ends}
def mNeg (f : M D) : M D := f.bind fun d => match d with
  | .int i => M.pure (.int (-i))
  | _ => M.stuck
theorem pm_neg {a : Expr} {f : M D} {pos : Pos} (h : PE X a (tM c B W f)) : PE X (.UnaryOp .USub a pos) (tM c B W (mNeg f)) :=
  pe_imp (pe_un un_neg h) fun σ H Q ⟨G, A, ρ, R, a⟩ => by
    refine ⟨G, A, ρ, R, a.split.imp fun d ρ1 G1 H1 _ _ R1 q v r => ?_⟩
    cases d <;> first | exact q.elim | skip
    obtain rfl := rep_int r
    exact ⟨_, rfl, After.ok q R1 _ (.int _)⟩
def mPar (f g : M D) (i j : Nat) : MS := mDo f fun d => mDo g fun e ρ => .next ((ρ.set i (.dat d)).set j (.dat e))
def isRcd : D → Bool
  | .rcd _ _ => true
  | _ => false
def mLenF (F : Fn) (fe : M D) : M D := fe.bind fun d ρ => if isRcd d = true then (match F [d] with
  | .ret (.int n) _ => if 0 ≤ n ∧ n < 2 ^ 63 then .ok (.int n) ρ else .stuck
  | _ => .stuck) else .stuck
end
end Fx
set_option Elab.async false
set_option linter.all false
set_option maxRecDepth 100000
set_option maxHeartbeats 4000000
namespace Fx
open PySem L2
section
variable {c : Cf} {B : List (Nat × Addr)} {W : WX} {X : Cx} {G H : Hp} {A : Addr → Prop} {σ : L2.St} {ρ : Cells} {Z : Ends}
def dedupI : List Int → List Int
  | [] => []
  | a :: l => if l.contains a = true then dedupI l else a :: dedupI l
def sLenSet : D → Option D
  | .tup ds => (intsOf ds).bind fun is => if is.length ≤ 4000 then some (.int (dedupI is).length) else none
  | _ => none
def mLenSet (fe : M D) : M D := fe.bind fun d => M.lift (sLenSet d)
def keyD : D → Option Key
  | .int i => some (.inl i)
  | .str x => some (.inr x)
  | _ => none
theorem rep_key {v : V} {d : D} {k : Key} (r : Rep c G v d) (h : keyD d = some k) : v = kV k := by
  cases r <;> cases h <;> rfl
theorem Opr.dic {v : V} {ks : List Key} {ds : List D} (s : Same G H) (h : Opr c G H v (.dic ks ds)) : ∃ p xs, v = .ref p ∧ Rd H p (.dK (ks.zip xs)) ∧ ks.length = xs.length ∧ RepL c G xs ds := by
  rcases h with h | ⟨p, rfl, xs, h1, h2, h3⟩
  · cases h with
    | dic h1 h2 h3 => exact ⟨_, _, rfl, same_rd s h1, h2, h3⟩
  · exact ⟨p, xs, rfl, .inl h1, h2, h3⟩
theorem Opr.key {x : V} {d : D} {k : Key} (a : Opr c G H x d) (h : keyD d = some k) : x = kV k := by
  refine rep_key (a.rep fun o z => ?_) h
  cases d <;> first | exact z.elim | cases h
end
end Fx
set_option Elab.async false
set_option linter.all false
set_option maxRecDepth 100000
set_option maxHeartbeats 4000000
namespace Fx
open PySem L2
section
variable {c : Cf} {B : List (Nat × Addr)} {W : WX} {X : Cx} {G H : Hp} {A : Addr → Prop} {σ : L2.St} {ρ : Cells} {Z : Ends}
def mCallN (F : Fn) (f : M D) (fs : List (M D)) : M D := f.bind fun d => (seqM fs).bind fun ds ρ => match F (d :: ds) with
  | .stuck => .stuck
  | .ret e _ => .ok e ρ
  | .exc x _ => .exc x ρ
theorem callN_imp {F : Fn} {g : M D} {fs : List (M D)} {n : Nat} {ex : Expr} (hpe : PE X ex (tCallSD (spM c [0] n F) [] (WE W) (tCons (tF c B W g) (tD c B W fs)))) (hn : fs.length + 1 = n) : PE X ex (tM c B W (mCallN F g fs)) :=
  pe_imp hpe fun σ H Q ⟨G, A, ρ, R, a⟩ => by
    refine ⟨G, A, ρ, R, a.split.imp fun d ρ1 G1 H1 _ _ R1 a1 p0 H2 hp hh ho => ?_⟩
    have R2 : Rel c B G1 A H2 σ ρ1 := R1.ext ⟨Same.refl _, hh, R1.same.trans hh, fun _ _ _ => rfl⟩
    refine ⟨G1, A, ρ1, R2, ?_⟩
    have a2 := a1.split.len
    have np : ¬ A p0 := fun z => by obtain ⟨_, o, q⟩ := R1.ownA p0 z; rw [hp] at q; cases q
    have gp : G1 p0 = none := R1.same.free hp
    obtain ⟨o0, ho0⟩ := ho.some
    cases es' : seqM fs ρ1 with
    | stuck => rw [es'] at a2; exact a2.elim
    | exc y ρ3 =>
      rw [es'] at a2
      exact After.of (Same.refl _) (fun b o e _ => ⟨hh b o e, rfl⟩) (show After c B W G1 A H1 σ (.exc y ρ3) _ from a2)
    | ok ds ρ3 =>
      rw [es'] at a2
      intro G3 H3 s3 k3 R3 vs rv
      have hp3 := k3 p0 o0 ho0 np
      have g3 : G3 p0 = none := hp3.2.trans gp
      have R3' : Rel c B G3 A (fun b => if b = p0 then none else H3 b) σ ρ3 := R3.other g3 np fun b hb => if_neg hb
      obtain ⟨hl, q⟩ := a2 G3 _ s3 (fun b o hb hn => by
        have q := k3 b o (hh b o hb) hn
        exact ⟨by show (if b = p0 then none else H3 b) = some o; rw [if_neg (ne_of_none hb hp)]; exact q.1, q.2⟩) R3'
      simp only [List.append_nil]
      refine ⟨G3, fun b => b = p0, d :: ds, by rw [List.length_cons, hl]; exact hn, ⟨R3.same, fun b hb => by rw [hb]; exact ⟨g3, _, hp3.1⟩, by rw [List.length_cons, List.length_cons, rv.length], fun i d' hd hi => ?_, fun i d' hd hi => ?_, fun i j p hij hi hj => ?_⟩, ?_⟩
      · cases i with
        | zero => simp at hi
        | succ i =>
          obtain ⟨v, h1, h2⟩ := rv.get (i := i) (d := d') (by simpa using hd)
          exact ⟨v, by simpa using h1, h2⟩
      · have hi0 : i = 0 := by simpa using hi
        subst hi0
        have hd' : d = d' := by simpa using hd
        subst hd'
        refine ⟨p0, rfl, rfl, ?_⟩
        rw [hp3.1, ← ho0]
        exact ho.mono s3
      · have h1 : i = 0 := by simpa using hi
        have h2 : j = 0 := by simpa using hj
        exact absurd (h1.trans h2.symm) hij
      · have ext : ∀ {outs : List D} {G' H' : Hp}, Ret c [0] G3 (fun b => b = p0) H3 (V.ref p0 :: vs) outs G' H' → Ext G3 (fun b => if b = p0 then none else H3 b) G' H' := fun {outs G' H'} r =>
          ⟨r.gg, fun b o e => by
            by_cases z : b = p0
            · rw [if_pos z] at e; cases e
            · rw [if_neg z] at e; exact (r.kp b o e z).1, r.gh, fun b o e => by
            by_cases z : b = p0
            · rw [if_pos z] at e; cases e
            · rw [if_neg z] at e; exact (r.kp b o e z).2⟩
        have q : After c B W G3 A (fun b => if b = p0 then none else H3 b) σ (match F (d :: ds) with
          | .stuck => .stuck
          | .ret e _ => .ok e ρ3
          | .exc x _ => .exc x ρ3) (fun d _ G' H' => ∀ v, Rep c G' v d → Q v H') := q
        cases ef : F (d :: ds) with
        | stuck => rw [ef] at q; exact q.elim
        | ret e outs =>
          rw [ef] at q
          intro G' H' v r rv
          have ee := ext r
          exact q G' H' ee.gg ee.keep (R3'.ext ee) v rv
        | exc y outs =>
          rw [ef] at q
          intro G' H' dd r rx
          have ee := ext r
          exact q G' H' dd ee.gg ee.keep (R3'.ext ee) rx
theorem pm_callN {F : Fn} {g : M D} {fs : List (M D)} {k n : Nat} {f : Addr} {fd : FuncData} {ps : List Str} {x : Str} {p pos : Pos} {e : Expr} {es : List Expr}
    (Fo : FnOk X.prog X.w X.K X.mg X.base (L2.CX X.prog X.w) k f fd ps (spM c [0] n F)) (hr : Room k X.A) (tk : Takes X W) (hm : X.mg x = some (.ref f)) (hk : PySem.W.keepIn X.K (.ref f) = true) (hb : Binds X.K fd ps [])
    (he0 : PE X e (tF c B W g)) (ha : PA X es (tD c B W fs)) (hn : fs.length + 1 = n := by rfl) (hg : Gl X x := by rfl) (hdb : (x == ("__debug__" : Str)) = false := by decide)
    (he : starEach (e :: es) X.env = (false, eval e X.env) :: starEach es X.env := by rfl) (hpl : (backTo pos (starEach es X.env)).any (·.1) = false := by rfl) :
    PE X (.Call (.Name x p) (e :: es) [] pos) (tM c B W (mCallN F g fs)) :=
  callN_imp (pe_callSD Fo hr hg hm hk hb .nil (fun σ => passAt tk σ) (pa_cons he0 ha he) hdb he hpl) hn
end
section
variable {P : Program} {w : World} {K : PySem.W.Frag} {mg : Str → Option Value} {base : Heap} {c : Cf}
/-- the def that stands under the name nm -/
structure Cal (P : Program) (w : World) (K : PySem.W.Frag) (mg : Str → Option Value) (base : Heap) (c : Cf) (k : Nat) (nm : Str) (bs : List Nat) (n : Nat) (F : Fn) : Prop where
  ex : ∃ f fd ps, FnOk P w K mg base (L2.CX P w) k f fd ps (spM c bs n F) ∧ mg nm = some (.ref f) ∧ PySem.W.keepIn K (.ref f) = true ∧ Binds K fd ps []
theorem Cal.mono {k j : Nat} {nm : Str} {bs : List Nat} {n : Nat} {F : Fn} (h : Cal P w K mg base c k nm bs n F) (hk : k ≤ j) : Cal P w K mg base c j nm bs n F := by
  obtain ⟨f, fd, ps, h1, h2⟩ := h.ex
  exact ⟨f, fd, ps, h1.mono hk, h2⟩
/-- n parameters ahead, one by keyword alone, its default: () -/
structure CalK (P : Program) (w : World) (K : PySem.W.Frag) (mg : Str → Option Value) (base : Heap) (c : Cf) (k : Nat) (nm : Str) (n : Nat) (ky : Str) (F : Fn) : Prop where
  ex : ∃ f fd ps vds dvs, FnOk P w K mg base (L2.CX P w) k f fd ps (spM c [] (n + 1) F) ∧ mg nm = some (.ref f) ∧ PySem.W.keepIn K (.ref f) = true ∧ Binds K fd ps vds ∧ Vals dvs vds ∧ (∀ G, RepL c G dvs [.tup []]) ∧
    KBn K fd ps n [ky] (fun us ws => us ++ ws) (fun vs zs => vs ++ zs)
theorem CalK.mono {k j : Nat} {nm : Str} {n : Nat} {ky : Str} {F : Fn} (h : CalK P w K mg base c k nm n ky F) (hk : k ≤ j) : CalK P w K mg base c j nm n ky F := by
  obtain ⟨f, fd, ps, vds, dvs, h1, h2⟩ := h.ex
  exact ⟨f, fd, ps, vds, dvs, h1.mono hk, h2⟩
end
section
variable {c : Cf} {B : List (Nat × Addr)} {W : WX} {X : Cx}
theorem pm_cal {F : Fn} {os : List Opn} {k j n : Nat} {x : Str} {p pos : Pos} {e : Expr} {es : List Expr} (C : Cal X.prog X.w X.K X.mg X.base c j x (ownPos 0 os) n F) (hr : Room k X.A) (tk : Takes X W) (ha : PA X (e :: es) (tR c B W os)) (hj : j ≤ k := by decide)
    (nd : (ownSlots os).Nodup := by decide) (hn : os.length + 0 = n := by rfl) (hg : Gl X x := by rfl) (hdb : (x == ("__debug__" : Str)) = false := by decide)
    (he : starEach (e :: es) X.env = (false, eval e X.env) :: starEach es X.env := by rfl) (hpl : (backTo pos (starEach es X.env)).any (·.1) = false := by rfl) :
    PE X (.Call (.Name x p) (e :: es) [] pos) (tM c B W (mCallF F os)) := by
  obtain ⟨f, fd, ps, h1, h2, h3, h4⟩ := C.ex
  have q := pm_callF (p := p) (dds := []) h1 (hr.mono hj) tk h2 h3 h4 .nil (fun _ => .nil) ha nd hn hg hdb he hpl
  simp only [List.append_nil] at q
  exact q
theorem pm_calN {F : Fn} {g : M D} {fs : List (M D)} {k j n : Nat} {x : Str} {p pos : Pos} {e : Expr} {es : List Expr} (C : Cal X.prog X.w X.K X.mg X.base c j x [0] n F) (hr : Room k X.A) (tk : Takes X W) (he0 : PE X e (tF c B W g)) (ha : PA X es (tD c B W fs)) (hj : j ≤ k := by decide)
    (hn : fs.length + 1 = n := by rfl) (hg : Gl X x := by rfl) (hdb : (x == ("__debug__" : Str)) = false := by decide)
    (he : starEach (e :: es) X.env = (false, eval e X.env) :: starEach es X.env := by rfl) (hpl : (backTo pos (starEach es X.env)).any (·.1) = false := by rfl) :
    PE X (.Call (.Name x p) (e :: es) [] pos) (tM c B W (mCallN F g fs)) := by
  obtain ⟨f, fd, ps, h1, h2, h3, h4⟩ := C.ex
  exact pm_callN h1 (hr.mono hj) tk h2 h3 h4 he0 ha hn hg hdb he hpl
end
end Fx
set_option Elab.async false
set_option linter.all false
set_option maxRecDepth 100000
set_option maxHeartbeats 4000000
namespace Fx
open PySem L2
/-- the built-in names that the module has not bound -/
structure Blt (mg : Str → Option Value) : Prop where
  zlen : mg "len" = none
  ztuple : mg "tuple" = none
  zlist : mg "list" = none
  zint : mg "int" = none
  zsum : mg "sum" = none
  zall : mg "all" = none
  zmax : mg "max" = none
  zmin : mg "min" = none
  zsorted : mg "sorted" = none
  zisinstance : mg "isinstance" = none
  zenumerate : mg "enumerate" = none
  zrange : mg "range" = none
  zset : mg "set" = none
  zbool : mg "bool" = none
  zstr : mg "str" = none
section
variable {c : Cf} {B : List (Nat × Addr)} {W : WX} {X : Cx} {G H : Hp} {A : Addr → Prop} {σ : L2.St} {ρ : Cells} {Z : Ends}
theorem o_add {a b : Expr} {oa ob : Opn} {pos : Pos} (ha : PE X a (tO c B W oa)) (hb : PE X b (tO c B W ob)) (hK : c.K = X.K := by rfl) : PE X (.BinOp a .Add b pos) (tM c B W (mOp2 sAdd oa ob)) := pm_op semAdd (by rw [hK]; exact pe_op op_addA ha hb)
theorem o_mul {a b : Expr} {oa ob : Opn} {pos : Pos} (ha : PE X a (tO c B W oa)) (hb : PE X b (tO c B W ob)) : PE X (.BinOp a .Mult b pos) (tM c B W (mOp2 sMul oa ob)) := pm_op semMul (pe_op op_mul ha hb)
theorem o_fdiv {a b : Expr} {oa ob : Opn} {pos : Pos} (ha : PE X a (tO c B W oa)) (hb : PE X b (tO c B W ob)) : PE X (.BinOp a .FloorDiv b pos) (tM c B W (mOp2 sFdiv oa ob)) := pm_op semFdiv (pe_op op_fdivN ha hb)
theorem o_mod {a b : Expr} {oa ob : Opn} {pos : Pos} (ha : PE X a (tO c B W oa)) (hb : PE X b (tO c B W ob)) : PE X (.BinOp a .Mod b pos) (tM c B W (mOp2 sMod oa ob)) := pm_op semMod (pe_op op_modN ha hb)
theorem o_pow {a b : Expr} {oa ob : Opn} {pos : Pos} (ha : PE X a (tO c B W oa)) (hb : PE X b (tO c B W ob)) : PE X (.BinOp a .Pow b pos) (tM c B W (mOp2 sPow oa ob)) := pm_op semPow (pe_op op_pow ha hb)
theorem f_mul {a b : Expr} {oa ob : Opn} {pos : Pos} (ha : PE X a (tO c B W oa)) (hb : PE X b (tO c B W ob)) (hK : c.K = X.K := by rfl) : PE X (.BinOp a .Mult b pos) (tF c B W (mOp2 sMulL oa ob)) := pf_op semMulL (by rw [hK]; exact pe_op op_repR ha hb)
theorem o_ge {a b : Expr} {oa ob : Opn} {pos : Pos} (ha : PE X a (tO c B W oa)) (hb : PE X b (tO c B W ob)) : PE X (.Compare a [.GtE] [b] pos) (tM c B W (mOp2 sGe oa ob)) := pm_op semGe (pe_cmpR op_ge ha hb (nomark _))
theorem o_eq {a b : Expr} {oa ob : Opn} {pos : Pos} (hu : X.A.units + 64 < cLine) (ha : PE X a (tO c B W oa)) (hb : PE X b (tO c B W ob)) (hK : c.K = X.K := by rfl) : PE X (.Compare a [.Eq] [b] pos) (tM c B W (mOp2 sEq oa ob)) := pm_op semEq (by rw [hK]; exact pe_cmpR (op_eqN hu) ha hb (nomark _))
theorem t_gt {a b : Expr} {oa ob : Opn} {pos : Pos} (ha : PE X a (tO c B W oa)) (hb : PE X b (tO c B W ob)) : PT X (.Compare a [.Gt] [b] pos) (tT c B W (mB (mOp2 sGt oa ob))) := pt_op semGt (pt_cmpR op_gt ha hb (nomark _))
theorem t_ne {a b : Expr} {oa ob : Opn} {pos : Pos} (hu : X.A.units + 64 < cLine) (ha : PE X a (tO c B W oa)) (hb : PE X b (tO c B W ob)) (hK : c.K = X.K := by rfl) : PT X (.Compare a [.NotEq] [b] pos) (tT c B W (mB (mOp2 sNe oa ob))) := pt_op semNe (by rw [hK]; exact pt_cmpR (op_neN hu) ha hb (nomark _))
theorem t_or {a b : Expr} {rest : List Expr} {pos : Pos} {f g : M Bool} (ha : PT X a (tT c B W f)) (hb : PW X (.BoolOp .Or (b :: rest) pos) (tT c B W g)) : PT X (.BoolOp .Or (a :: b :: rest) pos) (tT c B W (mOr f g)) := (pw_orM ha hb).pt
theorem o_ix {a b : Expr} {oa ob : Opn} {pos : Pos} (ha : PE X a (tO c B W oa)) (hb : PE X b (tO c B W ob)) (hK : c.K = X.K := by rfl) (hs : PlainIx b := by intro _ _; rfl) : PE X (.Subscript a b pos) (tM c B W (mOp2 sIx oa ob)) := pm_op semIx (by rw [hK]; exact pe_ix ix_N ha hb hs)
theorem o_sl {a : Expr} {lo hi : Option Expr} {o : Opn} {l u : Option (M D)} {p2 pos : Pos} (ha : PE X a (tO c B W o)) (hl : L2.PO X lo (tPt c B W l)) (hu : L2.PO X hi (tPt c B W u)) (hK : c.K = X.K := by rfl) : PE X (.Subscript a (.Slice lo hi none p2) pos) (tM c B W (mSl sCut o l u)) := pm_sl semCut (by rw [hK]; exact pe_slice sl_N ha hl hu)
theorem b_int {e : Expr} {o : Opn} {p pos : Pos} (T : Blt X.mg) (h : PE X e (tO c B W o)) (hg : Gl X "int" := by rfl) (hs : starEach [e] X.env = (false, eval e X.env) :: starEach [] X.env := by rfl) (hpl : (backTo pos (starEach [] X.env)).any (·.1) = false := by rfl) : PE X (.Call (.Name "int" p) [e] [] pos) (tM c B W (mCall sInt [o])) := pm_call semInt (pe_callTy call_int1 hg T.zint PyProof.Rows.boot_int (pa_consO h pa_nilO hs) (he := hs) (hpl := hpl))
end
end Fx
set_option Elab.async false
set_option linter.all false
set_option maxRecDepth 100000
set_option maxHeartbeats 4000000
namespace Fx
open PySem L2
section
variable {c : Cf} {B : List (Nat × Addr)} {W : WX} {X : Cx} {G H : Hp} {A : Addr → Prop} {σ : L2.St} {ρ : Cells} {Z : Ends}
def mListRg (f : M D) : M D := f.bind fun d => match d with
  | .int n => if -(2 ^ 62) ≤ n ∧ n ≤ 16777216 then M.pure (.lst (rangeD 0 n.toNat)) else M.stuck
  | _ => M.stuck
def mSetIx (i : Nat) (fj fe : M D) : MS := mDo fe fun d => mDo (ownAt i) fun _ => mDo fj fun j => mDo (ownAt i) fun o ρ => match o, j with
  | .lst ds, .int k => match ixN ds.length k with
    | some n => .next (ρ.set i (.own (.lst (ds.set n d))))
    | none => .stuck
  | _, _ => .stuck
theorem AfterS.ownAt {i : Nat} {k : D → MS} (h : AfterS c B W G A H (mDo (ownAt i) k ρ) Z) : ∃ d, ρ[i]? = some (.own d) ∧ AfterS c B W G A H (k d ρ) Z := by
  unfold mDo Fx.ownAt at h
  cases e1 : ρ[i]? with
  | none => simp only [e1] at h; exact h.elim
  | some cl =>
    simp only [e1] at h
    cases cl with
    | no => exact h.elim
    | dat d => exact h.elim
    | own o => exact ⟨o, rfl, h⟩
theorem ps_setIx (i : Nat) {x : Str} {ie e : Expr} {fj fe : M D} {np p pos : Pos} (he : PE X e (tM c B W fe)) (hj : PE X ie (tM c B W fj)) (hN : X.N[i]? = some x := by rfl) (hv : Vis X.env.scope x := by first | exact Or.inl rfl | exact Or.inr (Or.inl rfl) | exact Or.inr (Or.inr rfl)) (hd : (x == ("__debug__" : Str)) = false := by decide)
    (hcd : (x == ("__classdict__" : Str)) = false := by decide) (hs : swapsWithSole [.Subscript (.Name x np) ie p] e pos.line X.env = pure false := by rfl) (hw : swappedStores [.Subscript (.Name x np) ie p] e X.env = pure none := by rfl)
    (h1 : (assignEach [.Subscript (.Name x np) ie p] X.env).map (·.2) = [assign (.Subscript (.Name x np) ie p) X.env] := by rfl)
    (ha : ∀ v, assign (.Subscript (.Name x np) ie p) X.env v = (do
      let ov ← holding [v] (eval (.Name x np) X.env)
      let iv ← holding [v, ov] (eval ie X.env)
      standAt p
      holding [v, ov, iv] (setItem ov iv v)
      release [v, ov, iv] []) := by intro _; rfl) :
    PS X (.Assign [.Subscript (.Name x np) ie p] e pos) (tS c B W (mSetIx i fj fe)) :=
  ps_imp (ps_asg he (pg_sub (pe_var hN hv hd hcd) hj set_list ha) hs hw h1) fun Z σ H ⟨G, A, ρ, R, a⟩ => by
    refine ⟨G, A, ρ, R, (a.split R).imp fun d ρ1 G1 H1 _ _ R1 a1 v r => ?_⟩
    obtain ⟨o1, e1, a1⟩ := a1.ownAt
    obtain ⟨p, es, hA, hO⟩ := R1.own i o1 e1
    refine ⟨_, es, G1, A, ρ1, R1, (a1.split R1).imp fun jd ρ2 G2 H2 s2 _ R2 a2 w rw' => ?_⟩
    obtain ⟨o2, e2, a2⟩ := a2.ownAt
    obtain ⟨p', es', hA', hO'⟩ := R2.own i o2 e2
    rw [es] at es'; cases es'
    cases o2 <;> first | exact a2.elim | skip
    rename_i ds
    cases jd <;> first | exact a2.elim | skip
    rename_i kk _
    obtain rfl := rep_int rw'
    obtain ⟨xs, h2, h3⟩ := hO'
    have a2 : AfterS c B W G2 A H2 (match ixN ds.length kk with
      | some n => .next (ρ2.set i (.own (.lst (ds.set n d))))
      | none => .stuck) Z := a2
    cases ej : ixN ds.length kk with
    | none => rw [ej] at a2; exact a2.elim
    | some n =>
      rw [ej] at a2
      refine ⟨p, xs, kk, n, rfl, rfl, h2, by rw [h3.length]; exact ej, ?_⟩
      obtain ⟨R3, k3, s3⟩ := R2.setOwn (d' := .lst (ds.set n d)) (o := .lst (xs.set n v)) e2 es ⟨_, rfl, h3.set (r.mono s2) n⟩
      exact AfterS.nx (AfterS.of R2.own_there (Stp.same (Same.refl _) k3) a2) R3
end
end Fx
set_option Elab.async false
set_option linter.all false
set_option maxRecDepth 100000
set_option maxHeartbeats 4000000
namespace Fx
open PySem L2
section
variable {P : Program} {w : World} {K : PySem.W.Frag} {mg : Str → Option Value} {base : Heap} {c : Cf}
/-- Farm(..) -/
structure CalM (P : Program) (w : World) (K : PySem.W.Frag) (mg : Str → Option Value) (base : Heap) (c : Cf) (k : Nat) (nm : Str) (n : Nat) (F : Fn) : Prop where
  ex : ∃ fI fd ps, Mk K c.farm fI ∧ FnOk P w K mg base (L2.CX P w) k fI fd ps (spM c [0] n F) ∧ mg nm = some (.ref c.farm) ∧ Binds K fd ps []
theorem CalM.mono {k j : Nat} {nm : Str} {n : Nat} {F : Fn} (h : CalM P w K mg base c k nm n F) (hk : k ≤ j) : CalM P w K mg base c j nm n F := by
  obtain ⟨f, fd, ps, h1, h2, h3⟩ := h.ex
  exact ⟨f, fd, ps, h1, h2.mono hk, h3⟩
/-- an error with one field -/
structure CalX1 (P : Program) (w : World) (K : PySem.W.Frag) (mg : Str → Option Value) (base : Heap) (c : Cf) (k : Nat) (x : Nat) (nm f : Str) : Prop where
  ex : ∃ fI fd ps, XcK c K mg x nm fI ∧ FnOk P w K mg base (L2.CX P w) k fI fd ps (spI1 (c.exc x) f) ∧ Binds K fd ps []
  fl : c.flds x = [f]
structure CalX2 (P : Program) (w : World) (K : PySem.W.Frag) (mg : Str → Option Value) (base : Heap) (c : Cf) (k : Nat) (x : Nat) (nm f g : Str) : Prop where
  ex : ∃ fI fd ps, XcK c K mg x nm fI ∧ FnOk P w K mg base (L2.CX P w) k fI fd ps (spI2 (c.exc x) f g) ∧ Binds K fd ps []
  fl : c.flds x = [g, f]
end
section
variable {c : Cf} {B : List (Nat × Addr)} {W : WX} {X : Cx} {E : XK}
end
def kFree : NameKind → Bool
  | .free => true
  | _ => false
def kCell : NameKind → Bool
  | .cell => true
  | _ => false
def kLoc : NameKind → Bool
  | .local => true
  | _ => false
def kEq : NameKind → NameKind → Bool
  | .local, .local => true
  | .cell, .cell => true
  | .free, .free => true
  | .globalImplicit, .globalImplicit => true
  | .globalExplicit, .globalExplicit => true
  | _, _ => false
def kFun : ScopeKind → Bool
  | .function => true
  | _ => false
def blkB (N : List Str) (sc scope : Scope) (own : List (Str × Nat)) : Bool :=
  kFun scope.kind && scope.names.all (fun y => match scope.names.lookup y.1 with | some k => kEq k y.2 | none => false) && own.all (fun p => match N[p.2]? with | some x => decide (x = p.1) | none => false) &&
    scope.names.all (fun y => !kFree y.2 || (match sc.names.lookup y.1 with | some k => kCell k || kFree k | none => false)) && scope.names.all (fun y => !(kLoc y.2 || kCell y.2) || (own.any (fun p => decide (p.1 = y.1)) || N.all (fun x => !decide (x = y.1))))
theorem kEq_eq {a b : NameKind} (h : kEq a b = true) : a = b := by cases a <;> cases b <;> first | rfl | cases h
theorem blk_of {N : List Str} {sc scope : Scope} {own : List (Str × Nat)} (h : blkB N sc scope own = true) : BlkOk N sc scope own := by
  unfold blkB at h
  simp only [Bool.and_eq_true, List.all_eq_true] at h
  obtain ⟨⟨⟨⟨h1, h2⟩, h3⟩, h4⟩, h5⟩ := h
  refine ⟨?_, fun y hy => ?_, fun p hp => ?_, fun y hy e => ?_, fun y hy e => ?_⟩
  · cases hk : scope.kind <;> rw [hk] at h1 <;> first | rfl | cases h1
  · have q := h2 y hy
    cases e : scope.names.lookup y.1 with
    | none => rw [e] at q; cases q
    | some k => rw [e] at q; rw [kEq_eq q]
  · have q := h3 p hp
    cases e : N[p.2]? with
    | none => rw [e] at q; cases q
    | some k => rw [e] at q; rw [of_decide_eq_true q]
  · have q := h4 y hy
    rw [e] at q
    simp only [kFree, Bool.not_true, Bool.false_or] at q
    cases e2 : sc.names.lookup y.1 with
    | none => rw [e2] at q; cases q
    | some k => rw [e2] at q; cases k <;> first | exact .inl rfl | exact .inr rfl | cases q
  · have q := h5 y hy
    have hk : (kLoc y.2 || kCell y.2) = true := by rcases e with e | e <;> rw [e] <;> rfl
    rw [hk] at q
    simp only [Bool.not_true, Bool.false_or, Bool.or_eq_true] at q
    rcases q with q | q
    · obtain ⟨p, hp, e3⟩ := List.any_eq_true.mp q
      exact .inl (List.mem_map.mpr ⟨p, hp, of_decide_eq_true e3⟩)
    · refine .inr fun hm => ?_
      have := List.all_eq_true.mp q y.1 hm
      simp at this
end Fx
set_option Elab.async false
set_option linter.all false
set_option maxRecDepth 100000
set_option maxHeartbeats 4000000
namespace Fx
open PySem L2
/-- the law's def: a list of at most 63 ints is handed in, True comes out -/
def spLaw (K : PySem.W.Frag) : Sp := fun vs H Q _ => ∃ (a : Addr) (ns : List Int), vs = [.ref a] ∧ LsG K H a (ns.map V.int) ∧ ns.length ≤ 63 ∧ ∀ H', Q (.bl true) H'
theorem law_imp {c : Cf} {F : Fn} (plain : ∀ ns : List Int, ns.length ≤ 63 → ∃ outs, F [.lst (ns.map .int)] = .ret (.bl true) outs) (vs : List V) (H : Hp) (Q : VK) (E : XK) (h : spLaw c.K vs H Q E) : spM c [] 1 F vs H Q E := by
  obtain ⟨a, ns, rfl, hL, hl, q⟩ := h
  obtain ⟨outs, e⟩ := plain ns hl
  refine ⟨H, fun _ => False, [.lst (ns.map .int)], rfl, argsOk_rep (Same.refl H) (.one (.lst hL (repInts ns))), ?_⟩
  rw [e]
  intro G' H' v _ rv
  obtain rfl := rep_bl rv
  exact q H'
theorem walk_fx {l : PySem.W.OpenLaw} {k : Nat} {q : Program} {loose : List Str} {XP : (Str → Option Value) → Heap → Prop} {YP : World → Heap → Prop} {d : DefRec} {K : Params → PySem.W.Frag} {x : Str}
    (hn : l.most = some 63) (hdf : d.params.defaults = []) (hr : Room k callerA) (hY : ∀ (w : World) (h : Heap), YP w h → (K w.params).In h)
    (F : ∀ (w : World) (mg : Str → Option Value) (fa : Addr) (h : Heap), (K w.params).In h → h.Ns mainGlobals mg → mg d.name = some (.ref fa) →
      ∃ fd : FuncData, (∀ (s : Shared) (u : Value), BindsTo s fd ⟨[u], []⟩ [(x, u)]) ∧ ∀ base : Heap, (K w.params).In base → base.Ns mainGlobals mg → FnOk l.prog w (K w.params) mg base (L2.CX l.prog w) k fa fd [x] (spLaw (K w.params))) :
    PySem.W.WalkO q loose XP YP l.row.toRowW d [] (fun f vs => PySem.call f vs) := by
  refine Att.attach_call hn hdf fun w s₀ s₁ mg mb fa o pm cd doc a vs ns G Y ho hd hcd hmg hobj hints hlen hg => ?_
  have KX := hY w _ Y
  obtain ⟨fd, hb, hF⟩ := F w mg fa _ KX G.T.g hmg
  have hlen2 : ns.length ≤ sizeLine := Nat.le_trans hlen (by decide)
  refine law_call KX G.T.g G.T.b G.T.builtins G.T.nolimit hg hobj hints hlen2 hr hF hb (fun H _ hS => ?_) fun H e s' z => ?_
  · refine ⟨a, ns, rfl, ?_, hlen, fun _ => rfl⟩
    rcases hS with hS | ⟨o', its, m, h1, _⟩
    · exact .inl hS
    · have e := KX _ _ h1
      rw [hobj] at e
      cases e
      have rv := vals_ints hints
      refine .inr ⟨vs, _, h1, ?_, rv⟩
      rw [← rv.length, List.length_map]
      exact hlen2
  · obtain ⟨_, _, _, _, _, _, _, _, _, _, _, _, z⟩ := z
    exact z.elim
theorem mro_ok {CB : Addr} : PySem.HandSPX.refsVE [.ref CB, .type "ValueError", .type "Exception", .type "BaseException", .type "object"] = true := by rfl
end Fx
set_option Elab.async false
set_option linter.all false
set_option maxRecDepth 100000
set_option maxHeartbeats 1000000
namespace Fx
open PySem L2
theorem wipeC_get {ρ : Cells} {vs : List Nat} {i : Nat} (h : i ∉ vs) : (wipeC ρ vs)[i]? = ρ[i]? := wipeC_out h
/-- the cells behind a comprehension are the cells ahead of it -/
theorem unwipe_same {ρ ρ' : Cells} {vs : List Nat} (hw : wipeC ρ' vs = wipeC ρ vs) : unwipe ρ ρ' vs = ρ := by
  have hl : ρ'.length = ρ.length := by
    have := congrArg List.length hw
    rwa [wipeC_len, wipeC_len] at this
  apply List.ext_getElem?
  intro i
  by_cases hi : i ∈ vs
  · by_cases hlt : i < ρ.length
    · rw [unwipe_in (by rw [hl]; exact hlt) hi, List.getElem?_eq_getElem hlt]
      rfl
    · rw [List.getElem?_eq_none (by rw [unwipe_len]; omega), List.getElem?_eq_none (by omega)]
  · rw [unwipe_out hi, ← wipeC_get (ρ := ρ') hi, hw, wipeC_get hi]
theorem loop_inv {g : TgM} {body : MS} (I : Nat → Cells → Prop) : ∀ (ds : List D) (n : Nat) (ρ : Cells), I n ρ →
    (∀ (i : Nat) (d : D) (ρ : Cells), ds[i]? = some d → I (n + i) ρ → ∃ ρ1, g d ρ = some ρ1 ∧ ∃ ρ2, body ρ1 = .next ρ2 ∧ I (n + i + 1) ρ2) →
    ∃ ρ', loopM g body ds ρ = .next ρ' ∧ I (n + ds.length) ρ'
  | [], n, ρ, hI, _ => ⟨ρ, rfl, hI⟩
  | d :: ds, n, ρ, hI, h => by
    obtain ⟨ρ1, h1, ρ2, h2, h3⟩ := h 0 d ρ rfl hI
    obtain ⟨ρ', e, h4⟩ := loop_inv I ds (n + 1) ρ2 h3 fun i x ρ hx hi => by
      have := h (i + 1) x ρ (by simpa using hx) (by rw [show n + (i + 1) = n + 1 + i by omega]; exact hi)
      rwa [show n + (i + 1) + 1 = n + 1 + i + 1 by omega] at this
    refine ⟨ρ', ?_, by rw [List.length_cons, show n + (ds.length + 1) = n + 1 + ds.length by omega]; exact h4⟩
    unfold loopM
    simp only [h1, h2, e]
end Fx
set_option Elab.async false
set_option linter.all false
set_option maxRecDepth 100000
set_option maxHeartbeats 4000000
namespace Fx
open PySem L2
section
variable {c : Cf} {B : List (Nat × Addr)} {W : WX} {X : Cx} {G H : Hp} {A : Addr → Prop} {σ : L2.St} {ρ : Cells} {Z : Ends}
end
end Fx
set_option Elab.async false
set_option linter.all false
set_option maxRecDepth 100000
set_option maxHeartbeats 4000000
namespace Fx
open PySem PyProof.Rows
section
variable {prog : Program} {w : World} {A : Around} {E : Value → Shared → Prop} {s : Shared}
end
end Fx
namespace Fx
open PySem L2 PyProof.Rows
section
variable {c : Cf} {B : List (Nat × Addr)} {W : WX} {X : Cx} {G H : Hp} {A : Addr → Prop} {σ : L2.St} {ρ : Cells} {Z : Ends}
/-- x[::-1] -/
def mRev (sem : D → Option D) (o : Opn) : M D := o.pre.bind fun a => (rdM o a).bind fun d => M.lift (sem d)
theorem RepL.rev : ∀ {vs : List V} {ds : List D}, RepL c G vs ds → RepL c G vs.reverse ds.reverse
  | _, _, .nil => .nil
  | _, _, .cons r t => by
    rw [List.reverse_cons, List.reverse_cons]
    exact t.rev.append (.one r)
end
end Fx
namespace Fx
open PySem L2
section
variable {c : Cf} {B : List (Nat × Addr)} {W : WX} {X : Cx} {G H : Hp} {A : Addr → Prop} {σ : L2.St} {ρ : Cells} {Z : Ends}
def mNew2 (f g : M D) (i j : Nat) : MS := mDo f fun d => mDo g fun e ρ => .next ((ρ.set i (.own d)).set j (.own e))
end
end Fx
set_option Elab.async false
set_option linter.all false
set_option maxRecDepth 100000
set_option maxHeartbeats 4000000
namespace Fx
open PySem L2
section
variable {c : Cf} {B : List (Nat × Addr)} {W : WX} {X : Cx} {G H : Hp} {A : Addr → Prop} {σ : L2.St} {ρ : Cells} {Z : Ends}
end
end Fx
set_option Elab.async false
set_option linter.all false
set_option maxRecDepth 100000
set_option maxHeartbeats 4000000
namespace Fx
open PySem L2
section
variable {c : Cf} {B : List (Nat × Addr)} {W : WX} {X : Cx} {G G' H : Hp} {A : Addr → Prop} {σ : L2.St} {ρ : Cells} {Z : Ends}
end
end Fx
set_option Elab.async false
set_option linter.all false
set_option maxRecDepth 100000
set_option maxHeartbeats 4000000
namespace Fx
open PySem L2
section
variable {c : Cf} {B : List (Nat × Addr)} {W : WX} {X : Cx} {G H : Hp} {A : Addr → Prop} {σ : L2.St} {ρ : Cells} {Z : Ends}
end
end Fx
set_option Elab.async false
set_option linter.all false
set_option maxRecDepth 100000
set_option maxHeartbeats 4000000
namespace Fx
open PySem PySem.Spec PyProof.Rows L2
section
variable {X : Cx}
end
section
variable {c : Cf} {B : List (Nat × Addr)} {W : WX} {X : Cx} {G H : Hp} {A : Addr → Prop} {σ : L2.St} {ρ : Cells}
end
end Fx
set_option Elab.async false
set_option linter.all false
set_option maxRecDepth 100000
set_option maxHeartbeats 4000000
namespace Fx
open PySem L2
/-- the class that a clause names: its code x -/
structure CatX (K : PySem.W.Frag) (mg : Str → Option Value) (c : Cf) (x : Nat) (nm : Str) (fs : List Str) : Prop where
  gC : mg nm = some (.ref (c.exc x))
  xf : XfC K (c.exc x)
  ex : PySem.W.exmOne K (.ref (c.exc x)) (.ref (c.exc x)) = some true
  fl : c.flds x = fs
  no : ∀ f ∈ fs, PySem.W.findIn K (.ref (c.exc x)) f = some none
section
variable {c : Cf} {B : List (Nat × Addr)} {W : WX} {X : Cx} {G H : Hp} {A : Addr → Prop} {σ : L2.St} {ρ : Cells} {Z : Ends}
/-- what the suite knows of the error -/
structure HasX (c : Cf) (k i : Nat) (a : Addr) (cls : Value) (d : Option Addr) (x : Exc) (G H : Hp) (σ : L2.St) : Prop where
  cls : cls = .ref (c.exc k)
  xc : x.c = k
  at_ : ∃ dd, d = some dd ∧ ExcAt c G x dd
  same : Same G H
  slot : σ[i]? = some (some (.ref a))
section
variable {a : Addr} {oe : Obj} {cls : Value} {d : Option Addr} {pn : List (Addr × Obj)} {k i : Nat} {nm : Str} {fs : List Str}
end
section
variable {k i : Nat} {nm n : Str} {fs : List Str} {body : List Stmt} {hs : Stmt} {np pos pos' : Pos} {m : MS} {hv : Exc → Option D}
end
end
end Fx
set_option Elab.async false
set_option linter.all false
set_option maxRecDepth 100000
set_option maxHeartbeats 4000000
namespace Fx
open PySem
section
variable {prog : Program} {w : World} {A : Around} {E : Value → Shared → Prop} {s : Shared}
/-- an iterator over a list or a tuple, at its place, and the items -/
def ItrAt (f : Bool) (h : Heap) (it l : Addr) (k : Nat) (xs : Array Value) : Prop := match f with
  | true => h.IsListIter it l k ∧ h.IsList l xs
  | false => h.IsTupleIter it l k ∧ h.IsTuple l xs
theorem ItrAt.ext {f : Bool} {h h' : Heap} {it l z : Addr} {k : Nat} {xs : Array Value} (a : ItrAt f h it l k xs) (e : Heap.ExtBut z h h') (n1 : it ≠ z) (n2 : l ≠ z) : ItrAt f h' it l k xs := by
  cases f with
  | true => exact ⟨a.1.extBut e n1, a.2.extBut e n2⟩
  | false => exact ⟨a.1.extBut e n1, a.2.extBut e n2⟩
theorem ItrAt.item {f : Bool} {it l : Addr} {k : Nat} {xs : Array Value} {x : Value} {Q : Value → Shared → Prop} (a : ItrAt f s.heap it l k xs) (ne : l ≠ it) (hx : xs[k]? = some x) (hQ : ∀ h', ItrAt f h' it l (k + 1) xs → Heap.SameBut it s.heap h' → Q x { s with heap := h' }) : wpAny (model prog w) A (Builtin.SmallTypes.nextOf (.ref it)) Q E s := by
  cases f with
  | true => exact wpAny_nextOf_list_item a.1 a.2 hx fun h' p' sb => hQ h' ⟨p', a.2.extBut sb.extBut ne⟩ sb
  | false => exact RZ.nextOf_tuple_item a.1 a.2 hx fun h' p' sb => hQ h' ⟨p', a.2.extBut sb.extBut ne⟩ sb
theorem ItrAt.stop {f : Bool} {it l : Addr} {k : Nat} {xs : Array Value} {Q : Value → Shared → Prop} (hh : A.handled = none) (a : ItrAt f s.heap it l k xs) (hx : xs[k]? = none) (hE : ∀ h' e, Heap.ExtBut it s.heap h' → (∃ o, h'.get? e = some o ∧ o.cls = .type "StopIteration") → E (.ref e) { s with heap := h' }) : wpAny (model prog w) A (Builtin.SmallTypes.nextOf (.ref it)) Q E s := by
  cases f with
  | true => exact wpAny_nextOf_list_end hh a.1 a.2 hx hE
  | false => exact RZ.nextOf_tuple_end hh a.1 a.2 hx hE
end
section
variable {prog : Program} {w : World} {A : Around} {E : Value → Shared → Prop} {s : Shared}
end
open PySem.Spec PyProof.Rows L2
end Fx
set_option Elab.async false
set_option linter.all false
set_option maxRecDepth 100000
set_option maxHeartbeats 4000000
namespace Fx
open PySem L2
section
variable {c : Cf} {B : List (Nat × Addr)} {W : WX} {X : Cx} {G H : Hp} {A : Addr → Prop} {σ : L2.St} {ρ : Cells} {Z : Ends}
def AfterSF (c : Cf) (B : List (Nat × Addr)) (W : WX) (G : Hp) (A : Addr → Prop) (H : Hp) (o : OutS) (D : Ends) : Prop := match o with
  | .ret d ρ' => ∀ G' A' H' σ' p H2, Stp G A H G' A' H' → Rel c B G' A' H' σ' ρ' → H' p = none → Same H' H2 → Own c G' (H2 p) d → D.rt (.ref p) H2
  | .exc x ρ' => ∀ G' A' H' σ' dd, Stp G A H G' A' H' → Rel c B G' A' H' σ' ρ' → ExcAt c G' x dd → W (.ref (c.exc x.c)) (some dd) σ' H'
  | _ => False
theorem AfterSF.of {o : OutS} {G' H' : Hp} {A' : Addr → Prop} (hA : ∀ b, A b → ∃ o, H b = some o) (s : Stp G A H G' A' H') (h : AfterSF c B W G A H o Z) : AfterSF c B W G' A' H' o Z := by
  cases o with
  | stuck => exact h
  | next ρ' => exact h
  | ret d ρ' => exact fun G2 A2 H2 σ2 p H3 s2 R => h G2 A2 H2 σ2 p H3 (s.trans s2 hA) R
  | brk ρ' => exact h
  | cont ρ' => exact h
  | exc x ρ' => exact fun G2 A2 H2 σ2 dd s2 R r => h G2 A2 H2 σ2 dd (s.trans s2 hA) R r
/-- what a slot owns goes -/
theorem Rel.drop (R : Rel c B G A H σ ρ) {i : Nat} {d : D} {p : Addr} (e : ρ[i]? = some (.own d)) (es : σ[i]? = some (some (.ref p))) (hb : B.all (fun q => q.1 != i) = true) :
    Rel c B G (fun b => A b ∧ b ≠ p) (fun b => if b = p then none else H b) σ (ρ.set i .no) := by
  obtain ⟨p', es', hA, hO⟩ := R.own i d e
  rw [es] at es'; cases es'
  obtain ⟨gp, _⟩ := R.ownA p hA
  have hi : i < ρ.length := (List.getElem?_eq_some_iff.mp e).1
  have at_ : ∀ b, b ≠ p → (if b = p then none else H b) = H b := fun b hb => if_neg hb
  have g : ∀ (j : Nat) (x : Cell), (ρ.set i .no)[j]? = some x → x ≠ .no → j ≠ i ∧ ρ[j]? = some x := fun j x h hx => by
    by_cases z : j = i
    · subst z; rw [List.getElem?_set_self hi] at h; cases h; exact absurd rfl hx
    · rw [List.getElem?_set_ne (Ne.symm z)] at h; exact ⟨z, h⟩
  refine ⟨fun b w q => ?_, by rw [List.length_set]; exact R.len, fun b ⟨h1, h2⟩ => ?_, fun j x h => ?_, fun j x h => ?_, fun j k x y q hjk h1 h2 h3 h4 => ?_, fun q hq => ?_⟩
  · show (if b = p then none else H b) = some w
    rw [at_ b (ne_of_none q gp)]; exact R.same b w q
  · obtain ⟨h3, o, h4⟩ := R.ownA b h1
    exact ⟨h3, o, by show (if b = p then none else H b) = some o; rw [at_ b h2]; exact h4⟩
  · exact R.dat j x (g j _ h (fun z => by cases z)).2
  · obtain ⟨nj, h'⟩ := g j _ h (fun z => by cases z)
    obtain ⟨q, h1, h2, h3⟩ := R.own j x h'
    have nq : q ≠ p := fun w => R.dis j i x d p nj h' e (by rw [← w]; exact h1) es
    exact ⟨q, h1, ⟨h2, nq⟩, by show Own c G (if q = p then none else H q) x; rw [at_ q nq]; exact h3⟩
  · exact R.dis j k x y q hjk (g j _ h1 (fun z => by cases z)).2 (g k _ h2 (fun z => by cases z)).2 h3 h4
  · obtain ⟨h1, h2, x, h3⟩ := R.byr q hq
    have z : q.1 ≠ i := by
      have := List.all_eq_true.mp hb q hq
      simpa using this
    refine ⟨h1, ⟨h2, fun w => ?_⟩, x, by rw [List.getElem?_set_ne (Ne.symm z)]; exact h3⟩
    exact R.dis q.1 i x d p z h3 e (by rw [← w]; exact h1) es
end
section
variable {P : Program} {w : World} {K : PySem.W.Frag} {mg : Str → Option Value} {base : Heap} {c : Cf}
end
section
variable {c : Cf} {B : List (Nat × Addr)} {W : WX} {X : Cx} {G H : Hp} {A : Addr → Prop} {σ : L2.St} {ρ : Cells} {Z : Ends}
def zipD : List D → List D → List D
  | d :: ds, e :: es => .tup [d, e] :: zipD ds es
  | _, _ => []
def sZip : D → D → Option (List D)
  | .lst ds, .lst es => some (zipD ds es)
  | .tup ds, .tup es => some (zipD ds es)
  | .lst ds, .tup es => some (zipD ds es)
  | _, _ => none
def mZip (f g : M D) : M (List D) := (seqM [f, g]).bind fun ds => match ds with
  | [d, e] => M.lift (sZip d e)
  | _ => M.stuck
end
end Fx
set_option Elab.async false
set_option linter.all false
set_option maxRecDepth 100000
set_option maxHeartbeats 4000000
namespace Fx
open PySem PySem.Spec PyProof.Rows L2
section
variable {X : Cx}
end
section
variable {c : Cf} {B : List (Nat × Addr)} {W : WX} {X : Cx}
end
end Fx
set_option Elab.async false
set_option linter.all false
set_option maxRecDepth 100000
set_option maxHeartbeats 1000000
namespace Fx
open PySem L2
def SetAt (ρ : Cells) (i : Nat) (x : Cell) (ρ' : Cells) : Prop := ρ.set i x = ρ'
theorem setAt_z {a x : Cell} {l : Cells} : SetAt (a :: l) 0 x (x :: l) := rfl
theorem setAt_s {a x : Cell} {l l' : Cells} {n : Nat} (h : SetAt l n x l') : SetAt (a :: l) (n + 1) x (a :: l') := by
  unfold SetAt at h ⊢
  rw [List.set_cons_succ, h]
def GetAt (ρ : Cells) (i : Nat) (x : Cell) : Prop := ρ[i]? = some x
theorem getAt_z {a : Cell} {l : Cells} : GetAt (a :: l) 0 a := rfl
theorem getAt_s {a x : Cell} {l : Cells} {n : Nat} (h : GetAt l n x) : GetAt (a :: l) (n + 1) x := h
def Put (ks : List Nat) (os : List D) (ρ ρ' : Cells) : Prop := setOuts ks os ρ = ρ'
theorem put_n {os : List D} {ρ : Cells} : Put [] os ρ ρ := by cases os <;> rfl
theorem put_c {k : Nat} {ks : List Nat} {o : D} {os : List D} {ρ ρ1 ρ2 : Cells} (h : SetAt ρ k (.own o) ρ1) (h2 : Put ks os ρ1 ρ2) : Put (k :: ks) (o :: os) ρ ρ2 := by
  unfold Put setOuts
  rw [show ρ.set k (.own o) = ρ1 from h]
  exact h2
def Tg (g : TgM) (d : D) (ρ ρ' : Cells) : Prop := g d ρ = some ρ'
theorem tg_nm {i : Nat} {d : D} {ρ ρ' : Cells} (h : SetAt ρ i (.dat d) ρ') : Tg (gNm i) d ρ ρ' := by
  unfold Tg gNm
  rw [show ρ.set i (.dat d) = ρ' from h]
def Tgs (is : List Nat) (ds : List D) (ρ ρ' : Cells) : Prop := gNms is ds ρ = some ρ'
theorem tgs_n {ρ : Cells} : Tgs [] [] ρ ρ := rfl
theorem tgs_c {i : Nat} {is : List Nat} {d : D} {ds : List D} {ρ ρ1 ρ2 : Cells} (h : SetAt ρ i (.dat d) ρ1) (h2 : Tgs is ds ρ1 ρ2) : Tgs (i :: is) (d :: ds) ρ ρ2 := by
  unfold Tgs gNms
  rw [show ρ.set i (.dat d) = ρ1 from h]
  exact h2
/-- what lies under a name of data -/
def Is (d e : D) : Prop := d = e
theorem f_od {a b : Option D} (h : a = b) : a = b := h
theorem f_ol {a b : Option (List D)} (h : a = b) : a = b := h
theorem f_op {a b : Option (D × D)} (h : a = b) : a = b := h
theorem f_bt {a : Bool} (h : a = true) : a = true := h
theorem f_on {a b : Option Nat} (h : a = b) : a = b := h
theorem f_ld {a b : List D} (h : a = b) : a = b := h
theorem is_r {d : D} : Is d d := rfl
theorem is_id {d e : D} (h : Is d e) : Is d e := h
theorem tg_tp {is : List Nat} {d : D} {ds : List D} {ρ ρ' : Cells} (h0 : Is d (.tup ds)) (h : Tgs is ds ρ ρ') : Tg (gTp is) d ρ ρ' := by
  unfold Tg gTp
  rw [show d = .tup ds from h0]
  exact h
def NB (b b' : Bool) : Prop := b = b'
theorem nb_id {b b' : Bool} (h : NB b b') : NB b b' := h
theorem nb_t {p : Prop} [Decidable p] (h : p) : NB (decide p) true := decide_eq_true h
theorem nb_f {p : Prop} [Decidable p] (h : ¬p) : NB (decide p) false := decide_eq_false h
theorem nb_nt {p : Prop} [Decidable p] (h : ¬p) : NB (!decide p) true := by unfold NB; rw [decide_eq_false h]; rfl
theorem nb_nf {p : Prop} [Decidable p] (h : p) : NB (!decide p) false := by unfold NB; rw [decide_eq_true h]; rfl
theorem nb_lt : NB true true := rfl
theorem nb_lf : NB false false := rfl
theorem nb_ltn : NB (!true) false := rfl
theorem nb_lfn : NB (!false) true := rfl
section
variable {ρ ρ1 ρ2 ρ3 ρ4 : Cells} {d e a b d1 d2 d3 : D}
theorem v_var {i : Nat} (h : GetAt ρ i (.dat d)) : mVar i ρ = .ok d ρ := by
  unfold mVar
  rw [show ρ[i]? = some (.dat d) from h]
theorem v_pure {α : Type} {x : α} : M.pure x ρ = .ok x ρ := rfl
theorem p_dat {f : M D} (h : f ρ = .ok a ρ1) : Opn.pre (.dat f) ρ = .ok a ρ1 := h
theorem p_own {i : Nat} (h : GetAt ρ i (.own d)) : Opn.pre (.own i) ρ = .ok .non ρ := by
  show (match cellD ρ[i]? with | some _ => Out.ok D.non ρ | none => .stuck) = _
  rw [show ρ[i]? = some (.own d) from h]
  rfl
def Rd (o : Opn) (a : D) (ρ : Cells) (d : D) : Prop := o.rd a ρ = some d
theorem r_dat {f : M D} : Rd (.dat f) a ρ a := rfl
theorem r_own {i : Nat} (h : GetAt ρ i (.own d)) : Rd (.own i) a ρ d := by
  show cellD ρ[i]? = some d
  rw [show ρ[i]? = some (.own d) from h]
  rfl
theorem x_op2 {sem : D → D → Option D} {oa ob : Opn} (h1 : oa.pre ρ = .ok a ρ1) (h2 : ob.pre ρ1 = .ok b ρ2) (h3 : Rd oa a ρ2 d1) (h4 : Rd ob b ρ2 d2) (h5 : sem d1 d2 = some d) : mOp2 sem oa ob ρ = .ok d ρ2 := by
  unfold mOp2 M.bind rdM
  simp only [h1, h2, Out.andThen, show oa.rd a ρ2 = some d1 from h3, show ob.rd b ρ2 = some d2 from h4, M.lift, h5]
def Pl (os : List Opn) (ρ : Cells) (as : List D) (ρ' : Cells) : Prop := preL os ρ = .ok as ρ'
theorem pl_n : Pl [] ρ [] ρ := rfl
theorem pl_c {o : Opn} {os : List Opn} {as : List D} (h1 : o.pre ρ = .ok a ρ1) (h2 : Pl os ρ1 as ρ2) : Pl (o :: os) ρ (a :: as) ρ2 := by
  unfold Pl preL M.bind
  simp only [h1, Out.andThen, show preL os ρ1 = .ok as ρ2 from h2, M.pure]
def Rl (os : List Opn) (as : List D) (ρ : Cells) (ds : List D) : Prop := rdL os as ρ = some ds
theorem rl_n : Rl [] [] ρ [] := rfl
theorem rl_c {o : Opn} {os : List Opn} {as ds : List D} (h1 : Rd o a ρ d) (h2 : Rl os as ρ ds) : Rl (o :: os) (a :: as) ρ (d :: ds) := by
  unfold Rl rdL
  rw [show o.rd a ρ = some d from h1, show rdL os as ρ = some ds from h2]
theorem x_call {sem : List D → Option D} {os : List Opn} {as ds : List D} (h1 : Pl os ρ as ρ1) (h2 : Rl os as ρ1 ds) (h3 : sem ds = some d) : mCall sem os ρ = .ok d ρ1 := by
  unfold mCall M.bind rdLM
  simp only [show preL os ρ = .ok as ρ1 from h1, Out.andThen, show rdL os as ρ1 = some ds from h2, M.lift, h3]
def Ra (os : List Opn) (as : List D) (ρ : Cells) (ds : List D) (ks : List Nat) : Prop := rdA os as ρ = some ds ∧ ownSlots os = ks
theorem ra_n : Ra [] [] ρ [] [] := ⟨rfl, rfl⟩
theorem ra_d {f : M D} {os : List Opn} {as ds : List D} {ks : List Nat} (h : Ra os as ρ ds ks) : Ra (.dat f :: os) (a :: as) ρ (a :: ds) ks := by
  refine ⟨?_, h.2⟩
  unfold rdA
  rw [h.1]; rfl
theorem ra_o {i : Nat} {os : List Opn} {as ds : List D} {ks : List Nat} (h0 : GetAt ρ i (.own d)) (h : Ra os as ρ ds ks) : Ra (.own i :: os) (a :: as) ρ (d :: ds) (i :: ks) := by
  refine ⟨?_, by unfold ownSlots; rw [h.2]⟩
  unfold rdA
  rw [show ρ[i]? = some (.own d) from h0]
  simp only [h.1]; rfl
theorem x_callF {F : Fn} {os : List Opn} {as ds outs : List D} {ks : List Nat} (h1 : Pl os ρ as ρ1) (h2 : Ra os as ρ1 ds ks) (h3 : F ds = .ret d outs) (h4 : Put ks outs ρ1 ρ2) : mCallF F os ρ = .ok d ρ2 := by
  unfold mCallF M.bind
  simp only [show preL os ρ = .ok as ρ1 from h1, Out.andThen, h2.1, h3, h2.2]
  rw [show setOuts ks outs ρ1 = ρ2 from h4]
def Sq (fs : List (M D)) (ρ : Cells) (ds : List D) (ρ' : Cells) : Prop := seqM fs ρ = .ok ds ρ'
theorem sq_n : Sq [] ρ [] ρ := rfl
theorem sq_c {f : M D} {fs : List (M D)} {ds : List D} (h1 : f ρ = .ok d ρ1) (h2 : Sq fs ρ1 ds ρ2) : Sq (f :: fs) ρ (d :: ds) ρ2 := by
  unfold Sq seqM M.bind
  simp only [h1, Out.andThen, show seqM fs ρ1 = .ok ds ρ2 from h2, M.pure]
def App (ds es fs : List D) : Prop := ds ++ es = fs
theorem app_n {es : List D} : App [] es es := rfl
theorem app_c {ds es fs : List D} (h : App ds es fs) : App (d :: ds) es (d :: fs) := by
  unfold App at h ⊢
  rw [List.cons_append, h]
theorem x_callK {F : Fn} {fs ks : List (M D)} {ds es as outs : List D} (h1 : Sq fs ρ ds ρ1) (h2 : Sq ks ρ1 es ρ2) (h3 : App ds es as) (h4 : F as = .ret d outs) : mCallK F (fun ds es => ds ++ es) fs ks ρ = .ok d ρ2 := by
  unfold mCallK M.bind
  simp only [show seqM fs ρ = .ok ds ρ1 from h1, Out.andThen, show seqM ks ρ1 = .ok es ρ2 from h2, show ds ++ es = as from h3, appF, h4]
theorem x_callD {F : Fn} {os : List Opn} {as ds es outs : List D} {ks : List Nat} (h1 : Pl os ρ as ρ1) (h2 : Ra os as ρ1 ds ks) (h3 : App ds [.tup []] es) (h4 : F es = .ret d outs) (h5 : Put ks outs ρ1 ρ2) : mCallF (fun ds => F (ds ++ [.tup []])) os ρ = .ok d ρ2 := by
  refine x_callF h1 h2 (d := d) (outs := outs) ?_ h5
  show F (ds ++ [.tup []]) = _
  rw [show ds ++ [.tup []] = es from h3, h4]
theorem x_callN {F : Fn} {f : M D} {fs : List (M D)} {ds outs : List D} (h1 : f ρ = .ok a ρ1) (h2 : Sq fs ρ1 ds ρ2) (h3 : F (a :: ds) = .ret d outs) : mCallN F f fs ρ = .ok d ρ2 := by
  unfold mCallN M.bind
  simp only [h1, Out.andThen, show seqM fs ρ1 = .ok ds ρ2 from h2, h3]
theorem x_make {F : Fn} {fs : List (M D)} {ds : List D} {ns : List Str} {es : List D} (h1 : Sq fs ρ ds ρ1) (h2 : F (.rcd [] [] :: ds) = .ret .non [d]) (h3 : Is d (.rcd ns es)) : mMake F fs ρ = .ok d ρ1 := by
  unfold Is at h3
  subst h3
  unfold mMake M.bind
  simp only [show seqM fs ρ = .ok ds ρ1 from h1, Out.andThen, h2]
theorem x_tup {fs : List (M D)} {ds : List D} (h1 : Sq fs ρ ds ρ1) : mTup fs ρ = .ok (.tup ds) ρ1 := by
  unfold mTup M.bind
  simp only [show seqM fs ρ = .ok ds ρ1 from h1, Out.andThen, M.pure]
theorem x_lst {fs : List (M D)} {ds : List D} (h1 : Sq fs ρ ds ρ1) : mLst fs ρ = .ok (.lst ds) ρ1 := by
  unfold mLst M.bind
  simp only [show seqM fs ρ = .ok ds ρ1 from h1, Out.andThen, M.pure]
theorem x_neg {f : M D} {i : Int} (h1 : f ρ = .ok (.int i) ρ1) : mNeg f ρ = .ok (.int (-i)) ρ1 := by
  unfold mNeg M.bind
  simp only [h1, Out.andThen, M.pure]
theorem x_meth {is : D → Bool} {sem : D → List D → Option D} {o : Opn} {os : List Opn} {as ds : List D} (h1 : o.pre ρ = .ok a ρ1) (h2 : Rd o a ρ1 d1) (h3 : is d1 = true) (h4 : Pl os ρ1 as ρ2) (h5 : Rd o a ρ2 d2) (h6 : Rl os as ρ2 ds) (h7 : sem d2 ds = some d) : mMeth is sem o os ρ = .ok d ρ2 := by
  unfold mMeth M.bind rdM rdLM
  simp only [h1, Out.andThen, show o.rd a ρ1 = some d1 from h2, h3, if_pos, show preL os ρ1 = .ok as ρ2 from h4, show o.rd a ρ2 = some d2 from h5, show rdL os as ρ2 = some ds from h6, M.lift, h7]
theorem x_methWR {sem : D → List D → Option (D × D)} {i : Nat} {fs : List (M D)} {ds : List D} (h1 : GetAt ρ i (.own d1)) (h2 : isLst d1 = true) (h3 : Sq fs ρ ds ρ1) (h4 : GetAt ρ1 i (.own d2)) (h5 : sem d2 ds = some (d, d3)) (h6 : SetAt ρ1 i (.own d3) ρ2) : mMethWR sem i fs ρ = .ok d ρ2 := by
  unfold mMethWR M.bind ownAt setOwn
  simp only [show ρ[i]? = some (.own d1) from h1, Out.andThen, h2, if_pos, show seqM fs ρ = .ok ds ρ1 from h3, show ρ1[i]? = some (.own d2) from h4, M.lift, h5, show ρ1.set i (.own d3) = ρ2 from h6, M.pure]
theorem x_methW {sem : D → List D → Option (D × D)} {i : Nat} {os : List Opn} {as ds : List D} (h1 : GetAt ρ i (.own d1)) (h2 : isLst d1 = true) (h3 : Pl os ρ as ρ1) (h4 : Rl os as ρ1 ds) (h5 : GetAt ρ1 i (.own d2)) (h6 : sem d2 ds = some (d, d3)) (h7 : SetAt ρ1 i (.own d3) ρ2) : mMethW sem i os ρ = .ok d ρ2 := by
  unfold mMethW M.bind ownAt setOwn rdLM
  simp only [show ρ[i]? = some (.own d1) from h1, Out.andThen, h2, if_pos, show preL os ρ = .ok as ρ1 from h3, show rdL os as ρ1 = some ds from h4, show ρ1[i]? = some (.own d2) from h5, M.lift, h6, show ρ1.set i (.own d3) = ρ2 from h7, M.pure]
theorem pt_n : mPart none ρ = .ok none ρ := rfl
theorem pt_s {f : M D} {j : Int} (h : f ρ = .ok (.int j) ρ1) : mPart (some f) ρ = .ok (some j) ρ1 := by
  unfold mPart M.bind
  simp only [h, Out.andThen, M.pure]
theorem x_sl {sem : D → Option Int → Option Int → Option D} {o : Opn} {lo hi : Option (M D)} {l u : Option Int} (h1 : o.pre ρ = .ok a ρ1) (h2 : mPart lo ρ1 = .ok l ρ2) (h3 : mPart hi ρ2 = .ok u ρ3) (h4 : Rd o a ρ3 d1) (h5 : sem d1 l u = some d) : mSl sem o lo hi ρ = .ok d ρ3 := by
  unfold mSl M.bind rdM
  simp only [h1, Out.andThen, h2, h3, show o.rd a ρ3 = some d1 from h4, M.lift, h5]
theorem x_rev {sem : D → Option D} {o : Opn} (h1 : o.pre ρ = .ok a ρ1) (h2 : Rd o a ρ1 d1) (h3 : sem d1 = some d) : mRev sem o ρ = .ok d ρ1 := by
  unfold mRev M.bind rdM
  simp only [h1, Out.andThen, show o.rd a ρ1 = some d1 from h2, M.lift, h3]
theorem x_lrg {f : M D} {k : Int} (h : f ρ = .ok (.int k) ρ1) (h1 : -(2 ^ 62) ≤ k) (h2 : k ≤ 16777216) : mListRg f ρ = .ok (.lst (rangeD 0 k.toNat)) ρ1 := by
  unfold mListRg M.bind
  rw [h]
  show (if -(2 ^ 62) ≤ k ∧ k ≤ 16777216 then M.pure (D.lst (rangeD 0 k.toNat)) else M.stuck) _ = _
  rw [if_pos ⟨h1, h2⟩]
  rfl
theorem x_fld {fe : M D} {f : Str} {ns : List Str} {ds : List D} (h : fe ρ = .ok d ρ1) (h1 : Is d (.rcd ns ds)) (h2 : (ns.zip ds).lookup f = some e) : mFld fe f ρ = .ok e ρ1 := by
  unfold mFld M.bind
  rw [h, show d = .rcd ns ds from h1]
  simp only [Out.andThen, M.lift, h2]
theorem x_lenF {F : Fn} {fe : M D} {k : Int} {outs : List D} (h : fe ρ = .ok d ρ1) (h1 : isRcd d = true) (h2 : F [d] = .ret (.int k) outs) (h3 : 0 ≤ k) (h4 : k < 2 ^ 63) : mLenF F fe ρ = .ok (.int k) ρ1 := by
  unfold mLenF M.bind
  simp only [h, Out.andThen, h1, if_pos, h2]
  rw [if_pos ⟨h3, h4⟩]
theorem x_methF {F : Fn} {m : Str} {fo : M D} {fs : List (M D)} {ds outs : List D} (h : fo ρ = .ok d ρ1) (h1 : noName m d = true) (h2 : Sq fs ρ1 ds ρ2) (h3 : F (d :: ds) = .ret e outs) : mMethF F m fo fs ρ = .ok e ρ2 := by
  unfold mMethF M.bind
  simp only [h, Out.andThen, h1, if_pos, show seqM fs ρ1 = .ok ds ρ2 from h2, appF, h3]
theorem x_lenset {f : M D} (h : f ρ = .ok d ρ1) (h2 : sLenSet d = some e) : mLenSet f ρ = .ok e ρ1 := by
  unfold mLenSet M.bind
  simp only [h, Out.andThen, M.lift, h2]
def chK (b : Bool) (s2 : D → D → Option D) (d2 : D) (ob oc : Opn) (b0 : D) : M D := if b = true then oc.pre.bind fun e => (rdM ob b0).bind fun d2 => (rdM oc e).bind fun d3 => M.lift (s2 d2 d3) else M.pure (.bl false)
theorem chK_f {s2 : D → D → Option D} {ob oc : Opn} : chK false s2 d2 ob oc b ρ = .ok (.bl false) ρ := rfl
theorem chK_t {s2 : D → D → Option D} {ob oc : Opn} (h1 : oc.pre ρ = .ok e ρ1) (h2 : Rd ob b ρ1 d1) (h3 : Rd oc e ρ1 d3) (h4 : s2 d1 d3 = some d) : chK true s2 d2 ob oc b ρ = .ok d ρ1 := by
  unfold chK M.bind rdM
  simp only [if_pos, h1, Out.andThen, show ob.rd b ρ1 = some d1 from h2, show oc.rd e ρ1 = some d3 from h3, M.lift, h4]
theorem x_chain {s1 s2 : D → D → Option D} {oa ob oc : Opn} {z z' : Bool} {o : Out D} (h1 : oa.pre ρ = .ok a ρ1) (h2 : ob.pre ρ1 = .ok b ρ2) (h3 : Rd oa a ρ2 d1) (h4 : Rd ob b ρ2 d2) (h5 : s1 d1 d2 = some (.bl z)) (hz : NB z z') (h6 : chK z' s2 d2 ob oc b ρ2 = o) : mChain s1 s2 oa ob oc ρ = o := by
  rw [← h6]
  unfold mChain M.bind rdM chK
  rw [← show z = z' from hz]
  simp only [h1, h2, Out.andThen, show oa.rd a ρ2 = some d1 from h3, show ob.rd b ρ2 = some d2 from h4, M.lift, h5]
  cases z <;> rfl
theorem i_seq {f : M D} {ds : List D} (h : f ρ = .ok d ρ1) (h2 : itemsOf d = some ds) : mSeqI f ρ = .ok ds ρ1 := by
  unfold mSeqI M.bind
  simp only [h, Out.andThen, M.lift, h2]
theorem i_enum {f : M D} {ds : List D} (h : f ρ = .ok d ρ1) (h2 : itemsOf d = some ds) : mEnum f ρ = .ok (enumD 0 ds) ρ1 := by
  unfold mEnum M.bind
  simp only [h, Out.andThen, M.lift, h2, M.pure]
theorem i_range {f : M D} {k : Int} (h : f ρ = .ok (.int k) ρ1) (h1 : k ≤ 16777216) (h2 : -16777216 ≤ k) : mRange1 f ρ = .ok (rangeD 0 k.toNat) ρ1 := by
  unfold mRange1 M.bind
  simp only [h, Out.andThen]
  rw [if_pos ⟨h1, h2⟩]
  rfl
theorem i_zip {f g : M D} {ds : List D} (h : f ρ = .ok d ρ1) (h2 : g ρ1 = .ok e ρ2) (h3 : sZip d e = some ds) : mZip f g ρ = .ok ds ρ2 := by
  unfold mZip M.bind
  simp only [seqM, M.bind, h, h2, Out.andThen, M.pure, M.lift, h3]
theorem b_b {f : M D} {b : Bool} (h : f ρ = .ok (.bl b) ρ1) : mB f ρ = .ok b ρ1 := by
  unfold mB M.bind
  simp only [h, Out.andThen, M.pure]
theorem b_not {f : M Bool} {b b' : Bool} (h : f ρ = .ok b ρ1) (hb : NB (!b) b') : mNot f ρ = .ok b' ρ1 := by
  unfold mNot M.bind
  simp only [h, Out.andThen, M.pure, show (!b) = b' from hb]
def andK (b : Bool) (g : M Bool) : M Bool := if b = true then g else M.pure false
theorem andK_t {g : M Bool} {o : Out Bool} (h : g ρ = o) : andK true g ρ = o := h
theorem andK_f {g : M Bool} : andK false g ρ = .ok false ρ := rfl
theorem b_and {f g : M Bool} {b b' : Bool} {o : Out Bool} (h : f ρ = .ok b ρ1) (hb : NB b b') (h2 : andK b' g ρ1 = o) : mAnd f g ρ = o := by
  unfold mAnd M.bind
  unfold andK at h2
  rw [h, show b = b' from hb]
  exact h2
def orK (b : Bool) (g : M Bool) : M Bool := if b = true then M.pure true else g
theorem orK_f {g : M Bool} {o : Out Bool} (h : g ρ = o) : orK false g ρ = o := h
theorem orK_t {g : M Bool} : orK true g ρ = .ok true ρ := rfl
theorem b_or {f g : M Bool} {b b' : Bool} {o : Out Bool} (h : f ρ = .ok b ρ1) (hb : NB b b') (h2 : orK b' g ρ1 = o) : mOr f g ρ = o := by
  unfold mOr M.bind
  unfold orK at h2
  rw [h, show b = b' from hb]
  exact h2
def ifK {α : Type} (b : Bool) (f g : M α) : M α := if b = true then f else g
theorem ifK_t {α : Type} {f g : M α} {o : Out α} (h : f ρ = o) : ifK true f g ρ = o := h
theorem ifK_f {α : Type} {f g : M α} {o : Out α} (h : g ρ = o) : ifK false f g ρ = o := h
theorem x_if {α : Type} {t : M Bool} {f g : M α} {b b' : Bool} {o : Out α} (h : t ρ = .ok b ρ1) (hb : NB b b') (h2 : ifK b' f g ρ1 = o) : mIf t f g ρ = o := by
  unfold mIf M.bind
  unfold ifK at h2
  rw [h, show b = b' from hb]
  exact h2
theorem x_andV {f g : M D} {b b' : Bool} {o : Out D} (h : f ρ = .ok (.bl b) ρ1) (hb : NB b b') (h2 : ifK b' g (M.pure (.bl false)) ρ1 = o) : mAndV f g ρ = o := by
  unfold mAndV M.bind
  unfold ifK at h2
  rw [b_b h, show b = b' from hb]
  exact h2
theorem x_orV {f g : M D} {b b' : Bool} {o : Out D} (h : f ρ = .ok (.bl b) ρ1) (hb : NB b b') (h2 : ifK b' (M.pure (.bl true)) g ρ1 = o) : mOrV f g ρ = o := by
  unfold mOrV M.bind
  unfold ifK at h2
  rw [b_b h, show b = b' from hb]
  exact h2
theorem x_notV {f : M D} {b b' : Bool} (h : f ρ = .ok (.bl b) ρ1) (hb : NB (!b) b') : mNotV f ρ = .ok (.bl b') ρ1 := by
  unfold mNotV M.bind
  rw [b_b h]
  simp only [Out.andThen, M.pure, show (!b) = b' from hb]
theorem s_run {m : MS} {len : Nat} {bs : List Nat} {ds outs : List D} {ρ0 : Cells} (h0 : initC len bs ds = ρ0) (h : m ρ0 = .ret d ρ1) (h2 : outsOf bs ρ1 = outs) : mkFn len bs m ds = .ret d outs := by
  unfold mkFn
  rw [h0, h]
  simp only [h2]
variable {o : OutS} {m n R : MS}
theorem s_one (h : mSeq m mSkip ρ = o) : m ρ = o := by
  rw [← h]
  unfold mSeq mSkip
  cases m ρ <;> rfl
theorem g_seq (h : mSeq m R ρ = o) : mSeq m R ρ = o := h
theorem s_assoc (h : mSeq m (mSeq n R) ρ = o) : mSeq (mSeq m n) R ρ = o := by
  rw [← h]
  unfold mSeq
  cases m ρ <;> rfl
theorem s_skip (h : R ρ = o) : mSeq mSkip R ρ = o := h
theorem s_end : mSkip ρ = .next ρ := rfl
theorem s_step {S : MS} (h1 : S ρ = .next ρ1) (h2 : R ρ1 = o) : mSeq S R ρ = o := by
  unfold mSeq
  rw [h1]
  exact h2
theorem s_retS {S : MS} (h1 : S ρ = .ret d ρ1) : mSeq S R ρ = .ret d ρ1 := by
  unfold mSeq
  rw [h1]
theorem s_asg {f : M D} {g : TgM} (h1 : f ρ = .ok d ρ1) (h2 : Tg g d ρ1 ρ2) (h3 : R ρ2 = o) : mSeq (mAsg f g) R ρ = o := by
  unfold mSeq mAsg mDo
  rw [h1]
  simp only [show g d ρ1 = some ρ2 from h2]
  exact h3
theorem s_new {f : M D} {i : Nat} (h1 : f ρ = .ok d ρ1) (h2 : SetAt ρ1 i (.own d) ρ2) (h3 : R ρ2 = o) : mSeq (mNew f i) R ρ = o := by
  unfold mSeq mNew mDo
  rw [h1]
  simp only [show ρ1.set i (.own d) = ρ2 from h2]
  exact h3
theorem s_expr {f : M D} (h1 : f ρ = .ok d ρ1) (h3 : R ρ1 = o) : mSeq (mExpr f) R ρ = o := by
  unfold mSeq mExpr mDo
  rw [h1]
  exact h3
theorem s_ret {f : M D} (h1 : f ρ = .ok d ρ1) : mSeq (mRet f) R ρ = .ret d ρ1 := by
  unfold mSeq mRet mDo
  rw [h1]
theorem s_retN : mSeq mRetN R ρ = .ret .non ρ := rfl
def ifSK (b : Bool) (m n : MS) : MS := if b = true then m else n
theorem s_t (h : mSeq m R ρ = o) : mSeq (ifSK true m n) R ρ = o := h
theorem s_f (h : mSeq n R ρ = o) : mSeq (ifSK false m n) R ρ = o := h
theorem s_if {t : M Bool} {b b' : Bool} (h : t ρ = .ok b ρ1) (hb : NB b b') (h2 : mSeq (ifSK b' m n) R ρ1 = o) : mSeq (mIfS t m n) R ρ = o := by
  rw [← h2]
  unfold mSeq mIfS mDo ifSK
  rw [h, show b = b' from hb]
  cases b' <;> rfl
theorem s_par {f g : M D} {i j : Nat} (h1 : f ρ = .ok d ρ1) (h2 : g ρ1 = .ok e ρ2) (h3 : SetAt ρ2 i (.dat d) ρ3) (h4 : SetAt ρ3 j (.dat e) ρ4) (h5 : R ρ4 = o) : mSeq (mPar f g i j) R ρ = o := by
  unfold mSeq mPar mDo
  simp only [h1, h2, show ρ2.set i (.dat d) = ρ3 from h3, show ρ3.set j (.dat e) = ρ4 from h4]
  exact h5
theorem s_new2 {f g : M D} {i j : Nat} (h1 : f ρ = .ok d ρ1) (h2 : g ρ1 = .ok e ρ2) (h3 : SetAt ρ2 i (.own d) ρ3) (h4 : SetAt ρ3 j (.own e) ρ4) (h5 : R ρ4 = o) : mSeq (mNew2 f g i j) R ρ = o := by
  unfold mSeq mNew2 mDo
  simp only [h1, h2, show ρ2.set i (.own d) = ρ3 from h3, show ρ3.set j (.own e) = ρ4 from h4]
  exact h5
theorem s_frz {i : Nat} (h1 : GetAt ρ i (.own d)) (h2 : SetAt ρ i (.dat d) ρ1) (h3 : mSeq m R ρ1 = o) : mSeq (mFrz i m) R ρ = o := by
  unfold mSeq mFrz
  simp only [show ρ[i]? = some (.own d) from h1, show ρ.set i (.dat d) = ρ1 from h2]
  exact h3
theorem s_frzD {i : Nat} (h1 : GetAt ρ i (.dat d)) (h3 : mSeq m R ρ = o) : mSeq (mFrz i m) R ρ = o := by
  unfold mSeq mFrz
  simp only [show ρ[i]? = some (.dat d) from h1]
  exact h3
theorem s_for {fi : M (List D)} {g : TgM} {ds : List D} (h1 : fi ρ = .ok ds ρ1) (h2 : loopM g m ds ρ1 = .next ρ2) (h3 : R ρ2 = o) : mSeq (mFor fi g m) R ρ = o := by
  unfold mSeq mFor mDo
  simp only [h1, h2]
  exact h3
theorem s_forR {fi : M (List D)} {g : TgM} {ds : List D} (h1 : fi ρ = .ok ds ρ1) (h2 : loopM g m ds ρ1 = .ret d ρ2) : mSeq (mFor fi g m) R ρ = .ret d ρ2 := by
  unfold mSeq mFor mDo
  simp only [h1, h2]
theorem s_while {t : M Bool} {k : Nat} (h2 : whileM t m k ρ = .next ρ2) (h3 : R ρ2 = o) : mSeq (whileM t m k) R ρ = o := by
  unfold mSeq
  simp only [h2]
  exact h3
theorem s_whileR {t : M Bool} {k : Nat} (h2 : whileM t m k ρ = .ret d ρ2) : mSeq (whileM t m k) R ρ = .ret d ρ2 := by
  unfold mSeq
  simp only [h2]
theorem s_raise {x : Nat} {fs : List (M D)} {ds : List D} (h : Sq fs ρ ds ρ1) : mSeq (mRaise x fs) R ρ = .exc ⟨x, ds.reverse⟩ ρ1 := by
  unfold mSeq mRaise mDo
  simp only [show seqM fs ρ = .ok ds ρ1 from h]
theorem s_setIx {i : Nat} {fj fe : M D} {ds : List D} {k : Int} {kn : Nat} (h1 : fe ρ = .ok d ρ1) (h2 : GetAt ρ1 i (.own d1)) (h3 : fj ρ1 = .ok (.int k) ρ2) (h4 : GetAt ρ2 i (.own (.lst ds))) (h5 : ixN ds.length k = some kn) (h6 : SetAt ρ2 i (.own (.lst (ds.set kn d))) ρ3) (h7 : R ρ3 = o) : mSeq (mSetIx i fj fe) R ρ = o := by
  unfold mSeq mSetIx mDo
  simp only [h1, ownAt, show ρ1[i]? = some (.own d1) from h2, h3, show ρ2[i]? = some (.own (.lst ds)) from h4, h5, show ρ2.set i (.own (.lst (ds.set kn d))) = ρ3 from h6]
  exact h7
end
end Fx
set_option Elab.async false
set_option linter.all false
set_option maxRecDepth 100000
set_option maxHeartbeats 1000000
namespace Fx
open PySem PyProof.Rows L2
section
variable {c : Cf} {B : List (Nat × Addr)} {W : WX} {X : Cx} {G H : Hp} {A : Addr → Prop} {σ : L2.St} {ρ : Cells} {Z : Ends}
def mPar3 (f g h : M D) (i j l : Nat) : MS := mDo f fun d => mDo g fun e => mDo h fun u ρ => .next (((ρ.set i (.dat d)).set j (.dat e)).set l (.dat u))
end
variable {ρ ρ1 ρ2 ρ3 ρ4 ρ5 ρ6 : Cells} {d e u : D} {o : OutS} {R : MS}
theorem s_par3 {f g h : M D} {i j l : Nat} (h1 : f ρ = .ok d ρ1) (h2 : g ρ1 = .ok e ρ2) (h3 : h ρ2 = .ok u ρ3) (h4 : SetAt ρ3 i (.dat d) ρ4) (h5 : SetAt ρ4 j (.dat e) ρ5) (h6 : SetAt ρ5 l (.dat u) ρ6) (h7 : R ρ6 = o) : mSeq (mPar3 f g h i j l) R ρ = o := by
  unfold mSeq mPar3 mDo
  simp only [h1, h2, h3, show ρ3.set i (.dat d) = ρ4 from h4, show ρ4.set j (.dat e) = ρ5 from h5, show ρ5.set l (.dat u) = ρ6 from h6]
  exact h7
end Fx
set_option Elab.async false
set_option linter.all false
set_option maxRecDepth 100000
set_option maxHeartbeats 2000000
namespace Fx
open PySem PyProof.Rows L2
def pick {α : Type} (is : List Nat) (l : List α) : List α := is.filterMap fun i => l[i]?
section
variable {P : Program} {w : World} {K : PySem.W.Frag} {mg : Str → Option Value} {base : Heap} {c : Cf}
end
section
variable {c : Cf} {B : List (Nat × Addr)} {W : WX} {X : Cx} {G H : Hp} {A : Addr → Prop} {σ : L2.St} {ρ : Cells} {Z : Ends}
def mAugV (i : Nat) (fe : M D) : MS := fun ρ => match ρ[i]? with
  | some (.dat (.int a)) => mDo fe (fun d ρ' => match d with
    | .int b => .next (ρ'.set i (.dat (.int (a + b))))
    | _ => .stuck) ρ
  | _ => .stuck
end
theorem s_augV {i : Nat} {fe : M D} {a b : Int} {ρ ρ1 ρ2 : Cells} {o : OutS} {R : MS} (h1 : GetAt ρ i (.dat (.int a))) (h2 : fe ρ = .ok (.int b) ρ1) (h3 : SetAt ρ1 i (.dat (.int (a + b))) ρ2) (h4 : R ρ2 = o) : mSeq (mAugV i fe) R ρ = o := by
  unfold mSeq mAugV mDo
  simp only [show ρ[i]? = some (.dat (.int a)) from h1, h2, show ρ1.set i (.dat (.int (a + b))) = ρ2 from h3]
  exact h4
def Pk (is : List Nat) (l : List D) (as : List D) : Prop := pick is l = as
def At (l : List D) (i : Nat) (a : D) : Prop := l[i]? = some a
theorem at_z {a : D} {l : List D} : At (a :: l) 0 a := rfl
theorem at_s {a x : D} {l : List D} {n : Nat} (h : At l n x) : At (a :: l) (n + 1) x := h
theorem pk_n {l : List D} : Pk [] l [] := rfl
theorem pk_c {i : Nat} {is : List Nat} {l as : List D} {a : D} (h : At l i a) (h2 : Pk is l as) : Pk (i :: is) l (a :: as) := by
  unfold Pk pick at h2 ⊢
  rw [List.filterMap_cons, show l[i]? = some a from h, h2]
theorem x_callW {F : Fn} {fs ks : List (M D)} {is : List Nat} {ds es as bs outs : List D} {d : D} {ρ ρ1 ρ2 : Cells} (h1 : Sq fs ρ ds ρ1) (h2 : Sq ks ρ1 es ρ2) (h3 : App ds es as) (h4 : Pk is as bs) (h5 : F bs = .ret d outs) : mCallK F (fun ds es => pick is (ds ++ es)) fs ks ρ = .ok d ρ2 := by
  unfold mCallK M.bind
  simp only [show seqM fs ρ = .ok ds ρ1 from h1, Out.andThen, show seqM ks ρ1 = .ok es ρ2 from h2, show ds ++ es = as from h3, show pick is as = bs from h4, appF, h5]
end Fx
set_option Elab.async false
set_option linter.all false
set_option maxRecDepth 100000
set_option maxHeartbeats 2000000
namespace Fx
open PySem PyProof.Rows L2
section
variable {c : Cf} {B : List (Nat × Addr)} {W : WX} {X : Cx} {G H : Hp} {A : Addr → Prop} {σ : L2.St} {ρ : Cells} {Z : Ends}
def mIsF (f : M D) : M D := f.bind fun d => if isRcd d = true then M.pure (.bl true) else M.stuck
def mEqF (F : Fn) (f g : M D) : M D := f.bind fun d1 => g.bind fun d2 => fun ρ => if (isRcd d1 && isRcd d2) = true then (match F [d1, d2] with
  | .ret (.bl r) _ => .ok (.bl r) ρ
  | _ => .stuck) else .stuck
end
variable {ρ ρ1 ρ2 : Cells} {d d1 d2 : D}
theorem x_isF {f : M D} (h : f ρ = .ok d ρ1) (h2 : isRcd d = true) : mIsF f ρ = .ok (.bl true) ρ1 := by
  unfold mIsF M.bind
  simp only [h, Out.andThen, h2, if_pos, M.pure]
theorem x_eqF {F : Fn} {f g : M D} {b : Bool} {outs : List D} (h1 : f ρ = .ok d1 ρ1) (h2 : g ρ1 = .ok d2 ρ2) (h3 : isRcd d1 = true) (h4 : isRcd d2 = true) (h5 : F [d1, d2] = .ret (.bl b) outs) : mEqF F f g ρ = .ok (.bl b) ρ2 := by
  unfold mEqF M.bind
  simp only [h1, h2, Out.andThen, h3, h4, Bool.and_self, if_pos, h5]
end Fx
set_option Elab.async false
set_option linter.all false
set_option maxRecDepth 100000
set_option maxHeartbeats 4000000
namespace Fx
open PySem L2
def isDic : D → Bool
  | .dic _ _ => true
  | _ => false
section
variable {c : Cf} {B : List (Nat × Addr)} {W : WX} {X : Cx} {G H : Hp} {A : Addr → Prop} {σ : L2.St} {ρ : Cells}
def mMethWD (sem : D → List D → Option (D × D)) (i : Nat) (fs : List (M D)) : M D := (ownAt i).bind fun d0 => if isDic d0 = true then (seqM fs).bind fun ds => (ownAt i).bind fun d => (M.lift (sem d ds)).bind fun r => (setOwn i r.2).bind fun _ => M.pure r.1 else M.stuck
theorem x_methWD {sem : D → List D → Option (D × D)} {i : Nat} {fs : List (M D)} {ds : List D} {d d1 d2 d3 : D} {ρ1 ρ2 : Cells} (h1 : GetAt ρ i (.own d1)) (h2 : isDic d1 = true) (h3 : Sq fs ρ ds ρ1) (h4 : GetAt ρ1 i (.own d2)) (h5 : sem d2 ds = some (d, d3)) (h6 : SetAt ρ1 i (.own d3) ρ2) : mMethWD sem i fs ρ = .ok d ρ2 := by
  unfold mMethWD M.bind ownAt setOwn
  simp only [show ρ[i]? = some (.own d1) from h1, Out.andThen, h2, if_true]
  rw [show seqM fs ρ = .ok ds ρ1 from h3]
  simp only [show ρ1[i]? = some (.own d2) from h4, M.lift, h5, M.pure, show ρ1.set i (.own d3) = ρ2 from h6]
end
end Fx
set_option Elab.async false
set_option linter.all false
set_option maxRecDepth 100000
set_option maxHeartbeats 4000000
namespace Fx
open PySem L2
section
variable {X : Cx} {pins : List (Addr × Obj)} {σ : L2.St} {H : Hp} {s : Shared}
end
section
variable {X : Cx}
end
end Fx
set_option Elab.async false
set_option linter.all false
set_option maxRecDepth 100000
set_option maxHeartbeats 4000000
namespace Fx
open PySem L2
/-- what the cells own -/
def Owd (σ : L2.St) (ρ : Cells) (b : Addr) : Prop := ∃ (i : Nat) (d : D), ρ[i]? = some (.own d) ∧ σ[i]? = some (some (.ref b))
def NoTbl (G : Hp) : Prop := ∀ b ps, G b ≠ some (.tbl ps)
section
variable {c : Cf} {G H : Hp}
/-- a dict is no code -/
theorem kd_code {P : Program} {w : World} {a b : Addr} {xs : List (NestedKey × Addr)} {q : Str} : KdO P w a xs ≠ LamX.CodeO b q := fun z => by
  unfold KdO LamX.CodeO at z
  have z := HO.ext.inj z
  let oc : Obj := { cls := .none, data := .fields #[.none, .str q 0] }
  let h0 : Heap := { objs := Array.replicate (b + 1) oc }
  have hb : h0.get? b = some oc := by
    unfold Heap.get?
    simp [h0, oc]
  have hz := congrFun z h0
  have hc : ∃ (oc : Obj) (vs : Array Value) (t : Tok), h0.get? b = some oc ∧ oc.data = .fields vs ∧ vs[1]? = some (.str q t) := ⟨oc, _, 0, hb, rfl, rfl⟩
  rw [← hz] at hc
  obtain ⟨_, o, es, ep, h1, _, h2, _⟩ := hc
  unfold Heap.get? at h1
  simp only [h0, Array.getElem?_replicate] at h1
  by_cases y : a < b + 1
  · rw [if_pos y] at h1
    have h1 : some oc = some o := h1
    cases h1
    cases h2
  · rw [if_neg y] at h1
    cases h1
theorem km_code {P : Program} {w : World} {a b : Addr} {xs : List (NestedKey × Addr × Value)} {q : Str} : KmO P w a xs ≠ LamX.CodeO b q := fun z => by
  unfold KmO LamX.CodeO at z
  have z := HO.ext.inj z
  let oc : Obj := { cls := .none, data := .fields #[.none, .str q 0] }
  let h0 : Heap := { objs := Array.replicate (b + 1) oc }
  have hb : h0.get? b = some oc := by
    unfold Heap.get?
    simp [h0, oc]
  have hz := congrFun z h0
  have hc : ∃ (oc : Obj) (vs : Array Value) (t : Tok), h0.get? b = some oc ∧ oc.data = .fields vs ∧ vs[1]? = some (.str q t) := ⟨oc, _, 0, hb, rfl, rfl⟩
  rw [← hz] at hc
  obtain ⟨_, o, es, ep, h1, _, h2, _⟩ := hc
  unfold Heap.get? at h1
  simp only [h0, Array.getElem?_replicate] at h1
  by_cases y : a < b + 1
  · rw [if_pos y] at h1
    have h1 : some oc = some o := h1
    cases h1
    cases h2
  · rw [if_neg y] at h1
    cases h1
/-- what is owned is no table and no code -/
theorem own_kind {o : Option HO} {d : D} (h : Own c G o d) : ∃ u : HO, o = Option.some u ∧ (∀ ps, u ≠ .tbl ps) ∧ ∀ a q, u ≠ LamX.CodeO a q := by
  cases d <;> first | exact h.elim | skip
  · obtain ⟨xs, h1, _⟩ := h; exact ⟨_, h1, fun ps z => (by cases z), fun a q z => (by unfold LamX.CodeO at z; cases z)⟩
  · obtain ⟨xs, h1, _⟩ := h; exact ⟨_, h1, fun ps z => (by cases z), fun a q z => (by unfold LamX.CodeO at z; cases z)⟩
  · obtain ⟨dx, xs, h1, _⟩ := h; exact ⟨_, h1, fun ps z => (by cases z), fun a q z => (by unfold LamX.CodeO at z; cases z)⟩
  · obtain ⟨_, _, h, _⟩ := h
    rcases h with ⟨_, _, _, h1, _⟩ | ⟨_, _, _, _, _, h1, _⟩
    · exact ⟨_, h1, fun ps z => (by unfold KdO at z; cases z), fun a q z => kd_code z⟩
    · exact ⟨_, h1, fun ps z => (by unfold KmO at z; cases z), fun a q z => km_code z⟩
end
section
variable {c : Cf} {B : List (Nat × Addr)} {W : WX} {X : Cx} {G G' H H' : Hp} {A A' : Addr → Prop} {σ σ' : L2.St} {ρ ρ' : Cells} {T : List (Addr × Str)}
theorem Rel.sub (R : Rel c B G A H σ ρ) {b : Addr} (h : Owd σ ρ b) : A b := by
  obtain ⟨i, d, h1, h2⟩ := h
  obtain ⟨p, k1, k2, _⟩ := R.own i d h1
  rw [h2] at k1; cases k1
  exact k2
theorem Rel.okind (R : Rel c B G A H σ ρ) {b : Addr} (h : Owd σ ρ b) : ∃ u, H b = some u ∧ (∀ ps, u ≠ .tbl ps) ∧ ∀ a q, u ≠ LamX.CodeO a q := by
  obtain ⟨i, d, h1, h2⟩ := h
  obtain ⟨p, k1, _, k3⟩ := R.own i d h1
  rw [h2] at k1; cases k1
  exact own_kind k3
/-- the tables as they stand; their code objects are frozen -/
structure TabOk (T : List (Addr × Str)) (G H : Hp) : Prop where
  tabs : ∀ q ∈ T, ∃ ps : Array Value, H q.1 = some (.tbl ps) ∧ TriplesOk ps.toList ∧ ∀ (pos : Pos) (cv : Value), codeAmong pos ps.toList = some cv → ∃ a, cv = .ref a ∧ G a = some (LamX.CodeO a q.2)
  noG : NoTbl G
theorem TabOk.to (t : TabOk T G H) (s : Same G H) : LamX.Tabs T H := fun q hq => by
  obtain ⟨ps, h1, h2, h3⟩ := t.tabs q hq
  refine ⟨ps, h1, h2, fun pos cv h => ?_⟩
  obtain ⟨a, e1, e2⟩ := h3 pos cv h
  exact ⟨a, e1, s _ _ e2⟩
def KeepT (A : Addr → Prop) (G H G' H' : Hp) : Prop := ∀ b o, H b = some o → ¬ A b → (∀ ps, o ≠ .tbl ps) → H' b = some o ∧ ((∀ q, o ≠ LamX.CodeO b q) → G' b = G b)
structure StpT (A : Addr → Prop) (G H G' H' : Hp) (A' : Addr → Prop) : Prop where
  gg : Same G G'
  kp : KeepT A G H G' H'
  aa : ∀ b, A' b → A b ∨ H b = none ∨ ∃ ps, H b = some (.tbl ps)
theorem StpT.refl : StpT A G H G H A := ⟨Same.refl _, fun b o h _ _ => ⟨h, fun _ => rfl⟩, fun b h => .inl h⟩
theorem StpT.trans {G1 H1 G2 H2 : Hp} {A1 A2 : Addr → Prop} (a : StpT A G H G1 H1 A1) (b : StpT A1 G1 H1 G2 H2 A2) : StpT A G H G2 H2 A2 where
  gg := a.gg.trans b.gg
  kp := fun x o h n t => by
    obtain ⟨k1, k2⟩ := a.kp x o h n t
    have n1 : ¬ A1 x := fun z => by
      rcases a.aa x z with y | y | ⟨ps, y⟩
      · exact n y
      · rw [h] at y; cases y
      · rw [h] at y; cases y; exact t ps rfl
    obtain ⟨k3, k4⟩ := b.kp x o k1 n1 t
    exact ⟨k3, fun q => (k4 q).trans (k2 q)⟩
  aa := fun x h => by
    cases e : H x with
    | none => exact .inr (.inl rfl)
    | some o =>
      by_cases n : A x
      · exact .inl n
      · by_cases t : ∃ ps, o = .tbl ps
        · obtain ⟨ps, rfl⟩ := t
          exact .inr (.inr ⟨ps, rfl⟩)
        · have k1 := (a.kp x o e n fun ps z => t ⟨ps, z⟩).1
          rcases b.aa x h with y | y | ⟨ps, y⟩
          · exact (a.aa x y).imp_right fun z => by rwa [e] at z
          · rw [k1] at y; cases y
          · rw [k1] at y; cases y; exact absurd ⟨ps, rfl⟩ t
def AfterT {α : Type} (T : List (Addr × Str)) (c : Cf) (B : List (Nat × Addr)) (G H : Hp) (σ : L2.St) (ρ : Cells) (o : Out α) (Q : α → Cells → Hp → Hp → Prop) : Prop := match o with
  | .ok a ρ' => ∀ G' H', StpT (Owd σ ρ) G H G' H' (Owd σ ρ') → Rel c B G' (Owd σ ρ') H' σ ρ' → TabOk T G' H' → Q a ρ' G' H'
  | _ => False
def AfterST (T : List (Addr × Str)) (c : Cf) (B : List (Nat × Addr)) (G H : Hp) (σ : L2.St) (ρ : Cells) (o : OutS) (D : Ends) : Prop := match o with
  | .next ρ' => ∀ G' H' σ', StpT (Owd σ ρ) G H G' H' (Owd σ' ρ') → Rel c B G' (Owd σ' ρ') H' σ' ρ' → TabOk T G' H' → D.nx σ' H'
  | .ret d ρ' => ∀ G' H' σ' v, StpT (Owd σ ρ) G H G' H' (Owd σ' ρ') → Rel c B G' (Owd σ' ρ') H' σ' ρ' → TabOk T G' H' → Rep c G' v d → D.rt v H'
  | .brk ρ' => ∀ G' H' σ', StpT (Owd σ ρ) G H G' H' (Owd σ' ρ') → Rel c B G' (Owd σ' ρ') H' σ' ρ' → TabOk T G' H' → D.bk σ' H'
  | .cont ρ' => ∀ G' H' σ', StpT (Owd σ ρ) G H G' H' (Owd σ' ρ') → Rel c B G' (Owd σ' ρ') H' σ' ρ' → TabOk T G' H' → D.ct σ' H'
  | _ => False
theorem AfterT.of {α : Type} {G1 H1 : Hp} {ρ1 : Cells} {o : Out α} {Q : α → Cells → Hp → Hp → Prop} (s : StpT (Owd σ ρ) G H G1 H1 (Owd σ ρ1)) (h : AfterT T c B G H σ ρ o Q) : AfterT T c B G1 H1 σ ρ1 o Q := by
  cases o with
  | stuck => exact h
  | exc x ρ' => exact h
  | ok a ρ' => exact fun G' H' s' R t => h G' H' (s.trans s') R t
theorem AfterST.of {G1 H1 : Hp} {σ1 : L2.St} {ρ1 : Cells} {o : OutS} {Z : Ends} (s : StpT (Owd σ ρ) G H G1 H1 (Owd σ1 ρ1)) (h : AfterST T c B G H σ ρ o Z) : AfterST T c B G1 H1 σ1 ρ1 o Z := by
  cases o with
  | stuck => exact h
  | exc x ρ' => exact h
  | brk ρ' => exact fun G' H' σ' s' R t => h G' H' σ' (s.trans s') R t
  | cont ρ' => exact fun G' H' σ' s' R t => h G' H' σ' (s.trans s') R t
  | next ρ' => exact fun G' H' σ' s' R t => h G' H' σ' (s.trans s') R t
  | ret d ρ' => exact fun G' H' σ' v s' R t => h G' H' σ' v (s.trans s') R t
theorem AfterT.ok {α : Type} {a : α} {Q : α → Cells → Hp → Hp → Prop} (h : AfterT T c B G H σ ρ (.ok a ρ) Q) (R : Rel c B G (Owd σ ρ) H σ ρ) (t : TabOk T G H) : Q a ρ G H := h G H StpT.refl R t
theorem AfterST.nx {Z : Ends} (h : AfterST T c B G H σ ρ (.next ρ) Z) (R : Rel c B G (Owd σ ρ) H σ ρ) (t : TabOk T G H) : Z.nx σ H := h G H σ StpT.refl R t
theorem AfterT.split {α β : Type} {f : M α} {k : α → M β} {Q : β → Cells → Hp → Hp → Prop} (h : AfterT T c B G H σ ρ ((f.bind k) ρ) Q) : AfterT T c B G H σ ρ (f ρ) fun a ρ' G' H' => AfterT T c B G' H' σ ρ' (k a ρ') Q := by
  unfold M.bind at h
  cases e : f ρ with
  | stuck => rw [e] at h; exact h
  | exc x ρ' => rw [e] at h; exact h
  | ok a ρ' => rw [e] at h; exact fun G' H' s R t => AfterT.of s h
theorem AfterT.imp {α : Type} {o : Out α} {Q Q' : α → Cells → Hp → Hp → Prop} (h : AfterT T c B G H σ ρ o Q) (k : ∀ a ρ' G' H', StpT (Owd σ ρ) G H G' H' (Owd σ ρ') → Rel c B G' (Owd σ ρ') H' σ ρ' → TabOk T G' H' → Q a ρ' G' H' → Q' a ρ' G' H') : AfterT T c B G H σ ρ o Q' := by
  cases o with
  | stuck => exact h
  | exc x ρ' => exact h
  | ok a ρ' => exact fun G' H' s R t => k a ρ' G' H' s R t (h G' H' s R t)
theorem AfterST.split {α : Type} {f : M α} {k : α → MS} {Z : Ends} (h : AfterST T c B G H σ ρ (mDo f k ρ) Z) : AfterT T c B G H σ ρ (f ρ) fun a ρ' G' H' => AfterST T c B G' H' σ ρ' (k a ρ') Z := by
  unfold mDo at h
  cases e : f ρ with
  | stuck => rw [e] at h; exact h
  | exc x ρ' => rw [e] at h; exact h
  | ok a ρ' => rw [e] at h; exact fun G' H' s R t => AfterST.of s h
/-- a value ahead of one that makes a lambda, compared -/
def mCmp (sem : D → D → Option D) (f g : M D) : M D := f.bind fun d => g.bind fun e => M.lift (sem d e)
end
end Fx
set_option Elab.async false
set_option linter.all false
set_option maxRecDepth 100000
set_option maxHeartbeats 4000000
namespace Fx
open PySem L2
section
variable {c : Cf} {B : List (Nat × Addr)} {W : WX} {X : Cx} {G G' H H' : Hp} {A A' : Addr → Prop} {σ σ' : L2.St} {ρ ρ' : Cells} {T : List (Addr × Str)}
end
section
variable {P : Program} {w : World} {K : PySem.W.Frag} {mg : Str → Option Value} {base : Heap} {c : Cf} {T : List (Addr × Str)}
end
section
variable {c : Cf} {B : List (Nat × Addr)} {W : WX} {X : Cx} {T : List (Addr × Str)}
end
end Fx
set_option Elab.async false
set_option linter.all false
set_option maxRecDepth 100000
set_option maxHeartbeats 4000000
namespace Fx
open PySem L2
section
variable {prog : Program} {w : World} {A : Around} {E : Value → Shared → Prop} {s : Shared} {K : PySem.W.Frag} {x y C f : Addr} {ox : Obj} {od : Option Obj}
end
section
variable {c : Cf} {B : List (Nat × Addr)} {W : WX} {X : Cx} {G H : Hp} {A : Addr → Prop} {σ : L2.St} {ρ : Cells} {Z : Ends}
def mNeF (F : Fn) (f g : M D) : M D := f.bind fun d1 => g.bind fun d2 => fun ρ => if (isRcd d1 && isRcd d2) = true then (match F [d1, d2] with
  | .ret (.bl r) _ => .ok (.bl (!r)) ρ
  | _ => .stuck) else .stuck
end
section
variable {P : Program} {w : World} {K : PySem.W.Frag} {mg : Str → Option Value} {base : Heap} {c : Cf}
end
section
variable {c : Cf} {B : List (Nat × Addr)} {W : WX} {X : Cx} {G H : Hp} {A : Addr → Prop} {σ : L2.St} {ρ : Cells} {E : XK}
def mMakeK (F : Fn) (js : List Nat) (gs : List (M D)) : M D := (seqM gs).bind fun es ρ => match F (.rcd [] [] :: pick js es) with
  | .ret .non [.rcd ns ds] => .ok (.rcd ns ds) ρ
  | .exc x _ => .exc x ρ
  | _ => .stuck
def mMethK (F : Fn) (m : Str) (js : List Nat) (fo : M D) (gs : List (M D)) : M D := fo.bind fun d => if noName m d = true then (seqM gs).bind fun es => appF F (d :: pick js es) else M.stuck
end
section
variable {ρ ρ1 ρ2 : Cells} {d d1 d2 : D}
theorem x_neF {F : Fn} {f g : M D} {b : Bool} {outs : List D} (h1 : f ρ = .ok d1 ρ1) (h2 : g ρ1 = .ok d2 ρ2) (h3 : isRcd d1 = true) (h4 : isRcd d2 = true) (h5 : F [d1, d2] = .ret (.bl b) outs) : mNeF F f g ρ = .ok (.bl (!b)) ρ2 := by
  unfold mNeF M.bind
  simp only [h1, h2, Out.andThen, h3, h4, Bool.and_self, if_pos, h5]
theorem x_makeK {F : Fn} {js : List Nat} {gs : List (M D)} {es ds vs : List D} {ns : List Str} (h1 : Sq gs ρ es ρ1) (h2 : Pk js es ds) (h3 : F (.rcd [] [] :: ds) = .ret .non [.rcd ns vs]) : mMakeK F js gs ρ = .ok (.rcd ns vs) ρ1 := by
  unfold mMakeK M.bind
  simp only [show seqM gs ρ = .ok es ρ1 from h1, Out.andThen, show pick js es = ds from h2, h3]
theorem x_methK {F : Fn} {m : Str} {js : List Nat} {fo : M D} {gs : List (M D)} {es ds outs : List D} {e : D} (h1 : fo ρ = .ok d ρ1) (h2 : noName m d = true) (h3 : Sq gs ρ1 es ρ2) (h4 : Pk js es ds) (h5 : F (d :: ds) = .ret e outs) : mMethK F m js fo gs ρ = .ok e ρ2 := by
  unfold mMethK M.bind
  simp only [h1, Out.andThen, h2, if_pos, show seqM gs ρ1 = .ok es ρ2 from h3, show pick js es = ds from h4, appF, h5]
theorem x_cmp {sem : D → D → Option D} {f g : M D} (h1 : f ρ = .ok d1 ρ1) (h2 : g ρ1 = .ok d2 ρ2) (h3 : sem d1 d2 = some d) : mCmp sem f g ρ = .ok d ρ2 := by
  unfold mCmp M.bind
  simp only [h1, h2, Out.andThen, M.lift, h3]
end
end Fx
set_option Elab.async false
set_option linter.all false
set_option maxRecDepth 100000
set_option maxHeartbeats 4000000
namespace Fx
open PySem L2
section
variable {c : Cf} {B : List (Nat × Addr)} {W : WX} {X : Cx} {G G' H H' : Hp} {A A' : Addr → Prop} {σ σ' : L2.St} {ρ ρ' : Cells} {T : List (Addr × Str)}
end
section
variable {c : Cf} {B : List (Nat × Addr)} {X : Cx} {T : List (Addr × Str)}
end
section
variable {P : Program} {w : World} {K : PySem.W.Frag} {mg : Str → Option Value} {base : Heap} {c : Cf} {T : List (Addr × Str)}
end
end Fx
set_option Elab.async false
set_option linter.all false
set_option maxRecDepth 100000
set_option maxHeartbeats 4000000
namespace Fx
open PySem L2
mutual
inductive NkH (K : PySem.W.Frag) (H : Hp) : V → NestedKey → Prop
  | non : NkH K H .non .none
  | bl (b : Bool) : NkH K H (.bl b) (.num (if b = true then 1 else 0))
  | int (i : Int) : NkH K H (.int i) (.num i)
  | str (x : Str) : NkH K H (.str x) (.text x)
  | tup {a : Addr} {xs : List V} {ks : List NestedKey} : SqT K H a xs → NkHL K H xs ks → NkH K H (.ref a) (.tup ks)
inductive NkHL (K : PySem.W.Frag) (H : Hp) : List V → List NestedKey → Prop
  | nil : NkHL K H [] []
  | cons {v : V} {vs : List V} {k : NestedKey} {ks : List NestedKey} : NkH K H v k → NkHL K H vs ks → NkHL K H (v :: vs) (k :: ks)
end
section
variable {X : Cx} {pins : List (Addr × Obj)} {σ : L2.St} {H : Hp} {s : Shared}
mutual
theorem NkH.is (I : Inv X pins σ H s) : ∀ (k : NestedKey) (v : V) (u : Value), NkH X.K H v k → RelV v u → NestedIs s.heap k u
  | .none, _, _, h, r => by
    cases h
    cases r
    exact .none
  | .num i, _, _, h, r => by
    cases h with
    | bl b => cases r; exact .bool rfl
    | int i => obtain ⟨t, rfl⟩ := r; exact .int _ t
  | .text x, _, _, h, r => by
    cases h
    obtain ⟨t, rfl⟩ := r
    exact .text x t
  | .tup ks, _, _, h, r => by
    cases h with
    | tup hs ha =>
      cases r
      obtain ⟨its, rv, ⟨o, ho, hc, n, hd⟩, _⟩ := I.tuple hs
      exact .tup ho hc hd (NkHL.is I ks _ _ ha (by simpa using rv))
theorem NkHL.is (I : Inv X pins σ H s) : ∀ (ks : List NestedKey) (vs : List V) (us : List Value), NkHL X.K H vs ks → Vals vs us → NestedAll s.heap ks us
  | [], _, _, h, r => by
    cases h
    cases r
    exact .nil
  | k :: ks, _, _, h, r => by
    cases h with
    | cons h1 h2 =>
      cases r with
      | cons r1 r2 => exact .cons (NkH.is I k _ _ h1 r1) (NkHL.is I ks _ _ h2 r2)
end
end
section
variable {c : Cf} {G H : Hp}
theorem nkL_cons {d : D} {ds : List D} {ks : List NestedKey} (h : nkL (d :: ds) = some ks) : ∃ k ks', nk d = some k ∧ nkL ds = some ks' ∧ ks = k :: ks' := by
  unfold nkL at h
  cases h1 : nk d with
  | none => simp only [h1] at h; cases h
  | some k =>
    cases h2 : nkL ds with
    | none => simp only [h1, h2] at h; cases h
    | some ks' => simp only [h1, h2] at h; cases h; exact ⟨k, ks', rfl, rfl, rfl⟩
mutual
theorem Rep.nk (s : Same G H) : ∀ {v : V} {d : D} {k : NestedKey}, Rep c G v d → nk d = some k → NkH c.K H v k
  | _, _, _, .non, h => by unfold Fx.nk at h; cases h; exact .non
  | _, _, _, .bl b, h => by unfold Fx.nk at h; cases h; exact .bl b
  | _, _, _, .int i, h => by unfold Fx.nk at h; cases h; exact .int i
  | _, _, _, .str x, h => by unfold Fx.nk at h; cases h; exact .str x
  | _, .tup ds, _, .tup e r, h => by
    unfold Fx.nk at h
    cases h2 : nkL ds with
    | none => simp only [h2] at h; cases h
    | some ks => simp only [h2] at h; cases h; exact .tup (e.mono s).sq (RepL.nk s r h2)
  | _, _, _, .lst .., h => by unfold Fx.nk at h; cases h
  | _, _, _, .dic .., h => by unfold Fx.nk at h; cases h
  | _, _, _, .rcd .., h => by unfold Fx.nk at h; cases h
  | _, _, _, .raw _, h => by unfold Fx.nk at h; cases h
  | _, _, _, .std .., h => by unfold Fx.nk at h; cases h
  | _, _, _, .err .., h => by unfold Fx.nk at h; cases h
theorem RepL.nk (s : Same G H) : ∀ {vs : List V} {ds : List D} {ks : List NestedKey}, RepL c G vs ds → nkL ds = some ks → NkHL c.K H vs ks
  | _, _, _, .nil, h => by unfold nkL at h; cases h; exact .nil
  | _, _, _, .cons r t, h => by
    obtain ⟨k, ks', h1, h2, rfl⟩ := nkL_cons h
    exact .cons (Rep.nk s r h1) (RepL.nk s t h2)
end
theorem rep_nk_ref {v : V} {d : D} {ks : List NestedKey} (r : Rep c G v d) (h : nk d = some (.tup ks)) : ∃ p, v = .ref p := by
  cases r <;> first | (unfold nk at h; cases h; done) | exact ⟨_, rfl⟩
end
section
variable {P : Program} {w : World} {H : Hp} {h h' : Heap} {a b : Addr} {xs : List (NestedKey × Addr)}
theorem kd_addr (o : ObjOk P w H h b (KdO P w a xs)) : a = b := by
  obtain ⟨h1, ⟨ob, hb⟩, st⟩ := o
  refine Classical.byContradiction fun ne => ?_
  let oc : Obj := { cls := .none, data := .fields #[] }
  have q := st h { h with objs := h.objs.setIfInBounds a oc } h1 fun o e => by
    unfold Heap.get? at e ⊢
    simp only [Array.getElem?_setIfInBounds, if_neg ne]
    exact e
  obtain ⟨_, o2, es, ep, e1, _, e2, _⟩ := q
  obtain ⟨_, o3, _, _, e3, _⟩ := h1
  have hlt := Heap.lt_size e3
  unfold Heap.get? at e1
  simp only [Array.getElem?_setIfInBounds, if_pos, if_pos hlt] at e1
  have e1 : some oc = some o2 := e1
  cases e1
  cases e2
end
/-- how such a dict stands in an abstract heap -/
structure Kd (K : PySem.W.Frag) (P : Program) (w : World) (H : Hp) (a : Addr) (ps : List Addr) (ks : List NestedKey) : Prop where
  ob : ∃ a0, H a = some (KdO P w a0 (ks.zip ps))
  len : ks.length = ps.length
  nd : ks.Nodup
  dp : ∀ k ∈ ks, k.depth ≤ 8
  at_ : NkHL K H (ps.map V.ref) ks
def trip (x : NestedKey × Addr) : NestedKey × Addr × Value := (x.1, x.2, .bool true)
theorem nkHL_get {K : PySem.W.Frag} {H : Hp} : ∀ {ps : List Addr} {ks : List NestedKey} {k : NestedKey} {p : Addr}, NkHL K H (ps.map V.ref) ks → (k, p) ∈ ks.zip ps → NkH K H (.ref p) k
  | [], ks, k, p, _, h => by simp at h
  | q :: ps, [], k, p, _, h => by simp at h
  | q :: ps, j :: ks, k, p, r, h => by
    rw [List.map_cons] at r
    cases r with
    | cons r1 r2 =>
      rw [List.zip_cons_cons] at h
      rcases List.mem_cons.mp h with e | h
      · cases e; exact r1
      · exact nkHL_get r2 h
theorem zipK {β : Type} : ∀ {ks : List NestedKey} {ps : List β}, ks.length = ps.length → (ks.zip ps).map (·.1) = ks
  | [], [], _ => rfl
  | k :: ks, p :: ps, h => by rw [List.zip_cons_cons, List.map_cons, zipK (by simpa using h)]
section
variable {X : Cx} {pins : List (Addr × Obj)} {σ : L2.St} {H : Hp} {s : Shared} {a : Addr} {ps : List Addr} {ks : List NestedKey}
theorem Kd.dict (I : Inv X pins σ H s) (k : Kd X.K X.prog X.w H a ps ks) : (a == sysModules) = false ∧ s.heap.DictOfH (nestedKind X.prog X.w) a ((ks.zip ps).map trip) := by
  obtain ⟨a0, e⟩ := k.ob
  have o := I.hok _ _ e
  have ea := kd_addr o
  subst ea
  obtain ⟨⟨hd, ob, es, ep, e1, e2, e3, e4⟩, _⟩ := o
  refine ⟨hd, ob, es, ep, e1, e2, e3, ?_, fun x hx => ?_, ?_⟩
  · rw [e4, List.map_map]
    rfl
  · obtain ⟨⟨j, p⟩, hj, rfl⟩ := List.mem_map.mp hx
    refine ⟨NkH.is I _ _ _ (nkHL_get k.at_ hj) rfl, k.dp j ?_⟩
    exact (List.of_mem_zip hj).1
  · rw [List.map_map]
    show ((ks.zip ps).map (·.1)).Nodup
    rw [zipK k.len]
    exact k.nd
end
end Fx
set_option Elab.async false
set_option linter.all false
set_option maxRecDepth 100000
set_option maxHeartbeats 4000000
namespace Fx
open PySem L2
section
variable {X : Cx} {a b : Expr} {ta tb : TE}
end
section
variable {c : Cf} {B : List (Nat × Addr)} {W : WX} {X : Cx} {G H : Hp} {A : Addr → Prop} {σ : L2.St} {ρ : Cells}
theorem KdAt.kd {o : Option HO} {xs : List V} {ks : List NestedKey} {ds : List D} {a : Addr} (s : Same G H) (ho : ∀ u, o = some u → H a = some u) (h : KdAt c 0 o xs ks) (r : RepL c G xs ds) (e : nkL ds = some ks) : ∃ ps, xs = ps.map V.ref ∧ Kd c.K c.P c.w H a ps ks := by
  obtain ⟨a0, ps, h1, h2, rfl, h4, h5, h6⟩ := h.zero
  exact ⟨ps, rfl, ⟨a0, ho _ h1⟩, h2, h4, h6, r.nk s e⟩
theorem Opr.std {v : V} {ds : List D} (s : Same G H) (h : Opr c G H v (.exc 0 ds)) : ∃ a ps ks, v = .ref a ∧ nkL ds = some ks ∧ Kd c.K c.P c.w H a ps ks := by
  rcases h with h | ⟨q, rfl, h⟩
  · cases h with
    | std h r e =>
      obtain ⟨ps, _, k⟩ := h.kd s (fun u hu => s _ _ hu) r e
      exact ⟨_, ps, _, rfl, e, k⟩
  · obtain ⟨xs, ks, h, r, e⟩ := h
    obtain ⟨ps, _, k⟩ := h.kd s (fun u hu => hu) r e
    exact ⟨_, ps, ks, rfl, e, k⟩
theorem Opr.nk {v : V} {d : D} {ks : List NestedKey} (s : Same G H) (h : Opr c G H v d) (e : nk d = some (.tup ks)) : ∃ p, v = .ref p ∧ NkH c.K H (.ref p) (.tup ks) := by
  rcases h with h | ⟨q, rfl, h⟩
  · obtain ⟨p, rfl⟩ := rep_nk_ref h e
    exact ⟨p, rfl, h.nk s e⟩
  · cases d <;> first | exact h.elim | (unfold Fx.nk at e; cases e; done)
end
end Fx
set_option Elab.async false
set_option linter.all false
set_option maxRecDepth 100000
set_option maxHeartbeats 4000000
namespace Fx
open PySem L2
def newS (d : D) : Option D := match nk d with
  | some (.tup k) => if (NestedKey.tup k).depth ≤ 8 then some (.exc 0 [d]) else none
  | _ => none
def mKd (i : Nat) : M D := (mVar i).bind fun d => M.lift (newS d)
def putS : D → D → Option D
  | .exc 0 ds, j => match nk j, nkL ds with
    | some (.tup k), some ks => if (NestedKey.tup k).depth ≤ 8 ∧ NestedKey.tup k ∉ ks ∧ ks.length < 16777216 then some (.exc 0 (ds ++ [j])) else none
    | _, _ => none
  | _, _ => none
def tru : D → Bool
  | .bl b => b
  | _ => false
def mSetS (i : Nat) (fj fe : M D) : MS := mDo fe fun d => mDo (ownAt i) fun _ => mDo fj fun j => mDo (ownAt i) fun o ρ => if tru d = true then (match putS o j with
    | some o' => .next (ρ.set i (.own o'))
    | none => .stuck) else .stuck
section
variable {c : Cf} {B : List (Nat × Addr)} {W : WX} {X : Cx} {G H : Hp} {A : Addr → Prop} {σ : L2.St} {ρ : Cells}
end
section
variable {ρ ρ1 ρ2 ρ3 : Cells} {d d1 d2 : D} {R : MS} {o : OutS}
theorem x_kd {i : Nat} (h1 : GetAt ρ i (.dat d)) (h2 : newS d = some d1) : mKd i ρ = .ok d1 ρ := by
  unfold mKd mVar M.bind
  simp only [show ρ[i]? = some (.dat d) from h1, Out.andThen, M.lift, h2]
theorem s_setS {i : Nat} {fj fe : M D} {j : D} (h1 : fe ρ = .ok (.bl true) ρ1) (h2 : GetAt ρ1 i (.own d1)) (h3 : fj ρ1 = .ok j ρ2) (h4 : GetAt ρ2 i (.own d2)) (h5 : putS d2 j = some d) (h6 : SetAt ρ2 i (.own d) ρ3) (h7 : R ρ3 = o) : mSeq (mSetS i fj fe) R ρ = o := by
  unfold mSeq mSetS mDo ownAt
  simp only [h1, show ρ1[i]? = some (.own d1) from h2, h3, show ρ2[i]? = some (.own d2) from h4, tru, if_true, h5, show ρ2.set i (.own d) = ρ3 from h6, h7]
end
end Fx
set_option Elab.async false
set_option linter.all false
set_option maxRecDepth 100000
set_option maxHeartbeats 4000000
namespace Fx
open PySem L2 PySem.Spec PyProof.Rows
/-- what a def promises where no repr is under way -/
structure FnG (P : Program) (w : World) (K : PySem.W.Frag) (mg : Str → Option Value) (base : Heap) (CX : CXT) (k : Nat) (f : Addr) (fd : FuncData) (ps : List Str) (sp : Sp) : Prop where
  len : ∀ vs H Q E, sp vs H Q E → vs.length = ps.length
  go : ∀ (A : Around) (outer : List Env) (s : Shared) (H : Hp) (args : Args) (us : List Value) (vs : List V) (Q : VK) (E : XK), A.guards = some [] → Room k A → Env0 P w K mg base A outer s H → BindsTo s fd args (ps.zip us) → Vals vs us → sp vs H Q E →
    codeAny (model P w) A (.call (.ref f) args) (CR CX outer P w H s Q E) s
section
variable {P : Program} {w : World} {K : PySem.W.Frag} {mg : Str → Option Value} {base : Heap} {CX : CXT}
theorem FnG.imp {k : Nat} {f : Addr} {fd : FuncData} {ps : List Str} {sp sp' : Sp} (F : FnG P w K mg base CX k f fd ps sp) (h : ∀ vs H Q E, sp' vs H Q E → sp vs H Q E) : FnG P w K mg base CX k f fd ps sp' :=
  ⟨fun vs H Q E q => F.len vs H Q E (h vs H Q E q), fun A outer s H args us vs Q E hg hr e0 b r q => F.go A outer s H args us vs Q E hg hr e0 b r (h vs H Q E q)⟩
theorem FnG.mono {j k : Nat} {f : Addr} {fd : FuncData} {ps : List Str} {sp : Sp} (F : FnG P w K mg base CX j f fd ps sp) (h : j ≤ k) : FnG P w K mg base CX k f fd ps sp :=
  ⟨F.len, fun A outer s H args us vs Q E hg hr => F.go A outer s H args us vs Q E hg (hr.mono h)⟩
end
section
variable {X : Cx} {CX : CXT} {k : Nat} {f : Addr} {fd : FuncData} {ps : List Str} {sp : Sp} {E : L2.St → XK} {x : Str} {p pos : Pos} {e : Expr} {es : List Expr} {t : TA}
end
section
variable {c : Cf} {B : List (Nat × Addr)} {W : WX} {X : Cx} {G H : Hp} {A : Addr → Prop} {σ : L2.St} {ρ : Cells}
end
section
variable {P : Program} {w : World} {K : PySem.W.Frag} {mg : Str → Option Value} {base : Heap} {c : Cf}
end
end Fx
set_option Elab.async false
set_option linter.all false
set_option maxRecDepth 100000
set_option maxHeartbeats 4000000
namespace Fx
open PySem L2
mutual
def noLst : PyData → Bool
  | .none => true
  | .bool _ => true
  | .int _ => true
  | .str _ => true
  | .list _ => false
  | .tuple xs => noLsts xs
  | .dict kvs => kvs.isEmpty
def noLsts : List PyData → Bool
  | [] => true
  | x :: xs => noLst x && noLsts xs
end
mutual
inductive DpE (K : PySem.W.Frag) (H : Hp) : V → PyData → Prop
  | non : DpE K H .non .none
  | bl (b : Bool) : DpE K H (.bl b) (.bool b)
  | int (i : Int) : DpE K H (.int i) (.int i)
  | str (x : Str) : DpE K H (.str x) (.str x)
  | lst {a : Addr} {xs : List V} {ds : List PyData} : SqL K H a xs → DpEL K H xs ds → DpE K H (.ref a) (.list ds)
  | tup {a : Addr} {xs : List V} {ds : List PyData} : SqT K H a xs → DpEL K H xs ds → DpE K H (.ref a) (.tuple ds)
  | dic {a : Addr} : L2.Rd H a (.dK []) → DpE K H (.ref a) (.dict [])
inductive DpEL (K : PySem.W.Frag) (H : Hp) : List V → List PyData → Prop
  | nil : DpEL K H [] []
  | cons {v : V} {vs : List V} {d : PyData} {ds : List PyData} : DpE K H v d → DpEL K H vs ds → DpEL K H (v :: vs) (d :: ds)
end
section
variable {X : Cx} {pins : List (Addr × Obj)} {σ : L2.St} {H : Hp} {s : Shared}
mutual
theorem DpE.reads (I : Inv X pins σ H s) : ∀ (d : PyData) (v : V) (u : Value), DpE X.K H v d → RelV v u → ∃ as, Reads s.heap u d as ∧ (noLst d = true → sysModules ∉ as)
  | .none, _, _, h, r => by
    cases h
    cases r
    exact ⟨_, Reads.none, fun _ z => nomatch z⟩
  | .bool b, _, _, h, r => by
    cases h
    cases r
    exact ⟨_, Reads.bool b, fun _ z => nomatch z⟩
  | .int i, _, _, h, r => by
    cases h
    obtain ⟨t, rfl⟩ := r
    exact ⟨_, Reads.int i t, fun _ z => nomatch z⟩
  | .str x, _, _, h, r => by
    cases h
    obtain ⟨t, rfl⟩ := r
    exact ⟨_, Reads.str x t, fun _ z => nomatch z⟩
  | .list ds, _, _, h, r => by
    cases h with
    | lst hs ha =>
      cases r
      obtain ⟨its, rv, ⟨o, n, ho, hc, _, hd⟩, _⟩ := I.list hs
      obtain ⟨as, hr, _⟩ := DpEL.reads I ds _ its ha rv
      exact ⟨_, Reads.list ho hc hd hr, fun z => by unfold noLst at z; cases z⟩
  | .tuple ds, _, _, h, r => by
    cases h with
    | tup hs ha =>
      cases r
      obtain ⟨its, rv, ⟨o, ho, hc, n, hd⟩, _⟩ := I.tuple hs
      obtain ⟨as, hr, hn⟩ := DpEL.reads I ds _ its ha rv
      exact ⟨_, Reads.tuple ho hc hd hr, fun z => hn (by unfold noLst at z; exact z)⟩
  | .dict kvs, _, _, h, r => by
    cases h with
    | dic hs =>
      cases r
      obtain ⟨_, hd, vs, rel, o, es, ep, h1, h2, h3, _, h5, _⟩ := dk_rd I.hok hs
      cases rel
      have he : es.toList = [] := by
        cases e : es.toList with
        | nil => rfl
        | cons a l => rw [e] at h5; cases h5
      refine ⟨_, Reads.dict (as := []) (bs := []) h1 h2.1 h3 (by rw [he]; exact .nil) (by rw [he]; exact .nil), fun _ z => ?_⟩
      rw [List.append_nil, List.mem_singleton] at z
      rw [← z] at hd
      simp at hd
theorem DpEL.reads (I : Inv X pins σ H s) : ∀ (ds : List PyData) (vs : List V) (us : List Value), DpEL X.K H vs ds → Vals vs us → ∃ as, ReadsAll s.heap us ds as ∧ (noLsts ds = true → sysModules ∉ as)
  | [], _, _, h, r => by
    cases h
    cases r
    exact ⟨_, ReadsAll.nil, fun _ z => nomatch z⟩
  | d :: ds, _, _, h, r => by
    cases h with
    | cons h1 h2 =>
      cases r with
      | cons r1 r2 =>
        obtain ⟨as, q1, n1⟩ := DpE.reads I d _ _ h1 r1
        obtain ⟨bs, q2, n2⟩ := DpEL.reads I ds _ _ h2 r2
        refine ⟨_, ReadsAll.cons q1 q2, fun z hm => ?_⟩
        unfold noLsts at z
        rw [Bool.and_eq_true] at z
        exact (List.mem_append.mp hm).elim (n1 z.1) (n2 z.2)
end
end
section
variable {c : Cf} {G H : Hp}
end
section
variable {c : Cf} {B : List (Nat × Addr)} {W : WX} {X : Cx} {G H : Hp}
end
end Fx
set_option Elab.async false
set_option linter.all false
set_option maxRecDepth 100000
set_option maxHeartbeats 4000000
namespace Fx
open PySem L2 PySem.Spec PyProof.Rows
section
variable {P : Program} {w : World} {K : PySem.W.Frag} {mg mb : Str → Option Value} {a : Addr} {s₁ : Shared} {vs : List Value} {ns : List Int}
end
end Fx
set_option Elab.async false
set_option linter.all false
set_option maxRecDepth 100000
set_option maxHeartbeats 4000000
namespace Fx
open PySem L2
section
variable {c : Cf} {B : List (Nat × Addr)} {W : WX} {X : Cx}
end
section
variable {c : Cf} {B : List (Nat × Addr)} {W : WX} {X : Cx} {G H : Hp}
end
end Fx
set_option Elab.async false
set_option linter.all false
set_option maxRecDepth 100000
set_option maxHeartbeats 1000000
namespace Fx
open PySem L2 PyProof.Rows
section
variable {c : Cf} {B : List (Nat × Addr)} {W : WX} {X : Cx}
end
end Fx
set_option Elab.async false
set_option linter.all false
set_option maxRecDepth 100000
set_option maxHeartbeats 1000000
namespace Fx
open PySem L2 PyProof.Rows
section
variable {c : Cf} {B : List (Nat × Addr)} {W : WX} {X : Cx} {G G' H : Hp} {A : Addr → Prop} {σ : L2.St} {ρ : Cells}
end
end Fx
set_option Elab.async false
set_option linter.all false
set_option maxRecDepth 100000
set_option maxHeartbeats 1000000
namespace Fx
open PySem L2 PyProof.Rows
section
variable {c : Cf} {B : List (Nat × Addr)} {W : WX} {X : Cx}
end
end Fx
set_option Elab.async false
set_option linter.all false
set_option maxRecDepth 100000
set_option maxHeartbeats 1000000
namespace Fx
open PySem L2 PyProof.Rows
section
variable {c : Cf} {B : List (Nat × Addr)} {W : WX} {X : Cx}
end
end Fx
set_option Elab.async false
set_option linter.all false
set_option maxRecDepth 100000
set_option maxHeartbeats 1000000
namespace Fx
open PySem L2 PyProof.Rows
section
variable {c : Cf} {G G' H : Hp} {a : Addr} {o0 : Obj} {φ : Heap → Prop}
/-- all but the one address, which holds a locked thing of no shape -/
structure Less (G G' : Hp) (a : Addr) (o0 : Obj) (φ : Heap → Prop) : Prop where
  at_ : G a = some (.frz o0 (.ext φ))
  sm : ∀ b o, G b = some o → b ≠ a → G' b = some o
theorem Less.go (l : Less G G' a o0 φ) {b : Addr} {o : HO} (h : G b = some o) (n : o ≠ .frz o0 (.ext φ)) : G' b = some o := l.sm b o h fun z => by
  subst z
  rw [l.at_] at h
  exact n (Option.some.inj h).symm
end
section
variable {c : Cf} {B : List (Nat × Addr)} {W : WX} {X : Cx}
end
section
variable {c : Cf} {B : List (Nat × Addr)} {W : WX} {X : Cx} {G H : Hp} {A : Addr → Prop} {σ : L2.St} {ρ : Cells}
end
end Fx
set_option Elab.async false
set_option linter.all false
set_option maxRecDepth 100000
set_option maxHeartbeats 1000000
namespace Fx
open PySem L2 PyProof.Rows
section
variable {P : Program} {w : World} {H : Hp} {h h' : Heap} {a b : Addr} {xs : List (NestedKey × Addr × Value)}
theorem km_addr (o : ObjOk P w H h b (KmO P w a xs)) : a = b := by
  obtain ⟨h1, _, st⟩ := o
  refine Classical.byContradiction fun ne => ?_
  let oc : Obj := { cls := .none, data := .fields #[] }
  have q := st h { h with objs := h.objs.setIfInBounds a oc } h1 fun o e => by
    unfold Heap.get? at e ⊢
    simp only [Array.getElem?_setIfInBounds, if_neg ne]
    exact e
  obtain ⟨_, o2, es, ep, e1, _, e2, _⟩ := q
  obtain ⟨_, o3, _, _, e3, _⟩ := h1
  have hlt := Heap.lt_size e3
  unfold Heap.get? at e1
  simp only [Array.getElem?_setIfInBounds, if_pos, if_pos hlt] at e1
  cases (show some oc = some o2 from e1)
  cases e2
end
/-- how such a dict stands in an abstract heap -/
structure Km (K : PySem.W.Frag) (P : Program) (w : World) (H : Hp) (a : Addr) (ps : List Addr) (us : List Value) (vs : List V) (ks : List NestedKey) : Prop where
  ob : ∃ a0, H a = some (KmO P w a0 (ks.zip (ps.zip us)))
  len : ks.length = ps.length
  lenu : us.length = ps.length
  vals : Vals vs us
  nd : ks.Nodup
  sz : ks.length ≤ 16777216
  dp : ∀ k ∈ ks, k.depth ≤ 8
  at_ : NkHL K H (ps.map V.ref) ks
theorem zip3_mem : ∀ {ks : List NestedKey} {ps : List Addr} {us : List Value} {k : NestedKey} {p : Addr} {u : Value}, (k, p, u) ∈ ks.zip (ps.zip us) → (k, p) ∈ ks.zip ps
  | [], _, _, _, _, _, h => by simp at h
  | _ :: _, [], _, _, _, _, h => by simp at h
  | _ :: _, _ :: _, [], _, _, _, h => by simp at h
  | j :: ks, q :: ps, x :: us, k, p, u, h => by
    rw [List.zip_cons_cons, List.zip_cons_cons] at h
    rw [List.zip_cons_cons]
    rcases List.mem_cons.mp h with e | h
    · cases e; exact List.mem_cons_self
    · exact List.mem_cons_of_mem _ (zip3_mem h)
section
variable {X : Cx} {pins : List (Addr × Obj)} {σ : L2.St} {H : Hp} {s : Shared} {a : Addr} {ps : List Addr} {us : List Value} {vs : List V} {ks : List NestedKey}
theorem Km.raw (I : Inv X pins σ H s) (k : Km X.K X.prog X.w H a ps us vs ks) : (a == sysModules) = false ∧ ∃ (o : Obj) (es : Array DictEntry) (ep : Nat), s.heap.get? a = some o ∧ o.ExactDict ∧ o.data = .dict es ep ∧ es.toList = (ks.zip (ps.zip us)).map (entryOfKey (nestedKind X.prog X.w)) := by
  obtain ⟨a0, e⟩ := k.ob
  have o := I.hok _ _ e
  have ea := km_addr o
  subst ea
  exact o.1
theorem Km.dict (I : Inv X pins σ H s) (k : Km X.K X.prog X.w H a ps us vs ks) : (a == sysModules) = false ∧ s.heap.DictOfH (nestedKind X.prog X.w) a (ks.zip (ps.zip us)) := by
  obtain ⟨hd, ob, es, ep, e1, e2, e3, e4⟩ := k.raw I
  refine ⟨hd, ob, es, ep, e1, e2, e3, e4, fun x hx => ?_, ?_⟩
  · obtain ⟨j, p, u⟩ := x
    have hj := zip3_mem hx
    exact ⟨NkH.is I _ _ _ (nkHL_get k.at_ hj) rfl, k.dp j (List.of_mem_zip hj).1⟩
  · rw [zipK (by rw [List.length_zip, k.lenu, Nat.min_self]; exact k.len)]
    exact k.nd
end
section
variable {X : Cx} {a b e : Expr} {ta tb : TE} {pos apos cpos : Pos}
end
end Fx
set_option Elab.async false
set_option linter.all false
set_option maxRecDepth 100000
set_option maxHeartbeats 1000000
namespace Fx
open PySem L2 PyProof.Rows
def hfK (l : List D) : List D := l.take (l.length / 2)
def hfV (l : List D) : List D := l.drop (l.length / 2)
/-- a key, by its depth -/
def nkT (d : D) : Option NestedKey := match nk d with
  | some (.tup k) => if (NestedKey.tup k).depth ≤ 8 then some (.tup k) else none
  | _ => none
theorem nkT_inv {d : D} {k : NestedKey} (h : nkT d = some k) : ∃ ks, k = .tup ks ∧ nk d = some k ∧ k.depth ≤ 8 := by
  unfold nkT at h
  split at h
  · split at h
    · cases h; exact ⟨_, rfl, ‹_›, ‹_›⟩
    · cases h
  · cases h
/-- such a dict's key and keys -/
def mapK : D → D → Option (NestedKey × List NestedKey × List D)
  | .exc 1 l, d => match nkT d, nkL (hfK l) with
    | some k, some ks => some (k, ks, hfV l)
    | _, _ => none
  | _, _ => none
theorem mapK_inv {m d : D} {k : NestedKey} {ks : List NestedKey} {es : List D} (h : mapK m d = some (k, ks, es)) : ∃ l, m = .exc 1 l ∧ nkT d = some k ∧ nkL (hfK l) = some ks ∧ es = hfV l := by
  unfold mapK at h
  split at h
  · split at h
    · cases h; exact ⟨_, rfl, ‹_›, ‹_›, rfl⟩
    · cases h
  · cases h
def newKM (j v : D) : Option D := (nkT j).map fun _ => .exc 1 [j, v]
def putM (m j v : D) : Option D := match m with
  | .exc 1 l => (mapK m j).bind fun r => if r.1 ∉ r.2.1 ∧ r.2.1.length < 16777216 then some (.exc 1 (hfK l ++ [j] ++ (hfV l ++ [v]))) else none
  | _ => none
section
variable {c : Cf} {G H : Hp}
theorem KdAt.km {o : Option HO} {xs : List V} {ks : List NestedKey} {l : List D} {a : Addr} (s : Same G H) (ho : ∀ u, o = some u → H a = some u) (h : KdAt c 1 o xs ks) (r : RepL c G xs l) (e : nkL (keysOf 1 l) = some ks) :
    ∃ ps us vs, xs = ps.map V.ref ++ vs ∧ nkL (hfK l) = some ks ∧ Km c.K c.P c.w H a ps us vs ks ∧ RepL c G (ps.map V.ref) (hfK l) ∧ RepL c G vs (hfV l) := by
  rcases h with ⟨z, _⟩ | ⟨_, a0, ps, us, vs, h1, h2, h3, h4, rfl, h5, h6, h7⟩
  · cases z
  have e : nkL (hfK l) = some ks := e
  have hl : l.length / 2 = ps.length := by
    have q1 := r.length
    have q2 := h4.length
    rw [List.length_append, List.length_map] at q1
    omega
  have r1 : RepL c G (ps.map V.ref) (hfK l) := by
    have q := r.take ps.length
    rw [List.take_left' (by rw [List.length_map])] at q
    unfold hfK
    rw [hl]
    exact q
  have r2 : RepL c G vs (hfV l) := by
    have q := r.drop ps.length
    rw [List.drop_left' (by rw [List.length_map])] at q
    unfold hfV
    rw [hl]
    exact q
  exact ⟨ps, us, vs, rfl, e, ⟨⟨a0, ho _ h1⟩, h2, h3, h4, h5, h6, h7, r1.nk s e⟩, r1, r2⟩
theorem Opr.km {v : V} {l : List D} (s : Same G H) (h : Opr c G H v (.exc 1 l)) : ∃ a ps us vs ks, v = .ref a ∧ nkL (hfK l) = some ks ∧ Km c.K c.P c.w H a ps us vs ks ∧ RepL c G (ps.map V.ref) (hfK l) ∧ RepL c G vs (hfV l) := by
  rcases h with h | ⟨q, rfl, h⟩
  · cases h with
    | std h r e =>
      obtain ⟨ps, us, vs, _, e2, k, r1, r2⟩ := KdAt.km s (fun u hu => s _ _ hu) h r e
      exact ⟨_, ps, us, vs, _, rfl, e2, k, r1, r2⟩
  · obtain ⟨xs, ks, h, r, e⟩ := h
    obtain ⟨ps, us, vs, _, e2, k, r1, r2⟩ := KdAt.km s (fun u hu => hu) h r e
    exact ⟨_, ps, us, vs, ks, rfl, e2, k, r1, r2⟩
theorem Opr.mk {v w : V} {m d : D} {k : NestedKey} {ks : List NestedKey} {es : List D} (s : Same G H) (a : Opr c G H v m) (b : Opr c G H w d) (h : mapK m d = some (k, ks, es)) :
    ∃ a p ps us vs, v = .ref a ∧ w = .ref p ∧ Km c.K c.P c.w H a ps us vs ks ∧ NkH c.K H (.ref p) k ∧ k.depth ≤ 8 ∧ RepL c G vs es := by
  obtain ⟨l, rfl, h1, h2, rfl⟩ := mapK_inv h
  obtain ⟨a0, ps, us, vs, ks', rfl, h3, km, _, r2⟩ := a.km s
  rw [h2] at h3
  cases h3
  obtain ⟨kk, rfl, h4, dp⟩ := nkT_inv h1
  obtain ⟨p, rfl, kn⟩ := b.nk s h4
  exact ⟨a0, p, ps, us, vs, rfl, rfl, km, kn, dp, r2⟩
end
section
variable {c : Cf} {B : List (Nat × Addr)} {W : WX} {X : Cx} {a b : Expr} {oa ob : Opn} {pos p : Pos}
end
end Fx
set_option Elab.async false
set_option linter.all false
set_option maxRecDepth 100000
set_option maxHeartbeats 1000000
namespace Fx
open PySem L2 PyProof.Rows
def mKm (fk fv : M D) : M D := fk.bind fun j => fv.bind fun v => M.lift (newKM j v)
def mSetM (i : Nat) (fj fe : M D) : MS := mDo fe fun d => mDo (ownAt i) fun _ => mDo fj fun j => mDo (ownAt i) fun o ρ => match putM o j d with
  | some o' => .next (ρ.set i (.own o'))
  | none => .stuck
section
variable {c : Cf} {B : List (Nat × Addr)} {W : WX} {X : Cx} {G H : Hp} {A : Addr → Prop} {σ : L2.St} {ρ : Cells}
end
section
variable {ρ ρ1 ρ2 ρ3 : Cells} {d d1 d2 : D} {R : MS} {o : OutS}
theorem x_km {fk fv : M D} {j v : D} (h1 : fk ρ = .ok j ρ1) (h2 : fv ρ1 = .ok v ρ2) (h3 : newKM j v = some d) : mKm fk fv ρ = .ok d ρ2 := by
  unfold mKm M.bind M.lift
  simp only [h1, Out.andThen, h2, h3]
theorem s_setM {i : Nat} {fj fe : M D} {j v : D} (h1 : fe ρ = .ok v ρ1) (h2 : GetAt ρ1 i (.own d1)) (h3 : fj ρ1 = .ok j ρ2) (h4 : GetAt ρ2 i (.own d2)) (h5 : putM d2 j v = some d) (h6 : SetAt ρ2 i (.own d) ρ3) (h7 : R ρ3 = o) : mSeq (mSetM i fj fe) R ρ = o := by
  unfold mSeq mSetM mDo ownAt
  simp only [h1, show ρ1[i]? = some (.own d1) from h2, h3, show ρ2[i]? = some (.own d2) from h4, h5, show ρ2.set i (.own d) = ρ3 from h6, h7]
end
end Fx
set_option Elab.async false
set_option linter.all false
set_option maxRecDepth 100000
set_option maxHeartbeats 1000000
namespace Fx
open PySem L2 PyProof.Rows
/-- n parameters ahead, one by keyword alone, its default: dv -/
structure CalKv (P : Program) (w : World) (K : PySem.W.Frag) (mg : Str → Option Value) (base : Heap) (c : Cf) (k : Nat) (nm : Str) (n : Nat) (ky : Str) (dv : D) (F : Fn) : Prop where
  ex : ∃ f fd ps vds dvs, FnOk P w K mg base (L2.CX P w) k f fd ps (spM c [] (n + 1) F) ∧ mg nm = some (.ref f) ∧ PySem.W.keepIn K (.ref f) = true ∧ Binds K fd ps vds ∧ Vals dvs vds ∧ (∀ G, RepL c G dvs [dv]) ∧
    KBn K fd ps n [ky] (fun us ws => us ++ ws) (fun vs zs => vs ++ zs)
theorem CalKv.mono {P : Program} {w : World} {K : PySem.W.Frag} {mg : Str → Option Value} {base : Heap} {c : Cf} {k j : Nat} {nm : Str} {n : Nat} {ky : Str} {dv : D} {F : Fn} (h : CalKv P w K mg base c k nm n ky dv F) (hk : k ≤ j) : CalKv P w K mg base c j nm n ky dv F := by
  obtain ⟨f, fd, ps, vds, dvs, h1, h2⟩ := h.ex
  exact ⟨f, fd, ps, vds, dvs, h1.mono hk, h2⟩
section
variable {c : Cf} {B : List (Nat × Addr)} {W : WX} {X : Cx} {G H : Hp} {A : Addr → Prop} {σ : L2.St} {ρ : Cells} {Z : Ends}
def AfterSO (c : Cf) (B : List (Nat × Addr)) (W : WX) (G : Hp) (A : Addr → Prop) (H : Hp) (o : OutS) (D : Ends) : Prop := match o with
  | .ret d ρ' => ∀ G' A' H' σ', Stp G A H G' A' H' → Rel c B G' A' H' σ' ρ' → if isLst d = true then (∀ p H2, H' p = none → Same H' H2 → Own c G' (H2 p) d → D.rt (.ref p) H2) else ∀ v, Rep c G' v d → D.rt v H'
  | .exc x ρ' => ∀ G' A' H' σ' dd, Stp G A H G' A' H' → Rel c B G' A' H' σ' ρ' → ExcAt c G' x dd → W (.ref (c.exc x.c)) (some dd) σ' H'
  | _ => False
theorem AfterSO.of {o : OutS} {G' H' : Hp} {A' : Addr → Prop} (hA : ∀ b, A b → ∃ o, H b = some o) (s : Stp G A H G' A' H') (h : AfterSO c B W G A H o Z) : AfterSO c B W G' A' H' o Z := by
  cases o with
  | stuck => exact h
  | next ρ' => exact h
  | ret d ρ' => exact fun G2 A2 H2 σ2 s2 R => h G2 A2 H2 σ2 (s.trans s2 hA) R
  | brk ρ' => exact h
  | cont ρ' => exact h
  | exc x ρ' => exact fun G2 A2 H2 σ2 dd s2 R r => h G2 A2 H2 σ2 dd (s.trans s2 hA) R r
end
section
variable {P : Program} {w : World} {K : PySem.W.Frag} {mg : Str → Option Value} {base : Heap} {c : Cf}
end
def mNewO (f : M D) (i : Nat) : MS := mDo f fun d ρ => if isLst d = true then .next (ρ.set i (.own d)) else .next (ρ.set i (.dat d))
section
variable {c : Cf} {B : List (Nat × Addr)} {W : WX} {X : Cx} {G H : Hp} {A : Addr → Prop} {σ : L2.St} {ρ : Cells} {Z : Ends}
end
section
variable {ρ ρ1 ρ2 : Cells} {d : D} {R : MS} {o : OutS}
theorem s_newO {f : M D} {i : Nat} {ds : List D} (h1 : f ρ = .ok (.lst ds) ρ1) (h2 : SetAt ρ1 i (.own (.lst ds)) ρ2) (h3 : R ρ2 = o) : mSeq (mNewO f i) R ρ = o := by
  unfold mSeq mNewO mDo
  simp only [h1, isLst, if_true, show ρ1.set i (.own (.lst ds)) = ρ2 from h2, h3]
theorem s_newO0 {f : M D} {i : Nat} (h1 : f ρ = .ok .non ρ1) (h2 : SetAt ρ1 i (.dat .non) ρ2) (h3 : R ρ2 = o) : mSeq (mNewO f i) R ρ = o := by
  unfold mSeq mNewO mDo
  simp only [h1, isLst, Bool.false_eq_true, if_false, show ρ1.set i (.dat .non) = ρ2 from h2, h3]
end
end Fx
set_option Elab.async false
set_option linter.all false
set_option maxRecDepth 100000
set_option maxHeartbeats 4000000
namespace Fx.EI
open PySem PySem.W PySem.Calls PyProof.Rows Builtin Builtin.ObjectAttr Builtin.Getset_descriptor
section
variable {pr : Program} {wd : World} {AA : Around} {EE : Value → Shared → Prop} {st : Shared} {KK : Frag} {xa DA : Addr} {oo : Obj}
/-- an object of an own class -/
def ClsAt (oo : Obj) (DA xa : Addr) (hh : Heap) : Prop := hh.get? xa = some oo ∧ oo.cls = .ref DA
theorem ClsAt.type {MM : Model} {hh : Heap} (I : ClsAt oo DA xa hh) : Looks MM hh (typeOf (.ref xa)) (.ref DA) := I.2 ▸ (Looks.ld I.1).andThen .now
theorem looks_findData {MM : Model} {hh : Heap} {nm : Str} {av gv : Value} (KI : KK.In hh) (fa : findIn KK (.ref DA) nm = some (some av)) (fg : specialIn KK av "__get__" = some (some gv)) (ft : takesIn KK av = some true) :
    Looks MM hh (find (.ref xa) (.ref DA) nm) (.bind gv av) :=
  (looks_findIn (M := MM) KI fa).andThen (Looks.andThen (show Looks MM hh (getOf (some av)) (some gv) from looks_specialIn KI fg) ((show Looks MM hh (dataDescriptor? (some av) (some gv)) (some (gv, av)) from (looks_takesIn (M := MM) KI ft).andThen .now).andThen (Looks.tag .now)))
theorem class_getC {RR : Result → Shared → Prop} {tv : Value} (KI : KK.In st.heap) (I : ClsAt oo DA xa st.heap) (mo : mroIn KK DA (.type "object") = some true) (q : RR (.ok (.ret (.ref DA))) st) :
    codeAny (model pr wd) AA (.call (.builtin "getset_descriptor.__get__") ⟨[.builtin "object.__class__", .ref xa, tv], []⟩) RR st := by
  rcases st with ⟨h0, g0, d0, t0, o0⟩
  have lT := I.type (MM := model pr wd)
  have lM := looks_mroIn (M := model pr wd) KI mo
  refine codeAny_call_builtin KF.slot_gs.plain KF.entry_gs
    (KF.slot_gs.check _ _ _ _ _ _ _ _ KF.type_class (KF.args_gs _ _ _) ?_)
  unfold Builtin.«getset_descriptor.__get__» descrGet; rw [dga_obj]; apply wpAny_bind; apply wpAny_pure
  unfold descrGetter descrCheckInstance descrNameAndClass isInstance; simp only [KF.owner_class]
  (repeat lk); refine ⟨Code.quiet_builtin _ (by decide +kernel), codeAny_builtin KF.entry_class ?_⟩
  unfold Builtin.«object.__class__» shownTypeOf; (repeat lk); exact q
theorem own_class {QQ : Option Value → Shared → Prop} (C : L2.ExcC KK DA) (KI : KK.In st.heap) (I : ClsAt oo DA xa st.heap) (q : QQ (some (.ref DA)) { st with toks := st.toks + 1 }) : wpAny (model pr wd) AA (getAttr? (.ref xa) "__class__") QQ EE st := by
  rcases st with ⟨h0, g0, d0, t0, o0⟩
  have lT := I.type (MM := model pr wd)
  have lA := looks_findIn (M := model pr wd) KI C.hg
  have lG := looks_findIn (M := model pr wd) KI C.hk
  have lF := looks_findData (MM := model pr wd) (xa := xa) KI C.ha C.hn C.ht
  have lS : Looks (model pr wd) h0 (isInstance (.ref xa) (.type "BaseException")) true := lT.andThen (looks_subIn KI C.hs)
  have e2 : (Value.builtin "BaseException.__getattribute__" == Value.builtin "object.__getattribute__") = false := by decide +kernel
  have e1 : (onTheHeap (Value.ref DA) && Value.builtin "BaseException.__getattribute__" == Value.builtin "object.__getattribute__") = false := by rw [e2]; rfl
  unfold getAttr? getAttrBy? getAttrBy
  apply wpAny_bind; apply wpAny_mkText; apply wpAny_bind; apply wpAny_attempt; apply wpAny_holding; apply wpAny_bind; apply lT.at; apply wpAny_bind; apply lA.at
  show wpAny _ _ (if (onTheHeap (Value.ref DA) && Value.builtin "BaseException.__getattribute__" == Value.builtin "object.__getattribute__") = true then _ else _) _ _ _
  rw [e1, if_neg Bool.false_ne_true]; unfold getAttrByItsOwn hookBefore
  apply wpAny_bind; rw [if_pos (show onTheHeap (Value.ref DA) = true from rfl)]; apply lG.at
  apply wpAny_bind; apply wpAny_attempt; apply wpAny_holding; unfold callGetattribute
  rw [show (false && onTheHeap (Value.builtin "BaseException.__getattribute__")) = false from rfl, if_neg Bool.false_ne_true]; unfold boundAndCalled
  rw [PySem.F.excAttr_ValueError.ga.bind (.ref xa)]; apply wpAny_bind; apply wpAny_pure
  show wpAny _ _ (call (.builtin "BaseException.__getattribute__") [.ref xa, .str "__class__" t0]) _ _ _
  refine wpAny_call (codeAny_call_builtin PySem.F.excAttr_ValueError.ga.plain PySem.F.entry_bexc_ga ?_)
  refine @check_slot (model pr wd) _ _ ⟨h0, g0, d0, t0 + 1, o0⟩ "BaseException.__getattribute__" "BaseException" "__getattribute__" (.ref xa) [.str "__class__" t0] [] _ (by decide +kernel) (by decide +kernel) lS (PySem.F.args_bexc_ga (.ref xa) (.str "__class__" t0)) ?_
  unfold Builtin.«object.__getattribute__»; apply wpAny_bind
  refine wpAny_of_eq (a := ((Value.ref xa : Value), [Value.str "__class__" t0])) (by first | rfl | (simp only [slotArgs]; rfl)) ?_
  apply wpAny_bind; apply wpAny_pure; apply wpAny_bind; apply lT.at; apply wpAny_bind; apply lF.at
  show wpAny _ _ (holding [Value.builtin "object.__class__"] (call (.builtin "getset_descriptor.__get__") [.builtin "object.__class__", .ref xa, .ref DA]) >>= ret) _ _ _
  refine wpAny_bind (wpAny_holding (wpAny_call (class_getC (st := ⟨h0, g0, d0, t0 + 1, o0⟩) (oo := oo) KI I C.hm ?_)))
  apply wpAny_pure
  show wpAny _ _ (handedOut (.ref DA)) _ _ _
  rw [handedOut_of (v := .ref DA) rfl]
  first
    | exact wpAny_pure (wpAny_pure q)
    | exact wpAny_pure q
    | exact wpAny_pure (wpAny_bind (wpAny_pure (wpAny_pure q)))
theorem kit_at (C : L2.ExcC KK DA) : KitX KK (.ref xa) (.ref DA) (ClsAt oo DA xa) where
  ty := fun _ _ _ I => I.type
  it := fun _ _ KI _ => by
    obtain ⟨cdD, hcD, _⟩ := any_some C.hd
    unfold clsIn at hcD
    split at hcD <;> first | cases hcD | skip
    intro A2 Q2 E2 s2 kp q
    unfold isType loadHead
    apply wpAny_bind; apply wpAny_loadPart (kp _ _ (KI _ _ (by assumption))); exact wpAny_pure q
  ne := fun h tp dd its n sl KI htp => by
    refine Bool.eq_false_iff.mpr fun z => ?_
    obtain ⟨cdD, hcD, _⟩ := any_some C.hd
    cases Value.ref.inj (beq_iff_eq.mp z)
    unfold clsIn at hcD
    split at hcD <;> first | cases hcD | skip
    rename_i ho
    cases (KI _ _ ho).symm.trans htp
  ca := fun KI I k => own_class C KI I k
end
end Fx.EI
namespace Fx
open PySem PySem.Spec PyProof.Rows L2
end Fx
set_option Elab.async false
set_option linter.all false
set_option maxRecDepth 100000
set_option maxHeartbeats 4000000
namespace Fx
open PySem PyProof.Rows L2
section
variable {c : Cf} {B : List (Nat × Addr)} {X : Cx} {G H : Hp} {A : Addr → Prop} {σ : L2.St} {ρ : Cells} {Z : Ends}
section
variable {a : Addr} {d : Option Addr} {k i : Nat}
theorem HasX.on {x : Exc} {cls : Value} {G' H' : Hp} {σ' : L2.St} (h : HasX c k i a cls d x G H σ) (s : Same G G') (s2 : Same G' H') (e : σ'[i]? = some (some (.ref a))) : HasX c k i a cls d x G' H' σ' := by
  obtain ⟨dd, h1, h2⟩ := h.at_
  exact ⟨h.cls, h.xc, ⟨dd, h1, h2.mono s⟩, s2, e⟩
end
end
end Fx
set_option Elab.async false
set_option linter.all false
set_option maxRecDepth 100000
set_option maxHeartbeats 4000000
namespace Fx
open PySem L2
section
variable {c : Cf} {G H : Hp} {σ : L2.St}
end
section
variable {c : Cf} {B : List (Nat × Addr)} {X : Cx} {T : List (Addr × Str)}
end
section
variable {ρ ρ1 ρ2 : Cells} {d d1 d2 : D}
end
end Fx
set_option Elab.async false
set_option linter.all false
set_option maxRecDepth 100000
set_option maxHeartbeats 4000000
namespace Fx
open PySem PyProof.Rows L2
section
variable {c : Cf} {B : List (Nat × Addr)} {W : WX} {X : Cx}
end
end Fx
set_option Elab.async false
set_option linter.all false
set_option maxRecDepth 100000
set_option maxHeartbeats 4000000
namespace Fx
open PySem PySem.Spec PyProof PyProof.Rows L2
section
variable {c : Cf} {B : List (Nat × Addr)} {W : WX} {X : Cx}
def mTupRg (f : M D) : M D := f.bind fun d => match d with
  | .int n => if -(2 ^ 62) ≤ n ∧ n ≤ 16777216 then M.pure (.tup (rangeD 0 n.toNat)) else M.stuck
  | _ => M.stuck
end
theorem x_tupRg {ρ ρ1 : Cells} {f : M D} {n : Int} (h : f ρ = .ok (.int n) ρ1) (h0 : -(2 ^ 62) ≤ n ∧ n ≤ 16777216) : mTupRg f ρ = .ok (.tup (rangeD 0 n.toNat)) ρ1 := by
  unfold mTupRg M.bind
  simp only [h, Out.andThen]
  rw [if_pos h0]
  rfl
end Fx
set_option Elab.async false
set_option linter.all false
set_option maxRecDepth 100000
set_option maxHeartbeats 4000000
namespace Fx
open PySem L2
section
variable {c : Cf} {B : List (Nat × Addr)} {W : WX} {X : Cx} {G G' H H' : Hp} {A A' : Addr → Prop} {σ σ' : L2.St} {ρ ρ' : Cells} {T : List (Addr × Str)}
end
end Fx
set_option Elab.async false
set_option linter.all false
set_option maxRecDepth 100000
set_option maxHeartbeats 400000
namespace Fx.NT
open PySem PySem.SeqAt
open AutoSeq1 (wpAny_loadPart')
open MeetsSeq MeetsSeq2 MeetsSeq3 SeqRoads2
section
variable {pr : Program} {wd : World} {AA : Around} {RR : Result → Shared → Prop}
end
section
variable {pr : Program} {wd : World} {AA : Around} {EE : Value → Shared → Prop} {s : Shared}
end
end Fx.NT
namespace Fx
open PySem L2
section
variable {X : Cx} {n : Nat} {DD : Eqv}
end
section
variable {c : Cf} {B : List (Nat × Addr)} {W : WX} {X : Cx} {G G' H H' : Hp} {σ : L2.St} {ρ : Cells} {T : List (Addr × Str)}
end
end Fx
set_option Elab.async false
set_option linter.all false
set_option maxRecDepth 100000
set_option maxHeartbeats 4000000
namespace Fx
open PySem
section
variable {prog : Program} {w : World} {A : Around} {E : Value → Shared → Prop} {s : Shared}
end
open PySem.Spec PyProof.Rows L2
section
variable {c : Cf} {B : List (Nat × Addr)} {W : WX} {X : Cx} {G : Hp}
def sZipN : D → D → Option (List D)
  | .tup ds, .lst es => some (zipD ds es)
  | _, _ => none
def mZipN (f g : M D) : M (List D) := (seqM [f, g]).bind fun ds => match ds with
  | [d, e] => M.lift (sZipN d e)
  | _ => M.stuck
end
theorem i_zipN {ρ ρ1 ρ2 : Cells} {d e : D} {f g : M D} {ds : List D} (h : f ρ = .ok d ρ1) (h2 : g ρ1 = .ok e ρ2) (h3 : sZipN d e = some ds) : mZipN f g ρ = .ok ds ρ2 := by
  unfold mZipN M.bind
  simp only [seqM, M.bind, h, h2, Out.andThen, M.pure, M.lift, h3]
end Fx
set_option Elab.async false
set_option linter.all false
set_option maxRecDepth 100000
set_option maxHeartbeats 1000000
namespace Fx
open PySem PySem.SeqAt
open AutoSeq1 (wpAny_loadPart')
open L2
section
variable {c : Cf} {B : List (Nat × Addr)} {W : WX} {X : Cx} {G H : Hp}
end
end Fx
set_option Elab.async false
set_option linter.all false
set_option maxRecDepth 100000
set_option maxHeartbeats 2000000
namespace Fx
open PySem PySem.Spec PyProof.Rows L2
section
variable {X : Cx} {body : List Stmt} {h1 : ExceptHandler} {hs : List ExceptHandler} {l : List (Value × (Addr → Value → Option Addr → TS))} {pos : Pos} {tb : WX → TS} {Wo : WX} {n : Str} {i : Nat}
end
end Fx
set_option Elab.async false
set_option linter.all false
set_option maxRecDepth 100000
set_option maxHeartbeats 2000000
namespace Fx
open PySem L2
end Fx
set_option Elab.async false
set_option linter.all false
set_option maxRecDepth 100000
set_option maxHeartbeats 2000000
namespace Fx
open PySem L2
section
variable {c : Cf} {B : List (Nat × Addr)} {W : WX} {X : Cx} {G G' H H' : Hp} {A A' : Addr → Prop} {σ σ' : L2.St} {ρ ρ' : Cells} {T : List (Addr × Str)}
end
end Fx
set_option Elab.async false
set_option linter.all false
set_option maxRecDepth 100000
set_option maxHeartbeats 2000000
namespace Fx
open PySem L2
section
variable {c : Cf} {B : List (Nat × Addr)} {W : WX} {X : Cx} {G G' H H' : Hp} {A A' : Addr → Prop} {σ σ' : L2.St} {ρ ρ' : Cells} {T : List (Addr × Str)}
end
end Fx
set_option Elab.async false
set_option linter.all false
set_option maxRecDepth 100000
set_option maxHeartbeats 4000000
namespace Fx.SK
open PySem PySem.Calls PyProof.Rows PySem.W
variable {prog : Program} {w : World} {A : Around} {E : Value → Shared → Prop} {s : Shared} {a kS : Addr} {vs : List Value} {keys : Array Value} {e e1 : Nat} {P : PySem.Fin → Shared → Prop} {kz : List PyData}
/-- all but two objects stay -/
def But (a k : Addr) (h h' : Heap) : Prop := ∀ b o, b ≠ a → b ≠ k → h.get? b = some o → h'.get? b = some o
theorem tail {st : SortSt} {out : List Value} (nk : s.heap.get? kS = some (seqObj "list" keys e)) (na : s.heap.get? a = some (seqObj "list" #[] e1)) (hka : kS ≠ a)
    (hsz : keys.size ≤ sizeLine) (hz : out.length ≤ sizeLine) (hfl : failedOf st = none) (ho : (arrOf st).map (·.2) = out.toArray)
    (h : ∀ h' tk c, But a kS s.heap h' → h'.get? a = some (seqObj "list" out.toArray c) → (∃ o, h'.get? kS = some o) → P (.done (.ret .none)) { s with heap := h', toks := tk }) :
    wpAny (model prog w) A (ksk_tail a false e1 (.ref kS) st) P E s := by
  have s1 := Heap.SameBut.update s.heap kS (Obj.mapSeq fun _ => (#[] : Array Value))
  have na1 := (s1.2 a hka.symm).trans na
  obtain ⟨c1, nk1⟩ : ∃ c1, (s.heap.update kS (Obj.mapSeq fun _ => (#[] : Array Value))).get? kS = some (seqObj "list" #[] c1) := ⟨_, get?_update_seq nk fun _ => #[]⟩
  have s2 := Heap.SameBut.update (s.heap.update kS (Obj.mapSeq fun _ => (#[] : Array Value))) a (Obj.mapSeq fun _ => out.toArray)
  obtain ⟨c2, hc2⟩ : ∃ c2, ((s.heap.update kS (Obj.mapSeq fun _ => (#[] : Array Value))).update a (Obj.mapSeq fun _ => out.toArray)).get? a = some (seqObj "list" out.toArray c2) := ⟨_, get?_update_seq na1 fun _ => out.toArray⟩
  unfold ksk_tail
  try dsimp only
  rw [ho]
  refine wpAny_bind (listUpdate_at nk rfl ?_ hsz (Nat.zero_le _))
  refine wpAny_bind (wpAny_letGo ?_)
  refine wpAny_bind (seqEpoch_at na1 rfl ?_)
  refine wpAny_bind (listUpdate_at na1 rfl ?_ (Nat.zero_le _) (by simp only [Bool.false_eq_true, if_false, List.size_toArray]; omega))
  rw [hfl]
  simp only [bne_self_eq_false, Bool.false_eq_true, if_false]
  exact wpAny_pure (h _ _ c2 (fun b o h1 h2 q => (s2.2 b h1).trans ((s1.2 b h2).trans q)) hc2 ⟨_, (s2.2 kS hka).trans nk1⟩)
theorem fin {κ : PyProof.Rows.KeyKind} (nk : s.heap.get? kS = some (seqObj "list" keys e)) (na : s.heap.get? a = some (seqObj "list" #[] e1)) (hka : kS ≠ a) (S : SortsAt prog w A s κ keys.toList) (hsz : keys.size = vs.length) (hZ : vs.length ≤ sizeLine)
    (h : ∀ h' tk c, But a kS s.heap h' → h'.get? a = some (seqObj "list" (sortVals κ false keys.toList vs).toArray c) → (∃ o, h'.get? kS = some o) → P (.done (.ret .none)) { s with heap := h', toks := tk }) :
    wpAny (model prog w) A (ksk_end a false vs.toArray e1 (.ref kS) keys) P E s := by
  obtain ⟨kd, h1, h2⟩ := S.kind
  have hkl : keys.toList.length = vs.length := by rw [Array.length_toList]; exact hsz
  have hK : PyProof.Rows.KeysOf κ (keys.zip vs.toArray) := keysOf_zip S.keys
  have hol : (sortVals κ false keys.toList vs).length = vs.length := sortVals_length false hkl
  have hzs : (keys.zip vs.toArray).size = vs.length := by rw [Array.size_zip, hsz, List.size_toArray, Nat.min_self]
  have done : ∀ st' : SortSt, (arrOf st').Perm (keys.zip vs.toArray) → SortedToK κ (arrOf st') (keys.zip vs.toArray).size → Stable κ (arrOf st') (keys.zip vs.toArray) → (arrOf st').map (·.2) = (sortVals κ false keys.toList vs).toArray := fun st' hp hs ht => by
    have q := congrArg List.toArray (sort_out (rev := false) (keys := keys) (items := vs.toArray) (xs := arrOf st') (κ := κ) hK (by simpa using hp) (by simpa using hs) (by simpa using ht))
    rw [Array.toArray_toList] at q
    simpa using q
  unfold ksk_end
  simp only [Bool.false_eq_true, if_false]
  by_cases hl2 : vs.toArray.size < 2
  · rw [if_pos hl2, if_pos hl2]
    refine wpAny_bind (wpAny_pure ?_)
    rw [StateT.run_pure]
    refine wpAny_bind (wpAny_pure ?_)
    try dsimp only
    refine tail (st := SortSt.mk' general' (keys.zip vs.toArray) #[] 7 none) nk na hka (by rw [hsz]; exact hZ) (by rw [hol]; exact hZ) rfl (done _ (Array.Perm.refl _) ?_ (Stable.refl _)) h
    intro i j hij hj
    rw [hzs] at hj
    rw [List.size_toArray] at hl2
    obtain rfl : i = j := by omega
    exact KeyOrd.kle_refl _
  · rw [if_neg hl2, if_neg hl2]
    rw [List.size_toArray] at hl2
    refine wpAny_bind (h2 (by omega) _ ?_)
    refine wpAny_bind (wpAny_mono (H.wpS_sortRunsSt (κ := κ) (kd := kd) (a₀ := keys.zip vs.toArray) (st := SortSt.mk' kd (keys.zip vs.toArray) #[] 7 none)
      (Q := fun _ st' => failedOf st' = none ∧ (arrOf st').map (·.2) = (sortVals κ false keys.toList vs).toArray)
      h1 hK ⟨Array.Perm.refl _, rfl, rfl⟩ rfl (Stable.refl _) (by rw [hzs]; omega) fun st' a1 a2 a3 a4 => ⟨a2, done st' a1 a3 a4⟩) ?_ fun _ _ e => e)
    rintro ⟨⟨⟩, st'⟩ s' ⟨rfl, hf, ho⟩
    try dsimp only at ho ⊢
    exact tail nk na hka (by rw [hsz]; exact hZ) (by rw [hol]; exact hZ) hf ho h
/-- the turns; J tells what holds of the state when some keys have been made -/
theorem rest {f : Value} (J : List Value → Shared → Prop) (nk : s.heap.get? kS = some (seqObj "list" #[] 0)) (na : s.heap.get? a = some (seqObj "list" #[] e1)) (hka : kS ≠ a) (hZ : vs.length ≤ sizeLine) (j0 : J [] s)
    (stable : ∀ us (s1 : Shared) h', J us s1 → (∃ o, s1.heap.get? kS = some o) → (∃ o, s1.heap.get? a = some o) → But a kS s1.heap h' → (∃ o, h'.get? kS = some o) → (∃ o, h'.get? a = some o) → ∀ tk, J us { s1 with heap := h', toks := tk })
    (turn : ∀ us (v : Value) (s1 : Shared) (ko ao : Obj), vs[us.length]? = some v → J us s1 → s1.heap.get? kS = some ko → s1.heap.get? a = some ao → wpAny (model prog w) A (call f [v]) (fun u s2 => J (us ++ [u]) s2 ∧ s2.heap.get? kS = some ko ∧ s2.heap.get? a = some ao) (fun _ _ => False) s1)
    (last : ∀ us (s1 : Shared), us.length = vs.length → J us s1 → (∃ o, s1.heap.get? kS = some o) → (∃ o, s1.heap.get? a = some o) → ∃ κ, SortsAt prog w A s1 κ us ∧ ∀ h' tk c, But a kS s1.heap h' → h'.get? a = some (seqObj "list" (sortVals κ false us vs).toArray c) → (∃ o, h'.get? kS = some o) → P (.done (.ret .none)) { s1 with heap := h', toks := tk }) :
    wpAny (model prog w) A (ksk_rest a f false vs.toArray e1 (.ref kS)) P E s := by
  unfold ksk_rest
  refine wpAny_bind (wpAny_rule ?_)
  first
    | rw [List.forIn_toArray]
    | (rw [← Array.forIn_toList]; simp only [List.toList_toArray])
    | rw [← Array.forIn_toList]
  refine wpAny_bind (ksk_fold (fun i s' => ∃ kA c, s'.heap.get? kS = some (seqObj "list" kA c) ∧ s'.heap.get? a = some (seqObj "list" #[] e1) ∧ kA.size = i ∧ J kA.toList s') vs 0 s ⟨#[], 0, nk, na, rfl, j0⟩ ?step ?done)
  case step =>
    rintro j x s1 hx ⟨kA, c, nk1, na1, hs, hJ⟩
    have hj : j < vs.length := (List.getElem?_eq_some_iff.mp hx).1
    rw [Nat.zero_add] at hs
    refine wpAny_bind (wpAny_attempt (wpAny_mono (turn kA.toList x s1 _ _ (by rw [Array.length_toList, hs]; exact hx) hJ nk1 na1) (fun u s2 q => ?_) fun _ _ z => z.elim))
    obtain ⟨hJ2, nk2, na2⟩ := q
    try dsimp only
    have s1b := Heap.SameBut.update s2.heap kS (Obj.mapSeq (·.push u))
    obtain ⟨c2, hc2⟩ : ∃ c2, (s2.heap.update kS (Obj.mapSeq (·.push u))).get? kS = some (seqObj "list" (kA.push u) c2) := ⟨_, get?_update_seq nk2 (·.push u)⟩
    refine wpAny_bind (listUpdate_at nk2 rfl ?_ (by omega) (Nat.le_trans (Nat.le_of_eq (Array.size_push ..)) (by omega)))
    have na3 := (s1b.2 a hka.symm).trans na2
    refine wpAny_pure ⟨rfl, kA.push u, c2, hc2, na3, by rw [Array.size_push, hs]; omega, ?_⟩
    have q := stable _ _ (s2.heap.update kS (Obj.mapSeq (·.push u))) hJ2 ⟨_, nk2⟩ ⟨_, na2⟩ (fun b o h1 h2 q => (s1b.2 b h2).trans q) ⟨_, hc2⟩ ⟨_, na3⟩
    rw [show (kA.push u).toList = kA.toList ++ [u] by simp]
    exact q _
  case done =>
    rintro s1 ⟨kA, c, nk1, na1, hs, hJ⟩
    try dsimp only
    rw [Nat.zero_add] at hs
    have hl : kA.toList.length = vs.length := by rw [Array.length_toList]; exact hs
    refine wpAny_bind (listItems_at nk1 rfl ?_)
    obtain ⟨κ, S, h⟩ := last _ _ hl hJ ⟨_, nk1⟩ ⟨_, na1⟩
    exact fin (κ := κ) nk1 na1 hka S hs hZ h
end Fx.SK
set_option Elab.async false
set_option linter.all false
set_option maxRecDepth 100000
set_option maxHeartbeats 4000000
namespace Fx
open PySem L2
inductive RowsOf (K : PySem.W.Frag) (H : Hp) : List V → List (List Int) → Prop
  | nil : RowsOf K H [] []
  | cons {a : Addr} {is : List Int} {ks : List V} {iss : List (List Int)} : SqL K H a (is.map V.int) → RowsOf K H ks iss → RowsOf K H (.ref a :: ks) (is :: iss)
section
variable {X : Cx} {pins : List (Addr × Obj)} {σ : L2.St} {H : Hp} {s : Shared}
end
end Fx
set_option Elab.async false
set_option linter.all false
set_option maxRecDepth 100000
set_option maxHeartbeats 4000000
namespace Fx
open PySem L2
section
variable {c : Cf} {B : List (Nat × Addr)} {W : WX} {X : Cx} {G G' H H' : Hp} {A A' : Addr → Prop} {σ σ' : L2.St} {ρ ρ' : Cells} {T : List (Addr × Str)}
inductive RowsG (K : PySem.W.Frag) (G : Hp) : List V → List (List Int) → Prop
  | nil : RowsG K G [] []
  | snoc {a : Addr} {is : List Int} {ks : List V} {iss : List (List Int)} : RowsG K G ks iss → LsG K G a (is.map V.int) → RowsG K G (ks ++ [.ref a]) (iss ++ [is])
theorem RowsOf.snoc {K : PySem.W.Frag} {H : Hp} {ks : List V} {iss : List (List Int)} (h : RowsOf K H ks iss) {a : Addr} {is : List Int} (q : SqL K H a (is.map V.int)) : RowsOf K H (ks ++ [.ref a]) (iss ++ [is]) := by
  induction h with
  | nil => exact .cons q .nil
  | cons h r ih => exact .cons h ih
theorem RowsG.of {K : PySem.W.Frag} {ks : List V} {iss : List (List Int)} (h : RowsG K G ks iss) (s : Same G H) : RowsOf K H ks iss := by
  induction h with
  | nil => exact .nil
  | snoc _ q ih => exact ih.snoc (q.mono s).sq
theorem RowsG.mono {K : PySem.W.Frag} {ks : List V} {iss : List (List Int)} (h : RowsG K G ks iss) (s : Same G G') : RowsG K G' ks iss := by
  induction h with
  | nil => exact .nil
  | snoc _ q ih => exact ih.snoc (q.mono s)
end
end Fx
set_option Elab.async false
set_option linter.all false
set_option maxRecDepth 100000
set_option maxHeartbeats 4000000
namespace Fx
open PySem L2
section
variable {c : Cf} {B : List (Nat × Addr)} {W : WX} {X : Cx} {G G' H H' : Hp} {A A' : Addr → Prop} {σ σ' : L2.St} {ρ ρ' : Cells} {T : List (Addr × Str)} {Z : Ends}
end
section
variable {P : Program} {w : World} {K : PySem.W.Frag} {mg : Str → Option Value} {base : Heap} {c : Cf} {T : List (Addr × Str)}
end
section
variable {c : Cf} {B : List (Nat × Addr)} {W : WX} {X : Cx} {G G' H H' : Hp} {A A' : Addr → Prop} {σ σ' : L2.St} {ρ ρ' : Cells} {T : List (Addr × Str)} {Z : Ends}
end
end Fx
set_option Elab.async false
set_option linter.all false
set_option maxRecDepth 100000
set_option maxHeartbeats 4000000
namespace Fx
open PySem L2
section
variable {c : Cf} {B : List (Nat × Addr)} {W : WX} {X : Cx} {G H : Hp}
end
end Fx
set_option Elab.async false
set_option linter.all false
set_option maxRecDepth 100000
set_option maxHeartbeats 4000000
namespace L2
open PySem PySem.Spec PyProof.Rows
section
variable {P : Program} {w : World} {A : Around} {E : Value → Shared → Prop} {s : Shared}
end
end L2
namespace Fx
open PySem L2
section
variable {c : Cf} {B : List (Nat × Addr)} {W : WX} {X : Cx} {G H : Hp} {A : Addr → Prop} {σ : L2.St} {ρ : Cells}
end
end Fx
set_option Elab.async false
set_option linter.all false
set_option maxRecDepth 100000
set_option maxHeartbeats 4000000
namespace Fx
open PySem L2
section
variable {c : Cf} {B : List (Nat × Addr)} {W : WX} {X : Cx} {G G' H H' : Hp} {A A' : Addr → Prop} {σ σ' : L2.St} {ρ ρ' : Cells} {T : List (Addr × Str)}
end
end Fx
set_option Elab.async false
set_option linter.all false
set_option maxRecDepth 100000
set_option maxHeartbeats 4000000
namespace Fx
open PySem L2
section
variable {c : Cf} {B : List (Nat × Addr)} {W : WX} {X : Cx} {G H : Hp} {A : Addr → Prop} {σ : L2.St} {ρ : Cells} {Z : Ends}
end
end Fx
set_option Elab.async false
set_option linter.all false
set_option maxRecDepth 100000
set_option maxHeartbeats 4000000
namespace Fx
open PySem L2 PyProof.Rows
section
variable {c : Cf} {B : List (Nat × Addr)} {W : WX} {X : Cx} {G G' H : Hp} {A : Addr → Prop} {σ : L2.St} {ρ : Cells}
end
end Fx
set_option Elab.async false
set_option linter.all false
set_option maxRecDepth 100000
set_option maxHeartbeats 4000000
namespace Fx
open PySem PyProof.Rows L2
section
variable {c : Cf} {B : List (Nat × Addr)} {W : WX} {X : Cx} {G H : Hp} {A : Addr → Prop} {σ : L2.St} {ρ : Cells} {Z : Ends}
end
end Fx
set_option Elab.async false
set_option linter.all false
set_option maxRecDepth 100000
set_option maxHeartbeats 400000
namespace Fx
open PySem L2
section
variable {c : Cf} {B : List (Nat × Addr)} {W : WX} {X : Cx} {G G' H H' : Hp} {σ : L2.St} {ρ : Cells} {T : List (Addr × Str)}
end
end Fx
set_option Elab.async false
set_option linter.all false
set_option maxRecDepth 100000
set_option maxHeartbeats 4000000
namespace Fx
open PySem L2 PySem.Spec PyProof.Rows
section
variable {P : Program} {w : World} {K : PySem.W.Frag} {mg : Str → Option Value} {base : Heap} {c : Cf} {T : List (Addr × Str)}
end
section
variable {c : Cf} {B : List (Nat × Addr)} {W : WX} {X : Cx} {T : List (Addr × Str)}
end
section
variable {P : Program} {w : World} {K : PySem.W.Frag} {mg mb : Str → Option Value} {a : Addr} {s₁ : Shared} {vs : List Value} {ns : List Int} {ts : List Addr}
end
end Fx
set_option Elab.async false
set_option linter.all false
set_option maxRecDepth 100000
set_option maxHeartbeats 4000000
namespace Fx
open PySem PyProof.Rows L2
section
variable {c : Cf} {B : List (Nat × Addr)} {X : Cx} {G H : Hp} {A : Addr → Prop} {σ : L2.St} {ρ : Cells}
end
end Fx
set_option Elab.async false
set_option linter.all false
set_option maxRecDepth 100000
set_option maxHeartbeats 400000
namespace Fx
open PySem L2
section
variable {c : Cf} {B : List (Nat × Addr)} {X : Cx} {T : List (Addr × Str)}
end
end Fx
set_option Elab.async false
set_option linter.all false
set_option maxRecDepth 100000
set_option maxHeartbeats 4000000
namespace Fx
open PySem L2 PySem.Spec PyProof.Rows
section
variable {c : Cf} {B : List (Nat × Addr)} {W : WX} {X : Cx} {G H : Hp}
end
end Fx
set_option Elab.async false
set_option linter.all false
set_option maxRecDepth 100000
set_option maxHeartbeats 1000000
namespace Fx
open PySem L2
section
variable {c : Cf} {B : List (Nat × Addr)} {W : WX} {X : Cx} {T : List (Addr × Str)}
end
end Fx
set_option Elab.async false
set_option linter.all false
set_option maxRecDepth 100000
set_option maxHeartbeats 1000000
namespace Fx
open PySem L2 PyProof.Rows
section
variable {c : Cf} {G G' H H' : Hp} {d : Addr} {kvs : List (Key × V)}
/-- a thing that is a dict of simple keys -/
def IsDK (o : HO) : Prop := (∃ k, o = .dK k) ∨ ∃ ob k, o = .frz ob (.dK k)
/-- two heaps alike but at d, where the same dict lies in both -/
structure Swp (G G' : Hp) (d : Addr) (kvs : List (Key × V)) : Prop where
  off : ∀ b, b ≠ d → G' b = G b
  one : L2.Rd G d (.dK kvs)
  two : L2.Rd G' d (.dK kvs)
theorem Swp.isDK (l : Swp G G' d kvs) {o : HO} (h : G d = some o) : IsDK o := by
  rcases l.one with e | ⟨ob, e⟩
  · rw [e] at h; cases h; exact .inl ⟨_, rfl⟩
  · rw [e] at h; cases h; exact .inr ⟨_, _, rfl⟩
theorem Swp.go (l : Swp G G' d kvs) {b : Addr} {o : HO} (h : G b = some o) (n : ¬ IsDK o) : G' b = some o := by
  by_cases z : b = d
  · rw [z] at h
    exact absurd (l.isDK h) n
  · rw [l.off b z]; exact h
theorem rd_uniq {u u' : List (Key × V)} (h : L2.Rd G d (.dK u)) (h' : L2.Rd G d (.dK u')) : u = u' := by
  rcases h with e | ⟨o, e⟩ <;> rcases h' with e' | ⟨o', e'⟩ <;> (rw [e] at e'; cases e' <;> rfl)
theorem Swp.rd (l : Swp G G' d kvs) {b : Addr} {u : List (Key × V)} (h : L2.Rd G b (.dK u)) : L2.Rd G' b (.dK u) := by
  by_cases z : b = d
  · rw [z] at h ⊢
    rw [rd_uniq h l.one]
    exact l.two
  · rcases h with e | ⟨o, e⟩
    · exact .inl (by rw [l.off b z]; exact e)
    · exact .inr ⟨o, by rw [l.off b z]; exact e⟩
end
section
variable {c : Cf} {B : List (Nat × Addr)} {G H : Hp} {A : Addr → Prop} {σ : L2.St} {ρ : Cells} {d : Addr} {kvs : List (Key × V)}
end
section
variable {c : Cf} {B : List (Nat × Addr)} {W : WX} {X : Cx}
end
end Fx
set_option Elab.async false
set_option linter.all false
set_option maxRecDepth 100000
set_option maxHeartbeats 1000000
namespace Fx
open PySem L2 PyProof.Rows
section
variable {c : Cf} {B : List (Nat × Addr)} {W : WX} {X : Cx} {G H : Hp} {A : Addr → Prop} {σ : L2.St} {ρ : Cells}
end
end Fx
set_option Elab.async false
set_option linter.all false
set_option maxRecDepth 100000
set_option maxHeartbeats 1000000
namespace Fx
open PySem L2 PyProof.Rows
section
variable {c : Cf} {G G' : Hp} {p : Addr} {o0 : HO}
end
section
variable {c : Cf} {B : List (Nat × Addr)} {W : WX} {X : Cx} {G G' H : Hp} {A : Addr → Prop} {σ : L2.St} {ρ : Cells}
end
end Fx
set_option Elab.async false
set_option linter.all false
set_option maxRecDepth 100000
set_option maxHeartbeats 4000000
namespace Fx.MX
open PySem PySem.Calls PyProof.Rows PySem.W
variable {prog : Program} {w : World} {A : Around} {E : Value → Shared → Prop} {s : Shared} {l q I S : Addr} {n : Nat} {Pv : Nat → Value → Prop} {R : Result → Shared → Prop} {Q : Value → Shared → Prop}
end Fx.MX
set_option Elab.async false
set_option linter.all false
set_option maxRecDepth 100000
set_option maxHeartbeats 4000000
namespace Fx
open PySem L2
/-- the turns of a max by key, the keys known -/
def TrnI (t : V → Hp → VK → Prop) (cq : Hp → Prop) (Qf : Hp → Prop) : List V → List Int → Hp → Prop
  | [], [], H => cq H ∧ Qf H
  | x :: xs, i :: is, H => cq H ∧ t x H fun k H' => k = .int i ∧ TrnI t cq Qf xs is H'
  | _, _, _ => False
theorem TrnI.cq {t : V → Hp → VK → Prop} {cq : Hp → Prop} {Qf : Hp → Prop} : ∀ {xs : List V} {is : List Int} {H : Hp}, TrnI t cq Qf xs is H → cq H
  | [], [], _, h => h.1
  | _ :: _, _ :: _, _, h => h.1
  | [], _ :: _, _, h => h.elim
  | _ :: _, [], _, h => h.elim
theorem TrnI.len {t : V → Hp → VK → Prop} {cq : Hp → Prop} {Qf : Hp → Prop} : ∀ {xs : List V} {is : List Int} {H : Hp}, TrnI t cq Qf xs is H → xs = [] → is = []
  | [], [], _, _, _ => rfl
  | _ :: _, _, _, _, e => by cases e
  | [], _ :: _, _, h, _ => h.elim
/-- i is the first place of the greatest -/
def BestAt (is : List Int) (i : Nat) : Prop := ∀ j, j < is.length → is.getD i 0 ≥ is.getD j 0 ∧ (j < i → is.getD i 0 > is.getD j 0)
section
variable {X : Cx} {pins : List (Addr × Obj)} {σ : L2.St} {H : Hp} {s : Shared}
end
end Fx
set_option Elab.async false
set_option linter.all false
set_option maxRecDepth 100000
set_option maxHeartbeats 4000000
namespace Fx
open PySem L2
instance (is : List Int) (i : Nat) : Decidable (BestAt is i) := by unfold BestAt; infer_instance
section
variable {c : Cf} {B : List (Nat × Addr)} {W : WX} {X : Cx} {G G' H H' : Hp} {A A' : Addr → Prop} {σ σ' : L2.St} {ρ ρ' : Cells} {T : List (Addr × Str)}
end
section
variable {X : Cx}
end
section
variable {c : Cf} {B : List (Nat × Addr)} {W : WX} {X : Cx} {G G' H H' : Hp} {A A' : Addr → Prop} {σ σ' : L2.St} {ρ ρ' : Cells} {T : List (Addr × Str)}
end
end Fx
set_option Elab.async false
set_option linter.all false
set_option maxRecDepth 100000
set_option maxHeartbeats 4000000
namespace Fx
open PySem L2
section
variable {c : Cf} {B : List (Nat × Addr)} {X : Cx} {T : List (Addr × Str)}
end
end Fx
set_option Elab.async false
set_option linter.all false
set_option maxRecDepth 100000
set_option maxHeartbeats 4000000
namespace Fx
open PySem L2
section
variable {P : Program} {w : World} {K : PySem.W.Frag} {mg : Str → Option Value} {base : Heap} {c : Cf} {T : List (Addr × Str)}
end
section
variable {c : Cf} {B : List (Nat × Addr)} {W : WX} {X : Cx} {T : List (Addr × Str)}
end
end Fx
set_option Elab.async false
set_option linter.all false
set_option maxRecDepth 100000
set_option maxHeartbeats 4000000
namespace Fx
open PySem L2
section
variable {c : Cf} {B : List (Nat × Addr)} {W : WX} {X : Cx} {T : List (Addr × Str)}
end
end Fx
set_option Elab.async false
set_option linter.all false
set_option maxRecDepth 100000
set_option maxHeartbeats 4000000
namespace Fx
open PySem L2
section
variable {c : Cf} {B : List (Nat × Addr)} {W : WX} {X : Cx} {T : List (Addr × Str)}
end
end Fx
set_option Elab.async false
set_option linter.all false
set_option maxRecDepth 100000
set_option maxHeartbeats 4000000
namespace Fx
open PySem L2
section
variable {c : Cf} {B : List (Nat × Addr)} {W : WX} {X : Cx} {T : List (Addr × Str)}
end
end Fx
set_option Elab.async false
set_option linter.all false
set_option maxRecDepth 100000
set_option maxHeartbeats 4000000
namespace Fx
open PySem L2 PySem.Spec PyProof.Rows
def mixE (d : PyData) : Bool := !d.hasDict || noLst d
def mixAll : List PyData → Bool
  | [] => true
  | d :: ds => mixE d && mixAll ds
section
variable {X : Cx} {pins : List (Addr × Obj)} {σ : L2.St} {H : Hp} {s : Shared}
theorem DpEL.kept (I : Inv X pins σ H s) : ∀ (ds : List PyData) (vs : List V) (us : List Value), DpEL X.K H vs ds → Vals vs us → PyData.showableAll ds = true → mixAll ds = true → (∀ t ∈ PyData.shownAll ds, t.length ≤ sizeLine) →
    ∃ as bs, ReadsAll s.heap us ds as ∧ ReadAtMost s.heap (PyData.depthAll ds) bs ∧ ReprAllK X.prog X.w bs s.heap (PyData.depthAll ds) us (PyData.shownAll ds)
  | [], _, _, h, r, _, _, _ => by
    cases h
    cases r
    exact ⟨_, [], ReadsAll.nil, (fun _ h => nomatch h), by simp only [PyData.shownAll]; exact .nil⟩
  | d :: ds, _, _, h, r, hs, hm, hz => by
    cases h with
    | cons h1 h2 =>
      cases r with
      | cons r1 r2 =>
        have hs' : d.showable = true ∧ PyData.showableAll ds = true := by simpa [PyData.showableAll] using hs
        have hm' : mixE d = true ∧ mixAll ds = true := by simpa [mixAll] using hm
        obtain ⟨as, q1, n1⟩ := DpE.reads I d _ _ h1 r1
        obtain ⟨as2, bs2, q2, hb2, k2⟩ := DpEL.kept I ds _ _ h2 r2 hs'.2 hm'.2 (fun t ht => hz t (by simp only [PyData.shownAll]; exact List.mem_cons_of_mem _ ht))
        obtain ⟨b1, hb1, k1⟩ := ReprK.of_reads (prog := X.prog) (w := X.w) q1 hs'.1 (fun hx => by
          have e := hm'.1
          unfold mixE at e
          rw [hx] at e
          exact n1 (by simpa using e)) (hz _ (by simp only [PyData.shownAll]; exact List.mem_cons_self ..))
        refine ⟨_, b1 ++ bs2, ReadsAll.cons q1 q2, ?_, ?_⟩
        · intro b hm
          simp only [PyData.depthAll]
          rcases List.mem_append.mp hm with hm | hm
          · obtain ⟨d', as', r', hd'⟩ := hb1 b hm
            exact ⟨d', as', r', Nat.le_trans hd' (Nat.le_max_left _ _)⟩
          · obtain ⟨d', as', r', hd'⟩ := hb2 b hm
            exact ⟨d', as', r', Nat.le_trans hd' (Nat.le_max_right _ _)⟩
        · simp only [PyData.depthAll, PyData.shownAll]
          exact .cons ((k1.more fun b hb => List.mem_append_left _ hb).level_le (Nat.le_max_left _ _)) (k2.more_le (fun b hb => List.mem_append_right _ hb) (Nat.le_max_right _ _))
end
section
variable {c : Cf} {B : List (Nat × Addr)} {W : WX} {X : Cx} {G H : Hp}
end
end Fx
set_option Elab.async false
set_option linter.all false
set_option maxRecDepth 100000
set_option maxHeartbeats 4000000
namespace Fx
open PySem L2
section
variable {c : Cf} {B : List (Nat × Addr)} {W : WX} {X : Cx} {G H : Hp}
end
end Fx
set_option Elab.async false
set_option linter.all false
set_option maxRecDepth 100000
set_option maxHeartbeats 4000000
namespace L2
open PySem PySem.Spec PyProof.Rows
section
variable {X : Cx}
end
end L2
namespace Fx
open PySem L2
section
variable {c : Cf} {B : List (Nat × Addr)} {W : WX} {X : Cx} {G G' H H' : Hp} {A A' : Addr → Prop} {σ σ' : L2.St} {ρ ρ' : Cells} {T : List (Addr × Str)}
end
end Fx
set_option Elab.async false
set_option linter.all false
set_option maxRecDepth 100000
set_option maxHeartbeats 4000000
namespace Fx
open PySem L2
section
variable {c : Cf} {B : List (Nat × Addr)} {W : WX} {X : Cx} {T : List (Addr × Str)}
end
end Fx
set_option Elab.async false
set_option linter.all false
set_option maxRecDepth 100000
set_option maxHeartbeats 4000000
namespace Fx
open PySem L2
section
variable {c : Cf} {B : List (Nat × Addr)} {W : WX} {X : Cx}
end
end Fx
set_option Elab.async false
set_option linter.all false
set_option maxRecDepth 100000
set_option maxHeartbeats 4000000
namespace Fx
open PySem L2
section
variable {c : Cf} {B : List (Nat × Addr)} {W : WX} {X : Cx} {G G' H H' : Hp} {σ : L2.St} {ρ : Cells} {T : List (Addr × Str)}
end
end Fx
set_option Elab.async false
set_option linter.all false
set_option maxRecDepth 100000
set_option maxHeartbeats 4000000
namespace Fx
open PySem L2 PyProof.Rows PySem.Spec
end Fx
set_option Elab.async false
set_option linter.all false
set_option maxRecDepth 100000
set_option maxHeartbeats 4000000
namespace Fx
open PySem L2
section
variable {P : Program} {w : World} {K : PySem.W.Frag} {mg : Str → Option Value} {base : Heap} {c : Cf}
end
section
variable {c : Cf} {B : List (Nat × Addr)} {W : WX} {X : Cx} {G H : Hp} {A : Addr → Prop} {σ : L2.St} {ρ : Cells}
theorem ArgsOk.snoc {bs : List Nat} {vs : List V} {ds : List D} {p : Addr} {d : D} (h : ArgsOk c bs G A H vs ds) (hbs : ∀ i ∈ bs, i < ds.length) (gp : G p = none) (np : ¬ A p) (ho : Own c G (H p) d) : ArgsOk c (bs ++ [ds.length]) G (fun b => A b ∨ b = p) H (vs ++ [.ref p]) (ds ++ [d]) := by
  refine ⟨h.same, fun b hb => ?_, by simp [h.len], fun i e he hi => ?_, fun i e he hi => ?_, fun i j q hij hi hj e1 e2 => ?_⟩
  · rcases hb with z | rfl
    · exact h.ownA b z
    · exact ⟨gp, ho.some⟩
  · have hi' : i ∉ bs ∧ i ≠ ds.length := by simpa using hi
    have hlt : i < ds.length := by
      have := (List.getElem?_eq_some_iff.mp he).1
      rw [List.length_append, List.length_singleton] at this
      omega
    rw [List.getElem?_append_left hlt] at he
    obtain ⟨v, h1, h2⟩ := h.dat i e he hi'.1
    exact ⟨v, by rw [List.getElem?_append_left (by rw [h.len]; exact hlt)]; exact h1, h2⟩
  · rcases List.mem_append.mp hi with z | z
    · have hlt := hbs i z
      rw [List.getElem?_append_left hlt] at he
      obtain ⟨q, h1, h2, h3⟩ := h.own i e he z
      exact ⟨q, by rw [List.getElem?_append_left (by rw [h.len]; exact hlt)]; exact h1, .inl h2, h3⟩
    · obtain rfl := List.mem_singleton.mp z
      rw [List.getElem?_append_right (Nat.le_refl _), Nat.sub_self] at he
      cases he
      exact ⟨p, by rw [List.getElem?_append_right (by rw [h.len]; exact Nat.le_refl _), h.len, Nat.sub_self]; rfl, .inr rfl, ho⟩
  · have at_ : ∀ i, i ∈ bs ++ [ds.length] → (vs ++ [V.ref p])[i]? = some (.ref q) → (i ∈ bs ∧ vs[i]? = some (.ref q) ∧ A q) ∨ (i = ds.length ∧ q = p) := fun i hi e => by
      rcases List.mem_append.mp hi with z | z
      · have hlt := hbs i z
        rw [List.getElem?_append_left (by rw [h.len]; exact hlt)] at e
        obtain ⟨q', h1, h2, _⟩ := h.own i _ (List.getElem?_eq_getElem hlt) z
        rw [e] at h1
        cases h1
        exact .inl ⟨z, e, h2⟩
      · obtain rfl := List.mem_singleton.mp z
        rw [List.getElem?_append_right (by rw [h.len]; exact Nat.le_refl _), h.len, Nat.sub_self] at e
        cases e
        exact .inr ⟨rfl, rfl⟩
    rcases at_ i hi e1 with ⟨a1, a2, a3⟩ | ⟨a1, a2⟩
    · rcases at_ j hj e2 with ⟨b1, b2, b3⟩ | ⟨b1, b2⟩
      · exact h.dis i j q hij a1 b1 a2 b2
      · exact np (b2 ▸ a3)
    · rcases at_ j hj e2 with ⟨b1, b2, b3⟩ | ⟨b1, b2⟩
      · exact np (a2 ▸ b3)
      · exact hij (a1.trans b1.symm)
end
end Fx
set_option Elab.async false
set_option linter.all false
set_option maxRecDepth 100000
set_option maxHeartbeats 4000000
namespace Fx
open PySem L2
section
variable {c : Cf} {G G' H : Hp} {p : Addr} {ys : List V}
end
section
variable {c : Cf} {B : List (Nat × Addr)} {W : WX} {X : Cx} {G G' H : Hp} {A : Addr → Prop} {σ : L2.St} {ρ : Cells} {Z : Ends}
end
end Fx
set_option Elab.async false
set_option linter.all false
set_option maxRecDepth 100000
set_option maxHeartbeats 4000000
namespace Fx
open PySem L2 PySem.Spec PyProof.Rows
section
variable {c : Cf} {B : List (Nat × Addr)} {W : WX} {X : Cx} {G H : Hp}
end
end Fx
set_option Elab.async false
set_option linter.all false
set_option maxRecDepth 100000
set_option maxHeartbeats 4000000
namespace Fx
open PySem L2 PySem.Spec PyProof.Rows
section
variable {X : Cx} {tg : Expr}
end
section
variable {c : Cf} {B : List (Nat × Addr)} {W : WX} {X : Cx}
end
end Fx
set_option Elab.async false
set_option linter.all false
set_option maxRecDepth 100000
set_option maxHeartbeats 4000000
namespace Fx
open PySem L2 PySem.Spec PyProof.Rows
/-- the object of a function that was made -/
def FnO (obj : Obj) : HO := .frz obj (.ext fun _ => True)
/-- a lambda's function, dV its defaults -/
abbrev lfd (q : Str) (params : Arguments) (body : Expr) (scope : Scope) (cl : List (Str × Addr)) (pm cdv ct dV : Value) : FuncData := { PySem.W.kla_fn "<lambda>" q params body scope cl pm cdv ct with defaults := dV }
abbrev lob (q : Str) (params : Arguments) (body : Expr) (scope : Scope) (cl : List (Str × Addr)) (pm : Value) (c' : Addr) (ct dV : Value) : Obj := { cls := .type "function", data := .func (lfd q params body scope cl pm (.ref c') ct dV) }
section
variable {MM : Model} {AA : Around} {EE : Value → Shared → Prop} {s : Shared} {qual : Str} {params : Arguments} {body : Expr} {scope : Scope} {en : Env} {cc PP : Addr} {tb : Array Value} {pos : Pos} {ln : Nat} {gg : Str → Option Value} {cl : List (Str × Addr)} {QQ : Value → Shared → Prop} {dV : Value}
end
section
variable {X : Cx} {pins : List (Addr × Obj)} {σ : L2.St} {H : Hp} {s : Shared}
end
/-- a lambda's defaults: none, or one, an int -/
def DfAt (params : Arguments) (dV : Value) (H : Hp) : Prop := (params.defaults = [] ∧ dV = .none) ∨ (params.defaults ≠ [] ∧ ∃ (T : Addr) (u : Value) (i : Int), dV = .ref T ∧ H T = some (.frz (tob [u]) (.tup [.int i])))
/-- the function at f was made by this lambda, here -/
def LamAt (X : Cx) (params : Arguments) (body : Expr) (scope : Scope) (H : Hp) (f : Addr) : Prop :=
  ∃ (c' : Addr) (pm ctv dV : Value), H f = some (FnO (lob (X.env.qual ++ "<lambda>") params body scope (cloFrom X.env.cells scope.names []) pm c' ctv dV)) ∧ H c' = some (LamX.CodeO c' (X.env.qual ++ "<lambda>")) ∧ DfAt params dV H
/-- what stays, stays a lambda -/
theorem LamAt.keep2 {X : Cx} {params : Arguments} {body : Expr} {scope : Scope} {H H' : Hp} {f : Addr} (h : LamAt X params body scope H f) (k : ∀ b ob u, H b = some (.frz ob u) → H' b = some (.frz ob u)) (k2 : ∀ b q, H b = some (LamX.CodeO b q) → H' b = some (LamX.CodeO b q)) : LamAt X params body scope H' f := by
  obtain ⟨c', pm, ctv, dV, h1, h2, h3⟩ := h
  refine ⟨c', pm, ctv, dV, k _ _ _ h1, k2 _ _ h2, ?_⟩
  rcases h3 with h3 | ⟨h3, T, u, i, h4, h5⟩
  · exact .inl h3
  · exact .inr ⟨h3, T, u, i, h4, k _ _ _ h5⟩
theorem LamAt.ext {X : Cx} {params : Arguments} {body : Expr} {scope : Scope} {H H' : Hp} {f : Addr} (h : LamAt X params body scope H f) (e : LamX.ExtN H H') : LamAt X params body scope H' f := h.keep2 (fun b ob u q => e _ _ q fun ps z => by cases z) fun b q z => e _ _ z fun ps y => LamX.codeO_ne ps y
theorem LamAt.upd {X : Cx} {params : Arguments} {body : Expr} {scope : Scope} {H : Hp} {f p : Addr} {o : HO} (h : LamAt X params body scope H f) (hp : H p = none) : LamAt X params body scope (upd H p o) f := h.keep2 (fun b ob u q => by rw [upd_ne (ne_of_none q hp)]; exact q) fun b q z => by rw [upd_ne (ne_of_none z hp)]; exact z
/-- the lambda may be made and called: its names, and what a call with no values binds -/
structure LamQ (X : Cx) (params : Arguments) (scope : Scope) : Prop where
  kind : scope.kind = .function
  co : scope.isCoroutine = false
  gen : scope.isGenerator = false
  own : ∀ y ∈ scope.names, (y.2 = .local → y.1 ∉ X.N) ∧ y.2 ≠ .cell
  free : ∀ y ∈ scope.names, y.2 = .free → X.env.scope.names.lookup y.1 = some .cell ∨ X.env.scope.names.lookup y.1 = some .free
  bd : (params.defaults = [] ∧ ∀ (q : Str) (body : Expr) (cl : List (Str × Addr)) (pm cv ctv : Value), bindArgs (lfd q params body scope cl pm cv ctv .none) ⟨[], []⟩ = pure []) ∨
    (params.defaults ≠ [] ∧ ∃ d, scope.names.lookup d = some .local ∧ ∀ (q : Str) (body : Expr) (cl : List (Str × Addr)) (pm cv ctv : Value) (T : Addr), ∃ k, bindArgs (lfd q params body scope cl pm cv ctv (.ref T)) ⟨[], []⟩ = seqItems? (.ref T) >>= k ∧ ∀ v, k (some #[v]) = pure [(d, v)])
theorem LamQ.has {X : Cx} {params : Arguments} {scope : Scope} (L : LamQ X params scope) (ok : X.Ok) : ∀ y ∈ scope.names, y.2 = .free → ∃ c, X.env.cells.lookup y.1 = some c := fun y hy e => by
  rcases L.free y hy e with k | k
  · exact ok.has _ (.inl k)
  · exact ok.has _ (.inr k)
section
variable {X : Cx}
end
end Fx
set_option Elab.async false
set_option linter.all false
set_option maxRecDepth 100000
set_option maxHeartbeats 4000000
namespace Fx
open PySem L2 PySem.Spec PyProof.Rows
section
variable {X : Cx} {pins : List (Addr × Obj)} {σ : L2.St} {H : Hp} {s : Shared}
end
section
variable {X : Cx}
end
end Fx
set_option Elab.async false
set_option linter.all false
set_option maxRecDepth 100000
set_option maxHeartbeats 4000000
namespace Fx
open PySem L2 PySem.Spec PyProof.Rows
section
variable {X : Cx}
end
end Fx
set_option Elab.async false
set_option linter.all false
set_option maxRecDepth 100000
set_option maxHeartbeats 4000000
namespace Fx
open PySem L2 PySem.Spec PyProof.Rows
section
variable {X : Cx}
end
end Fx
set_option Elab.async false
set_option linter.all false
set_option maxRecDepth 100000
set_option maxHeartbeats 4000000
namespace Fx
open PySem L2 PySem.Spec PyProof.Rows
/-- a lambda: its text, the mirror of its body -/
structure LamK where
  params : Arguments
  body : Expr
  scope : Scope
  fb : M D
section
variable {c : Cf} {B : List (Nat × Addr)} {X : Cx} {T : List (Addr × Str)} {G H G' H' : Hp} {σ : L2.St} {ρ : Cells} {A : Addr → Prop}
/-- the list at D0, from now on data -/
theorem Rel.frz {D0 : Addr} {vs : List V} (R : Rel c B G A H σ ρ) (nG : G D0 = none) (nA : ¬ A D0) (hD : H D0 = some (.lst vs)) : Rel c B (upd G D0 (.lst vs)) A H σ ρ where
  same := fun b u h => by
    by_cases z : b = D0
    · subst z; rw [upd_same] at h; cases h; exact hD
    · rw [upd_ne z] at h; exact R.same b u h
  len := R.len
  ownA := fun b hb => by
    rw [upd_ne (fun z : b = D0 => nA (z ▸ hb))]
    exact R.ownA b hb
  dat := fun i d h => by
    obtain ⟨v, h1, h2⟩ := R.dat i d h
    exact ⟨v, h1, h2.mono (same_upd nG)⟩
  own := fun i d h => by
    obtain ⟨p, h1, h2, h3⟩ := R.own i d h
    exact ⟨p, h1, h2, h3.mono (same_upd nG)⟩
  dis := R.dis
  byr := R.byr
theorem TabOk.frz {D0 : Addr} {vs : List V} (t : TabOk T G H) (nG : G D0 = none) : TabOk T (upd G D0 (.lst vs)) H := ⟨fun q hq => by
  obtain ⟨ps, h1, h2, h3⟩ := t.tabs q hq
  refine ⟨ps, h1, h2, fun pos cv h => ?_⟩
  obtain ⟨a, e1, e2⟩ := h3 pos cv h
  exact ⟨a, e1, by rw [upd_ne (ne_of_none e2 nG)]; exact e2⟩, fun b ps h => by
  by_cases z : b = D0
  · subst z; rw [upd_same] at h; cases h
  · rw [upd_ne z] at h; exact t.noG b ps h⟩
/-- the lambdas at fs -/
def KeptAt (X : Cx) (ks : List LamK) (fs : List Addr) (H : Hp) (A : Addr → Prop) : Prop := fs.length = ks.length ∧ ∀ (i : Nat) (f : Addr) (k : LamK), fs[i]? = some f → ks[i]? = some k → LamAt X k.params k.body k.scope H f ∧ ¬ A f
theorem own_frz {c : Cf} {G : Hp} {o : Option HO} {d : D} {ob : Obj} {u : HO} (h : Own c G o d) : o ≠ some (.frz ob u) := fun z => by
  subst z
  cases d <;> first | exact h.elim | skip
  · obtain ⟨xs, h1, _⟩ := h; cases h1
  · obtain ⟨xs, h1, _⟩ := h; cases h1
  · obtain ⟨dx, xs, h1, _⟩ := h; cases h1
  · obtain ⟨xs, ks, h1, _⟩ := h
    obtain ⟨φ, e⟩ := h1.anO
    cases e
theorem KeptAt.step {ks : List LamK} {fs : List Addr} (h : KeptAt X ks fs H (Owd σ ρ)) (R : Rel c B G (Owd σ ρ) H σ ρ) (s : StpT (Owd σ ρ) G H G' H' (Owd σ ρ)) : KeptAt X ks fs H' (Owd σ ρ) := ⟨h.1, fun i f k e1 e2 => by
  obtain ⟨h1, h3⟩ := h.2 i f k e1 e2
  refine ⟨h1.keep2 (fun b ob u e => (s.kp _ _ e (fun z => ?_) fun ps z => by cases z).1) (fun b q e => (s.kp _ _ e (fun z => ?_) fun ps z => LamX.codeO_ne ps z).1), h3⟩
  · obtain ⟨i, d, h4, h5⟩ := z
    obtain ⟨p, k1, _, k3⟩ := R.own i d h4
    rw [h5] at k1; cases k1
    exact own_frz k3 e
  · obtain ⟨u, e', _, n⟩ := R.okind z
    rw [e] at e'
    exact n b _ (Option.some.inj e').symm⟩
end
end Fx
set_option Elab.async false
set_option linter.all false
set_option maxRecDepth 100000
set_option maxHeartbeats 4000000
namespace Fx
open PySem L2 PySem.Spec PyProof.Rows
section
variable {c : Cf} {B : List (Nat × Addr)} {X : Cx} {T : List (Addr × Str)} {G H G' H' : Hp} {σ : L2.St} {ρ : Cells} {A : Addr → Prop}
end
end Fx
set_option Elab.async false
set_option linter.all false
set_option maxRecDepth 100000
set_option maxHeartbeats 4000000
namespace Fx
open PySem L2 PySem.Spec PyProof.Rows
section
variable {c : Cf} {B : List (Nat × Addr)} {X : Cx} {T : List (Addr × Str)} {G H G' H' : Hp} {σ : L2.St} {ρ : Cells} {A : Addr → Prop}
theorem Rel.slot {j : Nat} {v : Option V} (R : Rel c B G A H σ ρ) (h : ρ[j]? = some .no) : Rel c B G A H (σ.set j v) ρ where
  same := R.same
  len := by rw [List.length_set]; exact R.len
  ownA := R.ownA
  dat := fun i d e => by
    have n : j ≠ i := fun z => by rw [z, e] at h; cases h
    obtain ⟨u, h1, h2⟩ := R.dat i d e
    exact ⟨u, by rw [List.getElem?_set_ne n]; exact h1, h2⟩
  own := fun i d e => by
    have n : j ≠ i := fun z => by rw [z, e] at h; cases h
    obtain ⟨p, h1, h2⟩ := R.own i d e
    exact ⟨p, by rw [List.getElem?_set_ne n]; exact h1, h2⟩
  dis := fun i k d e p hne h1 h2 h3 h4 => by
    have n1 : j ≠ i := fun z => by rw [z, h1] at h; cases h
    have n2 : j ≠ k := fun z => by rw [z, h2] at h; cases h
    rw [List.getElem?_set_ne n1] at h3
    rw [List.getElem?_set_ne n2] at h4
    exact R.dis i k d e p hne h1 h2 h3 h4
  byr := fun q hq => by
    obtain ⟨h1, h2, d, h3⟩ := R.byr q hq
    have n : j ≠ q.1 := fun z => by rw [z, h3] at h; cases h
    exact ⟨by rw [List.getElem?_set_ne n]; exact h1, h2, d, h3⟩
end
end Fx
set_option Elab.async false
set_option linter.all false
set_option maxRecDepth 100000
set_option maxHeartbeats 4000000
namespace Fx
open PySem L2 PySem.Spec PyProof.Rows
section
variable {c : Cf} {B : List (Nat × Addr)} {X : Cx} {T : List (Addr × Str)} {G H G' H' : Hp} {σ : L2.St} {ρ : Cells} {A : Addr → Prop}
end
end Fx
set_option Elab.async false
set_option linter.all false
set_option maxRecDepth 100000
set_option maxHeartbeats 4000000
namespace Fx
open PySem L2 PySem.Spec PyProof.Rows
section
variable {c : Cf} {B : List (Nat × Addr)} {X : Cx} {T : List (Addr × Str)}
end
end Fx
set_option Elab.async false
set_option linter.all false
set_option maxRecDepth 100000
set_option maxHeartbeats 4000000
namespace Fx
open PySem L2 PySem.Spec PyProof.Rows
section
variable {c : Cf} {B : List (Nat × Addr)} {W : WX} {X : Cx} {G H : Hp} {A : Addr → Prop} {σ : L2.St} {ρ : Cells}
end
end Fx
set_option Elab.async false
set_option linter.all false
set_option maxRecDepth 100000
set_option maxHeartbeats 4000000
namespace Fx
open PySem L2
section
variable {c : Cf} {B : List (Nat × Addr)} {W : WX} {X : Cx}
end
end Fx
namespace Fx
open PySem L2
end Fx
set_option Elab.async false
set_option linter.all false
set_option maxRecDepth 100000
set_option maxHeartbeats 4000000
namespace Fx.NL
open PySem PySem.SeqAt
open AutoSeq1 (wpAny_loadPart')
open MeetsSeq MeetsSeq2 MeetsSeq3 SeqRoads2
section
variable {pr : Program} {wd : World} {AA : Around} {RR : Result → Shared → Prop}
end
section
variable {pr : Program} {wd : World} {AA : Around} {EE : Value → Shared → Prop} {s : Shared}
end
end Fx.NL
namespace Fx
open PySem L2
section
variable {X : Cx} {n : Nat} {DD : Eqv}
end
section
variable {c : Cf} {B : List (Nat × Addr)} {W : WX} {X : Cx} {G G' H H' : Hp} {σ : L2.St} {ρ : Cells} {T : List (Addr × Str)}
theorem K1.bl {b : Bool} {Q : VK} (s : Same G H) (k : K1 c G H (.bl b) Q) : ∀ H', L2.Ext H H' → Q (.bl b) H' := fun H' x => k G H' _ ⟨Same.refl _, x, s.trans x, fun _ _ _ => rfl⟩ (.bl b)
end
end Fx
set_option Elab.async false
set_option linter.all false
set_option maxRecDepth 100000
set_option maxHeartbeats 4000000
namespace Fx.MT
open PySem PySem.Spec PyProof.Rows L2
section
variable {pr : Program} {wd : World} {AA : Around} {EE : Value → Shared → Prop} {s : Shared} {la : Addr}
end
end Fx.MT
namespace Fx
open PySem L2
section
variable {c : Cf} {B : List (Nat × Addr)} {W : WX} {X : Cx}
end
end Fx
set_option Elab.async false
set_option linter.all false
set_option maxRecDepth 100000
set_option maxHeartbeats 4000000
namespace Fx
open PySem L2 PySem.Spec PyProof.Rows
section
variable {c : Cf} {B : List (Nat × Addr)} {X : Cx} {T : List (Addr × Str)} {G H G' H' : Hp} {σ : L2.St} {ρ : Cells} {A : Addr → Prop}
end
end Fx
set_option Elab.async false
set_option linter.all false
set_option maxRecDepth 100000
set_option maxHeartbeats 4000000
namespace Fx
open PySem L2
section
variable {c : Cf} {B : List (Nat × Addr)} {W : WX} {X : Cx} {T : List (Addr × Str)}
end
end Fx
set_option Elab.async false
set_option linter.all false
set_option maxRecDepth 100000
set_option maxHeartbeats 2000000
namespace PySem
namespace HandSPX
open Builtin Builtin.ObjectAttr
section
variable {M : Model} {A : Around} {E : Value → Shared → Prop} {hp : Heap} {gs : Array GenState} {dr : Drawn} {t : Nat} {so : OsState}
variable {nm q : Str} {C N : Addr} {bs bm bmB : List Value} {hdct : Bool} {sn : List Str} {sub : List Value} {ab : Bool} {col : Option Bool} {dd : Option Addr} {k0 k1 k2 k3 k5 : Option Value} {B newId initId : String} {kn : Str} {kv : Value}
theorem kw_ckNew (FB0 : ExcBaseFacts B newId initId bmB) (tt0 : ∀ X : String, bm.contains (.type X) = bmB.contains (.type X)) {xs : List Value} {Q : Unit → Shared → Prop}
    (cg0 : hp.get? C = some (excClassObj nm q C N bs bm hdct sn sub ab col dd k0 k1 k2 k3 k5 newId)) (fin0 : Q () ⟨hp, gs, dr, t, so⟩) : wpAny M A (checkBuiltinCall newId ⟨.ref C :: xs, [(kn, kv)]⟩) Q E ⟨hp, gs, dr, t, so⟩ := by
  have k1 : (Value.ref C :: bm).contains (.type B) = true := by rw [List.contains_cons, tt0, FB0.hasB, Bool.or_true]
  have k2 := FB0.noStar
  simp only [checkBuiltinCall, FB0.newKind, FB0.newSplit, FB0.newRow]
  repeat (first | refine wpAny_loadPart_at cg0 ?_ | (refine wpAny_isSubtype_exc cg0 ?_; rw [k1]) | refine wpAny_staticBase_exc cg0 ?_ | refine wpAny_madeBy_exc cg0 ?_ | simp only [bne_self_eq_false, Bool.false_eq_true, if_false] | wp_step)
  exact fin0
end
section
variable {prog : Program} {w : World} {A : Around} {E : Value → Shared → Prop} {R : Result → Shared → Prop} {hp : Heap} {gs : Array GenState} {dr : Drawn} {t : Nat} {so : OsState}
variable {nm q : Str} {C N : Addr} {bs bm bmB : List Value} {hdct : Bool} {sn : List Str} {sub : List Value} {ab : Bool} {col : Option Bool} {dd : Option Addr} {k0 k1 k2 k3 k5 : Option Value} {B newId initId : String} {kn : Str} {kv : Value}
theorem kw_new (FB0 : ExcBaseFacts B newId initId bmB) (tt0 : ∀ X : String, bm.contains (.type X) = bmB.contains (.type X)) {xs : List Value}
    (cg0 : hp.get? C = some (excClassObj nm q C N bs bm hdct sn sub ab col dd k0 k1 k2 k3 k5 newId))
    (fin0 : R (.ok (.ret (.ref (hp.objs.size + 1)))) ⟨(hp.push { cls := .type "tuple", data := .seq xs.toArray }).push
      { cls := .ref C, data := .fields #[.ref hp.objs.size, .none, .none, .none, .bool false, .none] }, gs, dr, t, so⟩) (rl0 : xs.length ≤ sizeLine) :
    codeAny (model prog w) A (.builtin newId ⟨.ref C :: xs, [(kn, kv)]⟩) R ⟨hp, gs, dr, t, so⟩ := by
  have k3 := FB0.ends
  have k4 : (Value.ref C :: bm).contains (.type B) = true := by rw [List.contains_cons, tt0, FB0.hasB, Bool.or_true]
  have k5x : (Value.ref C :: bm).contains (.type "AttributeError") = false := by rw [List.contains_cons, tt0, FB0.noAttr]; rfl
  have k6 : (Value.ref C :: bm).contains (.type "NameError") = false := by rw [List.contains_cons, tt0, FB0.noName]; rfl
  refine codeAny_builtinAt FB0.entry ?_
  unfold Builtin.«BaseException.__new__»
  refine wpAt_bind ?_
  show wpAt _ _ _ (stack >>= _) _ _ _
  refine wpAt_bind (wpAt_stack fun p below => wpAt_of_wpAny ?_)
  wp_walk
  refine wpAt_of_wpAny ?_
  rw [FB0.owner]
  repeat (first | with_reducible refine wpAny_madeHere_exc FB0.canon cg0 ?_ | with_reducible refine wpAny_loadPart_at cg0 ?_ | (with_reducible refine wpAny_isSubtype_exc cg0 ?_; first | rw [k4] | rw [k5x] | rw [k6]) | wp_step)
  show R _ _
  rw [Heap.size_push]
  exact fin0
theorem kw_type (FB0 : ExcBaseFacts B newId initId bmB) (tt0 : ∀ X : String, bm.contains (.type X) = bmB.contains (.type X)) {xs : List Value} {fI : Addr} {Q : Fin → Shared → Prop}
    (cg0 : hp.get? C = some (excClassObj nm q C N bs bm hdct sn sub ab col dd k0 k1 k2 k3 k5 newId))
    (li0 : W.Looks (model prog w) hp (typeLookup (.ref C) "__init__") (some (.ref fI))) (lb0 : ∀ self, W.Looks (model prog w) hp (bindSpecial (.ref fI) self) (.ref fI, [self])) (rl0 : xs.length ≤ sizeLine)
    (fin0 : codeAny (model prog w) A (.call (.ref fI) ⟨.ref (hp.objs.size + 1) :: xs, [(kn, kv)]⟩)
      (fun r s' => match r with | .ok (.ret v) => v = .none ∧ Q (.done (.ret (.ref (hp.objs.size + 1)))) s' | .ok _ => False | .error e => E e s')
      ⟨(hp.push (W.kdv_tup xs)).push (excO C hp.objs.size), gs, dr, t, so⟩) :
    wpAny (model prog w) A (Builtin.«type.__call__» ⟨.ref C :: xs, [(kn, kv)]⟩) Q E ⟨hp, gs, dr, t, so⟩ := by
  repeat (first | with_reducible refine wpAny_loadPart_at cg0 ?_ | with_reducible refine wpAny_madeBy_exc cg0 ?_ | wp_step)
  refine codeAny_call_builtin_code (Code.quiet_builtin _ FB0.quiet) (kw_ckNew FB0 tt0 cg0 ?_)
  refine kw_new FB0 tt0 cg0 ?_ rl0
  show wpAny _ _ _ _ _ _
  have k : ∀ b o, hp.get? b = some o → ((hp.push (W.kdv_tup xs)).push (excO C hp.objs.size)).get? b = some o := fun b o e => Heap.get?_push_of_some _ (Heap.get?_push_of_some _ e)
  have cg1 := k _ _ cg0
  have gt0 : ((hp.push (W.kdv_tup xs)).push (excO C hp.objs.size)).get? (hp.objs.size + 1) = some (excO C hp.objs.size) := by heap_get
  have k7 : (Value.ref C :: bm).contains (.ref C) = true := by simp
  have li1 := li0.keeps k
  have lb1 := (lb0 (.ref (hp.objs.size + 1))).keeps k
  unfold isInstance
  repeat (first | with_reducible refine wpAny_loadPart_at gt0 ?_ | (with_reducible refine wpAny_isSubtype_exc cg1 ?_; rw [k7]) | wp_step)
  show wpAny _ _ (typeLookup (.ref C) _) _ _ _
  refine li1.at ?_
  refine wpAny_holding (wpAny_bind (lb1.at ?_))
  refine wpAny_bind (wpAny_call (codeAny_mono fin0 fun r s' z => ?_))
  rcases r with e | (v | _ | _ | _) <;> first | exact z | exact z.elim | skip
  obtain ⟨rfl, z⟩ := z
  first
    | exact wpAny_pure (wpAny_pure z)
    | (wp_walk; exact z)
theorem kw_call (FB0 : ExcBaseFacts B newId initId bmB) (tt0 : ∀ X : String, bm.contains (.type X) = bmB.contains (.type X)) {xs : List Value} {fI : Addr}
    (cg0 : hp.get? C = some (excClassObj nm q C N bs bm hdct sn sub ab col dd k0 k1 k2 k3 k5 newId))
    (li0 : W.Looks (model prog w) hp (typeLookup (.ref C) "__init__") (some (.ref fI))) (lb0 : ∀ self, W.Looks (model prog w) hp (bindSpecial (.ref fI) self) (.ref fI, [self])) (rl0 : xs.length ≤ sizeLine)
    (fin0 : codeAny (model prog w) (A.under (.builtin "type.__call__" ⟨.ref C :: xs, [(kn, kv)]⟩)) (.call (.ref fI) ⟨.ref (hp.objs.size + 1) :: xs, [(kn, kv)]⟩) (W.InitBack (hp.objs.size + 1) R)
      ⟨(hp.push (W.kdv_tup xs)).push (excO C hp.objs.size), gs, dr, t, so⟩) :
    codeAny (model prog w) A (.call (.ref C) ⟨xs, [(kn, kv)]⟩) R ⟨hp, gs, dr, t, so⟩ := by
  have e1 := tc_lookup
  have e2 := tc_bind (.ref C)
  have ty0 : (⟨hp, gs, dr, t, so⟩ : Shared).TypeIs (.ref C) "type" := ⟨_, cg0, rfl⟩
  refine codeAny_of_tree ?_
  show wpAny _ _ (callAny (.ref C) _) _ _ _
  repeat (any_goals (first | assumption | with_reducible refine wpAny_loadPart_at cg0 ?_ | wp_step))
  refine ⟨rfl, ?_⟩
  refine codeAny_call_builtin_at (Code.quiet_builtin _ (by decide +kernel)) entry_typeCall (wpAny_check_type_call_sub cg0 (kw_type FB0 tt0 cg0 li0 lb0 rl0 ?_))
  refine codeAny_mono fin0 fun r s' z => ?_
  rcases r with e | (v | _ | _ | _) <;> exact z
end
end HandSPX
end PySem
set_option Elab.async false
set_option linter.all false
set_option maxRecDepth 100000
set_option maxHeartbeats 4000000
namespace Fx
open PySem L2 PySem.Spec PyProof.Rows
section
variable {c : Cf} {B : List (Nat × Addr)} {W : WX} {X : Cx} {G H : Hp} {A : Addr → Prop} {σ : L2.St} {ρ : Cells}
end
end Fx
set_option Elab.async false
set_option linter.all false
set_option maxRecDepth 100000
set_option maxHeartbeats 4000000
namespace Fx
open PySem L2 PySem.Spec PyProof.Rows
/-- an error class of one field, its __init__ called by keyword -/
structure CalX1K (P : Program) (w : World) (K : PySem.W.Frag) (mg : Str → Option Value) (base : Heap) (c : Cf) (k : Nat) (x : Nat) (nm f : Str) : Prop where
  ex : ∃ fI fd ps, XcK c K mg x nm fI ∧ FnOk P w K mg base (L2.CX P w) k fI fd ps (spI1 (c.exc x) f) ∧ KBn K fd ps 1 [f] (fun us ws => us ++ ws) (fun vs zs => vs ++ zs)
  fl : c.flds x = [f]
section
variable {c : Cf} {B : List (Nat × Addr)} {W : WX} {X : Cx}
end
end Fx
set_option Elab.async false
set_option linter.all false
set_option maxRecDepth 100000
set_option maxHeartbeats 4000000
namespace Fx
open PySem L2 PySem.Spec PyProof.Rows
section
variable {c : Cf} {B : List (Nat × Addr)} {W : WX} {X : Cx}
end
end Fx
set_option Elab.async false
set_option linter.all false
set_option maxRecDepth 100000
set_option maxHeartbeats 1000000
namespace Fx
open PySem PySem.SeqAt
open AutoSeq1 (wpAny_loadPart')
open L2
section
variable {c : Cf} {B : List (Nat × Addr)} {W : WX} {X : Cx} {G H : Hp}
end
end Fx
set_option Elab.async false
set_option linter.all false
set_option maxRecDepth 100000
set_option maxHeartbeats 4000000
namespace Fx
open PySem L2
/-- a new tuple at p, its last item a new list -/
def FrQ (c : Cf) (G' H' H2 : Hp) (p : Addr) (d : D) : Prop := ∃ (ds es : List D) (q : Addr) (vs ys : List V) (o : Obj), d = .tup (ds ++ [.lst es]) ∧ H' p = none ∧ H' q = none ∧ q ≠ p ∧ Same H' H2 ∧ H2 p = some (.frz o (.tup (vs ++ [.ref q]))) ∧ o.dict = none ∧ H2 q = some (.lst ys) ∧ RepL c G' vs ds ∧ RepL c G' ys es
section
variable {c : Cf} {B : List (Nat × Addr)} {W : WX} {X : Cx} {G H : Hp} {A : Addr → Prop} {σ : L2.St} {ρ : Cells} {Z : Ends}
def AfterSFQ (c : Cf) (B : List (Nat × Addr)) (W : WX) (G : Hp) (A : Addr → Prop) (H : Hp) (o : OutS) (D : Ends) : Prop := match o with
  | .ret d ρ' => ∀ G' A' H' σ' p H2, Stp G A H G' A' H' → Rel c B G' A' H' σ' ρ' → FrQ c G' H' H2 p d → D.rt (.ref p) H2
  | .exc x ρ' => ∀ G' A' H' σ' dd, Stp G A H G' A' H' → Rel c B G' A' H' σ' ρ' → ExcAt c G' x dd → W (.ref (c.exc x.c)) (some dd) σ' H'
  | _ => False
theorem AfterSFQ.of {o : OutS} {G' H' : Hp} {A' : Addr → Prop} (hA : ∀ b, A b → ∃ o, H b = some o) (s : Stp G A H G' A' H') (h : AfterSFQ c B W G A H o Z) : AfterSFQ c B W G' A' H' o Z := by
  cases o with
  | stuck => exact h
  | next ρ' => exact h
  | ret d ρ' => exact fun G2 A2 H2 σ2 p H3 s2 R => h G2 A2 H2 σ2 p H3 (s.trans s2 hA) R
  | brk ρ' => exact h
  | cont ρ' => exact h
  | exc x ρ' => exact fun G2 A2 H2 σ2 dd s2 R r => h G2 A2 H2 σ2 dd (s.trans s2 hA) R r
end
section
variable {P : Program} {w : World} {K : PySem.W.Frag} {mg : Str → Option Value} {base : Heap} {c : Cf}
end
section
variable {c : Cf} {B : List (Nat × Addr)} {W : WX} {X : Cx} {G H : Hp} {A : Addr → Prop} {σ : L2.St} {ρ : Cells} {Z : Ends}
end
end Fx
set_option Elab.async false
set_option linter.all false
set_option maxRecDepth 100000
set_option maxHeartbeats 4000000
namespace Fx
open PySem L2
section
variable {c : Cf} {B : List (Nat × Addr)} {W : WX} {X : Cx} {G H : Hp} {A : Addr → Prop} {σ : L2.St} {ρ : Cells} {Z : Ends}
/-- slot j holds the tuple -/
def S1 (c : Cf) (j : Nat) (d : D) (q : Addr) (σ : L2.St) (G : Hp) : Prop := ∃ (p : Addr) (ds es : List D) (vs ys : List V) (o : Obj), d = .tup (ds ++ [.lst es]) ∧ σ[j]? = some (some (.ref p)) ∧ G p = some (.frz o (.tup (vs ++ [.ref q]))) ∧ RepL c G vs ds ∧ G q = some (.lst ys) ∧ RepL c G ys es
theorem S1.mono {j : Nat} {d : D} {q : Addr} {G' : Hp} (e : Same G G') (h : S1 c j d q σ G) : S1 c j d q σ G' := by
  obtain ⟨p, ds, es, vs, ys, o, h1, h2, h3, h4, h5, h6⟩ := h
  exact ⟨p, ds, es, vs, ys, o, h1, h2, e _ _ h3, h4.mono e, e _ _ h5, h6.mono e⟩
end
end Fx
set_option Elab.async false
set_option linter.all false
set_option maxRecDepth 100000
set_option maxHeartbeats 4000000
namespace Fx
open PySem L2
section
variable {c : Cf} {B : List (Nat × Addr)} {W : WX} {X : Cx} {G H : Hp} {A : Addr → Prop} {σ : L2.St} {ρ : Cells} {Z : Ends}
end
end Fx
set_option Elab.async false
set_option linter.all false
set_option maxRecDepth 100000
set_option maxHeartbeats 4000000
namespace Fx
open PySem L2
section
variable {c : Cf} {B : List (Nat × Addr)} {W : WX} {X : Cx} {G H : Hp} {A : Addr → Prop} {σ : L2.St} {ρ : Cells} {Z : Ends}
end
section
variable {P : Program} {w : World} {K : PySem.W.Frag} {mg : Str → Option Value} {base : Heap} {c : Cf}
end
section
variable {c : Cf} {B : List (Nat × Addr)} {W : WX} {X : Cx} {G H : Hp} {A : Addr → Prop} {σ : L2.St} {ρ : Cells} {Z : Ends}
end
section
variable {c : Cf} {B : List (Nat × Addr)} {W : WX} {X : Cx} {G H : Hp} {A : Addr → Prop} {σ : L2.St} {ρ : Cells} {Z : Ends}
def SL (c : Cf) (y : Nat) (es : List D) (q : Addr) (σ : L2.St) (G : Hp) : Prop := ∃ (p : Addr) (xs : List V), σ[y]? = some (some (.ref p)) ∧ p ≠ q ∧ G p = some (.lst xs) ∧ RepL c G xs es
theorem SL.mono {y : Nat} {es : List D} {q : Addr} {G' : Hp} (e : Same G G') (h : SL c y es q σ G) : SL c y es q σ G' := by
  obtain ⟨p, xs, h1, h2, h3, h4⟩ := h
  exact ⟨p, xs, h1, h2, e _ _ h3, h4.mono e⟩
theorem S1.set {j y : Nat} {d : D} {q : Addr} {v : Option V} (h : S1 c j d q σ G) (n : y ≠ j) : S1 c j d q (σ.set y v) G := by
  obtain ⟨p, ds, es, vs, ys, o, h1, h2, h3, h4, h5, h6⟩ := h
  exact ⟨p, ds, es, vs, ys, o, h1, by rw [List.getElem?_set_ne n]; exact h2, h3, h4, h5, h6⟩
end
end Fx
set_option Elab.async false
set_option linter.all false
set_option maxRecDepth 100000
set_option maxHeartbeats 4000000
namespace PySem
namespace HandSPX
open Builtin Builtin.ObjectAttr
section
variable {M : Model} {A : Around} {E : Value → Shared → Prop} {hp : Heap} {gs : Array GenState} {dr : Drawn} {t : Nat} {so : OsState}
variable {nm q : Str} {C N : Addr} {bs bm bmB : List Value} {hdct : Bool} {sn : List Str} {sub : List Value} {ab : Bool} {col : Option Bool} {dd : Option Addr} {k0 k1 k2 k3 k5 : Option Value} {B newId initId : String} {kn kn2 : Str} {kv kv2 : Value}
theorem kw2_ckNew (FB0 : ExcBaseFacts B newId initId bmB) (tt0 : ∀ X : String, bm.contains (.type X) = bmB.contains (.type X)) {xs : List Value} {Q : Unit → Shared → Prop}
    (cg0 : hp.get? C = some (excClassObj nm q C N bs bm hdct sn sub ab col dd k0 k1 k2 k3 k5 newId)) (fin0 : Q () ⟨hp, gs, dr, t, so⟩) : wpAny M A (checkBuiltinCall newId ⟨.ref C :: xs, [(kn, kv), (kn2, kv2)]⟩) Q E ⟨hp, gs, dr, t, so⟩ := by
  have k1 : (Value.ref C :: bm).contains (.type B) = true := by rw [List.contains_cons, tt0, FB0.hasB, Bool.or_true]
  have k2 := FB0.noStar
  simp only [checkBuiltinCall, FB0.newKind, FB0.newSplit, FB0.newRow]
  repeat (first | refine wpAny_loadPart_at cg0 ?_ | (refine wpAny_isSubtype_exc cg0 ?_; rw [k1]) | refine wpAny_staticBase_exc cg0 ?_ | refine wpAny_madeBy_exc cg0 ?_ | simp only [bne_self_eq_false, Bool.false_eq_true, if_false] | wp_step)
  exact fin0
end
section
variable {prog : Program} {w : World} {A : Around} {E : Value → Shared → Prop} {R : Result → Shared → Prop} {hp : Heap} {gs : Array GenState} {dr : Drawn} {t : Nat} {so : OsState}
variable {nm q : Str} {C N : Addr} {bs bm bmB : List Value} {hdct : Bool} {sn : List Str} {sub : List Value} {ab : Bool} {col : Option Bool} {dd : Option Addr} {k0 k1 k2 k3 k5 : Option Value} {B newId initId : String} {kn kn2 : Str} {kv kv2 : Value}
theorem kw2_new (FB0 : ExcBaseFacts B newId initId bmB) (tt0 : ∀ X : String, bm.contains (.type X) = bmB.contains (.type X)) {xs : List Value}
    (cg0 : hp.get? C = some (excClassObj nm q C N bs bm hdct sn sub ab col dd k0 k1 k2 k3 k5 newId))
    (fin0 : R (.ok (.ret (.ref (hp.objs.size + 1)))) ⟨(hp.push { cls := .type "tuple", data := .seq xs.toArray }).push
      { cls := .ref C, data := .fields #[.ref hp.objs.size, .none, .none, .none, .bool false, .none] }, gs, dr, t, so⟩) (rl0 : xs.length ≤ sizeLine) :
    codeAny (model prog w) A (.builtin newId ⟨.ref C :: xs, [(kn, kv), (kn2, kv2)]⟩) R ⟨hp, gs, dr, t, so⟩ := by
  have k3 := FB0.ends
  have k4 : (Value.ref C :: bm).contains (.type B) = true := by rw [List.contains_cons, tt0, FB0.hasB, Bool.or_true]
  have k5x : (Value.ref C :: bm).contains (.type "AttributeError") = false := by rw [List.contains_cons, tt0, FB0.noAttr]; rfl
  have k6 : (Value.ref C :: bm).contains (.type "NameError") = false := by rw [List.contains_cons, tt0, FB0.noName]; rfl
  refine codeAny_builtinAt FB0.entry ?_
  unfold Builtin.«BaseException.__new__»
  refine wpAt_bind ?_
  show wpAt _ _ _ (stack >>= _) _ _ _
  refine wpAt_bind (wpAt_stack fun p below => wpAt_of_wpAny ?_)
  wp_walk
  refine wpAt_of_wpAny ?_
  rw [FB0.owner]
  repeat (first | with_reducible refine wpAny_madeHere_exc FB0.canon cg0 ?_ | with_reducible refine wpAny_loadPart_at cg0 ?_ | (with_reducible refine wpAny_isSubtype_exc cg0 ?_; first | rw [k4] | rw [k5x] | rw [k6]) | wp_step)
  show R _ _
  rw [Heap.size_push]
  exact fin0
theorem kw2_type (FB0 : ExcBaseFacts B newId initId bmB) (tt0 : ∀ X : String, bm.contains (.type X) = bmB.contains (.type X)) {xs : List Value} {fI : Addr} {Q : Fin → Shared → Prop}
    (cg0 : hp.get? C = some (excClassObj nm q C N bs bm hdct sn sub ab col dd k0 k1 k2 k3 k5 newId))
    (li0 : W.Looks (model prog w) hp (typeLookup (.ref C) "__init__") (some (.ref fI))) (lb0 : ∀ self, W.Looks (model prog w) hp (bindSpecial (.ref fI) self) (.ref fI, [self])) (rl0 : xs.length ≤ sizeLine)
    (fin0 : codeAny (model prog w) A (.call (.ref fI) ⟨.ref (hp.objs.size + 1) :: xs, [(kn, kv), (kn2, kv2)]⟩)
      (fun r s' => match r with | .ok (.ret v) => v = .none ∧ Q (.done (.ret (.ref (hp.objs.size + 1)))) s' | .ok _ => False | .error e => E e s')
      ⟨(hp.push (W.kdv_tup xs)).push (excO C hp.objs.size), gs, dr, t, so⟩) :
    wpAny (model prog w) A (Builtin.«type.__call__» ⟨.ref C :: xs, [(kn, kv), (kn2, kv2)]⟩) Q E ⟨hp, gs, dr, t, so⟩ := by
  repeat (first | with_reducible refine wpAny_loadPart_at cg0 ?_ | with_reducible refine wpAny_madeBy_exc cg0 ?_ | wp_step)
  refine codeAny_call_builtin_code (Code.quiet_builtin _ FB0.quiet) (kw2_ckNew FB0 tt0 cg0 ?_)
  refine kw2_new FB0 tt0 cg0 ?_ rl0
  show wpAny _ _ _ _ _ _
  have k : ∀ b o, hp.get? b = some o → ((hp.push (W.kdv_tup xs)).push (excO C hp.objs.size)).get? b = some o := fun b o e => Heap.get?_push_of_some _ (Heap.get?_push_of_some _ e)
  have cg1 := k _ _ cg0
  have gt0 : ((hp.push (W.kdv_tup xs)).push (excO C hp.objs.size)).get? (hp.objs.size + 1) = some (excO C hp.objs.size) := by heap_get
  have k7 : (Value.ref C :: bm).contains (.ref C) = true := by simp
  have li1 := li0.keeps k
  have lb1 := (lb0 (.ref (hp.objs.size + 1))).keeps k
  unfold isInstance
  repeat (first | with_reducible refine wpAny_loadPart_at gt0 ?_ | (with_reducible refine wpAny_isSubtype_exc cg1 ?_; rw [k7]) | wp_step)
  show wpAny _ _ (typeLookup (.ref C) _) _ _ _
  refine li1.at ?_
  refine wpAny_holding (wpAny_bind (lb1.at ?_))
  refine wpAny_bind (wpAny_call (codeAny_mono fin0 fun r s' z => ?_))
  rcases r with e | (v | _ | _ | _) <;> first | exact z | exact z.elim | skip
  obtain ⟨rfl, z⟩ := z
  first
    | exact wpAny_pure (wpAny_pure z)
    | (wp_walk; exact z)
theorem kw2_call (FB0 : ExcBaseFacts B newId initId bmB) (tt0 : ∀ X : String, bm.contains (.type X) = bmB.contains (.type X)) {xs : List Value} {fI : Addr}
    (cg0 : hp.get? C = some (excClassObj nm q C N bs bm hdct sn sub ab col dd k0 k1 k2 k3 k5 newId))
    (li0 : W.Looks (model prog w) hp (typeLookup (.ref C) "__init__") (some (.ref fI))) (lb0 : ∀ self, W.Looks (model prog w) hp (bindSpecial (.ref fI) self) (.ref fI, [self])) (rl0 : xs.length ≤ sizeLine)
    (fin0 : codeAny (model prog w) (A.under (.builtin "type.__call__" ⟨.ref C :: xs, [(kn, kv), (kn2, kv2)]⟩)) (.call (.ref fI) ⟨.ref (hp.objs.size + 1) :: xs, [(kn, kv), (kn2, kv2)]⟩) (W.InitBack (hp.objs.size + 1) R)
      ⟨(hp.push (W.kdv_tup xs)).push (excO C hp.objs.size), gs, dr, t, so⟩) :
    codeAny (model prog w) A (.call (.ref C) ⟨xs, [(kn, kv), (kn2, kv2)]⟩) R ⟨hp, gs, dr, t, so⟩ := by
  have e1 := tc_lookup
  have e2 := tc_bind (.ref C)
  have ty0 : (⟨hp, gs, dr, t, so⟩ : Shared).TypeIs (.ref C) "type" := ⟨_, cg0, rfl⟩
  refine codeAny_of_tree ?_
  show wpAny _ _ (callAny (.ref C) _) _ _ _
  repeat (any_goals (first | assumption | with_reducible refine wpAny_loadPart_at cg0 ?_ | wp_step))
  refine ⟨rfl, ?_⟩
  refine codeAny_call_builtin_at (Code.quiet_builtin _ (by decide +kernel)) entry_typeCall (wpAny_check_type_call_sub cg0 (kw2_type FB0 tt0 cg0 li0 lb0 rl0 ?_))
  refine codeAny_mono fin0 fun r s' z => ?_
  rcases r with e | (v | _ | _ | _) <;> exact z
end
end HandSPX
end PySem
namespace Fx
open PySem L2 PySem.Spec PyProof.Rows
def tMkE (C : Addr) (sp : Sp) (dvs : List V) (ta : TA) : TE := fun σ H Q => ta σ H fun vs H1 => vs.length ≤ 1000 ∧ ∀ a, H1 a = none → sp (.ref a :: (vs ++ dvs)) (upd H1 a (exo a C none))
  (fun v H2 => v = .non ∧ Q (.ref a) H2) (fun _ _ _ => False)
theorem pe_oex {X : Cx} {CX : CXT} {x : Str} {e : Expr} {es : List Expr} {ta : TA} {p pos : Pos} {C fI : Addr} {k : Nat} {fd : FuncData} {ps : List Str} {sp : Sp} {ds : List Value} {dvs : List V} (T : OexC X.K C) (iC : PySem.W.findIn X.K (.ref C) "__init__" = some (some (.ref fI))) (tI : PySem.W.typeIn X.K (.ref fI) = some (.type "function"))
    (F1 : FnOk X.prog X.w X.K X.mg X.base CX k fI fd ps sp) (hr : Room (k + 1) X.A) (hb : Binds X.K fd ps ds) (hd : Vals dvs ds) (hx : Passes CX X (fun _ _ _ => False)) (hg : Gl X x) (hm : X.mg x = some (.ref C)) (ha : PA X (e :: es) ta)
    (hdb : (x == ("__debug__" : Str)) = false) (he : starEach (e :: es) X.env = (false, eval e X.env) :: starEach es X.env) (hpl : (backTo pos (starEach es X.env)).any (·.1) = false) :
    PE X (.Call (.Name x p) (e :: es) [] pos) (tMkE C sp dvs ta) := by
  refine ⟨fun pins s σ H Q I h => ?_⟩
  obtain ⟨nm, q, N, bs, bm, sn, sub, ab, col, dd, k0, k1, k2, k3, k5, hC, hbm⟩ := T.cls
  refine wpAny_Call_Name_kw (ld_glob I hg hm ?_ hdb)
  refine PySem.W.callWith_K (h₀ := X.base) I.ok.mod.kin T.kC (thn (ha.run pos pins s σ H _ I h) fun us s1 ⟨vs, H1, I1, r1, hz, q1⟩ => ⟨I1.kIn, ?_⟩) he hpl
  show wpAny _ _ (call (.ref C) us) _ _ _
  obtain ⟨hp, g, dr, tk, os⟩ := s1
  have hsz : hp.objs.size ≤ hp.objs.size + 1 := Nat.le_succ _
  have hn : H1 (hp.objs.size + 1) = none := I1.hok.fresh hsz
  have hq := q1 (hp.objs.size + 1) hn
  have kk : ∀ b o, hp.get? b = some o → ((hp.push (PySem.W.kdv_tup us)).push (PySem.HandSPX.excO C hp.objs.size)).get? b = some o := fun b o e => Heap.get?_push_of_some _ (Heap.get?_push_of_some _ e)
  have hget : ((hp.push (PySem.W.kdv_tup us)).push (PySem.HandSPX.excO C hp.objs.size)).get? (hp.objs.size + 1) = some (PySem.HandSPX.excO C hp.objs.size) := by heap_get
  have I2 : Inv X pins σ (upd H1 (hp.objs.size + 1) (exo (hp.objs.size + 1) C none)) ⟨(hp.push (PySem.W.kdv_tup us)).push (PySem.HandSPX.excO C hp.objs.size), g, dr, tk, os⟩ :=
    I1.laid (t' := tk) (a := hp.objs.size + 1) (o := exo (hp.objs.size + 1) C none) (h' := (hp.push (PySem.W.kdv_tup us)).push (PySem.HandSPX.excO C hp.objs.size)) kk hsz (exo_ok hget)
  have r2 : Vals (V.ref (hp.objs.size + 1) :: (vs ++ dvs)) (Value.ref (hp.objs.size + 1) :: (us ++ ds)) := .cons rfl (r1.append hd)
  have hl : (Value.ref (hp.objs.size + 1) :: us ++ ds).length = ps.length := by
    have e := r2.length
    rw [F1.len _ _ _ _ hq] at e
    exact e.symm
  have hus : us.length ≤ sizeLine := by
    rw [← Paired.length r1, sizeLine_eq]
    omega
  refine wpAny_call (PySem.HandSPX.call_own F.excBase_ValueError (fun Y => PySem.HandSPX.refsVE_contains Y bm hbm) (I1.kIn _ _ hC) (PySem.W.looks_findIn I1.kIn iC) (fun self => PySem.W.bind_fn I1.kIn self tI) hus
    (codeAny_mono (F1.run _ X.stack _ _ ⟨Value.ref (hp.objs.size + 1) :: us, []⟩ (Value.ref (hp.objs.size + 1) :: (us ++ ds)) _ _ (fun _ _ _ => False) (hr.make C us []) (I2.env0.make C us []) (hb _ (Value.ref (hp.objs.size + 1) :: us) I2.kIn hl) r2 hq) fun r s' hq' => ?_))
  cases r with
  | error er => exact hx pins σ _ _ er s' I2 hq'
  | ok fl =>
    cases fl with
    | ret u =>
      obtain ⟨v, H2, os2, bare2, un2, hok2, rv, ev, q2⟩ := hq'
      subst ev
      exact ⟨rv, .ref (hp.objs.size + 1), H2, I2.call' (ch := []) os2 un2 hok2 bare2 (fun y hy => absurd hy (by simp)), rfl, q2⟩
    | next => exact False.elim hq'
    | brk => exact False.elim hq'
    | cont => exact False.elim hq'
def tMkEK (n : Nat) (C : Addr) (sp : Sp) (gV : List V → List V) (ta : TA) : TE := fun σ H Q => ta σ H fun vs H1 => vs.length = n ∧ ∀ a, H1 a = none → sp (.ref a :: gV vs) (upd H1 a (exo a C none))
  (fun v H2 => v = .non ∧ Q (.ref a) H2) (fun _ _ _ => False)
theorem pe_kw1 {X : Cx} {CX : CXT} {x kn : Str} {C fI : Addr} {k : Nat} {fd : FuncData} {ps : List Str} {sp : Sp} {ta : TA} {p pos : Pos} {kws : List Keyword} (T : OexC X.K C) (iC : PySem.W.findIn X.K (.ref C) "__init__" = some (some (.ref fI))) (tI : PySem.W.typeIn X.K (.ref fI) = some (.type "function"))
    (F1 : FnOk X.prog X.w X.K X.mg X.base CX k fI fd ps sp) (hr : Room (k + 1) X.A) (hb : KBn X.K fd ps 1 [kn] (fun us ws => us ++ ws) (fun vs zs => vs ++ zs)) (hx : Passes CX X (fun _ _ _ => False)) (hg : Gl X x) (hm : X.mg x = some (.ref C)) (hkw : PK X kws ta)
    (hall : (backToKw pos (keywordEach kws X.env)).all (·.1.isSome) = true) (hks : (backToKw pos (keywordEach kws X.env)).filterMap (·.1) = [kn]) (hdb : (x == ("__debug__" : Str)) = false)
    (hpl : ((backTo pos (starEach [] X.env)).any (·.1) || (backToKw pos (keywordEach kws X.env)).any (·.1.isNone)) = false) :
    PE X (.Call (.Name x p) [] kws pos) (tMkEK 1 C sp id ta) := by
  refine ⟨fun pins s σ H Q I ask => ?_⟩
  obtain ⟨nm, q, N, bs, bm, sn, sub, ab, col, dd, k0, k1, k2, k3, k5, cg, refs⟩ := T.cls
  refine wpAny_Call_Name_kw (ld_glob I hg hm ?_ hdb)
  refine PySem.W.callWith_KW0 (h₀ := X.base) I.ok.mod.kin T.kC hall (thn (hkw.run pos pins s σ H _ I ask) fun ws s1 ⟨vs, H1, J, r1, one, q1⟩ => ⟨J.kIn, ?_⟩) hpl
  rw [hks]
  have l2 : ws.length = 1 := (r1.length).symm.trans one
  match ws, l2, r1 with
  | [wv], _, r1 =>
  obtain ⟨hp, gs, dr, tk, so⟩ := s1
  have up : hp.objs.size ≤ hp.objs.size + 1 := Nat.le_succ _
  have fr : H1 (hp.objs.size + 1) = none := J.hok.fresh up
  have ask2 := q1 (hp.objs.size + 1) fr
  have keep : ∀ b o, hp.get? b = some o → ((hp.push (PySem.W.kdv_tup [])).push (PySem.HandSPX.excO C hp.objs.size)).get? b = some o := fun b o e => Heap.get?_push_of_some _ (Heap.get?_push_of_some _ e)
  have got : ((hp.push (PySem.W.kdv_tup [])).push (PySem.HandSPX.excO C hp.objs.size)).get? (hp.objs.size + 1) = some (PySem.HandSPX.excO C hp.objs.size) := by heap_get
  have J2 : Inv X pins σ (upd H1 (hp.objs.size + 1) (exo (hp.objs.size + 1) C none)) ⟨(hp.push (PySem.W.kdv_tup [])).push (PySem.HandSPX.excO C hp.objs.size), gs, dr, tk, so⟩ :=
    J.laid (t' := tk) (a := hp.objs.size + 1) (o := exo (hp.objs.size + 1) C none) (h' := (hp.push (PySem.W.kdv_tup [])).push (PySem.HandSPX.excO C hp.objs.size)) keep up (exo_ok got)
  have rel : Vals (V.ref (hp.objs.size + 1) :: vs) (Value.ref (hp.objs.size + 1) :: [wv]) := .cons rfl r1
  show wpAny _ _ (call (.ref C) [] [(kn, wv)]) _ _ _
  refine wpAny_call (PySem.HandSPX.kw_call F.excBase_ValueError (fun Y => PySem.HandSPX.refsVE_contains Y bm refs) (J.kIn _ _ cg) (PySem.W.looks_findIn J.kIn iC) (fun self => PySem.W.bind_fn J.kIn self tI) (by simp)
    (codeAny_mono (F1.run _ X.stack _ _ ⟨[Value.ref (hp.objs.size + 1)], [(kn, wv)]⟩ (Value.ref (hp.objs.size + 1) :: [wv]) _ _ (fun _ _ _ => False) (hr.make C [] [(kn, wv)]) (J2.env0.make C [] [(kn, wv)]) (hb.to _ [Value.ref (hp.objs.size + 1)] [wv] J2.kIn rfl rfl) rel ask2) fun r s' hq => ?_))
  cases r with
  | error er => exact hx pins σ _ _ er s' J2 hq
  | ok fl =>
    cases fl with
    | ret u =>
      obtain ⟨v, H2, os2, bare2, un2, hok2, rv, ev, q2⟩ := hq
      subst ev
      exact ⟨rv, .ref (hp.objs.size + 1), H2, J2.call' (ch := []) os2 un2 hok2 bare2 (fun y hy => absurd hy (by simp)), rfl, q2⟩
    | next => exact False.elim hq
    | brk => exact False.elim hq
    | cont => exact False.elim hq
/-- the two keywords come in the other order -/
theorem pe_kw2 {X : Cx} {CX : CXT} {x kn kn2 : Str} {C fI : Addr} {k : Nat} {fd : FuncData} {ps : List Str} {sp : Sp} {ta : TA} {p pos : Pos} {kws : List Keyword} (T : OexC X.K C) (iC : PySem.W.findIn X.K (.ref C) "__init__" = some (some (.ref fI))) (tI : PySem.W.typeIn X.K (.ref fI) = some (.type "function"))
    (F1 : FnOk X.prog X.w X.K X.mg X.base CX k fI fd ps sp) (hr : Room (k + 1) X.A) (hb : KBn X.K fd ps 1 [kn, kn2] (fun us ws => us ++ ws.reverse) (fun vs zs => vs ++ zs.reverse)) (hx : Passes CX X (fun _ _ _ => False)) (hg : Gl X x) (hm : X.mg x = some (.ref C)) (hkw : PK X kws ta)
    (hall : (backToKw pos (keywordEach kws X.env)).all (·.1.isSome) = true) (hks : (backToKw pos (keywordEach kws X.env)).filterMap (·.1) = [kn, kn2]) (hdb : (x == ("__debug__" : Str)) = false)
    (hpl : ((backTo pos (starEach [] X.env)).any (·.1) || (backToKw pos (keywordEach kws X.env)).any (·.1.isNone)) = false) :
    PE X (.Call (.Name x p) [] kws pos) (tMkEK 2 C sp List.reverse ta) := by
  refine ⟨fun pins s σ H Q I ask => ?_⟩
  obtain ⟨nm, q, N, bs, bm, sn, sub, ab, col, dd, k0, k1, k2, k3, k5, cg, refs⟩ := T.cls
  refine wpAny_Call_Name_kw (ld_glob I hg hm ?_ hdb)
  refine PySem.W.callWith_KW0 (h₀ := X.base) I.ok.mod.kin T.kC hall (thn (hkw.run pos pins s σ H _ I ask) fun ws s1 ⟨vs, H1, J, r1, one, q1⟩ => ⟨J.kIn, ?_⟩) hpl
  rw [hks]
  have l2 : ws.length = 2 := (r1.length).symm.trans one
  match ws, vs, l2, one, r1 with
  | [wv, wv2], [zv, zv2], _, _, r1 =>
  obtain ⟨hp, gs, dr, tk, so⟩ := s1
  have up : hp.objs.size ≤ hp.objs.size + 1 := Nat.le_succ _
  have fr : H1 (hp.objs.size + 1) = none := J.hok.fresh up
  have ask2 := q1 (hp.objs.size + 1) fr
  have keep : ∀ b o, hp.get? b = some o → ((hp.push (PySem.W.kdv_tup [])).push (PySem.HandSPX.excO C hp.objs.size)).get? b = some o := fun b o e => Heap.get?_push_of_some _ (Heap.get?_push_of_some _ e)
  have got : ((hp.push (PySem.W.kdv_tup [])).push (PySem.HandSPX.excO C hp.objs.size)).get? (hp.objs.size + 1) = some (PySem.HandSPX.excO C hp.objs.size) := by heap_get
  have J2 : Inv X pins σ (upd H1 (hp.objs.size + 1) (exo (hp.objs.size + 1) C none)) ⟨(hp.push (PySem.W.kdv_tup [])).push (PySem.HandSPX.excO C hp.objs.size), gs, dr, tk, so⟩ :=
    J.laid (t' := tk) (a := hp.objs.size + 1) (o := exo (hp.objs.size + 1) C none) (h' := (hp.push (PySem.W.kdv_tup [])).push (PySem.HandSPX.excO C hp.objs.size)) keep up (exo_ok got)
  have rel : Vals (V.ref (hp.objs.size + 1) :: [zv2, zv]) (Value.ref (hp.objs.size + 1) :: [wv2, wv]) := by
    cases r1 with
    | cons a rr => cases rr with
      | cons b rr => cases rr; exact .cons rfl (.cons b (.cons a .nil))
  show wpAny _ _ (call (.ref C) [] [(kn, wv), (kn2, wv2)]) _ _ _
  refine wpAny_call (PySem.HandSPX.kw2_call F.excBase_ValueError (fun Y => PySem.HandSPX.refsVE_contains Y bm refs) (J.kIn _ _ cg) (PySem.W.looks_findIn J.kIn iC) (fun self => PySem.W.bind_fn J.kIn self tI) (by simp)
    (codeAny_mono (F1.run _ X.stack _ _ ⟨[Value.ref (hp.objs.size + 1)], [(kn, wv), (kn2, wv2)]⟩ (Value.ref (hp.objs.size + 1) :: [wv2, wv]) _ _ (fun _ _ _ => False) (hr.make C [] [(kn, wv), (kn2, wv2)]) (J2.env0.make C [] [(kn, wv), (kn2, wv2)]) (hb.to _ [Value.ref (hp.objs.size + 1)] [wv, wv2] J2.kIn rfl rfl) rel ask2) fun r s' hq => ?_))
  cases r with
  | error er => exact hx pins σ _ _ er s' J2 hq
  | ok fl =>
    cases fl with
    | ret u =>
      obtain ⟨v, H2, os2, bare2, un2, hok2, rv, ev, q2⟩ := hq
      subst ev
      exact ⟨rv, .ref (hp.objs.size + 1), H2, J2.call' (ch := []) os2 un2 hok2 bare2 (fun y hy => absurd hy (by simp)), rfl, q2⟩
    | next => exact False.elim hq
    | brk => exact False.elim hq
    | cont => exact False.elim hq
end Fx
set_option Elab.async false
set_option linter.all false
set_option maxRecDepth 100000
set_option maxHeartbeats 4000000
namespace Fx
open PySem L2 PySem.Spec PyProof.Rows
def mErrP (x : Nat) (fs : List (M D)) : M D := (seqM fs).bind fun ds => M.pure (.exc (x + 2) ds.reverse)
def mErrK (x : Nat) (fs : List (M D)) : M D := (seqM fs).bind fun ds => M.pure (.exc (x + 2) ds)
/-- the i-th field of an error of the class k0 -/
def sXf (k0 i : Nat) : D → Option D
  | .exc (k + 2) ds => if k = k0 then ds[i]? else none
  | _ => none
def mXf (k0 i : Nat) (f : M D) : M D := f.bind fun d => M.lift (sXf k0 i d)
/-- isinstance, by the class's number -/
def sIsErr (bs : List Bool) : D → Option D
  | .exc (k + 2) _ => (bs[k]?).map D.bl
  | _ => none
def mIsE (bs : List Bool) (f : M D) : M D := f.bind fun d => M.lift (sIsErr bs d)
section
variable {c : Cf} {B : List (Nat × Addr)} {W : WX} {X : Cx} {G H : Hp} {A : Addr → Prop} {σ : L2.St} {ρ : Cells}
theorem err_new (R : Rel c B G A H σ ρ) {x : Nat} {xs : List V} {ds : List D} {b dx : Addr} {fs : List (Str × V)} {H2 : Hp} (hb : H b = none) (hd : H dx = none) (ne : dx ≠ b) (hfs : fs = (c.flds x).zip xs) (hl : (c.flds x).length = xs.length) (r : RepL c G xs ds)
    (e1 : H2 b = some (exo b (c.exc x) (some dx))) (e2 : H2 dx = some (exd dx fs)) (e3 : ∀ y, y ≠ b → y ≠ dx → H2 y = H y) :
    ∃ G2, Same G G2 ∧ Keep A G H G2 H2 ∧ Rel c B G2 A H2 σ ρ ∧ Rep c G2 (.ref b) (.exc (x + 2) ds) := by
  have gb : G b = none := R.same.free hb
  have gd : G dx = none := R.same.free hd
  have sG : Same G (upd (upd G b (exo b (c.exc x) (some dx))) dx (exd dx fs)) := (same_upd gb).trans (same_upd (by rw [upd_ne ne]; exact gd))
  have at_d : (upd (upd G b (exo b (c.exc x) (some dx))) dx (exd dx fs)) dx = some (exd dx fs) := upd_same
  have at_b : (upd (upd G b (exo b (c.exc x) (some dx))) dx (exd dx fs)) b = some (exo b (c.exc x) (some dx)) := by rw [upd_ne (Ne.symm ne)]; exact upd_same
  have at_o : ∀ y, y ≠ b → y ≠ dx → (upd (upd G b (exo b (c.exc x) (some dx))) dx (exd dx fs)) y = G y := fun y h1 h2 => by rw [upd_ne h2, upd_ne h1]
  have hh : Same H H2 := fun y u e => by rw [e3 y (ne_of_none e hb) (ne_of_none e hd)]; exact e
  have new : ∀ y u, H y = some u → (upd (upd G b (exo b (c.exc x) (some dx))) dx (exd dx fs)) y = G y := fun y u e => at_o y (ne_of_none e hb) (ne_of_none e hd)
  have gh : Same (upd (upd G b (exo b (c.exc x) (some dx))) dx (exd dx fs)) H2 := fun y u e => by
    by_cases z : y = b
    · rw [z] at e ⊢; rw [at_b] at e; rw [e1]; exact e
    · by_cases z2 : y = dx
      · rw [z2] at e ⊢; rw [at_d] at e; rw [e2]; exact e
      · rw [at_o y z z2] at e; rw [e3 y z z2]; exact R.same y u e
  exact ⟨_, sG, fun y u e _ => ⟨hh y u e, new y u e⟩, R.ext ⟨sG, hh, gh, new⟩, .err at_b (by rw [← hfs]; exact at_d) hl (r.mono sG)⟩
theorem pe_err1 {x : Nat} {nm f : Str} {fI : Addr} {k : Nat} {fd : FuncData} {ps : List Str} {e : Expr} {fe : M D} {p pos : Pos} (T : XcK c X.K X.mg x nm fI) (hf : c.flds x = [f])
    (F1 : FnOk X.prog X.w X.K X.mg X.base (L2.CX X.prog X.w) k fI fd ps (spI1 (c.exc x) f)) (hr : Room (k + 1) X.A) (hb : Binds X.K fd ps []) (ha : PE X e (tM c B W fe)) (hg : Gl X nm)
    (hdb : (nm == ("__debug__" : Str)) = false) (he : starEach (e :: []) X.env = (false, eval e X.env) :: starEach [] X.env) (hpl : (backTo pos (starEach [] X.env)).any (·.1) = false) :
    PE X (.Call (.Name nm p) [e] [] pos) (tM c B W (mErrP x [fe])) :=
  pe_imp (pe_oex T.oex T.iC T.tI F1 hr hb .nil passL hg T.gC (pd_cons ha pd_nil he) hdb he hpl) fun σ H Q ⟨G, A, ρ, R, a⟩ => by
    refine ⟨G, A, ρ, R, After.imp (a.split).len fun ds ρ' G' H' _ _ R' ⟨hl, q⟩ vs r => ?_⟩
    match ds, hl with
    | [d1], _ =>
      obtain ⟨v, rfl, rv⟩ := repL1 r
      refine ⟨by simp, fun b nb => ⟨b, v, rfl, upd_same, fun dx n ne => ⟨rfl, ?_⟩⟩⟩
      have n' : H' dx = none := by rw [upd_ne ne] at n; exact n
      obtain ⟨G2, s2, k2, R2, r2⟩ := err_new (x := x) (xs := [v]) (ds := [d1]) (fs := [(f, v)]) R' nb n' ne (by rw [hf]; rfl) (by rw [hf]; rfl) (.one rv) (H2 := upd (upd (upd H' b (exo b (c.exc x) none)) dx (exd dx [(f, v)])) b (exo b (c.exc x) (some dx))) upd_same (by rw [upd_ne ne, upd_same]) fun y h1 h2 => by rw [upd_ne h1, upd_ne h2, upd_ne h1]
      exact q G2 _ s2 k2 R2 _ r2
theorem pe_err2 {x : Nat} {nm f g : Str} {fI : Addr} {k : Nat} {fd : FuncData} {ps : List Str} {e e2 : Expr} {fe fe2 : M D} {p pos : Pos} (T : XcK c X.K X.mg x nm fI) (hf : c.flds x = [g, f])
    (F1 : FnOk X.prog X.w X.K X.mg X.base (L2.CX X.prog X.w) k fI fd ps (spI2 (c.exc x) f g)) (hr : Room (k + 1) X.A) (hb : Binds X.K fd ps []) (ha : PE X e (tM c B W fe)) (ha2 : PE X e2 (tM c B W fe2)) (hg : Gl X nm)
    (hdb : (nm == ("__debug__" : Str)) = false) (he : starEach (e :: [e2]) X.env = (false, eval e X.env) :: starEach [e2] X.env) (he2 : starEach [e2] X.env = (false, eval e2 X.env) :: starEach [] X.env) (hpl : (backTo pos (starEach [e2] X.env)).any (·.1) = false) :
    PE X (.Call (.Name nm p) [e, e2] [] pos) (tM c B W (mErrP x [fe, fe2])) :=
  pe_imp (pe_oex T.oex T.iC T.tI F1 hr hb .nil passL hg T.gC (pd_cons ha (pd_cons ha2 pd_nil he2) he) hdb he hpl) fun σ H Q ⟨G, A, ρ, R, a⟩ => by
    refine ⟨G, A, ρ, R, After.imp (a.split).len fun ds ρ' G' H' _ _ R' ⟨hl, q⟩ vs r => ?_⟩
    match ds, hl with
    | [d1, d2], _ =>
      cases r with
      | @cons v _ _ _ rv rt =>
        obtain ⟨w, rfl, rw'⟩ := repL1 rt
        refine ⟨by simp, fun b nb => ⟨b, v, w, rfl, upd_same, fun dx n ne => ⟨rfl, ?_⟩⟩⟩
        have n' : H' dx = none := by rw [upd_ne ne] at n; exact n
        obtain ⟨G2, s2, k2, R2, r2⟩ := err_new (x := x) (xs := [w, v]) (ds := [d2, d1]) (fs := [(g, w), (f, v)]) R' nb n' ne (by rw [hf]; rfl) (by rw [hf]; rfl) (.cons rw' (.one rv)) (H2 := upd (upd (upd (upd H' b (exo b (c.exc x) none)) dx (exd dx [(f, v)])) b (exo b (c.exc x) (some dx))) dx (exd dx [(g, w), (f, v)])) (by rw [upd_ne (Ne.symm ne), upd_same]) upd_same fun y h1 h2 => by rw [upd_ne h2, upd_ne h1, upd_ne h2, upd_ne h1]
        exact q G2 _ s2 k2 R2 _ r2
theorem pe_errK1 {x : Nat} {nm f : Str} {fI : Addr} {k : Nat} {fd : FuncData} {ps : List Str} {e : Expr} {fe : M D} {p pos kpos : Pos} (T : XcK c X.K X.mg x nm fI) (hf : c.flds x = [f])
    (F1 : FnOk X.prog X.w X.K X.mg X.base (L2.CX X.prog X.w) k fI fd ps (spI1 (c.exc x) f)) (hr : Room (k + 1) X.A) (hb : KBn X.K fd ps 1 [f] (fun us ws => us ++ ws) (fun vs zs => vs ++ zs)) (ha : PE X e (tM c B W fe)) (hg : Gl X nm)
    (hall : (backToKw pos (keywordEach [⟨some f, e, kpos⟩] X.env)).all (·.1.isSome) = true) (hks : (backToKw pos (keywordEach [⟨some f, e, kpos⟩] X.env)).filterMap (·.1) = [f])
    (hdb : (nm == ("__debug__" : Str)) = false) (hpl : ((backTo pos (starEach [] X.env)).any (·.1) || (backToKw pos (keywordEach [⟨some f, e, kpos⟩] X.env)).any (·.1.isNone)) = false) :
    PE X (.Call (.Name nm p) [] [⟨some f, e, kpos⟩] pos) (tM c B W (mErrK x [fe])) :=
  pe_imp (pe_kw1 T.oex T.iC T.tI F1 hr hb passL hg T.gC (pkd_cons ha pkd_nil) hall hks hdb hpl) fun σ H Q ⟨G, A, ρ, R, a⟩ => by
    refine ⟨G, A, ρ, R, After.imp (a.split).len fun ds ρ' G' H' _ _ R' ⟨hl, q⟩ vs r => ?_⟩
    match ds, hl with
    | [d1], _ =>
      obtain ⟨v, rfl, rv⟩ := repL1 r
      refine ⟨rfl, fun b nb => ⟨b, v, rfl, upd_same, fun dx n ne => ⟨rfl, ?_⟩⟩⟩
      have n' : H' dx = none := by rw [upd_ne ne] at n; exact n
      obtain ⟨G2, s2, k2, R2, r2⟩ := err_new (x := x) (xs := [v]) (ds := [d1]) (fs := [(f, v)]) R' nb n' ne (by rw [hf]; rfl) (by rw [hf]; rfl) (.one rv) (H2 := upd (upd (upd H' b (exo b (c.exc x) none)) dx (exd dx [(f, v)])) b (exo b (c.exc x) (some dx))) upd_same (by rw [upd_ne ne, upd_same]) fun y h1 h2 => by rw [upd_ne h1, upd_ne h2, upd_ne h1]
      exact q G2 _ s2 k2 R2 _ r2
theorem pe_errK2 {x : Nat} {nm f g : Str} {fI : Addr} {k : Nat} {fd : FuncData} {ps : List Str} {e e2 : Expr} {fe fe2 : M D} {p pos kpos kpos2 : Pos} (T : XcK c X.K X.mg x nm fI) (hf : c.flds x = [g, f])
    (F1 : FnOk X.prog X.w X.K X.mg X.base (L2.CX X.prog X.w) k fI fd ps (spI2 (c.exc x) f g)) (hr : Room (k + 1) X.A) (hb : KBn X.K fd ps 1 [g, f] (fun us ws => us ++ ws.reverse) (fun vs zs => vs ++ zs.reverse)) (ha : PE X e (tM c B W fe)) (ha2 : PE X e2 (tM c B W fe2)) (hg : Gl X nm)
    (hall : (backToKw pos (keywordEach [⟨some g, e, kpos⟩, ⟨some f, e2, kpos2⟩] X.env)).all (·.1.isSome) = true) (hks : (backToKw pos (keywordEach [⟨some g, e, kpos⟩, ⟨some f, e2, kpos2⟩] X.env)).filterMap (·.1) = [g, f])
    (hdb : (nm == ("__debug__" : Str)) = false) (hpl : ((backTo pos (starEach [] X.env)).any (·.1) || (backToKw pos (keywordEach [⟨some g, e, kpos⟩, ⟨some f, e2, kpos2⟩] X.env)).any (·.1.isNone)) = false) :
    PE X (.Call (.Name nm p) [] [⟨some g, e, kpos⟩, ⟨some f, e2, kpos2⟩] pos) (tM c B W (mErrK x [fe, fe2])) :=
  pe_imp (pe_kw2 T.oex T.iC T.tI F1 hr hb passL hg T.gC (pkd_cons ha (pkd_cons ha2 pkd_nil)) hall hks hdb hpl) fun σ H Q ⟨G, A, ρ, R, a⟩ => by
    refine ⟨G, A, ρ, R, After.imp (a.split).len fun ds ρ' G' H' _ _ R' ⟨hl, q⟩ vs r => ?_⟩
    match ds, hl with
    | [d1, d2], _ =>
      cases r with
      | @cons w _ _ _ rw' rt =>
        obtain ⟨v, rfl, rv⟩ := repL1 rt
        refine ⟨rfl, fun b nb => ⟨b, v, w, rfl, upd_same, fun dx n ne => ⟨rfl, ?_⟩⟩⟩
        have n' : H' dx = none := by rw [upd_ne ne] at n; exact n
        obtain ⟨G2, s2, k2, R2, r2⟩ := err_new (x := x) (xs := [w, v]) (ds := [d1, d2]) (fs := [(g, w), (f, v)]) R' nb n' ne (by rw [hf]; rfl) (by rw [hf]; rfl) (.cons rw' (.one rv)) (H2 := upd (upd (upd (upd H' b (exo b (c.exc x) none)) dx (exd dx [(f, v)])) b (exo b (c.exc x) (some dx))) dx (exd dx [(g, w), (f, v)])) (by rw [upd_ne (Ne.symm ne), upd_same]) upd_same fun y h1 h2 => by rw [upd_ne h2, upd_ne h1, upd_ne h2, upd_ne h1]
        exact q G2 _ s2 k2 R2 _ r2
theorem zip_look {ns : List Str} {xs : List V} {ds : List D} (r : RepL c G xs ds) (hn : ns.Nodup) {i : Nat} {f : Str} {d : D} (h1 : ns[i]? = some f) (h2 : ds[i]? = some d) : ∃ v, (ns.zip xs).lookup f = some v ∧ Rep c G v d := by
  induction ns generalizing xs ds i with
  | nil => simp at h1
  | cons n ns ih =>
    cases r with
    | nil => simp at h2
    | @cons v vs d' ds' rv rt =>
      rw [List.nodup_cons] at hn
      cases i with
      | zero =>
        simp only [List.getElem?_cons_zero, Option.some.injEq] at h1 h2
        subst h1 h2
        exact ⟨v, by simp [List.zip_cons_cons, List.lookup], rv⟩
      | succ i =>
        rw [List.getElem?_cons_succ] at h1 h2
        obtain ⟨v', e, rv'⟩ := ih rt hn.2 h1 h2
        refine ⟨v', ?_, rv'⟩
        have hne : (f == n) = false := by
          apply Bool.eq_false_iff.mpr
          intro z
          have : f = n := eq_of_beq z
          subst this
          exact hn.1 (List.mem_of_getElem? h1)
        rw [List.zip_cons_cons]
        unfold List.lookup
        rw [hne]
        exact e
theorem pm_xf {k0 i : Nat} {nm f : Str} {fs : List Str} {e : Expr} {fe : M D} {apos : Pos} (T : CatX X.K X.mg c k0 nm fs) (ha : PE X e (tM c B W fe)) (hi : fs[i]? = some f := by rfl) (hn : fs.Nodup := by decide)
    (hat : attributeBase e f X.env (eval e X.env) = eval e X.env := by rfl) : PE X (.Attribute e f apos) (tM c B W (mXf k0 i fe)) := by
  refine ⟨fun pins s σ H Q I ⟨G, A, ρ, R, a⟩ => ?_⟩
  refine attr_of hat (thn (ha.run pins s σ H (fun v H' => ∃ b dx xs, v = .ref b ∧ H' b = some (exo b (c.exc k0) (some dx)) ∧ H' dx = some (exd dx (fs.zip xs)) ∧ ∃ w, (fs.zip xs).lookup f = some w ∧ Q w H') I ⟨G, A, ρ, R, ?_⟩) fun u s1 hu => ?_)
  · refine After.imp a.split fun d ρ1 G1 H1 _ _ R1 q v r => ?_
    have q : After c B W G1 A H1 σ (M.lift (sXf k0 i d) ρ1) (fun d _ G' H' => ∀ v, Rep c G' v d → Q v H') := q
    obtain ⟨k, ds, rfl⟩ : ∃ k ds, d = .exc k ds := by cases d <;> first | exact q.elim | exact ⟨_, _, rfl⟩
    match k, q, r with
    | 0, q, _ => exact q.elim
    | 1, q, _ => exact q.elim
    | k + 2, q, r =>
      have q2 : After c B W G1 A H1 σ (M.lift (if k = k0 then ds[i]? else none) ρ1) (fun d _ G' H' => ∀ v, Rep c G' v d → Q v H') := q
      clear q
      by_cases hk : k = k0
      · rw [if_pos hk] at q2
        cases hd : ds[i]? with
        | none => rw [hd] at q2; exact q2.elim
        | some d =>
          rw [hd] at q2
          subst hk
          cases r with
          | std h r e => obtain h | h := h <;> (obtain ⟨z, _⟩ := h; omega)
          | @err a dx _ xs _ h1 h2 hl rl =>
            rw [T.fl] at h2
            obtain ⟨w, e1, rw1⟩ := zip_look rl hn hi hd
            exact ⟨_, _, xs, rfl, R1.same _ _ h1, R1.same _ _ h2, w, e1, After.ok q2 R1 w rw1⟩
      · rw [if_neg hk] at q2
        exact q2.elim
  · obtain ⟨v, H1, I1, rv, b, dx, xs, rfl, h1, h2, w, e1, q⟩ := hu
    obtain rfl : u = Value.ref b := rv
    obtain ⟨t1, hb1⟩ := exo_at I1.hok h1
    obtain ⟨mA, hns, hr2⟩ := exd_at I1.hok h2
    obtain ⟨od, ho, hl⟩ := lookIn_ns hns
    obtain ⟨w', hw, rw'⟩ := RelO.some_of (v := w) (o := mA f) (by rw [← e1]; exact hr2 f)
    have K1 : PySem.W.InstAt s1.heap b _ (c.exc k0) (some od) := ⟨hb1, rfl, rfl, ho⟩
    exact HandSPX.exc_get I1.kIn K1 T.xf.ga T.xf.gg T.xf.exC (PySem.W.findObj_own T.xf.hdC (T.no f (List.mem_of_getElem? hi)) rfl (by rw [hl, hw])) (handed_of rw') ⟨w, H1, I1.tok _, rw', q⟩
def rIsErr (K : PySem.W.Frag) : List V → Hp → VK → Prop := fun xs H Q => ∃ (a C : Addr) (d : Option Addr) (cl : V) (cv : Value) (b : Bool), xs = [.ref a, cl] ∧ H a = some (exo a C d) ∧ ExcC K C ∧ (∀ u, RelV cl u → u = cv) ∧ PySem.W.kitOne K (.ref C) cv = some b ∧ Q (.bl b) H
theorem call_isErr : CallR X (.builtin "isinstance") (rIsErr X.K) := by
  rintro pins s σ H xs us Q I r ⟨a, C, d, cl, cv, b, rfl, h1, hC, hcv, e, q⟩
  match us, r with
  | _, .cons rx (.cons rt .nil) =>
    cases rx
    have ec := hcv _ rt
    subst ec
    obtain ⟨t1, hget⟩ := exo_at I.hok h1
    exact PySem.W.kia_one (EI.kit_at hC) I.kIn (⟨hget, rfl⟩ : EI.ClsAt _ C a _) e (fun z => nomatch z) fun tk => ⟨.bl b, H, I.kept (t' := tk) fun _ _ z => z, rfl, q⟩
/-- what isinstance says of errors, by their classes' numbers -/
structure IsErr (K : PySem.W.Frag) (c : Cf) (cv : Value) (bs : List Bool) : Prop where
  ok : ∀ k b, bs[k]? = some b → ExcC K (c.exc k) ∧ PySem.W.kitOne K (.ref (c.exc k)) cv = some b
theorem pm_isE {e e2 : Expr} {f : M D} {bs : List Bool} {cl : V} {cv : Value} {p pos : Pos} (T : Blt X.mg) (F : IsErr X.K c cv bs) (he : PE X e (tM c B W f)) (h2 : PE X e2 (tC cl)) (hcv : ∀ u, RelV cl u → u = cv) (hg : Gl X "isinstance" := by rfl) (hs : starEach [e, e2] X.env = (false, eval e X.env) :: starEach [e2] X.env := by rfl)
    (hs2 : starEach [e2] X.env = (false, eval e2 X.env) :: starEach [] X.env := by rfl) (hpl : (backTo pos (starEach [e2] X.env)).any (·.1) = false := by rfl) :
    PE X (.Call (.Name "isinstance" p) [e, e2] [] pos) (tM c B W (mIsE bs f)) :=
  pe_imp (pe_callB call_isErr hg T.zisinstance boot_isinstance (pa_cons he (pa_cons h2 pa_nil hs2) hs) (he := hs) (hpl := hpl)) fun σ H Q ⟨G, A, ρ, R, a⟩ => by
    refine ⟨G, A, ρ, R, a.split.imp fun d ρ1 G1 H1 _ _ R1 q v r => ?_⟩
    have q : After c B W G1 A H1 σ (M.lift (sIsErr bs d) ρ1) (fun d _ G' H' => ∀ v, Rep c G' v d → Q v H') := q
    obtain ⟨k, ds, rfl⟩ : ∃ k ds, d = .exc k ds := by cases d <;> first | exact q.elim | exact ⟨_, _, rfl⟩
    match k, q, r with
    | 0, q, _ => exact q.elim
    | 1, q, _ => exact q.elim
    | k + 2, q, r =>
      have q : After c B W G1 A H1 σ (M.lift ((bs[k]?).map D.bl) ρ1) (fun d _ G' H' => ∀ v, Rep c G' v d → Q v H') := q
      cases hb : bs[k]? with
      | none => rw [hb] at q; exact q.elim
      | some b =>
        rw [hb] at q
        obtain ⟨hE, hK⟩ := F.ok k b hb
        cases r with
        | std h r e => obtain h | h := h <;> (obtain ⟨z, _⟩ := h; omega)
        | @err a dx _ xs _ h1 h2 hl rl => exact ⟨a, _, _, _, cv, b, rfl, R1.same _ _ h1, hE, hcv, hK, After.ok q R1 _ (.bl b)⟩
end
end Fx
set_option Elab.async false
set_option linter.all false
set_option maxRecDepth 100000
set_option maxHeartbeats 4000000
namespace Fx
open PySem L2 PySem.Spec PyProof.Rows
section
variable {c : Cf} {B : List (Nat × Addr)} {W : WX} {X : Cx} {G H : Hp} {A : Addr → Prop} {σ : L2.St} {ρ : Cells}
theorem pe_exbE {T N I : String} {x m : Str} {j : Nat} {p p2 pos : Pos} (F : ExcB T N I) (hg : Gl X x) (hm : X.mg x = none) (hv : bootBuiltins x = some (.type T)) (hn : x ≠ "__name__" := by decide) (hdb : (x == ("__debug__" : Str)) = false := by decide) :
    PE X (.Call (.Name x p) [.Constant (.str m) j p2] [] pos) (fun _ H Q => ∀ a, H a = none → Q (.ref a) (upd H a (ExO (.type T) a))) := by
  refine ⟨fun pins s σ H Q J h => ?_⟩
  have ha : PA X [.Constant (.str m) j p2] _ := pa_cons pe_str pa_nil
  refine wpAny_Call_Name_kw (ld_blt J hg hm hv ?_ hn hdb)
  refine PyProof.Rows.callWith_type1 (thn (ha.run pos pins s σ H (fun vs H1 => vs.length ≤ sizeLine ∧ ∀ a, H1 a = none → Q (.ref a) (upd H1 a (ExO (.type T) a))) J ⟨(by show 1 ≤ sizeLine; rw [sizeLine_eq]; omega), h⟩) fun us s1 hh => ?_) rfl rfl
  obtain ⟨vs, H1, I1, r1, q0, q1⟩ := hh
  obtain ⟨hp1, g1, d1, tk1, os1⟩ := s1
  refine wpAny_call_exc F.call (fun h' a mk => ?_) (Nat.le_trans (Nat.le_of_eq r1.length.symm) q0)
  have mk := PySem.Heap.MadeExc.of mk
  have hn : H1 a = none := I1.hok.gone mk.new
  obtain ⟨t, ht, _, _⟩ := mk.there
  exact ⟨.ref a, upd H1 a (ExO (.type T) a), I1.laidN mk.keeps mk.new hn (exO_ok ht ⟨rfl, rfl⟩ rfl rfl rfl (show 4 < 6 by decide)), rfl, q1 a hn⟩
def rIsVE (K : PySem.W.Frag) : List V → Hp → VK → Prop := fun xs H Q => ∃ (a : Addr) (cl : V) (cv : Value) (b : Bool), xs = [.ref a, cl] ∧ H a = some (ExO (.type "ValueError") a) ∧ (∀ u, RelV cl u → u = cv) ∧ PySem.W.kitOne K (.type "ValueError") cv = some b ∧ Q (.bl b) H
theorem call_isVE : CallR X (.builtin "isinstance") (rIsVE X.K) := by
  rintro pins s σ H xs us Q I r ⟨a, cl, cv, b, rfl, h1, hcv, e, q⟩
  match us, r with
  | _, .cons rx (.cons rt .nil) =>
    cases rx
    have ec := hcv _ rt
    subst ec
    obtain ⟨⟨oe, vs, ho, hz, _⟩, _⟩ := (show ObjOk X.prog X.w H s.heap a (.ext _) from I.hok a _ h1)
    exact PySem.W.kia_one (PySem.W.kitx_bexc PySem.F.excAttr_ValueError PySem.F.lkClass_ValueError PySem.F.soClass_ValueError (by decide +kernel)) I.kIn ⟨oe, ho, hz.1⟩ e (fun z => nomatch z) fun tk => ⟨.bl b, H, I.kept (t' := tk) fun _ _ z => z, rfl, q⟩
theorem pm_isVE {e2 : Expr} {m : Str} {j : Nat} {b : Bool} {cl : V} {cv : Value} {p p1 p2 p3 pos : Pos} (T : Blt X.mg) (hK : PySem.W.kitOne X.K (.type "ValueError") cv = some b) (h2 : PE X e2 (tC cl)) (hcv : ∀ u, RelV cl u → u = cv) (hm : X.mg "ValueError" = none) (hg : Gl X "isinstance" := by rfl) (hgv : Gl X "ValueError" := by rfl)
    (hs : starEach [.Call (.Name "ValueError" p1) [.Constant (.str m) j p2] [] p3, e2] X.env = (false, eval (.Call (.Name "ValueError" p1) [.Constant (.str m) j p2] [] p3) X.env) :: starEach [e2] X.env := by rfl)
    (hs2 : starEach [e2] X.env = (false, eval e2 X.env) :: starEach [] X.env := by rfl) (hpl : (backTo pos (starEach [e2] X.env)).any (·.1) = false := by rfl) :
    PE X (.Call (.Name "isinstance" p) [.Call (.Name "ValueError" p1) [.Constant (.str m) j p2] [] p3, e2] [] pos) (tM c B W (M.pure (.bl b))) :=
  pe_imp (pe_callB call_isVE hg T.zisinstance boot_isinstance (pa_cons (pe_exbE exb_ValueError hgv hm boot_ValueError) (pa_cons h2 pa_nil hs2) hs) (he := hs) (hpl := hpl)) fun σ H Q ⟨G, A, ρ, R, a⟩ => by
    intro q nq
    exact ⟨q, cl, cv, b, rfl, upd_same, hcv, hK, After.ok (After.of (Same.refl _) (fun y u e _ => ⟨by rw [upd_ne (ne_of_none e nq)]; exact e, rfl⟩) a) (R.ext (Ext.updH R.same nq)) _ (.bl b)⟩
end
end Fx
set_option Elab.async false
set_option linter.all false
set_option maxRecDepth 100000
set_option maxHeartbeats 4000000
namespace Fx
open PySem L2 PySem.Spec PyProof.Rows
/-- an error class of two fields, its __init__ called by both keywords, the second ahead -/
structure CalX2K (P : Program) (w : World) (K : PySem.W.Frag) (mg : Str → Option Value) (base : Heap) (c : Cf) (k : Nat) (x : Nat) (nm f g : Str) : Prop where
  ex : ∃ fI fd ps, XcK c K mg x nm fI ∧ FnOk P w K mg base (L2.CX P w) k fI fd ps (spI2 (c.exc x) f g) ∧ KBn K fd ps 1 [g, f] (fun us ws => us ++ ws.reverse) (fun vs zs => vs ++ zs.reverse)
  fl : c.flds x = [g, f]
structure IsErrN (K : PySem.W.Frag) (mg : Str → Option Value) (c : Cf) (nm : Str) (bs : List Bool) : Prop where
  ex : ∃ C, mg nm = some (.ref C) ∧ IsErr K c (.ref C) bs
structure IsErrV (K : PySem.W.Frag) (mg : Str → Option Value) (c : Cf) (bs : List Bool) : Prop where
  no : mg "ValueError" = none
  ok : IsErr K c (.type "ValueError") bs
structure IsVEN (K : PySem.W.Frag) (mg : Str → Option Value) (nm : Str) (b : Bool) : Prop where
  no : mg "ValueError" = none
  ex : ∃ C, mg nm = some (.ref C) ∧ PySem.W.kitOne K (.type "ValueError") (.ref C) = some b
section
variable {c : Cf} {B : List (Nat × Addr)} {W : WX} {X : Cx}
theorem pm_errP1 {x j k : Nat} {nm f : Str} {e : Expr} {fe : M D} {p pos : Pos} (C : CalX1 X.prog X.w X.K X.mg X.base c j x nm f) (hr : Room k X.A) (ha : PE X e (tM c B W fe)) (hj : j + 1 ≤ k := by decide) (hg : Gl X nm := by rfl)
    (hdb : (nm == ("__debug__" : Str)) = false := by decide) (he : starEach (e :: []) X.env = (false, eval e X.env) :: starEach [] X.env := by rfl) (hpl : (backTo pos (starEach [] X.env)).any (·.1) = false := by rfl) :
    PE X (.Call (.Name nm p) [e] [] pos) (tM c B W (mErrP x [fe])) := by
  obtain ⟨fI, fd, ps, T, F1, hb⟩ := C.ex
  exact pe_err1 T C.fl F1 (hr.mono hj) hb ha hg hdb he hpl
theorem pm_errP2 {x j k : Nat} {nm f g : Str} {e e2 : Expr} {fe fe2 : M D} {p pos : Pos} (C : CalX2 X.prog X.w X.K X.mg X.base c j x nm f g) (hr : Room k X.A) (ha : PE X e (tM c B W fe)) (ha2 : PE X e2 (tM c B W fe2)) (hj : j + 1 ≤ k := by decide) (hg : Gl X nm := by rfl)
    (hdb : (nm == ("__debug__" : Str)) = false := by decide) (he : starEach (e :: [e2]) X.env = (false, eval e X.env) :: starEach [e2] X.env := by rfl) (he2 : starEach [e2] X.env = (false, eval e2 X.env) :: starEach [] X.env := by rfl) (hpl : (backTo pos (starEach [e2] X.env)).any (·.1) = false := by rfl) :
    PE X (.Call (.Name nm p) [e, e2] [] pos) (tM c B W (mErrP x [fe, fe2])) := by
  obtain ⟨fI, fd, ps, T, F1, hb⟩ := C.ex
  exact pe_err2 T C.fl F1 (hr.mono hj) hb ha ha2 hg hdb he he2 hpl
theorem pm_errK1 {x j k : Nat} {nm f : Str} {e : Expr} {fe : M D} {p pos kpos : Pos} (C : CalX1K X.prog X.w X.K X.mg X.base c j x nm f) (hr : Room k X.A) (ha : PE X e (tM c B W fe)) (hj : j + 1 ≤ k := by decide) (hg : Gl X nm := by rfl)
    (hall : (backToKw pos (keywordEach [⟨some f, e, kpos⟩] X.env)).all (·.1.isSome) = true := by rfl) (hks : (backToKw pos (keywordEach [⟨some f, e, kpos⟩] X.env)).filterMap (·.1) = [f] := by rfl)
    (hdb : (nm == ("__debug__" : Str)) = false := by decide) (hpl : ((backTo pos (starEach [] X.env)).any (·.1) || (backToKw pos (keywordEach [⟨some f, e, kpos⟩] X.env)).any (·.1.isNone)) = false := by rfl) :
    PE X (.Call (.Name nm p) [] [⟨some f, e, kpos⟩] pos) (tM c B W (mErrK x [fe])) := by
  obtain ⟨fI, fd, ps, T, F1, hb⟩ := C.ex
  exact pe_errK1 T C.fl F1 (hr.mono hj) hb ha hg hall hks hdb hpl
theorem pm_errK2 {x j k : Nat} {nm f g : Str} {e e2 : Expr} {fe fe2 : M D} {p pos kpos kpos2 : Pos} (C : CalX2K X.prog X.w X.K X.mg X.base c j x nm f g) (hr : Room k X.A) (ha : PE X e (tM c B W fe)) (ha2 : PE X e2 (tM c B W fe2)) (hj : j + 1 ≤ k := by decide) (hg : Gl X nm := by rfl)
    (hall : (backToKw pos (keywordEach [⟨some g, e, kpos⟩, ⟨some f, e2, kpos2⟩] X.env)).all (·.1.isSome) = true := by rfl) (hks : (backToKw pos (keywordEach [⟨some g, e, kpos⟩, ⟨some f, e2, kpos2⟩] X.env)).filterMap (·.1) = [g, f] := by rfl)
    (hdb : (nm == ("__debug__" : Str)) = false := by decide) (hpl : ((backTo pos (starEach [] X.env)).any (·.1) || (backToKw pos (keywordEach [⟨some g, e, kpos⟩, ⟨some f, e2, kpos2⟩] X.env)).any (·.1.isNone)) = false := by rfl) :
    PE X (.Call (.Name nm p) [] [⟨some g, e, kpos⟩, ⟨some f, e2, kpos2⟩] pos) (tM c B W (mErrK x [fe, fe2])) := by
  obtain ⟨fI, fd, ps, T, F1, hb⟩ := C.ex
  exact pe_errK2 T C.fl F1 (hr.mono hj) hb ha ha2 hg hall hks hdb hpl
theorem pm_isEN {e : Expr} {nm : Str} {f : M D} {bs : List Bool} {p p2 pos : Pos} (T : Blt X.mg) (F : IsErrN X.K X.mg c nm bs) (he : PE X e (tM c B W f)) (hg : Gl X "isinstance" := by rfl) (hg2 : Gl X nm := by rfl) (hd : (nm == ("__debug__" : Str)) = false := by decide) (hs : starEach [e, .Name nm p2] X.env = (false, eval e X.env) :: starEach [.Name nm p2] X.env := by rfl)
    (hs2 : starEach [.Name nm p2] X.env = (false, eval (.Name nm p2) X.env) :: starEach [] X.env := by rfl) (hpl : (backTo pos (starEach [.Name nm p2] X.env)).any (·.1) = false := by rfl) :
    PE X (.Call (.Name "isinstance" p) [e, .Name nm p2] [] pos) (tM c B W (mIsE bs f)) := by
  obtain ⟨C, h1, h2⟩ := F.ex
  exact pm_isE T h2 he (pe_glob (v := .ref C) hg2 h1 rfl hd) (fun u r => r) hg hs hs2 hpl
theorem pm_isEV {e : Expr} {f : M D} {bs : List Bool} {p p2 pos : Pos} (T : Blt X.mg) (F : IsErrV X.K X.mg c bs) (he : PE X e (tM c B W f)) (hg : Gl X "isinstance" := by rfl) (hg2 : Gl X "ValueError" := by rfl) (hs : starEach [e, .Name "ValueError" p2] X.env = (false, eval e X.env) :: starEach [.Name "ValueError" p2] X.env := by rfl)
    (hs2 : starEach [.Name "ValueError" p2] X.env = (false, eval (.Name "ValueError" p2) X.env) :: starEach [] X.env := by rfl) (hpl : (backTo pos (starEach [.Name "ValueError" p2] X.env)).any (·.1) = false := by rfl) :
    PE X (.Call (.Name "isinstance" p) [e, .Name "ValueError" p2] [] pos) (tM c B W (mIsE bs f)) :=
  pm_isE T F.ok he (pe_bltn (v := .ty "ValueError") (u := .type "ValueError") hg2 F.no boot_ValueError rfl) (fun u r => r) hg hs hs2 hpl
theorem pm_isVEN {nm m : Str} {j : Nat} {b : Bool} {p p1 p2 p3 p4 pos : Pos} (T : Blt X.mg) (F : IsVEN X.K X.mg nm b) (hg : Gl X "isinstance" := by rfl) (hgv : Gl X "ValueError" := by rfl) (hg2 : Gl X nm := by rfl) (hd : (nm == ("__debug__" : Str)) = false := by decide)
    (hs : starEach [.Call (.Name "ValueError" p1) [.Constant (.str m) j p2] [] p3, .Name nm p4] X.env = (false, eval (.Call (.Name "ValueError" p1) [.Constant (.str m) j p2] [] p3) X.env) :: starEach [.Name nm p4] X.env := by rfl)
    (hs2 : starEach [.Name nm p4] X.env = (false, eval (.Name nm p4) X.env) :: starEach [] X.env := by rfl) (hpl : (backTo pos (starEach [.Name nm p4] X.env)).any (·.1) = false := by rfl) :
    PE X (.Call (.Name "isinstance" p) [.Call (.Name "ValueError" p1) [.Constant (.str m) j p2] [] p3, .Name nm p4] [] pos) (tM c B W (M.pure (.bl b))) := by
  obtain ⟨C, h1, h2⟩ := F.ex
  exact pm_isVE T h2 (pe_glob (v := .ref C) hg2 h1 rfl hd) (fun u r => r) F.no hg hgv hs hs2 hpl
end
end Fx
set_option Elab.async false
set_option linter.all false
set_option maxRecDepth 100000
set_option maxHeartbeats 4000000
noncomputable section
namespace Fx
open PySem L2
def top (i : Nat) : Stmt := PySem.Challenge.pw_stickyservers_k19_exceptions.main.body.getD i (.Pass ⟨0, 0, 0, 0⟩)
def flK (i : Nat) : List Str := match i with | 0 => ["index", "part"] | 1 => ["session"] | 2 => ["index", "part"] | 3 => ["index"] | 4 => ["index"] | 5 => ["index"] | 6 => ["index"] | 7 => ["answer"] | 8 => ["index"] | 9 => ["index"] | 10 => ["group"] | 11 => ["most"] | _ => []
def cfK (P : Program) (w : World) (K : PySem.W.Frag) (C0 : Addr) (ex : Nat → Addr) : Cf := ⟨K, C0, ex, flK, P, w⟩
structure Txt (K : PySem.W.Frag) (mg : Str → Option Value) (C0 : Addr) : Prop where
  blt : Blt mg
section
variable {P : Program} {w : World} {K : PySem.W.Frag} {mg : Str → Option Value} {base : Heap} {C0 : Addr} {ex : Nat → Addr}
abbrev s_law_draw : Stmt := top 15
abbrev n_law_draw : List Str := ["_law_well", "_law_many", "_law_found", "_law_number"]
theorem sc_law_draw : FnScope n_law_draw ["_law_well", "_law_many"] (defScope s_law_draw) := ⟨rfl, rfl, rfl, by decide +kernel, rfl, by decide +kernel, by decide +kernel⟩
def b_law_draw : MS := (mSeq (mIfS (mB (mOp2 sGt (.dat (mOp2 sIx (.own 0) (.dat (M.pure (.int 0))))) (.dat (M.pure (.int 0))))) (mSeq (mAsg (mOp2 sMod (.dat (mOp2 sIx (.own 0) (.dat (M.pure (.int 0))))) (.dat (mVar 1))) (gNm 2)) (mSeq (mSetIx 0 (M.pure (.int 0)) (mOp2 sFdiv (.dat (mOp2 sIx (.own 0) (.dat (M.pure (.int 0))))) (.dat (mVar 1)))) (mRet (mVar 2)))) mSkip) (mSeq (mSetIx 0 (M.pure (.int 2)) (mOp2 sAdd (.dat (mOp2 sIx (.own 0) (.dat (M.pure (.int 2))))) (.dat (M.pure (.int 1))))) (mSeq (mAsg (mOp2 sMod (.dat (mOp2 sMul (.dat (mOp2 sAdd (.dat (mOp2 sAdd (.dat (mOp2 sIx (.own 0) (.dat (M.pure (.int 1))))) (.dat (mOp2 sMul (.dat (M.pure (.int 104729))) (.dat (mOp2 sIx (.own 0) (.dat (M.pure (.int 2))))))))) (.dat (M.pure (.int 1))))) (.dat (M.pure (.int 48271))))) (.dat (M.pure (.int 2147483647)))) (gNm 3)) (mSeq (mAsg (mOp2 sMod (.dat (mOp2 sMul (.dat (mVar 3)) (.dat (mOp2 sAdd (.dat (mOp2 sFdiv (.dat (mVar 3)) (.dat (M.pure (.int 1009))))) (.dat (M.pure (.int 69621))))))) (.dat (M.pure (.int 2147483647)))) (gNm 3)) (mRet (mOp2 sMod (.dat (mOp2 sMod (.dat (mOp2 sMul (.dat (mVar 3)) (.dat (mOp2 sAdd (.dat (mOp2 sFdiv (.dat (mVar 3)) (.dat (M.pure (.int 2003))))) (.dat (M.pure (.int 40692))))))) (.dat (M.pure (.int 2147483399))))) (.dat (mVar 1))))))))
def m_law_draw : Fn := mkFn 4 [0] b_law_draw
theorem ok_law_draw {f : Addr} {fd : FuncData} (T : Txt K mg C0)  (F : FunD K "_law_draw" "_law_draw" (defArgs s_law_draw) (defBody s_law_draw) (defScope s_law_draw) [] [] f fd) : FnOk P w K mg base (L2.CX P w) 1 f fd ["_law_well", "_law_many"] (spM (cfK P w K C0 ex) [0] 2 m_law_draw) :=
  fn_ok1 0 (P := P) (w := w) (K := K) (mg := mg) (base := base) (c := cfK P w K C0 ex) (k := 0) (m := b_law_draw) (st := s_law_draw) (N := n_law_draw) (ps := ["_law_well", "_law_many"]) F sc_law_draw (by decide) (by decide) fun aR cdv A outer s H E hr =>
    (pss_consM (ps_ifM (t_gt (po_dat (o_ix (po_own 0) (po_dat pm_int))) (po_dat pm_int)) (pss_consM (ps_asgM (o_mod (po_dat (o_ix (po_own 0) (po_dat pm_int))) (po_dat (pm_var 1))) (pg_nm 2 sc_law_draw.nd rfl)) (pss_consM (ps_setIx 0 (o_fdiv (po_dat (o_ix (po_own 0) (po_dat pm_int))) (po_dat (pm_var 1))) pm_int) (pss_oneM (ps_retM (pm_var 2))))) pss_nilM) (pss_consM (ps_setIx 0 (o_add (po_dat (o_ix (po_own 0) (po_dat pm_int))) (po_dat pm_int)) pm_int) (pss_consM (ps_asgM (o_mod (po_dat (o_mul (po_dat (o_add (po_dat (o_add (po_dat (o_ix (po_own 0) (po_dat pm_int))) (po_dat (o_mul (po_dat pm_int) (po_dat (o_ix (po_own 0) (po_dat pm_int))))))) (po_dat pm_int))) (po_dat pm_int))) (po_dat pm_int)) (pg_nm 3 sc_law_draw.nd rfl)) (pss_consM (ps_asgM (o_mod (po_dat (o_mul (po_dat (pm_var 3)) (po_dat (o_add (po_dat (o_fdiv (po_dat (pm_var 3)) (po_dat pm_int))) (po_dat pm_int))))) (po_dat pm_int)) (pg_nm 3 sc_law_draw.nd rfl)) (pss_oneM (ps_retM (o_mod (po_dat (o_mod (po_dat (o_mul (po_dat (pm_var 3)) (po_dat (o_add (po_dat (o_fdiv (po_dat (pm_var 3)) (po_dat pm_int))) (po_dat pm_int))))) (po_dat pm_int))) (po_dat (pm_var 1)))))))))
abbrev s_law_taken : Stmt := top 16
abbrev n_law_taken : List Str := ["_law_e", "_law_first"]
theorem sc_law_taken : FnScope n_law_taken ["_law_e"] (defScope s_law_taken) := ⟨rfl, rfl, rfl, by decide +kernel, rfl, by decide +kernel, by decide +kernel⟩
def b_law_taken : MS := (mSeq (mAsg (mLst [(mIsE [true, false, false, false, false, false, false, false, false, false, false, false] (mVar 0)), (mIsE [false, false, true, false, false, false, false, false, false, false, false, false] (mVar 0)), (mIsE [false, true, false, false, false, false, false, false, false, false, false, false] (mVar 0))]) (gNm 1)) (mSeq (mAsg (mOp2 sAdd (.dat (mVar 1)) (.dat (mLst [(mIsE [false, false, false, true, false, false, false, false, false, false, false, false] (mVar 0)), (mIsE [false, false, false, false, true, false, false, false, false, false, false, false] (mVar 0)), (mIsE [false, false, false, false, false, true, false, false, false, false, false, false] (mVar 0))]))) (gNm 1)) (mSeq (mAsg (mOp2 sAdd (.dat (mVar 1)) (.dat (mLst [(mIsE [false, false, false, false, false, false, true, false, false, false, false, false] (mVar 0)), (mIsE [false, false, false, false, false, false, false, true, false, false, false, false] (mVar 0)), (mIsE [false, false, false, false, false, false, false, false, true, false, false, false] (mVar 0))]))) (gNm 1)) (mRet (mOp2 sAdd (.dat (mVar 1)) (.dat (mLst [(mIsE [false, false, false, false, false, false, false, false, false, true, false, false] (mVar 0)), (mIsE [false, false, false, false, false, false, false, false, false, false, true, false] (mVar 0)), (mIsE [false, false, false, false, false, false, false, false, false, false, false, true] (mVar 0))])))))))
def m_law_taken : Fn := mkFn 2 [] b_law_taken
theorem ok_law_taken {f : Addr} {fd : FuncData} (T : Txt K mg C0) (ie_NoFarm : IsErrN K mg (cfK P w K C0 ex) "NoFarm" [true, false, false, false, false, false, false, false, false, false, false, false]) (ie_NoState : IsErrN K mg (cfK P w K C0 ex) "NoState" [false, false, true, false, false, false, false, false, false, false, false, false]) (ie_NoSession : IsErrN K mg (cfK P w K C0 ex) "NoSession" [false, true, false, false, false, false, false, false, false, false, false, false]) (ie_NoPlacement : IsErrN K mg (cfK P w K C0 ex) "NoPlacement" [false, false, false, true, false, false, false, false, false, false, false, false]) (ie_NoSessions : IsErrN K mg (cfK P w K C0 ex) "NoSessions" [false, false, false, false, true, false, false, false, false, false, false, false]) (ie_NoEvents : IsErrN K mg (cfK P w K C0 ex) "NoEvents" [false, false, false, false, false, true, false, false, false, false, false, false]) (ie_NoCertificate : IsErrN K mg (cfK P w K C0 ex) "NoCertificate" [false, false, false, false, false, false, true, false, false, false, false, false]) (ie_NeverArises : IsErrN K mg (cfK P w K C0 ex) "NeverArises" [false, false, false, false, false, false, false, true, false, false, false, false]) (ie_NoServers : IsErrN K mg (cfK P w K C0 ex) "NoServers" [false, false, false, false, false, false, false, false, true, false, false, false]) (ie_NoNumbers : IsErrN K mg (cfK P w K C0 ex) "NoNumbers" [false, false, false, false, false, false, false, false, false, true, false, false]) (ie_Short : IsErrN K mg (cfK P w K C0 ex) "Short" [false, false, false, false, false, false, false, false, false, false, true, false]) (ie_TooMany : IsErrN K mg (cfK P w K C0 ex) "TooMany" [false, false, false, false, false, false, false, false, false, false, false, true]) (F : FunD K "_law_taken" "_law_taken" (defArgs s_law_taken) (defBody s_law_taken) (defScope s_law_taken) [] [] f fd) : FnOk P w K mg base (L2.CX P w) 1 f fd ["_law_e"] (spM (cfK P w K C0 ex) [] 1 m_law_taken) :=
  fn_ok0 (P := P) (w := w) (K := K) (mg := mg) (base := base) (c := cfK P w K C0 ex) (k := 0) (m := b_law_taken) (st := s_law_taken) (N := n_law_taken) (ps := ["_law_e"]) F sc_law_taken (by decide) fun cdv A outer s H E hr =>
    (pss_consM (ps_asgM (pm_of_pf (pf_lst (pd_cons (pm_isEN T.blt ie_NoFarm (pm_var 0)) (pd_cons (pm_isEN T.blt ie_NoState (pm_var 0)) (pd_cons (pm_isEN T.blt ie_NoSession (pm_var 0)) pd_nil))))) (pg_nm 1 sc_law_taken.nd rfl)) (pss_consM (ps_asgM (o_add (po_dat (pm_var 1)) (po_dat (pm_of_pf (pf_lst (pd_cons (pm_isEN T.blt ie_NoPlacement (pm_var 0)) (pd_cons (pm_isEN T.blt ie_NoSessions (pm_var 0)) (pd_cons (pm_isEN T.blt ie_NoEvents (pm_var 0)) pd_nil))))))) (pg_nm 1 sc_law_taken.nd rfl)) (pss_consM (ps_asgM (o_add (po_dat (pm_var 1)) (po_dat (pm_of_pf (pf_lst (pd_cons (pm_isEN T.blt ie_NoCertificate (pm_var 0)) (pd_cons (pm_isEN T.blt ie_NeverArises (pm_var 0)) (pd_cons (pm_isEN T.blt ie_NoServers (pm_var 0)) pd_nil))))))) (pg_nm 1 sc_law_taken.nd rfl)) (pss_oneM (ps_retM (o_add (po_dat (pm_var 1)) (po_dat (pm_of_pf (pf_lst (pd_cons (pm_isEN T.blt ie_NoNumbers (pm_var 0)) (pd_cons (pm_isEN T.blt ie_Short (pm_var 0)) (pd_cons (pm_isEN T.blt ie_TooMany (pm_var 0)) pd_nil))))))))))))
abbrev s_law_by_place : Stmt := top 17
abbrev n_law_by_place : List Str := ["_law_x", "_law_some"]
theorem sc_law_by_place : FnScope n_law_by_place ["_law_x"] (defScope s_law_by_place) := ⟨rfl, rfl, rfl, by decide +kernel, rfl, by decide +kernel, by decide +kernel⟩
def b_law_by_place : MS := (mSeq (mAsg (mLst [(mErrP 0 [(mVar 0), (M.pure (.int 7))]), (mErrP 2 [(mVar 0), (M.pure (.int 7))]), (mErrP 1 [(mVar 0)]), (mErrP 3 [(mVar 0)]), (mErrP 4 [(mVar 0)])]) (gNm 1)) (mSeq (mAsg (mOp2 sAdd (.dat (mVar 1)) (.dat (mLst [(mErrP 5 [(mVar 0)]), (mErrP 6 [(mVar 0)]), (mErrP 7 [(mVar 0)])]))) (gNm 1)) (mRet (mOp2 sAdd (.dat (mVar 1)) (.dat (mLst [(mErrP 8 [(mVar 0)]), (mErrP 9 [(mVar 0)]), (mErrP 10 [(mVar 0)]), (mErrP 11 [(mVar 0)])]))))))
def m_law_by_place : Fn := mkFn 2 [] b_law_by_place
theorem ok_law_by_place {f : Addr} {fd : FuncData} (T : Txt K mg C0) (c_NoFarm : CalX2 P w K mg base (cfK P w K C0 ex) 1 0 "NoFarm" "part" "index") (c_NoState : CalX2 P w K mg base (cfK P w K C0 ex) 1 2 "NoState" "part" "index") (c_NoSession : CalX1 P w K mg base (cfK P w K C0 ex) 1 1 "NoSession" "session") (c_NoPlacement : CalX1 P w K mg base (cfK P w K C0 ex) 1 3 "NoPlacement" "index") (c_NoSessions : CalX1 P w K mg base (cfK P w K C0 ex) 1 4 "NoSessions" "index") (c_NoEvents : CalX1 P w K mg base (cfK P w K C0 ex) 1 5 "NoEvents" "index") (c_NoCertificate : CalX1 P w K mg base (cfK P w K C0 ex) 1 6 "NoCertificate" "index") (c_NeverArises : CalX1 P w K mg base (cfK P w K C0 ex) 1 7 "NeverArises" "answer") (c_NoServers : CalX1 P w K mg base (cfK P w K C0 ex) 1 8 "NoServers" "index") (c_NoNumbers : CalX1 P w K mg base (cfK P w K C0 ex) 1 9 "NoNumbers" "index") (c_Short : CalX1 P w K mg base (cfK P w K C0 ex) 1 10 "Short" "group") (c_TooMany : CalX1 P w K mg base (cfK P w K C0 ex) 1 11 "TooMany" "most") (F : FunD K "_law_by_place" "_law_by_place" (defArgs s_law_by_place) (defBody s_law_by_place) (defScope s_law_by_place) [] [] f fd) : FnOk P w K mg base (L2.CX P w) 3 f fd ["_law_x"] (spM (cfK P w K C0 ex) [] 1 m_law_by_place) :=
  fn_ok0 (P := P) (w := w) (K := K) (mg := mg) (base := base) (c := cfK P w K C0 ex) (k := 2) (m := b_law_by_place) (st := s_law_by_place) (N := n_law_by_place) (ps := ["_law_x"]) F sc_law_by_place (by decide) fun cdv A outer s H E hr =>
    (pss_consM (ps_asgM (pm_of_pf (pf_lst (pd_cons (pm_errP2 c_NoFarm hr (pm_var 0) pm_int) (pd_cons (pm_errP2 c_NoState hr (pm_var 0) pm_int) (pd_cons (pm_errP1 c_NoSession hr (pm_var 0)) (pd_cons (pm_errP1 c_NoPlacement hr (pm_var 0)) (pd_cons (pm_errP1 c_NoSessions hr (pm_var 0)) pd_nil))))))) (pg_nm 1 sc_law_by_place.nd rfl)) (pss_consM (ps_asgM (o_add (po_dat (pm_var 1)) (po_dat (pm_of_pf (pf_lst (pd_cons (pm_errP1 c_NoEvents hr (pm_var 0)) (pd_cons (pm_errP1 c_NoCertificate hr (pm_var 0)) (pd_cons (pm_errP1 c_NeverArises hr (pm_var 0)) pd_nil))))))) (pg_nm 1 sc_law_by_place.nd rfl)) (pss_oneM (ps_retM (o_add (po_dat (pm_var 1)) (po_dat (pm_of_pf (pf_lst (pd_cons (pm_errP1 c_NoServers hr (pm_var 0)) (pd_cons (pm_errP1 c_NoNumbers hr (pm_var 0)) (pd_cons (pm_errP1 c_Short hr (pm_var 0)) (pd_cons (pm_errP1 c_TooMany hr (pm_var 0)) pd_nil))))))))))))
abbrev s_law_by_name : Stmt := top 18
abbrev n_law_by_name : List Str := ["_law_x", "_law_some"]
theorem sc_law_by_name : FnScope n_law_by_name ["_law_x"] (defScope s_law_by_name) := ⟨rfl, rfl, rfl, by decide +kernel, rfl, by decide +kernel, by decide +kernel⟩
def b_law_by_name : MS := (mSeq (mAsg (mLst [(mErrK 0 [(M.pure (.int 7)), (mVar 0)]), (mErrK 2 [(M.pure (.int 7)), (mVar 0)]), (mErrK 1 [(mVar 0)])]) (gNm 1)) (mSeq (mAsg (mOp2 sAdd (.dat (mVar 1)) (.dat (mLst [(mErrK 3 [(mVar 0)]), (mErrK 4 [(mVar 0)]), (mErrK 5 [(mVar 0)])]))) (gNm 1)) (mSeq (mAsg (mOp2 sAdd (.dat (mVar 1)) (.dat (mLst [(mErrK 6 [(mVar 0)]), (mErrK 7 [(mVar 0)]), (mErrK 8 [(mVar 0)])]))) (gNm 1)) (mRet (mOp2 sAdd (.dat (mVar 1)) (.dat (mLst [(mErrK 9 [(mVar 0)]), (mErrK 10 [(mVar 0)]), (mErrK 11 [(mVar 0)])])))))))
def m_law_by_name : Fn := mkFn 2 [] b_law_by_name
theorem ok_law_by_name {f : Addr} {fd : FuncData} (T : Txt K mg C0) (xk_NoFarm : CalX2K P w K mg base (cfK P w K C0 ex) 1 0 "NoFarm" "part" "index") (xk_NoState : CalX2K P w K mg base (cfK P w K C0 ex) 1 2 "NoState" "part" "index") (xk_NoSession : CalX1K P w K mg base (cfK P w K C0 ex) 1 1 "NoSession" "session") (xk_NoPlacement : CalX1K P w K mg base (cfK P w K C0 ex) 1 3 "NoPlacement" "index") (xk_NoSessions : CalX1K P w K mg base (cfK P w K C0 ex) 1 4 "NoSessions" "index") (xk_NoEvents : CalX1K P w K mg base (cfK P w K C0 ex) 1 5 "NoEvents" "index") (xk_NoCertificate : CalX1K P w K mg base (cfK P w K C0 ex) 1 6 "NoCertificate" "index") (xk_NeverArises : CalX1K P w K mg base (cfK P w K C0 ex) 1 7 "NeverArises" "answer") (xk_NoServers : CalX1K P w K mg base (cfK P w K C0 ex) 1 8 "NoServers" "index") (xk_NoNumbers : CalX1K P w K mg base (cfK P w K C0 ex) 1 9 "NoNumbers" "index") (xk_Short : CalX1K P w K mg base (cfK P w K C0 ex) 1 10 "Short" "group") (xk_TooMany : CalX1K P w K mg base (cfK P w K C0 ex) 1 11 "TooMany" "most") (F : FunD K "_law_by_name" "_law_by_name" (defArgs s_law_by_name) (defBody s_law_by_name) (defScope s_law_by_name) [] [] f fd) : FnOk P w K mg base (L2.CX P w) 3 f fd ["_law_x"] (spM (cfK P w K C0 ex) [] 1 m_law_by_name) :=
  fn_ok0 (P := P) (w := w) (K := K) (mg := mg) (base := base) (c := cfK P w K C0 ex) (k := 2) (m := b_law_by_name) (st := s_law_by_name) (N := n_law_by_name) (ps := ["_law_x"]) F sc_law_by_name (by decide) fun cdv A outer s H E hr =>
    (pss_consM (ps_asgM (pm_of_pf (pf_lst (pd_cons (pm_errK2 xk_NoFarm hr pm_int (pm_var 0)) (pd_cons (pm_errK2 xk_NoState hr pm_int (pm_var 0)) (pd_cons (pm_errK1 xk_NoSession hr (pm_var 0)) pd_nil))))) (pg_nm 1 sc_law_by_name.nd rfl)) (pss_consM (ps_asgM (o_add (po_dat (pm_var 1)) (po_dat (pm_of_pf (pf_lst (pd_cons (pm_errK1 xk_NoPlacement hr (pm_var 0)) (pd_cons (pm_errK1 xk_NoSessions hr (pm_var 0)) (pd_cons (pm_errK1 xk_NoEvents hr (pm_var 0)) pd_nil))))))) (pg_nm 1 sc_law_by_name.nd rfl)) (pss_consM (ps_asgM (o_add (po_dat (pm_var 1)) (po_dat (pm_of_pf (pf_lst (pd_cons (pm_errK1 xk_NoCertificate hr (pm_var 0)) (pd_cons (pm_errK1 xk_NeverArises hr (pm_var 0)) (pd_cons (pm_errK1 xk_NoServers hr (pm_var 0)) pd_nil))))))) (pg_nm 1 sc_law_by_name.nd rfl)) (pss_oneM (ps_retM (o_add (po_dat (pm_var 1)) (po_dat (pm_of_pf (pf_lst (pd_cons (pm_errK1 xk_NoNumbers hr (pm_var 0)) (pd_cons (pm_errK1 xk_Short hr (pm_var 0)) (pd_cons (pm_errK1 xk_TooMany hr (pm_var 0)) pd_nil))))))))))))
abbrev s_law_fields : Stmt := top 19
abbrev n_law_fields : List Str := ["_law_some", "_law_found"]
theorem sc_law_fields : FnScope n_law_fields ["_law_some"] (defScope s_law_fields) := ⟨rfl, rfl, rfl, by decide +kernel, rfl, by decide +kernel, by decide +kernel⟩
def b_law_fields : MS := (mSeq (mAsg (mLst [(mXf 0 1 (mOp2 sIx (.dat (mVar 0)) (.dat (M.pure (.int 0))))), (mXf 2 1 (mOp2 sIx (.dat (mVar 0)) (.dat (M.pure (.int 1))))), (mXf 1 0 (mOp2 sIx (.dat (mVar 0)) (.dat (M.pure (.int 2))))), (mXf 3 0 (mOp2 sIx (.dat (mVar 0)) (.dat (M.pure (.int 3))))), (mXf 4 0 (mOp2 sIx (.dat (mVar 0)) (.dat (M.pure (.int 4)))))]) (gNm 1)) (mSeq (mAsg (mOp2 sAdd (.dat (mVar 1)) (.dat (mLst [(mXf 5 0 (mOp2 sIx (.dat (mVar 0)) (.dat (M.pure (.int 5))))), (mXf 6 0 (mOp2 sIx (.dat (mVar 0)) (.dat (M.pure (.int 6))))), (mXf 7 0 (mOp2 sIx (.dat (mVar 0)) (.dat (M.pure (.int 7))))), (mXf 8 0 (mOp2 sIx (.dat (mVar 0)) (.dat (M.pure (.int 8)))))]))) (gNm 1)) (mRet (mOp2 sAdd (.dat (mVar 1)) (.dat (mLst [(mXf 9 0 (mOp2 sIx (.dat (mVar 0)) (.dat (M.pure (.int 9))))), (mXf 10 0 (mOp2 sIx (.dat (mVar 0)) (.dat (M.pure (.int 10))))), (mXf 11 0 (mOp2 sIx (.dat (mVar 0)) (.dat (M.pure (.int 11)))))]))))))
def m_law_fields : Fn := mkFn 2 [] b_law_fields
theorem ok_law_fields {f : Addr} {fd : FuncData} (T : Txt K mg C0) (t_NoFarm : CatX K mg (cfK P w K C0 ex) 0 "NoFarm" ["index", "part"]) (t_NoState : CatX K mg (cfK P w K C0 ex) 2 "NoState" ["index", "part"]) (t_NoSession : CatX K mg (cfK P w K C0 ex) 1 "NoSession" ["session"]) (t_NoPlacement : CatX K mg (cfK P w K C0 ex) 3 "NoPlacement" ["index"]) (t_NoSessions : CatX K mg (cfK P w K C0 ex) 4 "NoSessions" ["index"]) (t_NoEvents : CatX K mg (cfK P w K C0 ex) 5 "NoEvents" ["index"]) (t_NoCertificate : CatX K mg (cfK P w K C0 ex) 6 "NoCertificate" ["index"]) (t_NeverArises : CatX K mg (cfK P w K C0 ex) 7 "NeverArises" ["answer"]) (t_NoServers : CatX K mg (cfK P w K C0 ex) 8 "NoServers" ["index"]) (t_NoNumbers : CatX K mg (cfK P w K C0 ex) 9 "NoNumbers" ["index"]) (t_Short : CatX K mg (cfK P w K C0 ex) 10 "Short" ["group"]) (t_TooMany : CatX K mg (cfK P w K C0 ex) 11 "TooMany" ["most"]) (F : FunD K "_law_fields" "_law_fields" (defArgs s_law_fields) (defBody s_law_fields) (defScope s_law_fields) [] [] f fd) : FnOk P w K mg base (L2.CX P w) 1 f fd ["_law_some"] (spM (cfK P w K C0 ex) [] 1 m_law_fields) :=
  fn_ok0 (P := P) (w := w) (K := K) (mg := mg) (base := base) (c := cfK P w K C0 ex) (k := 0) (m := b_law_fields) (st := s_law_fields) (N := n_law_fields) (ps := ["_law_some"]) F sc_law_fields (by decide) fun cdv A outer s H E hr =>
    (pss_consM (ps_asgM (pm_of_pf (pf_lst (pd_cons (pm_xf t_NoFarm (o_ix (po_dat (pm_var 0)) (po_dat pm_int))) (pd_cons (pm_xf t_NoState (o_ix (po_dat (pm_var 0)) (po_dat pm_int))) (pd_cons (pm_xf t_NoSession (o_ix (po_dat (pm_var 0)) (po_dat pm_int))) (pd_cons (pm_xf t_NoPlacement (o_ix (po_dat (pm_var 0)) (po_dat pm_int))) (pd_cons (pm_xf t_NoSessions (o_ix (po_dat (pm_var 0)) (po_dat pm_int))) pd_nil))))))) (pg_nm 1 sc_law_fields.nd rfl)) (pss_consM (ps_asgM (o_add (po_dat (pm_var 1)) (po_dat (pm_of_pf (pf_lst (pd_cons (pm_xf t_NoEvents (o_ix (po_dat (pm_var 0)) (po_dat pm_int))) (pd_cons (pm_xf t_NoCertificate (o_ix (po_dat (pm_var 0)) (po_dat pm_int))) (pd_cons (pm_xf t_NeverArises (o_ix (po_dat (pm_var 0)) (po_dat pm_int))) (pd_cons (pm_xf t_NoServers (o_ix (po_dat (pm_var 0)) (po_dat pm_int))) pd_nil)))))))) (pg_nm 1 sc_law_fields.nd rfl)) (pss_oneM (ps_retM (o_add (po_dat (pm_var 1)) (po_dat (pm_of_pf (pf_lst (pd_cons (pm_xf t_NoNumbers (o_ix (po_dat (pm_var 0)) (po_dat pm_int))) (pd_cons (pm_xf t_Short (o_ix (po_dat (pm_var 0)) (po_dat pm_int))) (pd_cons (pm_xf t_TooMany (o_ix (po_dat (pm_var 0)) (po_dat pm_int))) pd_nil)))))))))))
abbrev s_law_right : Stmt := top 20
abbrev n_law_right : List Str := ["_law_well", "_law_x", "_law_some", "_law_spot", "_law_e", "_law_k"]
theorem sc_law_right : FnScope n_law_right ["_law_well"] (defScope s_law_right) := ⟨rfl, rfl, rfl, by decide +kernel, rfl, by decide +kernel, by decide +kernel⟩
def b_law_right : MS := (mSeq (mAsg (mOp2 sIx (.dat (mLst [(mCallF m_law_draw [(.own 0), (.dat (M.pure (.int 1000)))]), (mNeg (M.pure (.int 1))), (M.pure .non), (M.pure (.str "v")), (mTup [(M.pure (.int 0)), (M.pure (.int 1))])])) (.dat (mCallF m_law_draw [(.own 0), (.dat (M.pure (.int 5)))]))) (gNm 1)) (mSeq (mFor (mSeqI (mLst [(mCallF m_law_by_place [(.dat (mVar 1))]), (mCallF m_law_by_name [(.dat (mVar 1))])])) (gNm 2) (mSeq (mIfS (mOr (mB (mOp2 sNe (.dat (mCallF m_law_fields [(.dat (mVar 2))])) (.dat (mOp2 sMulL (.dat (mLst [(mVar 1)])) (.dat (M.pure (.int 12))))))) (mOr (mB (mOp2 sNe (.dat (mXf 0 0 (mOp2 sIx (.dat (mVar 2)) (.dat (M.pure (.int 0)))))) (.dat (M.pure (.int 7))))) (mB (mOp2 sNe (.dat (mXf 2 0 (mOp2 sIx (.dat (mVar 2)) (.dat (M.pure (.int 1)))))) (.dat (M.pure (.int 7))))))) (mRet (M.pure (.bl false))) mSkip) (mFor (mEnum (mVar 2)) (gTp [3, 4]) (mSeq (mIfS (mB (mOp2 sNe (.dat (mCallF m_law_taken [(.dat (mVar 4))])) (.dat (mLc (mRange1 (M.pure (.int 12))) (gNm 5) (M.pure true) (mOp2 sEq (.dat (mVar 5)) (.dat (mVar 3))) [5])))) (mRet (M.pure (.bl false))) mSkip) (mIfS (mOr (mNot (mB (mIsE [true, true, true, true, true, true, true, true, true, true, true, true] (mVar 4)))) (mNot (mB (mIsE [true, true, true, true, true, true, true, true, true, true, true, true] (mVar 4))))) (mRet (M.pure (.bl false))) mSkip))))) (mRet (mNotV (M.pure (.bl false))))))
def m_law_right : Fn := mkFn 6 [0] b_law_right
theorem ok_law_right {f : Addr} {fd : FuncData} (T : Txt K mg C0) (c_law_draw : Cal P w K mg base (cfK P w K C0 ex) 1 "_law_draw" [0] 2 m_law_draw) (c_law_by_place : Cal P w K mg base (cfK P w K C0 ex) 3 "_law_by_place" [] 1 m_law_by_place) (c_law_by_name : Cal P w K mg base (cfK P w K C0 ex) 3 "_law_by_name" [] 1 m_law_by_name) (c_law_fields : Cal P w K mg base (cfK P w K C0 ex) 1 "_law_fields" [] 1 m_law_fields) (t_NoFarm : CatX K mg (cfK P w K C0 ex) 0 "NoFarm" ["index", "part"]) (t_NoState : CatX K mg (cfK P w K C0 ex) 2 "NoState" ["index", "part"]) (c_law_taken : Cal P w K mg base (cfK P w K C0 ex) 1 "_law_taken" [] 1 m_law_taken) (ie_FarmError : IsErrN K mg (cfK P w K C0 ex) "FarmError" [true, true, true, true, true, true, true, true, true, true, true, true]) (ie_ValueError : IsErrV K mg (cfK P w K C0 ex) [true, true, true, true, true, true, true, true, true, true, true, true]) (iv_FarmError : IsVEN K mg "FarmError" false) (F : FunD K "_law_right" "_law_right" (defArgs s_law_right) (defBody s_law_right) (defScope s_law_right) [] [] f fd) : FnOk P w K mg base (L2.CX P w) 4 f fd ["_law_well"] (spM (cfK P w K C0 ex) [0] 1 m_law_right) :=
  fn_ok1 0 (P := P) (w := w) (K := K) (mg := mg) (base := base) (c := cfK P w K C0 ex) (k := 3) (m := b_law_right) (st := s_law_right) (N := n_law_right) (ps := ["_law_well"]) F sc_law_right (by decide) (by decide) fun aR cdv A outer s H E hr =>
    (pss_consM (ps_asgM (o_ix (po_dat (pm_of_pf (pf_lst (pd_cons (pm_cal c_law_draw hr (takes_of rfl rfl rfl rfl) (pr_own 0 (pr_dat pm_int pr_nil))) (pd_cons (pm_neg pm_int) (pd_cons pm_non (pd_cons pm_str (pd_cons (pm_tup (pd_cons pm_int (pd_cons pm_int pd_nil))) pd_nil)))))))) (po_dat (pm_cal c_law_draw hr (takes_of rfl rfl rfl rfl) (pr_own 0 (pr_dat pm_int pr_nil))))) (pg_nm 1 sc_law_right.nd rfl)) (pss_consM (ps_forM (passes_of rfl) rfl (pi_seqM rfl (pm_of_pf (pf_lst (pd_cons (pm_cal c_law_by_place hr (takes_of rfl rfl rfl rfl) (pr_dat (pm_var 1) pr_nil)) (pd_cons (pm_cal c_law_by_name hr (takes_of rfl rfl rfl rfl) (pr_dat (pm_var 1) pr_nil)) pd_nil))))) (pg_nm 2 sc_law_right.nd rfl) (pss_consM (ps_ifM (t_or (t_ne hr.units (po_dat (pm_cal c_law_fields hr (takes_of rfl rfl rfl rfl) (pr_dat (pm_var 2) pr_nil))) (po_dat (pm_of_pf (f_mul (po_dat (pm_of_pf (pf_lst (pd_cons (pm_var 1) pd_nil)))) (po_dat pm_int))))) (pw_orM (t_ne hr.units (po_dat (pm_xf t_NoFarm (o_ix (po_dat (pm_var 2)) (po_dat pm_int)))) (po_dat pm_int)) (pw_and1' (t_ne hr.units (po_dat (pm_xf t_NoState (o_ix (po_dat (pm_var 2)) (po_dat pm_int)))) (po_dat pm_int))))) (pss_oneM (ps_retM pm_bl)) pss_nilM) (pss_oneM (ps_forM (passes_of rfl) rfl (pi_enumM rfl T.blt.zenumerate (pm_var 2)) (pg_tpM rfl rfl (pgs_consM (pg_nm 3 sc_law_right.nd rfl) (pgs_consM (pg_nm 4 sc_law_right.nd rfl) pgs_nilM))) (pss_consM (ps_ifM (t_ne hr.units (po_dat (pm_cal c_law_taken hr (takes_of rfl rfl rfl rfl) (pr_dat (pm_var 4) pr_nil))) (po_dat (pm_of_pf (pf_lc [("_law_k", 5)] rfl sc_law_right.nd (pi_range1M T.blt.zrange pm_int) (blk_of (by rfl)) (by rfl) (by rfl) (fun s H C cl fp => (pg_nm 5 sc_law_right.nd rfl)) (fun s H C cl fp => pts_nilM) (fun s H C cl fp => (o_eq hr.units (po_dat (pm_var 5)) (po_dat (pm_var 3)))))))) (pss_oneM (ps_retM pm_bl)) pss_nilM) (pss_oneM (ps_ifM (t_or (pt_notM (pt_v (pm_isEN T.blt ie_FarmError (pm_var 4)))) (pw_and1' (pt_notM (pt_v (pm_isEV T.blt ie_ValueError (pm_var 4)))))) (pss_oneM (ps_retM pm_bl)) pss_nilM))))))) (pss_oneM (ps_retM (pm_notV (pm_isVEN T.blt iv_FarmError))))))
abbrev s_law : Stmt := top 21
abbrev n_law : List Str := ["_law_script", "_law_k", "_law_cell"]
theorem sc_law : FnScope n_law ["_law_script"] (defScope s_law) := ⟨rfl, rfl, rfl, by decide +kernel, rfl, by decide +kernel, by decide +kernel⟩
def b_law : MS := (mSeq (mFor (mEnum (mSl sCut (.dat (mOp2 sAdd (.dat (mVar 0)) (.dat (mLst [(M.pure (.int 0))])))) none (some (M.pure (.int 3))))) (gTp [1, 2]) (mIfS (mNot (mB (mCallN m_law_right (mLst [(mOp2 sMul (.dat (mVar 2)) (.dat (mCall sInt [(.dat (mOp2 sGe (.dat (mVar 2)) (.dat (mOp2 sPow (.dat (M.pure (.int 10))) (.dat (M.pure (.int 18)))))))]))), (mOp2 sAdd (.dat (mOp2 sMod (.dat (mVar 2)) (.dat (M.pure (.int 2147483647))))) (.dat (mOp2 sMul (.dat (M.pure (.int 7919))) (.dat (mVar 1))))), (M.pure (.int 0))]) []))) (mRet (M.pure (.bl false))) mSkip)) (mRet (M.pure (.bl true))))
def m_law : Fn := mkFn 3 [] b_law
theorem ok_law {f : Addr} {fd : FuncData} (T : Txt K mg C0) (c_law_right : Cal P w K mg base (cfK P w K C0 ex) 4 "_law_right" [0] 1 m_law_right) (F : FunD K "law" "law" (defArgs s_law) (defBody s_law) (defScope s_law) [] [] f fd) : FnOk P w K mg base (L2.CX P w) 5 f fd ["_law_script"] (spM (cfK P w K C0 ex) [] 1 m_law) :=
  fn_ok0 (P := P) (w := w) (K := K) (mg := mg) (base := base) (c := cfK P w K C0 ex) (k := 4) (m := b_law) (st := s_law) (N := n_law) (ps := ["_law_script"]) F sc_law (by decide) fun cdv A outer s H E hr =>
    (pss_consM (ps_forM (passes_of rfl) rfl (pi_enumM rfl T.blt.zenumerate (o_sl (po_dat (o_add (po_dat (pm_var 0)) (po_dat (pm_of_pf (pf_lst (pd_cons pm_int pd_nil)))))) pp_none (pp_some pm_int))) (pg_tpM rfl rfl (pgs_consM (pg_nm 1 sc_law.nd rfl) (pgs_consM (pg_nm 2 sc_law.nd rfl) pgs_nilM))) (pss_oneM (ps_ifM (pt_notM (pt_v (pm_calN c_law_right hr (takes_of rfl rfl rfl rfl) (pf_lst (pd_cons (o_mul (po_dat (pm_var 2)) (po_dat (b_int T.blt (po_dat (o_ge (po_dat (pm_var 2)) (po_dat (o_pow (po_dat pm_int) (po_dat pm_int)))))))) (pd_cons (o_add (po_dat (o_mod (po_dat (pm_var 2)) (po_dat pm_int))) (po_dat (o_mul (po_dat pm_int) (po_dat (pm_var 1))))) (pd_cons pm_int pd_nil)))) pd_nil))) (pss_oneM (ps_retM pm_bl)) pss_nilM))) (pss_oneM (ps_retM pm_bl)))
end
end Fx
set_option Elab.async false
set_option linter.all false
set_option maxRecDepth 100000
set_option maxHeartbeats 1000000
namespace Fx
/-- each of S has a next one in S -/
def Cl (R : Int → Int → Prop) (S : List Int) : Prop := ∀ s ∈ S, ∃ o ∈ S, R s o
/-- no such set among l, except for the empty one -/
def NoCore (R : Int → Int → Prop) (l : List Int) : Prop := ∀ S : List Int, (∀ s ∈ S, s ∈ l) → Cl R S → S = []
theorem fun_core (f : Int → Int) : ∀ (n : Nat) (T : List Int), T.length ≤ n → T ≠ [] → (∀ t ∈ T, f t ∈ T) → ∃ T' : List Int, T' ≠ [] ∧ (∀ t ∈ T', t ∈ T) ∧ ∀ t ∈ T', ∃ s ∈ T', f s = t
  | 0, T, hl, h0, _ => absurd (List.length_eq_zero_iff.mp (by omega)) h0
  | n + 1, T, hl, h0, hf => by
    by_cases h : ∀ t ∈ T, ∃ s ∈ T, f s = t
    · exact ⟨T, h0, fun t ht => ht, h⟩
    · let T1 := T.filter fun t => T.any fun s => decide (f s = t)
      have hT1 : ∀ t, t ∈ T1 ↔ t ∈ T ∧ ∃ s ∈ T, f s = t := by
        intro t
        simp [T1, List.mem_filter]
      have hlt : T1.length < T.length := by
        have hle : T1.length ≤ T.length := List.length_filter_le _ _
        rcases Nat.lt_or_ge T1.length T.length with z | z
        · exact z
        · have e : T1.length = T.length := by omega
          have := List.length_filter_eq_length_iff.mp e
          exact absurd (fun t ht => by
            have := this t ht
            simpa using this) h
      obtain ⟨t0, ht0⟩ := List.exists_mem_of_ne_nil T h0
      have h1 : T1 ≠ [] := List.ne_nil_of_mem ((hT1 (f t0)).mpr ⟨hf t0 ht0, t0, ht0, rfl⟩)
      obtain ⟨T', q1, q2, q3⟩ := fun_core f n T1 (by omega) h1 fun t ht => (hT1 _).mpr ⟨hf t ((hT1 t).mp ht).1, t, ((hT1 t).mp ht).1, rfl⟩
      exact ⟨T', q1, fun t ht => ((hT1 t).mp (q2 t ht)).1, q3⟩
theorem Cl.turn {R : Int → Int → Prop} {S : List Int} (h : Cl R S) (h0 : S ≠ []) : ∃ T : List Int, T ≠ [] ∧ (∀ t ∈ T, t ∈ S) ∧ Cl (fun s o => R o s) T := by
  classical
  let f : Int → Int := fun s => if hs : s ∈ S then (h s hs).choose else s
  have hf : ∀ s ∈ S, f s ∈ S ∧ R s (f s) := fun s hs => by
    have : f s = (h s hs).choose := dif_pos hs
    rw [this]
    exact (h s hs).choose_spec
  obtain ⟨T, q1, q2, q3⟩ := fun_core f _ S (Nat.le_refl _) h0 fun t ht => (hf t ht).1
  refine ⟨T, q1, q2, fun t ht => ?_⟩
  obtain ⟨s, hs, e⟩ := q3 t ht
  refine ⟨s, hs, ?_⟩
  rw [← e]
  exact (hf s (q2 s hs)).2
theorem NoCore.turn {R : Int → Int → Prop} {l : List Int} (h : NoCore R l) : NoCore (fun s o => R o s) l := fun S hS hc => by
  rcases Classical.em (S = []) with z | z
  · exact z
  · obtain ⟨T, q1, q2, q3⟩ := Cl.turn hc z
    exact absurd (h T (fun t ht => hS t (q2 t ht)) q3) q1
/-- what is left holds all that can't be peeled -/
def Keeps (R : Int → Int → Prop) (M l : List Int) : Prop := (∀ s ∈ l, s ∈ M) ∧ ∀ S : List Int, (∀ s ∈ S, s ∈ M) → Cl R S → ∀ s ∈ S, s ∈ l
theorem Keeps.start {R : Int → Int → Prop} {M : List Int} : Keeps R M M := ⟨fun _ h => h, fun _ h _ => h⟩
theorem Keeps.step {R : Int → Int → Prop} {M l l' : List Int} (h : Keeps R M l) (h' : ∀ s, s ∈ l' ↔ s ∈ l ∧ ∃ o ∈ l, R s o) : Keeps R M l' := by
  refine ⟨fun s hs => h.1 s ((h' s).mp hs).1, fun S hS hc s hs => (h' s).mpr ⟨h.2 S hS hc s hs, ?_⟩⟩
  obtain ⟨o, ho, r⟩ := hc s hs
  exact ⟨o, h.2 S hS hc o ho, r⟩
theorem Keeps.empty {R : Int → Int → Prop} {M : List Int} (h : Keeps R M []) : NoCore R M := fun S hS hc => by
  cases S with
  | nil => rfl
  | cons s S => exact nomatch h.2 _ hS hc s List.mem_cons_self
end Fx
set_option Elab.async false
set_option linter.all false
set_option maxRecDepth 100000
set_option maxHeartbeats 1000000
namespace Fx
open PySem L2
section
def rowD (r : List Int) : D := .tup (r.map .int)
def optD : Option Int → D
  | none => .non
  | some i => .int i
def plcD (p : List (Option Int)) : D := .tup (p.map optD)
theorem kit_tt : kitB "tuple" "tuple" = some true := by decide
theorem lay_ints : ∀ l : List Int, PyData.canLayAll0 (toPys (l.map .int)) = true
  | [] => by simp [toPys, PyData.canLayAll0]
  | a :: l => by simp [toPys, toPy, PyData.canLayAll0, PyData.canLay0, lay_ints l]
theorem dep_ints : ∀ l : List Int, PyData.depthAll (toPys (l.map .int)) = 0
  | [] => by simp [toPys, PyData.depthAll]
  | a :: l => by simp [toPys, toPy, PyData.depthAll, PyData.depth, dep_ints l]
theorem eqv_ints : ∀ l m : List Int, PyData.eqvAll (toPys (l.map .int)) (toPys (m.map .int)) = decide (l = m)
  | [], [] => by simp [toPys, PyData.eqvAll]
  | [], _ :: _ => by simp [toPys, PyData.eqvAll]
  | _ :: _, [] => by simp [toPys, PyData.eqvAll]
  | a :: l, b :: m => by
    simp only [List.map_cons, toPys, toPy, PyData.eqvAll, PyData.eqv, eqv_ints l m, List.cons.injEq]
    by_cases h : a = b <;> by_cases k : l = m <;> simp [h, k]
theorem sEq_tup (l m : List Int) : sEq (.tup (l.map .int)) (.tup (m.map .int)) = some (.bl (decide (l = m))) := by
  simp [sEq, plain, toPy, PyData.canLay0, lay_ints, PyData.depth, dep_ints, eqD, PyData.eqv, eqv_ints]
theorem sEq_lst (l m : List Int) : sEq (.lst (l.map .int)) (.lst (m.map .int)) = some (.bl (decide (l = m))) := by
  simp [sEq, plain, toPy, PyData.canLay0, lay_ints, PyData.depth, dep_ints, eqD, PyData.eqv, eqv_ints]
theorem sNe_lst (l m : List Int) : sNe (.lst (l.map .int)) (.lst (m.map .int)) = some (.bl (!decide (l = m))) := by
  simp [sNe, plain, toPy, PyData.canLay0, lay_ints, PyData.depth, dep_ints, eqD, PyData.eqv, eqv_ints]
theorem sEq_int (a b : Int) : sEq (.int a) (.int b) = some (.bl (decide (a = b))) := by
  simp [sEq, plain, toPy, PyData.canLay0, PyData.depth, eqD, PyData.eqv]
  rfl
theorem sNe_int (a b : Int) : sNe (.int a) (.int b) = some (.bl (!decide (a = b))) := by
  simp [sNe, plain, toPy, PyData.canLay0, PyData.depth, eqD, PyData.eqv]
  rfl
theorem eqD_int (a b : Int) : eqD (.int a) (.int b) = decide (a = b) := by
  simp [eqD, toPy, PyData.eqv]
  rfl
theorem inD_ints (a : Int) : ∀ l : List Int, inD (.int a) (l.map .int) = decide (a ∈ l)
  | [] => by simp [inD]
  | b :: l => by
    have h := inD_ints a l
    simp only [inD, List.map_cons, List.any_cons] at h ⊢
    rw [h, eqD_int]
    by_cases e : b = a
    · simp [e]
    · have e2 : ¬ a = b := fun z => e z.symm
      simp [e, e2]
theorem sIn_tup (a : Int) (l : List Int) : sIn (.int a) (.tup (l.map .int)) = some (.bl (decide (a ∈ l))) := by
  simp [sIn, itemsOf, plain, toPy, PyData.canLay0, lay_ints, dep_ints, PyData.depth, inD_ints]
theorem sIn_lst (a : Int) (l : List Int) : sIn (.int a) (.lst (l.map .int)) = some (.bl (decide (a ∈ l))) := by
  simp [sIn, itemsOf, plain, toPy, PyData.canLay0, lay_ints, dep_ints, PyData.depth, inD_ints]
theorem sNin_tup (a : Int) (l : List Int) : sNin (.int a) (.tup (l.map .int)) = some (.bl (!decide (a ∈ l))) := by
  simp [sNin, itemsOf, plain, toPy, PyData.canLay0, lay_ints, dep_ints, PyData.depth, inD_ints]
theorem sNin_lst (a : Int) (l : List Int) : sNin (.int a) (.lst (l.map .int)) = some (.bl (!decide (a ∈ l))) := by
  simp [sNin, itemsOf, plain, toPy, PyData.canLay0, lay_ints, dep_ints, PyData.depth, inD_ints]
theorem mSeq_next {m n : MS} {ρ ρ' : Cells} (h : m ρ = .next ρ') : mSeq m n ρ = n ρ' := by simp [mSeq, h]
theorem mSeq_ret {m n : MS} {ρ ρ' : Cells} {d : D} (h : m ρ = .ret d ρ') : mSeq m n ρ = .ret d ρ' := by simp [mSeq, h]
theorem mkFn_ret {k : Nat} {bs : List Nat} {m : MS} {ds : List D} {ρ : Cells} {d : D} (h : m (initC k bs ds) = .ret d ρ) : mkFn k bs m ds = .ret d (outsOf bs ρ) := by simp [mkFn, h]
theorem mIfS_f {t : M Bool} {m n : MS} {ρ ρ' : Cells} (h : t ρ = .ok false ρ') : mIfS t m n ρ = n ρ' := by simp [mIfS, mDo, h]
theorem mIfS_t {t : M Bool} {m n : MS} {ρ ρ' : Cells} (h : t ρ = .ok true ρ') : mIfS t m n ρ = m ρ' := by simp [mIfS, mDo, h]
theorem enumD_inv : ∀ (n i : Nat) (ds : List D) (e : D), (enumD n ds)[i]? = some e → ∃ d, ds[i]? = some d ∧ e = .tup [.int ((n + i : Nat) : Int), d]
  | n, i, [], e, h => by simp [enumD] at h
  | n, 0, d :: ds, e, h => by
    simp [enumD] at h
    exact ⟨d, rfl, by rw [← h]; rfl⟩
  | n, i + 1, d :: ds, e, h => by
    obtain ⟨x, h1, h2⟩ := enumD_inv (n + 1) i ds e (by simpa [enumD] using h)
    exact ⟨x, by simpa using h1, by rw [h2, show n + 1 + i = n + (i + 1) by omega]⟩
theorem atI_nat {α : Type} (l : List α) (s : Nat) : atI l (s : Int) = l[s]? := by
  unfold atI ixN
  rw [if_pos (Int.natCast_nonneg s)]
  by_cases h : s < l.length
  · rw [if_pos (by omega)]
    simp
  · rw [if_neg (by omega), List.getElem?_eq_none (by omega)]
    rfl
theorem cut_take (l : List D) (k : Nat) : cutD l none (some (k : Int)) = l.take k := by
  unfold cutD
  rw [HT.sIx_none, HT.sIx_nat, Nat.sub_zero, List.drop_zero]
  by_cases h : k ≤ l.length
  · rw [Nat.min_eq_left h]
  · rw [Nat.min_eq_right (by omega), List.take_length, List.take_of_length_le (by omega)]
def wellD (a b d : Int) : D := .lst [.int a, .int b, .int d]
theorem ix0 {x y z : D} : sIx (.lst [x, y, z]) (.int 0) = some x := by rfl
theorem ix1 {x y z : D} : sIx (.lst [x, y, z]) (.int 1) = some y := by rfl
theorem ix2 {x y z : D} : sIx (.lst [x, y, z]) (.int 2) = some z := by rfl
theorem fmod_in {a n : Int} (h : 0 < n) : 0 ≤ a.fmod n ∧ a.fmod n < n := by
  rw [Int.fmod_eq_emod_of_nonneg _ (Int.le_of_lt h)]
  exact ⟨Int.emod_nonneg _ (by omega), Int.emod_lt_of_pos _ h⟩
theorem sMul_l {i j : Int} (h : inR i = true) : sMul (.int i) (.int j) = some (.int (i * j)) := by simp [sMul, h]
theorem sMul_r {i j : Int} (h : inR j = true) : sMul (.int i) (.int j) = some (.int (i * j)) := by simp [sMul, h]
theorem inR_fmod {a n : Int} (h : 0 < n) (h2 : n ≤ 2147483647) : inR (a.fmod n) = true := by
  have := fmod_in (a := a) h
  simp [inR]
  omega
theorem e_draw (a b d : Int) {lim : Int} (h : 0 < lim) (h2 : lim < 1000000) : ∃ r a' b' d', m_law_draw [wellD a b d, .int lim] = .ret (.int r) [wellD a' b' d'] ∧ 0 ≤ r ∧ r < lim := by
  have hl : lim ≠ 0 := by omega
  have hb : lim.natAbs < 1073741824 := by omega
  by_cases ha : 0 < a
  · refine ⟨a.fmod lim, a.fdiv lim, b, d, ?_, fmod_in h⟩
    unfold m_law_draw
    rw [mkFn_ret (d := .int (a.fmod lim)) (ρ := [.own (wellD (a.fdiv lim) b d), .dat (.int lim), .dat (.int (a.fmod lim)), .no]) (by
      show b_law_draw [.own (wellD a b d), .dat (.int lim), .no, .no] = _
      unfold b_law_draw
      rw [mSeq_ret]
      rw [mIfS_t (ρ' := [.own (wellD a b d), .dat (.int lim), .no, .no]) (by simp [mkFn, mSeq, mIfS, mDo, mRet, mRetN, mSkip, mExpr, mAsg, mAnd, mOr, mNot, mAndV, mOrV, mNotV, mB, mIf, mV, mNeg, mCall, mOp2, mTup, mLst, mMeth, mSl, mPart, preL, seqM, M.bind, M.pure, M.lift, M.stuck, Out.andThen, mVar, Opn.pre, Opn.rd, rdM, rdLM, rdL, cellD, initC, initAt, outsOf, outAt, gNm, gTp, gNms, mNew, mFrz, mPar, mFld, mCallF, mCallK, mCallN, appF, rdA, setOuts, ownSlots, ownPos, mSeqI, mEnum, mRange1, itemsOf, wellD, ix0, sGt, ha])]
      simp [mkFn, mSeq, mIfS, mDo, mRet, mRetN, mSkip, mExpr, mAsg, mAnd, mOr, mNot, mAndV, mOrV, mNotV, mB, mIf, mV, mNeg, mCall, mOp2, mTup, mLst, mMeth, mSl, mPart, preL, seqM, M.bind, M.pure, M.lift, M.stuck, Out.andThen, mVar, Opn.pre, Opn.rd, rdM, rdLM, rdL, cellD, initC, initAt, outsOf, outAt, gNm, gTp, gNms, mNew, mFrz, mPar, mFld, mCallF, mCallK, mCallN, appF, rdA, setOuts, ownSlots, ownPos, mSeqI, mEnum, mRange1, itemsOf, wellD, ix0, sMod, sFdiv, hl, hb, mSetIx, ownAt, ixN])]
    rfl
  · let x0 := (b + 104729 * (d + 1) + 1)
    let x1 := (x0 * 48271).fmod 2147483647
    let x2 := (x1 * (x1.fdiv 1009 + 69621)).fmod 2147483647
    let x3 := (x2 * (x2.fdiv 2003 + 40692)).fmod 2147483399
    refine ⟨x3.fmod lim, a, b, d + 1, ?_, fmod_in h⟩
    have r1 : inR x1 = true := inR_fmod (by omega) (by omega)
    have r2 : inR x2 = true := inR_fmod (by omega) (by omega)
    unfold m_law_draw
    rw [mkFn_ret (d := .int (x3.fmod lim)) (ρ := [.own (wellD a b (d + 1)), .dat (.int lim), .no, .dat (.int x2)]) (by
      show b_law_draw [.own (wellD a b d), .dat (.int lim), .no, .no] = _
      unfold b_law_draw
      rw [mSeq_next (ρ' := [.own (wellD a b d), .dat (.int lim), .no, .no]) (by
        rw [mIfS_f (ρ' := [.own (wellD a b d), .dat (.int lim), .no, .no]) (by simp [mkFn, mSeq, mIfS, mDo, mRet, mRetN, mSkip, mExpr, mAsg, mAnd, mOr, mNot, mAndV, mOrV, mNotV, mB, mIf, mV, mNeg, mCall, mOp2, mTup, mLst, mMeth, mSl, mPart, preL, seqM, M.bind, M.pure, M.lift, M.stuck, Out.andThen, mVar, Opn.pre, Opn.rd, rdM, rdLM, rdL, cellD, initC, initAt, outsOf, outAt, gNm, gTp, gNms, mNew, mFrz, mPar, mFld, mCallF, mCallK, mCallN, appF, rdA, setOuts, ownSlots, ownPos, mSeqI, mEnum, mRange1, itemsOf, wellD, ix0, sGt, ha])]
        simp [mkFn, mSeq, mIfS, mDo, mRet, mRetN, mSkip, mExpr, mAsg, mAnd, mOr, mNot, mAndV, mOrV, mNotV, mB, mIf, mV, mNeg, mCall, mOp2, mTup, mLst, mMeth, mSl, mPart, preL, seqM, M.bind, M.pure, M.lift, M.stuck, Out.andThen, mVar, Opn.pre, Opn.rd, rdM, rdLM, rdL, cellD, initC, initAt, outsOf, outAt, gNm, gTp, gNms, mNew, mFrz, mPar, mFld, mCallF, mCallK, mCallN, appF, rdA, setOuts, ownSlots, ownPos, mSeqI, mEnum, mRange1, itemsOf])]
      rw [mSeq_next (ρ' := [.own (wellD a b (d + 1)), .dat (.int lim), .no, .no]) (by simp [mkFn, mSeq, mIfS, mDo, mRet, mRetN, mSkip, mExpr, mAsg, mAnd, mOr, mNot, mAndV, mOrV, mNotV, mB, mIf, mV, mNeg, mCall, mOp2, mTup, mLst, mMeth, mSl, mPart, preL, seqM, M.bind, M.pure, M.lift, M.stuck, Out.andThen, mVar, Opn.pre, Opn.rd, rdM, rdLM, rdL, cellD, initC, initAt, outsOf, outAt, gNm, gTp, gNms, mNew, mFrz, mPar, mFld, mCallF, mCallK, mCallN, appF, rdA, setOuts, ownSlots, ownPos, mSeqI, mEnum, mRange1, itemsOf, wellD, ix2, sAdd, mSetIx, ownAt, ixN])]
      have k1 : sMul (.int 104729) (.int (d + 1)) = some (.int (104729 * (d + 1))) := sMul_l (by decide)
      have k2 : sMul (.int x0) (.int 48271) = some (.int (x0 * 48271)) := sMul_r (by decide)
      rw [mSeq_next (ρ' := [.own (wellD a b (d + 1)), .dat (.int lim), .no, .dat (.int x1)]) (by simp [mkFn, mSeq, mIfS, mDo, mRet, mRetN, mSkip, mExpr, mAsg, mAnd, mOr, mNot, mAndV, mOrV, mNotV, mB, mIf, mV, mNeg, mCall, mOp2, mTup, mLst, mMeth, mSl, mPart, preL, seqM, M.bind, M.pure, M.lift, M.stuck, Out.andThen, mVar, Opn.pre, Opn.rd, rdM, rdLM, rdL, cellD, initC, initAt, outsOf, outAt, gNm, gTp, gNms, mNew, mFrz, mPar, mFld, mCallF, mCallK, mCallN, appF, rdA, setOuts, ownSlots, ownPos, mSeqI, mEnum, mRange1, itemsOf, wellD, ix1, ix2, sAdd, sMod, k1]; simp [x0] at k2; simp [k2, x1, x0, sMod])]
      have k3 : sMul (.int x1) (.int (x1.fdiv 1009 + 69621)) = some (.int (x1 * (x1.fdiv 1009 + 69621))) := sMul_l r1
      rw [mSeq_next (ρ' := [.own (wellD a b (d + 1)), .dat (.int lim), .no, .dat (.int x2)]) (by simp [mkFn, mSeq, mIfS, mDo, mRet, mRetN, mSkip, mExpr, mAsg, mAnd, mOr, mNot, mAndV, mOrV, mNotV, mB, mIf, mV, mNeg, mCall, mOp2, mTup, mLst, mMeth, mSl, mPart, preL, seqM, M.bind, M.pure, M.lift, M.stuck, Out.andThen, mVar, Opn.pre, Opn.rd, rdM, rdLM, rdL, cellD, initC, initAt, outsOf, outAt, gNm, gTp, gNms, mNew, mFrz, mPar, mFld, mCallF, mCallK, mCallN, appF, rdA, setOuts, ownSlots, ownPos, mSeqI, mEnum, mRange1, itemsOf, sAdd, sMod, sFdiv, k3]; rfl)]
      have k4 : sMul (.int x2) (.int (x2.fdiv 2003 + 40692)) = some (.int (x2 * (x2.fdiv 2003 + 40692))) := sMul_l r2
      simp [mkFn, mSeq, mIfS, mDo, mRet, mRetN, mSkip, mExpr, mAsg, mAnd, mOr, mNot, mAndV, mOrV, mNotV, mB, mIf, mV, mNeg, mCall, mOp2, mTup, mLst, mMeth, mSl, mPart, preL, seqM, M.bind, M.pure, M.lift, M.stuck, Out.andThen, mVar, Opn.pre, Opn.rd, rdM, rdLM, rdL, cellD, initC, initAt, outsOf, outAt, gNm, gTp, gNms, mNew, mFrz, mPar, mFld, mCallF, mCallK, mCallN, appF, rdA, setOuts, ownSlots, ownPos, mSeqI, mEnum, mRange1, itemsOf, sAdd, sMod, sFdiv, k4, hl]
      rfl)]
    rfl
def rng (k : Nat) : List Int := (List.range k).map fun (i : Nat) => 0 + (i : Int)
theorem rng_D (k : Nat) : rangeD 0 k = (rng k).map .int := by
  unfold rangeD rng
  rw [List.map_map]
  rfl
theorem cut_take' (l : List D) (k : Int) (hk : 0 ≤ k) : cutD l none (some k) = l.take k.toNat := by
  have := cut_take l k.toNat
  rwa [Int.toNat_of_nonneg hk] at this
def PlOk (rows : List (List Int)) (p : List (Option Int)) : Prop := ∀ (s : Nat) (v : Int), p[s]? = some (some v) → ∃ r, rows[s]? = some r ∧ v ∈ r
def rowAt (rows : List (List Int)) (s : Int) : List Int := rows.getD s.toNat []
def plAt (p : List (Option Int)) (s : Int) : Int := (p.getD s.toNat none).getD 0
def passI (rows : List (List Int)) (p : List (Option Int)) (s : Int) : List Int := (rowAt rows s).take ((rowAt rows s).idxOf (plAt p s))
def Pres (p : List (Option Int)) (s : Int) : Prop := ∃ (i : Nat) (x : Int), s = (i : Int) ∧ p[i]? = some (some x)
theorem Pres.at {rows : List (List Int)} {p : List (Option Int)} {s : Int} (h : Pres p s) (hok : PlOk rows p) : ∃ (i : Nat) (x : Int) (r : List Int), s = (i : Int) ∧ p[i]? = some (some x) ∧ rows[i]? = some r ∧ x ∈ r ∧ rowAt rows s = r ∧ plAt p s = x := by
  obtain ⟨i, x, rfl, h2⟩ := h
  obtain ⟨r, h3, h4⟩ := hok i x h2
  refine ⟨i, x, r, rfl, h2, h3, h4, ?_, ?_⟩
  · unfold rowAt
    rw [Int.toNat_natCast, List.getD_eq_getElem?_getD, h3]
    rfl
  · unfold plAt
    rw [Int.toNat_natCast, List.getD_eq_getElem?_getD, h2]
    rfl
end
section
theorem ix_row {rows : List (List Int)} {i : Nat} {r : List Int} (hr : rows[i]? = some r) : sIx (.tup (rows.map rowD)) (.int i) = some (rowD r) := by simp [sIx, atI_nat, hr]
def hQ (rows : List (List Int)) (p : List (Option Int)) (s o : Int) : Bool := decide (plAt p o ∈ passI rows p s)
end
section
end
section
variable {n t : Int} {rows : List (List Int)} {p : List (Option Int)} {st : List Int}
end
section
variable {n t : Int} {rows : List (List Int)} {p : List (Option Int)} {st : List Int}
end
section
variable {n t k a b d : Int} {rows : List (List Int)} {p : List (Option Int)} {st : List Int}
end
section
theorem pow18 : sPow (.int 10) (.int 18) = some (.int (10 ^ 18)) := by
  show (if (0 : Int) ≤ 18 ∧ (18 : Int) ≤ 1000000 ∧ (10 : Int).natAbs < 2 ^ 64 then some (D.int (10 ^ (18 : Int).toNat)) else none) = _
  rw [if_pos ⟨by decide, by decide, by decide⟩]
  rfl
end
section
variable {n t k f : Int} {rows : List (List Int)}
end
section
variable {n t v : Int} {rows : List (List Int)}
end
section
variable {n t v : Int} {rows : List (List Int)}
theorem sNe_tup (l m : List Int) : sNe (.tup (l.map .int)) (.tup (m.map .int)) = some (.bl (!decide (l = m))) := by
  simp [sNe, plain, toPy, PyData.canLay0, lay_ints, PyData.depth, dep_ints, eqD, PyData.eqv, eqv_ints]
end
section
variable {n k f : Int}
end
section
variable {n k f sz : Int}
theorem lcM_T {β : Type} {g : TgM} {tt : M Bool} {fe : M D} {vs : List Nat} {w : Cells} (em : β → D) (P : β → Bool) (f : β → D) : ∀ (xs : List β) (ρ : Cells), wipeC ρ vs = w →
    (∀ x ∈ xs, ∃ ρ1, g (em x) w = some ρ1 ∧ tt ρ1 = .ok (P x) ρ1 ∧ (P x = true → fe ρ1 = .ok (f x) ρ1) ∧ wipeC ρ1 vs = w) →
    ∃ ρ', lcM g tt fe vs (xs.map em) ρ = some ((xs.filter P).map f, ρ') ∧ wipeC ρ' vs = w
  | [], ρ, hw, _ => ⟨ρ, rfl, hw⟩
  | x :: xs, ρ, hw, h => by
    obtain ⟨ρ1, h1, h2, h3, h4⟩ := h x List.mem_cons_self
    obtain ⟨ρ', e, hw'⟩ := lcM_T (g := g) (tt := tt) (fe := fe) em P f xs ρ1 h4 fun y hy => h y (List.mem_cons_of_mem _ hy)
    refine ⟨ρ', ?_, hw'⟩
    rw [List.map_cons]
    unfold lcM
    rw [hw]
    simp only [h1, h2]
    cases hP : P x with
    | true => simp [hP, h3 hP, e]
    | false => simp [hP, e]
theorem mLc_T {β : Type} {fi : M (List D)} {g : TgM} {tt : M Bool} {fe : M D} {vs : List Nat} {ρ : Cells} (em : β → D) (P : β → Bool) (f : β → D) {xs : List β} (hi : fi ρ = .ok (xs.map em) ρ) (ho : vs.all (fun v => !isOwn ρ[v]?) = true)
    (h : ∀ x ∈ xs, ∃ ρ1, g (em x) (wipeC ρ vs) = some ρ1 ∧ tt ρ1 = .ok (P x) ρ1 ∧ (P x = true → fe ρ1 = .ok (f x) ρ1) ∧ wipeC ρ1 vs = wipeC ρ vs) :
    mLc fi g tt fe vs ρ = .ok (.lst ((xs.filter P).map f)) ρ := by
  obtain ⟨ρ', e, hw⟩ := lcM_T (g := g) (tt := tt) (fe := fe) em P f xs ρ rfl h
  unfold mLc M.bind
  rw [hi]
  show (if vs.all (fun v => !isOwn ρ[v]?) = true then _ else _) = _
  rw [if_pos ho, e]
  show Out.ok _ (unwipe ρ ρ' vs) = _
  rw [unwipe_same hw]
theorem filter_true {β : Type} (l : List β) : l.filter (fun _ => true) = l := List.filter_eq_self.mpr fun _ _ => rfl
end
section
variable {n k f : Int}
def cellO : Option D → Cell
  | none => .no
  | some d => .dat d
theorem cellO_no (o : Option D) : isOwn (some (cellO o)) = false := by cases o <;> rfl
end
section
end
end Fx
set_option Elab.async false
set_option linter.all false
set_option maxRecDepth 100000
set_option maxHeartbeats 1000000
namespace Fx
open PySem L2
theorem nb_h {b : Bool} (h : b = true) : NB b true := h
theorem nb_hf {b : Bool} (h : b = false) : NB b false := h
theorem nb_hn {b : Bool} (h : b = false) : NB (!b) true := by unfold NB; rw [h]; rfl
theorem nb_hnf {b : Bool} (h : b = true) : NB (!b) false := by unfold NB; rw [h]; rfl
def Wl (ρ : Cells) (vs : List Nat) (w : Cells) : Prop := wipeC ρ vs = w
theorem wl_n {ρ : Cells} : Wl ρ [] ρ := rfl
theorem wl_c {ρ ρ1 ρ2 : Cells} {v : Nat} {vs : List Nat} (h : Wl ρ vs ρ1) (h2 : SetAt ρ1 v .no ρ2) : Wl ρ (v :: vs) ρ2 := by
  unfold Wl wipeC
  rw [show wipeC ρ vs = ρ1 from h]
  exact h2
def LcE (g : TgM) (tt : M Bool) (fe : M D) (vs : List Nat) (w : Cells) (d : D) (b : Bool) (e : D) : Prop := ∃ ρ1, g d w = some ρ1 ∧ tt ρ1 = .ok b ρ1 ∧ (b = true → fe ρ1 = .ok e ρ1) ∧ wipeC ρ1 vs = w
theorem lcE_i {g : TgM} {tt : M Bool} {fe : M D} {vs : List Nat} {w ρ1 : Cells} {d e : D} {b : Bool} (h1 : Tg g d w ρ1) (h2 : tt ρ1 = .ok b ρ1) (h3 : b = true → fe ρ1 = .ok e ρ1) (h4 : Wl ρ1 vs w) : LcE g tt fe vs w d b e := ⟨ρ1, h1, h2, h3, h4⟩
def Mp {β : Type} (ds : List D) (xs : List β) (em : β → D) : Prop := ds = xs.map em
theorem mp_r {β : Type} {xs : List β} {em : β → D} : Mp (xs.map em) xs em := rfl
def NoOwn (ρ : Cells) (vs : List Nat) : Prop := vs.all (fun v => !isOwn ρ[v]?) = true
/-- a cell that owns nothing -/
def Nw (x : Cell) : Prop := isOwn (some x) = false
theorem nw_d {d : D} : Nw (.dat d) := rfl
theorem nw_n : Nw .no := rfl
theorem nw_o {o : Option D} : Nw (cellO o) := cellO_no o
theorem no_n {ρ : Cells} : NoOwn ρ [] := rfl
theorem no_c {ρ : Cells} {v : Nat} {vs : List Nat} {x : Cell} (h : GetAt ρ v x) (h2 : Nw x) (h3 : NoOwn ρ vs) : NoOwn ρ (v :: vs) := by
  unfold NoOwn
  rw [List.all_cons, show ρ[v]? = some x from h, show isOwn (some x) = false from h2]
  exact h3
theorem x_lc {β : Type} {fi : M (List D)} {g : TgM} {tt : M Bool} {fe : M D} {vs : List Nat} {ρ ρ1 w : Cells} {em : β → D} {P : β → Bool} {f : β → D} {ds : List D} {xs : List β} (hi : fi ρ = .ok ds ρ1) (hm : Mp ds xs em) (ho : NoOwn ρ1 vs) (hw : Wl ρ1 vs w) (h : ∀ x ∈ xs, LcE g tt fe vs w (em x) (P x) (f x)) :
    mLc fi g tt fe vs ρ = .ok (.lst ((xs.filter P).map f)) ρ1 := by
  have e : mLc fi g tt fe vs ρ = mLc (M.pure ds) g tt fe vs ρ1 := by
    unfold mLc M.bind
    rw [hi]
    rfl
  rw [e]
  rw [show ds = xs.map em from hm]
  exact mLc_T (fi := M.pure (xs.map em)) em P f rfl ho fun x hx => by
    rw [show wipeC ρ1 vs = w from hw]
    exact h x hx
theorem x_lcU {β : Type} {fi : M (List D)} {g : TgM} {fe : M D} {vs : List Nat} {ρ ρ1 w : Cells} {em : β → D} {f : β → D} {ds : List D} {xs : List β} (hi : fi ρ = .ok ds ρ1) (hm : Mp ds xs em) (ho : NoOwn ρ1 vs) (hw : Wl ρ1 vs w) (h : ∀ x ∈ xs, LcE g (M.pure true) fe vs w (em x) true (f x)) :
    mLc fi g (M.pure true) fe vs ρ = .ok (.lst (xs.map f)) ρ1 := by
  have := x_lc (P := fun _ => true) hi hm ho hw h
  rwa [filter_true] at this
theorem i_rng {f : M D} {k : Int} {ρ ρ1 : Cells} (h : f ρ = .ok (.int k) ρ1) (h1 : k ≤ 16777216) (h2 : -16777216 ≤ k) : mRange1 f ρ = .ok ((rng k.toNat).map .int) ρ1 := by
  rw [← rng_D]; exact i_range h h1 h2
theorem x_lrn {f : M D} {k : Int} {ρ ρ1 : Cells} (h : f ρ = .ok (.int k) ρ1) (h1 : -(2 ^ 62) ≤ k) (h2 : k ≤ 16777216) : mListRg f ρ = .ok (.lst ((rng k.toNat).map .int)) ρ1 := by
  rw [← rng_D]; exact x_lrg h h1 h2
/-- the items of enumerate -/
def enumL {α : Type} (f : α → D) : Nat → List α → List (Nat × α)
  | _, [] => []
  | n, a :: l => (n, a) :: enumL f (n + 1) l
def enE {α : Type} (f : α → D) (q : Nat × α) : D := .tup [.int (q.1 : Int), f q.2]
theorem enum_map {α : Type} (f : α → D) : ∀ (n : Nat) (l : List α), enumD n (l.map f) = (enumL f n l).map (enE f)
  | _, [] => rfl
  | n, a :: l => by
    rw [List.map_cons]
    show D.tup [.int (n : Int), f a] :: enumD (n + 1) (l.map f) = _
    rw [enum_map f (n + 1) l]
    rfl
theorem i_en {α : Type} {fe : M D} {f : α → D} {l : List α} {d : D} {ds : List D} {ρ ρ1 : Cells} (h : fe ρ = .ok d ρ1) (h2 : itemsOf d = some ds) (h3 : Mp ds l f) : mEnum fe ρ = .ok ((enumL f 0 l).map (enE f)) ρ1 := by
  rw [i_enum h h2, show ds = l.map f from h3, enum_map]
theorem sEq_opt (a b : Option Int) : sEq (optD a) (optD b) = some (.bl (decide (a = b))) := by
  cases a <;> cases b
  · rfl
  · rfl
  · rfl
  · rename_i x y
    show sEq (.int x) (.int y) = _
    rw [sEq_int]
    simp
theorem sNe_opt (a b : Option Int) : sNe (optD a) (optD b) = some (.bl (!decide (a = b))) := by
  cases a <;> cases b
  · rfl
  · rfl
  · rfl
  · rename_i x y
    show sNe (.int x) (.int y) = _
    rw [sNe_int]
    simp
theorem sIsN_opt (o : Option Int) : sIsN (optD o) .non = some (.bl (decide (o = none))) := by cases o <;> rfl
theorem sNotN_opt (o : Option Int) : sNotN (optD o) .non = some (.bl (!decide (o = none))) := by cases o <;> rfl
theorem sIx_plc {p : List (Option Int)} {i : Nat} {o : Option Int} (h : p[i]? = some o) : sIx (plcD p) (.int (i : Int)) = some (optD o) := by
  show atI _ _ = _
  rw [atI_nat, List.getElem?_map, h]
  rfl
theorem sIx_rows {rows : List (List Int)} {i : Nat} {r : List Int} (h : rows[i]? = some r) : sIx (.tup (rows.map rowD)) (.int (i : Int)) = some (rowD r) := ix_row h
theorem sIx_rowsL {rows : List (List Int)} {i : Nat} {r : List Int} (h : rows[i]? = some r) : sIx (.lst (rows.map rowD)) (.int (i : Int)) = some (rowD r) := by
  show atI _ _ = _
  rw [atI_nat, List.getElem?_map, h]
  rfl
theorem sAdd_lst {l m : List D} (h : l.length + m.length ≤ 16777216) : sAdd (.lst l) (.lst m) = some (.lst (l ++ m)) := if_pos h
theorem sLen_lst {l : List D} : sLen [.lst l] = some (.int (l.length : Nat)) := by simp [sLen]
theorem sLen_tup {l : List D} : sLen [.tup l] = some (.int (l.length : Nat)) := by simp [sLen]
theorem isTupD (ds : List D) : sIsi [.tup ds, .raw (.ty "tuple")] = some (.bl true) := by simp [sIsi, tyName, kit_tt]
theorem sIn_row (a : Int) (l : List Int) : sIn (.int a) (rowD l) = some (.bl (decide (a ∈ l))) := sIn_tup a l
theorem sNin_row (a : Int) (l : List Int) : sNin (.int a) (rowD l) = some (.bl (!decide (a ∈ l))) := sNin_tup a l
theorem sLen_row (r : List Int) : sLen [rowD r] = some (.int (r.length : Nat)) := by simp [sLen, rowD]
theorem sLen_plc (p : List (Option Int)) : sLen [plcD p] = some (.int (p.length : Nat)) := by simp [sLen, plcD]
theorem isTup_row (r : List Int) : sIsi [rowD r, .raw (.ty "tuple")] = some (.bl true) := isTupD _
theorem isTup_plc (p : List (Option Int)) : sIsi [plcD p, .raw (.ty "tuple")] = some (.bl true) := isTupD _
theorem sNotN_int (v : Int) : sNotN (.int v) .non = some (.bl true) := rfl
theorem sIsN_int (v : Int) : sIsN (.int v) .non = some (.bl false) := rfl
theorem sNotN_tup (v : List D) : sNotN (.tup v) .non = some (.bl true) := rfl
theorem sIsN_tup (v : List D) : sIsN (.tup v) .non = some (.bl false) := rfl
theorem sNotN_lst (v : List D) : sNotN (.lst v) .non = some (.bl true) := rfl
theorem sIsN_lst (v : List D) : sIsN (.lst v) .non = some (.bl false) := rfl
theorem sNotN_non : sNotN .non .non = some (.bl false) := rfl
theorem sIsN_non : sIsN .non .non = some (.bl true) := rfl
theorem sLen_ints (l : List Int) : sLen [.lst (l.map .int)] = some (.int (l.length : Nat)) := by simp [sLen]
theorem sLen_tints (l : List Int) : sLen [.tup (l.map .int)] = some (.int (l.length : Nat)) := by simp [sLen]
theorem sLen_rows (l : List (List Int)) : sLen [.lst (l.map rowD)] = some (.int (l.length : Nat)) := by simp [sLen]
theorem sLen_rowsT (l : List (List Int)) : sLen [.tup (l.map rowD)] = some (.int (l.length : Nat)) := by simp [sLen]
end Fx
set_option Elab.async false
set_option linter.all false
set_option maxRecDepth 100000
set_option maxHeartbeats 1000000
namespace Fx
open PySem L2
section
variable {ρ ρ1 ρ2 ρ3 ρ4 ρ5 : Cells} {d e a b a1 a2 a3 a4 a5 w w1 : D}
theorem vv_id {i : Nat} (h : mVar i ρ = .ok d ρ1) : mVar i ρ = .ok d ρ1 := h
theorem gg_id {i : Nat} {x : Cell} (h : GetAt ρ i x) : GetAt ρ i x := h
theorem ss_id {i : Nat} {x : Cell} (h : SetAt ρ i x ρ1) : SetAt ρ i x ρ1 := h
theorem vk0 {r : Cells} : mVar 0 (.dat d :: r) = .ok d (.dat d :: r) := rfl
theorem gk0 {x : Cell} {r : Cells} : GetAt (x :: r) 0 x := rfl
theorem sk0 {x y : Cell} {r : Cells} : SetAt (x :: r) 0 y (y :: r) := rfl
theorem vk1 {c0 : Cell} {r : Cells} : mVar 1 (c0 :: .dat d :: r) = .ok d (c0 :: .dat d :: r) := rfl
theorem gk1 {c0 : Cell} {x : Cell} {r : Cells} : GetAt (c0 :: x :: r) 1 x := rfl
theorem sk1 {c0 : Cell} {x y : Cell} {r : Cells} : SetAt (c0 :: x :: r) 1 y (c0 :: y :: r) := rfl
theorem vk2 {c0 c1 : Cell} {r : Cells} : mVar 2 (c0 :: c1 :: .dat d :: r) = .ok d (c0 :: c1 :: .dat d :: r) := rfl
theorem gk2 {c0 c1 : Cell} {x : Cell} {r : Cells} : GetAt (c0 :: c1 :: x :: r) 2 x := rfl
theorem sk2 {c0 c1 : Cell} {x y : Cell} {r : Cells} : SetAt (c0 :: c1 :: x :: r) 2 y (c0 :: c1 :: y :: r) := rfl
theorem vk3 {c0 c1 c2 : Cell} {r : Cells} : mVar 3 (c0 :: c1 :: c2 :: .dat d :: r) = .ok d (c0 :: c1 :: c2 :: .dat d :: r) := rfl
theorem gk3 {c0 c1 c2 : Cell} {x : Cell} {r : Cells} : GetAt (c0 :: c1 :: c2 :: x :: r) 3 x := rfl
theorem sk3 {c0 c1 c2 : Cell} {x y : Cell} {r : Cells} : SetAt (c0 :: c1 :: c2 :: x :: r) 3 y (c0 :: c1 :: c2 :: y :: r) := rfl
theorem vk4 {c0 c1 c2 c3 : Cell} {r : Cells} : mVar 4 (c0 :: c1 :: c2 :: c3 :: .dat d :: r) = .ok d (c0 :: c1 :: c2 :: c3 :: .dat d :: r) := rfl
theorem gk4 {c0 c1 c2 c3 : Cell} {x : Cell} {r : Cells} : GetAt (c0 :: c1 :: c2 :: c3 :: x :: r) 4 x := rfl
theorem sk4 {c0 c1 c2 c3 : Cell} {x y : Cell} {r : Cells} : SetAt (c0 :: c1 :: c2 :: c3 :: x :: r) 4 y (c0 :: c1 :: c2 :: c3 :: y :: r) := rfl
theorem vk5 {c0 c1 c2 c3 c4 : Cell} {r : Cells} : mVar 5 (c0 :: c1 :: c2 :: c3 :: c4 :: .dat d :: r) = .ok d (c0 :: c1 :: c2 :: c3 :: c4 :: .dat d :: r) := rfl
theorem gk5 {c0 c1 c2 c3 c4 : Cell} {x : Cell} {r : Cells} : GetAt (c0 :: c1 :: c2 :: c3 :: c4 :: x :: r) 5 x := rfl
theorem sk5 {c0 c1 c2 c3 c4 : Cell} {x y : Cell} {r : Cells} : SetAt (c0 :: c1 :: c2 :: c3 :: c4 :: x :: r) 5 y (c0 :: c1 :: c2 :: c3 :: c4 :: y :: r) := rfl
theorem vk6 {c0 c1 c2 c3 c4 c5 : Cell} {r : Cells} : mVar 6 (c0 :: c1 :: c2 :: c3 :: c4 :: c5 :: .dat d :: r) = .ok d (c0 :: c1 :: c2 :: c3 :: c4 :: c5 :: .dat d :: r) := rfl
theorem gk6 {c0 c1 c2 c3 c4 c5 : Cell} {x : Cell} {r : Cells} : GetAt (c0 :: c1 :: c2 :: c3 :: c4 :: c5 :: x :: r) 6 x := rfl
theorem sk6 {c0 c1 c2 c3 c4 c5 : Cell} {x y : Cell} {r : Cells} : SetAt (c0 :: c1 :: c2 :: c3 :: c4 :: c5 :: x :: r) 6 y (c0 :: c1 :: c2 :: c3 :: c4 :: c5 :: y :: r) := rfl
theorem vk7 {c0 c1 c2 c3 c4 c5 c6 : Cell} {r : Cells} : mVar 7 (c0 :: c1 :: c2 :: c3 :: c4 :: c5 :: c6 :: .dat d :: r) = .ok d (c0 :: c1 :: c2 :: c3 :: c4 :: c5 :: c6 :: .dat d :: r) := rfl
theorem gk7 {c0 c1 c2 c3 c4 c5 c6 : Cell} {x : Cell} {r : Cells} : GetAt (c0 :: c1 :: c2 :: c3 :: c4 :: c5 :: c6 :: x :: r) 7 x := rfl
theorem sk7 {c0 c1 c2 c3 c4 c5 c6 : Cell} {x y : Cell} {r : Cells} : SetAt (c0 :: c1 :: c2 :: c3 :: c4 :: c5 :: c6 :: x :: r) 7 y (c0 :: c1 :: c2 :: c3 :: c4 :: c5 :: c6 :: y :: r) := rfl
theorem vk8 {c0 c1 c2 c3 c4 c5 c6 c7 : Cell} {r : Cells} : mVar 8 (c0 :: c1 :: c2 :: c3 :: c4 :: c5 :: c6 :: c7 :: .dat d :: r) = .ok d (c0 :: c1 :: c2 :: c3 :: c4 :: c5 :: c6 :: c7 :: .dat d :: r) := rfl
theorem gk8 {c0 c1 c2 c3 c4 c5 c6 c7 : Cell} {x : Cell} {r : Cells} : GetAt (c0 :: c1 :: c2 :: c3 :: c4 :: c5 :: c6 :: c7 :: x :: r) 8 x := rfl
theorem sk8 {c0 c1 c2 c3 c4 c5 c6 c7 : Cell} {x y : Cell} {r : Cells} : SetAt (c0 :: c1 :: c2 :: c3 :: c4 :: c5 :: c6 :: c7 :: x :: r) 8 y (c0 :: c1 :: c2 :: c3 :: c4 :: c5 :: c6 :: c7 :: y :: r) := rfl
theorem vk9 {c0 c1 c2 c3 c4 c5 c6 c7 c8 : Cell} {r : Cells} : mVar 9 (c0 :: c1 :: c2 :: c3 :: c4 :: c5 :: c6 :: c7 :: c8 :: .dat d :: r) = .ok d (c0 :: c1 :: c2 :: c3 :: c4 :: c5 :: c6 :: c7 :: c8 :: .dat d :: r) := rfl
theorem gk9 {c0 c1 c2 c3 c4 c5 c6 c7 c8 : Cell} {x : Cell} {r : Cells} : GetAt (c0 :: c1 :: c2 :: c3 :: c4 :: c5 :: c6 :: c7 :: c8 :: x :: r) 9 x := rfl
theorem sk9 {c0 c1 c2 c3 c4 c5 c6 c7 c8 : Cell} {x y : Cell} {r : Cells} : SetAt (c0 :: c1 :: c2 :: c3 :: c4 :: c5 :: c6 :: c7 :: c8 :: x :: r) 9 y (c0 :: c1 :: c2 :: c3 :: c4 :: c5 :: c6 :: c7 :: c8 :: y :: r) := rfl
theorem vk10 {c0 c1 c2 c3 c4 c5 c6 c7 c8 c9 : Cell} {r : Cells} : mVar 10 (c0 :: c1 :: c2 :: c3 :: c4 :: c5 :: c6 :: c7 :: c8 :: c9 :: .dat d :: r) = .ok d (c0 :: c1 :: c2 :: c3 :: c4 :: c5 :: c6 :: c7 :: c8 :: c9 :: .dat d :: r) := rfl
theorem gk10 {c0 c1 c2 c3 c4 c5 c6 c7 c8 c9 : Cell} {x : Cell} {r : Cells} : GetAt (c0 :: c1 :: c2 :: c3 :: c4 :: c5 :: c6 :: c7 :: c8 :: c9 :: x :: r) 10 x := rfl
theorem sk10 {c0 c1 c2 c3 c4 c5 c6 c7 c8 c9 : Cell} {x y : Cell} {r : Cells} : SetAt (c0 :: c1 :: c2 :: c3 :: c4 :: c5 :: c6 :: c7 :: c8 :: c9 :: x :: r) 10 y (c0 :: c1 :: c2 :: c3 :: c4 :: c5 :: c6 :: c7 :: c8 :: c9 :: y :: r) := rfl
theorem vk11 {c0 c1 c2 c3 c4 c5 c6 c7 c8 c9 c10 : Cell} {r : Cells} : mVar 11 (c0 :: c1 :: c2 :: c3 :: c4 :: c5 :: c6 :: c7 :: c8 :: c9 :: c10 :: .dat d :: r) = .ok d (c0 :: c1 :: c2 :: c3 :: c4 :: c5 :: c6 :: c7 :: c8 :: c9 :: c10 :: .dat d :: r) := rfl
theorem gk11 {c0 c1 c2 c3 c4 c5 c6 c7 c8 c9 c10 : Cell} {x : Cell} {r : Cells} : GetAt (c0 :: c1 :: c2 :: c3 :: c4 :: c5 :: c6 :: c7 :: c8 :: c9 :: c10 :: x :: r) 11 x := rfl
theorem sk11 {c0 c1 c2 c3 c4 c5 c6 c7 c8 c9 c10 : Cell} {x y : Cell} {r : Cells} : SetAt (c0 :: c1 :: c2 :: c3 :: c4 :: c5 :: c6 :: c7 :: c8 :: c9 :: c10 :: x :: r) 11 y (c0 :: c1 :: c2 :: c3 :: c4 :: c5 :: c6 :: c7 :: c8 :: c9 :: c10 :: y :: r) := rfl
theorem vk12 {c0 c1 c2 c3 c4 c5 c6 c7 c8 c9 c10 c11 : Cell} {r : Cells} : mVar 12 (c0 :: c1 :: c2 :: c3 :: c4 :: c5 :: c6 :: c7 :: c8 :: c9 :: c10 :: c11 :: .dat d :: r) = .ok d (c0 :: c1 :: c2 :: c3 :: c4 :: c5 :: c6 :: c7 :: c8 :: c9 :: c10 :: c11 :: .dat d :: r) := rfl
theorem gk12 {c0 c1 c2 c3 c4 c5 c6 c7 c8 c9 c10 c11 : Cell} {x : Cell} {r : Cells} : GetAt (c0 :: c1 :: c2 :: c3 :: c4 :: c5 :: c6 :: c7 :: c8 :: c9 :: c10 :: c11 :: x :: r) 12 x := rfl
theorem sk12 {c0 c1 c2 c3 c4 c5 c6 c7 c8 c9 c10 c11 : Cell} {x y : Cell} {r : Cells} : SetAt (c0 :: c1 :: c2 :: c3 :: c4 :: c5 :: c6 :: c7 :: c8 :: c9 :: c10 :: c11 :: x :: r) 12 y (c0 :: c1 :: c2 :: c3 :: c4 :: c5 :: c6 :: c7 :: c8 :: c9 :: c10 :: c11 :: y :: r) := rfl
theorem vk13 {c0 c1 c2 c3 c4 c5 c6 c7 c8 c9 c10 c11 c12 : Cell} {r : Cells} : mVar 13 (c0 :: c1 :: c2 :: c3 :: c4 :: c5 :: c6 :: c7 :: c8 :: c9 :: c10 :: c11 :: c12 :: .dat d :: r) = .ok d (c0 :: c1 :: c2 :: c3 :: c4 :: c5 :: c6 :: c7 :: c8 :: c9 :: c10 :: c11 :: c12 :: .dat d :: r) := rfl
theorem gk13 {c0 c1 c2 c3 c4 c5 c6 c7 c8 c9 c10 c11 c12 : Cell} {x : Cell} {r : Cells} : GetAt (c0 :: c1 :: c2 :: c3 :: c4 :: c5 :: c6 :: c7 :: c8 :: c9 :: c10 :: c11 :: c12 :: x :: r) 13 x := rfl
theorem sk13 {c0 c1 c2 c3 c4 c5 c6 c7 c8 c9 c10 c11 c12 : Cell} {x y : Cell} {r : Cells} : SetAt (c0 :: c1 :: c2 :: c3 :: c4 :: c5 :: c6 :: c7 :: c8 :: c9 :: c10 :: c11 :: c12 :: x :: r) 13 y (c0 :: c1 :: c2 :: c3 :: c4 :: c5 :: c6 :: c7 :: c8 :: c9 :: c10 :: c11 :: c12 :: y :: r) := rfl
theorem vk14 {c0 c1 c2 c3 c4 c5 c6 c7 c8 c9 c10 c11 c12 c13 : Cell} {r : Cells} : mVar 14 (c0 :: c1 :: c2 :: c3 :: c4 :: c5 :: c6 :: c7 :: c8 :: c9 :: c10 :: c11 :: c12 :: c13 :: .dat d :: r) = .ok d (c0 :: c1 :: c2 :: c3 :: c4 :: c5 :: c6 :: c7 :: c8 :: c9 :: c10 :: c11 :: c12 :: c13 :: .dat d :: r) := rfl
theorem gk14 {c0 c1 c2 c3 c4 c5 c6 c7 c8 c9 c10 c11 c12 c13 : Cell} {x : Cell} {r : Cells} : GetAt (c0 :: c1 :: c2 :: c3 :: c4 :: c5 :: c6 :: c7 :: c8 :: c9 :: c10 :: c11 :: c12 :: c13 :: x :: r) 14 x := rfl
theorem sk14 {c0 c1 c2 c3 c4 c5 c6 c7 c8 c9 c10 c11 c12 c13 : Cell} {x y : Cell} {r : Cells} : SetAt (c0 :: c1 :: c2 :: c3 :: c4 :: c5 :: c6 :: c7 :: c8 :: c9 :: c10 :: c11 :: c12 :: c13 :: x :: r) 14 y (c0 :: c1 :: c2 :: c3 :: c4 :: c5 :: c6 :: c7 :: c8 :: c9 :: c10 :: c11 :: c12 :: c13 :: y :: r) := rfl
theorem vk15 {c0 c1 c2 c3 c4 c5 c6 c7 c8 c9 c10 c11 c12 c13 c14 : Cell} {r : Cells} : mVar 15 (c0 :: c1 :: c2 :: c3 :: c4 :: c5 :: c6 :: c7 :: c8 :: c9 :: c10 :: c11 :: c12 :: c13 :: c14 :: .dat d :: r) = .ok d (c0 :: c1 :: c2 :: c3 :: c4 :: c5 :: c6 :: c7 :: c8 :: c9 :: c10 :: c11 :: c12 :: c13 :: c14 :: .dat d :: r) := rfl
theorem gk15 {c0 c1 c2 c3 c4 c5 c6 c7 c8 c9 c10 c11 c12 c13 c14 : Cell} {x : Cell} {r : Cells} : GetAt (c0 :: c1 :: c2 :: c3 :: c4 :: c5 :: c6 :: c7 :: c8 :: c9 :: c10 :: c11 :: c12 :: c13 :: c14 :: x :: r) 15 x := rfl
theorem sk15 {c0 c1 c2 c3 c4 c5 c6 c7 c8 c9 c10 c11 c12 c13 c14 : Cell} {x y : Cell} {r : Cells} : SetAt (c0 :: c1 :: c2 :: c3 :: c4 :: c5 :: c6 :: c7 :: c8 :: c9 :: c10 :: c11 :: c12 :: c13 :: c14 :: x :: r) 15 y (c0 :: c1 :: c2 :: c3 :: c4 :: c5 :: c6 :: c7 :: c8 :: c9 :: c10 :: c11 :: c12 :: c13 :: c14 :: y :: r) := rfl
theorem vk16 {c0 c1 c2 c3 c4 c5 c6 c7 c8 c9 c10 c11 c12 c13 c14 c15 : Cell} {r : Cells} : mVar 16 (c0 :: c1 :: c2 :: c3 :: c4 :: c5 :: c6 :: c7 :: c8 :: c9 :: c10 :: c11 :: c12 :: c13 :: c14 :: c15 :: .dat d :: r) = .ok d (c0 :: c1 :: c2 :: c3 :: c4 :: c5 :: c6 :: c7 :: c8 :: c9 :: c10 :: c11 :: c12 :: c13 :: c14 :: c15 :: .dat d :: r) := rfl
theorem gk16 {c0 c1 c2 c3 c4 c5 c6 c7 c8 c9 c10 c11 c12 c13 c14 c15 : Cell} {x : Cell} {r : Cells} : GetAt (c0 :: c1 :: c2 :: c3 :: c4 :: c5 :: c6 :: c7 :: c8 :: c9 :: c10 :: c11 :: c12 :: c13 :: c14 :: c15 :: x :: r) 16 x := rfl
theorem sk16 {c0 c1 c2 c3 c4 c5 c6 c7 c8 c9 c10 c11 c12 c13 c14 c15 : Cell} {x y : Cell} {r : Cells} : SetAt (c0 :: c1 :: c2 :: c3 :: c4 :: c5 :: c6 :: c7 :: c8 :: c9 :: c10 :: c11 :: c12 :: c13 :: c14 :: c15 :: x :: r) 16 y (c0 :: c1 :: c2 :: c3 :: c4 :: c5 :: c6 :: c7 :: c8 :: c9 :: c10 :: c11 :: c12 :: c13 :: c14 :: c15 :: y :: r) := rfl
theorem y_op2 {sem : D → D → Option D} {f g : M D} (h1 : f ρ = .ok a ρ1) (h2 : g ρ1 = .ok b ρ2) (h5 : sem a b = some d) : mOp2 sem (.dat f) (.dat g) ρ = .ok d ρ2 := x_op2 (oa := .dat f) (ob := .dat g) h1 h2 rfl rfl h5
theorem y_call1 {sem : List D → Option D} {f : M D} (h1 : f ρ = .ok a ρ1) (h3 : sem [a] = some d) : mCall sem [.dat f] ρ = .ok d ρ1 := x_call (pl_c h1 pl_n) (rl_c rfl rl_n) h3
theorem y_call2 {sem : List D → Option D} {f g : M D} (h1 : f ρ = .ok a ρ1) (h2 : g ρ1 = .ok b ρ2) (h3 : sem [a, b] = some d) : mCall sem [.dat f, .dat g] ρ = .ok d ρ2 := x_call (pl_c h1 (pl_c h2 pl_n)) (rl_c rfl (rl_c rfl rl_n)) h3
theorem y_sl1 {sem : D → Option Int → Option Int → Option D} {f g : M D} {j : Int} (h1 : f ρ = .ok a ρ1) (h2 : g ρ1 = .ok (.int j) ρ2) (h5 : sem a none (some j) = some d) : mSl sem (.dat f) none (some g) ρ = .ok d ρ2 := x_sl (o := .dat f) h1 pt_n (pt_s h2) rfl h5
theorem y_sl2 {sem : D → Option Int → Option Int → Option D} {f g : M D} {j : Int} (h1 : f ρ = .ok a ρ1) (h2 : g ρ1 = .ok (.int j) ρ2) (h5 : sem a (some j) none = some d) : mSl sem (.dat f) (some g) none ρ = .ok d ρ2 := x_sl (o := .dat f) h1 (pt_s h2) pt_n rfl h5
theorem y_tup1 {f : M D} (h1 : f ρ = .ok a ρ1) : mTup [f] ρ = .ok (.tup [a]) ρ1 := x_tup (sq_c h1 sq_n)
theorem y_tup2 {f g : M D} (h1 : f ρ = .ok a ρ1) (h2 : g ρ1 = .ok b ρ2) : mTup [f, g] ρ = .ok (.tup [a, b]) ρ2 := x_tup (sq_c h1 (sq_c h2 sq_n))
theorem y_fn1 {F : Fn} {f1 : M D} {outs : List D} (h1 : f1 ρ = .ok a1 ρ1) (h : F [a1] = .ret d outs) : mCallF F [.dat f1] ρ = .ok d ρ1 := x_callF (pl_c h1 pl_n) (ra_d ra_n) h put_n
theorem y_fn2 {F : Fn} {f1 f2 : M D} {outs : List D} (h1 : f1 ρ = .ok a1 ρ1) (h2 : f2 ρ1 = .ok a2 ρ2) (h : F [a1, a2] = .ret d outs) : mCallF F [.dat f1, .dat f2] ρ = .ok d ρ2 := x_callF (pl_c h1 (pl_c h2 pl_n)) (ra_d (ra_d ra_n)) h put_n
theorem y_fn3 {F : Fn} {f1 f2 f3 : M D} {outs : List D} (h1 : f1 ρ = .ok a1 ρ1) (h2 : f2 ρ1 = .ok a2 ρ2) (h3 : f3 ρ2 = .ok a3 ρ3) (h : F [a1, a2, a3] = .ret d outs) : mCallF F [.dat f1, .dat f2, .dat f3] ρ = .ok d ρ3 := x_callF (pl_c h1 (pl_c h2 (pl_c h3 pl_n))) (ra_d (ra_d (ra_d ra_n))) h put_n
theorem y_fn4 {F : Fn} {f1 f2 f3 f4 : M D} {outs : List D} (h1 : f1 ρ = .ok a1 ρ1) (h2 : f2 ρ1 = .ok a2 ρ2) (h3 : f3 ρ2 = .ok a3 ρ3) (h4 : f4 ρ3 = .ok a4 ρ4) (h : F [a1, a2, a3, a4] = .ret d outs) : mCallF F [.dat f1, .dat f2, .dat f3, .dat f4] ρ = .ok d ρ4 := x_callF (pl_c h1 (pl_c h2 (pl_c h3 (pl_c h4 pl_n)))) (ra_d (ra_d (ra_d (ra_d ra_n)))) h put_n
theorem y_fn5 {F : Fn} {f1 f2 f3 f4 f5 : M D} {outs : List D} (h1 : f1 ρ = .ok a1 ρ1) (h2 : f2 ρ1 = .ok a2 ρ2) (h3 : f3 ρ2 = .ok a3 ρ3) (h4 : f4 ρ3 = .ok a4 ρ4) (h5 : f5 ρ4 = .ok a5 ρ5) (h : F [a1, a2, a3, a4, a5] = .ret d outs) : mCallF F [.dat f1, .dat f2, .dat f3, .dat f4, .dat f5] ρ = .ok d ρ5 := x_callF (pl_c h1 (pl_c h2 (pl_c h3 (pl_c h4 (pl_c h5 pl_n))))) (ra_d (ra_d (ra_d (ra_d (ra_d ra_n))))) h put_n
theorem y_fo0 {F : Fn} {i : Nat} (h0 : GetAt ρ i (.own e))  (hg : GetAt ρ i (.own w)) (h : F [w] = .ret d [w1]) (hs : SetAt ρ i (.own w1) ρ5) : mCallF F [.own i] ρ = .ok d ρ5 := x_callF (pl_c (p_own h0) pl_n) (ra_o hg ra_n) h (put_c hs put_n)
theorem y_fo1 {F : Fn} {i : Nat} {f1 : M D} (h0 : GetAt ρ i (.own e)) (h1 : f1 ρ = .ok a1 ρ1) (hg : GetAt ρ1 i (.own w)) (h : F [w, a1] = .ret d [w1]) (hs : SetAt ρ1 i (.own w1) ρ5) : mCallF F [.own i, .dat f1] ρ = .ok d ρ5 := x_callF (pl_c (p_own h0) (pl_c h1 pl_n)) (ra_o hg (ra_d ra_n)) h (put_c hs put_n)
theorem y_fo2 {F : Fn} {i : Nat} {f1 f2 : M D} (h0 : GetAt ρ i (.own e)) (h1 : f1 ρ = .ok a1 ρ1) (h2 : f2 ρ1 = .ok a2 ρ2) (hg : GetAt ρ2 i (.own w)) (h : F [w, a1, a2] = .ret d [w1]) (hs : SetAt ρ2 i (.own w1) ρ5) : mCallF F [.own i, .dat f1, .dat f2] ρ = .ok d ρ5 := x_callF (pl_c (p_own h0) (pl_c h1 (pl_c h2 pl_n))) (ra_o hg (ra_d (ra_d ra_n))) h (put_c hs put_n)
theorem y_fo3 {F : Fn} {i : Nat} {f1 f2 f3 : M D} (h0 : GetAt ρ i (.own e)) (h1 : f1 ρ = .ok a1 ρ1) (h2 : f2 ρ1 = .ok a2 ρ2) (h3 : f3 ρ2 = .ok a3 ρ3) (hg : GetAt ρ3 i (.own w)) (h : F [w, a1, a2, a3] = .ret d [w1]) (hs : SetAt ρ3 i (.own w1) ρ5) : mCallF F [.own i, .dat f1, .dat f2, .dat f3] ρ = .ok d ρ5 := x_callF (pl_c (p_own h0) (pl_c h1 (pl_c h2 (pl_c h3 pl_n)))) (ra_o hg (ra_d (ra_d (ra_d ra_n)))) h (put_c hs put_n)
end
end Fx
set_option Elab.async false
set_option linter.all false
set_option maxRecDepth 100000
set_option maxHeartbeats 1000000
namespace Fx
open PySem L2
inductive Pn : Nat → D → Prop
  | non {k : Nat} : Pn k .non
  | int {k : Nat} {i : Int} : Pn k (.int i)
  | str {k : Nat} {x : Str} (h : PyData.strOk x = true) : Pn k (.str x)
  | tup {k : Nat} {ds : List D} (h : ∀ d ∈ ds, Pn k d) : Pn (k + 1) (.tup ds)
  | lst {k : Nat} {ds : List D} (h : ∀ d ∈ ds, Pn k d) : Pn (k + 1) (.lst ds)
theorem pnAll {k : Nat} : ∀ {ds : List D}, (∀ d ∈ ds, (toPy d).canLay0 = true ∧ (toPy d).depth ≤ k) → PyData.canLayAll0 (toPys ds) = true ∧ PyData.depthAll (toPys ds) ≤ k
  | [], _ => ⟨by simp [toPys, PyData.canLayAll0], by simp [toPys, PyData.depthAll]⟩
  | d :: ds, h => by
    obtain ⟨h1, h2⟩ := h d List.mem_cons_self
    obtain ⟨h3, h4⟩ := pnAll fun x hx => h x (List.mem_cons_of_mem _ hx)
    refine ⟨by simp [toPys, PyData.canLayAll0, h1, h3], ?_⟩
    simp only [toPys, PyData.depthAll]
    omega
theorem Pn.lay {k : Nat} {d : D} (h : Pn k d) : (toPy d).canLay0 = true ∧ (toPy d).depth ≤ k := by
  induction h with
  | non => exact ⟨by simp [toPy, PyData.canLay0], by simp [toPy, PyData.depth]⟩
  | int => exact ⟨by simp [toPy, PyData.canLay0], by simp [toPy, PyData.depth]⟩
  | str h => exact ⟨by simp [toPy, PyData.canLay0, h], by simp [toPy, PyData.depth]⟩
  | tup h ih =>
    obtain ⟨h1, h2⟩ := pnAll ih
    exact ⟨by simp [toPy, PyData.canLay0, h1], by simp only [toPy, PyData.depth]; omega⟩
  | lst h ih =>
    obtain ⟨h1, h2⟩ := pnAll ih
    exact ⟨by simp [toPy, PyData.canLay0, h1], by simp only [toPy, PyData.depth]; omega⟩
theorem eqvAll_iff : ∀ {ds es : List D}, (∀ d ∈ ds, ∀ e ∈ es, (PyData.eqv (toPy d) (toPy e) = true ↔ d = e)) → (PyData.eqvAll (toPys ds) (toPys es) = true ↔ ds = es)
  | [], [], _ => by simp [toPys, PyData.eqvAll]
  | [], e :: es, _ => by simp [toPys, PyData.eqvAll]
  | d :: ds, [], _ => by simp [toPys, PyData.eqvAll]
  | d :: ds, e :: es, h => by
    have h1 := h d List.mem_cons_self e List.mem_cons_self
    have h2 := eqvAll_iff fun x hx y hy => h x (List.mem_cons_of_mem _ hx) y (List.mem_cons_of_mem _ hy)
    simp only [toPys, PyData.eqvAll, Bool.and_eq_true, h1, h2, List.cons.injEq]
theorem Pn.eq {k : Nat} {d : D} (h : Pn k d) : ∀ {j : Nat} {e : D}, Pn j e → (PyData.eqv (toPy d) (toPy e) = true ↔ d = e) := by
  induction h with
  | non => intro j e h2; cases h2 <;> simp [toPy, PyData.eqv]
  | int => intro j e h2; cases h2 <;> simp [toPy, PyData.eqv]
  | str h => intro j e h2; cases h2 <;> simp [toPy, PyData.eqv]
  | tup h ih =>
    intro j e h2
    cases h2 with
    | tup h2 =>
      simp only [toPy, PyData.eqv, D.tup.injEq]
      exact eqvAll_iff fun x hx y hy => ih x hx (h2 y hy)
    | _ => simp [toPy, PyData.eqv]
  | lst h ih =>
    intro j e h2
    cases h2 with
    | lst h2 =>
      simp only [toPy, PyData.eqv, D.lst.injEq]
      exact eqvAll_iff fun x hx y hy => ih x hx (h2 y hy)
    | _ => simp [toPy, PyData.eqv]
open Classical in
theorem sEq_pn {k j : Nat} {d e : D} (h : Pn k d) (h2 : Pn j e) (hk : k ≤ 63 := by decide) : sEq d e = some (.bl (decide (d = e))) := by
  unfold sEq plain
  rw [h.lay.1, h2.lay.1, decide_eq_true (by have := h.lay.2; omega : min (toPy d).depth (toPy e).depth ≤ 63)]
  have : eqD d e = decide (d = e) := by
    rw [Bool.eq_iff_iff, decide_eq_true_iff]
    exact h.eq h2
  rw [this]
  rfl
open Classical in
theorem sNe_pn {k j : Nat} {d e : D} (h : Pn k d) (h2 : Pn j e) (hk : k ≤ 63 := by decide) : sNe d e = some (.bl (!decide (d = e))) := by
  have q := sEq_pn h h2 hk
  unfold sEq at q
  unfold sNe
  split at q
  · rename_i z
    rw [if_pos z]
    rw [D.bl.inj (Option.some.inj q)]
  · cases q
theorem sNe_same {k : Nat} {d : D} (h : Pn k d) (hk : k ≤ 63 := by decide) : sNe d d = some (.bl false) := by rw [sNe_pn h h hk]; simp
theorem Pn.up {k : Nat} {d : D} (h : Pn k d) : Pn (k + 1) d := by
  induction h with
  | non => exact .non
  | int => exact .int
  | str h => exact .str h
  | tup _ ih => exact .tup ih
  | lst _ ih => exact .lst ih
end Fx
set_option Elab.async false
set_option linter.all false
set_option maxRecDepth 100000
set_option maxHeartbeats 1000000
namespace Fx
open PySem L2
local macro_rules
  | `(tactic| trivial) => `(tactic| (repeat (first | with_reducible assumption | ((with_reducible apply vv_id); apply_rules (transparency := .reducible) (maxDepth := 1) (symm := false) (exfalso := false) only [vk0, vk1, vk2, vk3, vk4, vk5, vk6, vk7, vk8, vk9, vk10, vk11, vk12, vk13, vk14, vk15, vk16]) | ((with_reducible apply gg_id); first | apply_rules (transparency := .reducible) (maxDepth := 1) (symm := false) (exfalso := false) only [gk0, gk1, gk2, gk3, gk4, gk5, gk6, gk7, gk8, gk9, gk10, gk11, gk12, gk13, gk14, gk15, gk16] | apply_rules (transparency := .reducible) (maxDepth := 1) (symm := false) (exfalso := false) only [getAt_z, getAt_s]) | ((with_reducible apply ss_id); first | apply_rules (transparency := .reducible) (maxDepth := 1) (symm := false) (exfalso := false) only [sk0, sk1, sk2, sk3, sk4, sk5, sk6, sk7, sk8, sk9, sk10, sk11, sk12, sk13, sk14, sk15, sk16] | apply_rules (transparency := .reducible) (maxDepth := 1) (symm := false) (exfalso := false) only [setAt_z, setAt_s]) | ((with_reducible apply g_seq); first | (with_reducible refine s_step (by with_reducible assumption) ?_) | (with_reducible refine s_retS (by with_reducible assumption)) | apply_rules (transparency := .reducible) (maxDepth := 1) (symm := false) (exfalso := false) only [s_assoc, s_skip, s_asg, s_new, s_expr, s_ret, s_retN, s_t, s_f, s_if, s_par, s_par3, s_new2, s_setIx, s_augV, s_setS, s_setM, s_newO, s_newO0, s_raise] | ((with_reducible apply s_frz); apply_rules (transparency := .reducible) (maxDepth := 1) (symm := false) (exfalso := false) only [gk0, gk1, gk2, gk3, gk4, gk5, gk6, gk7, gk8, gk9, gk10, gk11, gk12, gk13, gk14, gk15, gk16]) | ((with_reducible apply s_frzD); apply_rules (transparency := .reducible) (maxDepth := 1) (symm := false) (exfalso := false) only [gk0, gk1, gk2, gk3, gk4, gk5, gk6, gk7, gk8, gk9, gk10, gk11, gk12, gk13, gk14, gk15, gk16]) | (with_reducible refine s_for ?_ (by with_reducible assumption) ?_) | (with_reducible refine s_forR ?_ (by with_reducible assumption)) | (with_reducible refine s_while (by with_reducible assumption) ?_) | (with_reducible refine s_whileR (by with_reducible assumption)) | (with_reducible refine s_for (?_) (by assumption) ?_)) | apply_rules (transparency := .reducible) (maxDepth := 1) (symm := false) (exfalso := false) only [v_pure, x_callD, y_op2, y_call1, y_call2, y_sl1, y_sl2, y_tup2, y_tup1, y_fo1, y_fo2, y_fo0, y_fo3, y_fn1, y_fn2, y_fn3, y_fn4, y_fn5, x_op2, p_dat, p_own, v_var, x_callD, x_callF, x_callK, x_callW, x_callN, x_make, x_call, x_tup, x_lst, x_neg, x_meth, x_methWR, x_methWD, x_methW, x_sl, x_rev, x_fld, x_chain, x_lenF, x_lenset, x_methF, x_isF, x_eqF, x_kd, x_km, x_neF, x_makeK, x_methK, x_cmp, x_lrn, x_tupRg, pt_s, pt_n, i_seq, i_en, i_rng, i_zip, i_zipN, b_b, b_not, b_and, b_or, x_if, x_andV, x_orV, x_notV, andK_t, andK_f, orK_f, orK_t, chK_t, chK_f, ifK_t, ifK_f, x_lcU, x_lc, s_end, pk_n, pk_c, at_z, at_s, put_n, put_c, wl_n, wl_c, mp_r, tg_nm, tg_tp, tgs_n, tgs_c, pl_n, pl_c, rl_n, rl_c, ra_n, ra_d, ra_o, sq_n, sq_c, app_n, app_c, r_dat, r_own, lcE_i, no_n, no_c, nw_d, nw_n, nw_o, nb_lt, nb_lf, nb_ltn, nb_lfn] | ((with_reducible apply nb_id); first | with_reducible exact nb_nf rfl | with_reducible exact nb_t rfl | exact nb_h (by with_reducible assumption) | exact nb_hf (by with_reducible assumption) | exact nb_hn (by with_reducible assumption) | exact nb_hnf (by with_reducible assumption) | exact nb_t (by with_reducible assumption) | exact nb_f (by with_reducible assumption) | exact nb_nt (by with_reducible assumption) | exact nb_nf (by with_reducible assumption) | exact nb_t (by omega) | exact nb_f (by omega) | exact nb_nt (by omega) | exact nb_nf (by omega) | exact nb_t (by decide) | exact nb_f (by decide) | exact nb_nt (by decide) | exact nb_nf (by decide)) | apply_rules (transparency := .reducible) (maxDepth := 1) (symm := false) (exfalso := false) only [sEq_int, sNe_int, sEq_opt, sNe_opt, sIsN_opt, sNotN_opt, sNotN_int, sIsN_int, sNotN_tup, sIsN_tup, sNotN_lst, sIsN_lst, sNotN_non, sIsN_non, sIn_tup, sNin_tup, sIn_lst, sNin_lst, sEq_tup, sEq_lst, sNe_lst, sNe_tup, sIx_plc, sIx_rows, sIx_rowsL, sIn_row, sNin_row, sLen_row, sLen_plc, isTup_row, isTup_plc, sLen_ints, sLen_tints, sLen_rows, sLen_rowsT, sLen_lst, sLen_tup, isTupD] | ((with_reducible apply is_id); exact is_r) | ((with_reducible apply f_od); exact rfl) | ((with_reducible apply f_ol); exact rfl) | ((with_reducible apply f_op); exact rfl) | ((with_reducible apply f_bt); exact rfl) | ((with_reducible apply f_on); exact rfl) | ((with_reducible apply f_ld); exact rfl) | intro x hx | intro hb | omega | with_reducible apply s_one)))
def EL (x : D) : List D := [.exc 2 [.int 7, x], .exc 4 [.int 7, x], .exc 3 [x], .exc 5 [x], .exc 6 [x], .exc 7 [x], .exc 8 [x], .exc 9 [x], .exc 10 [x], .exc 11 [x], .exc 12 [x], .exc 13 [x]]
theorem e_place (x : D) : m_law_by_place [x] = .ret (.lst (EL x)) [] := by kernel_rfl
theorem e_name (x : D) : m_law_by_name [x] = .ret (.lst (EL x)) [] := by kernel_rfl
theorem e_fields (x : D) : m_law_fields [.lst (EL x)] = .ret (.lst [x, x, x, x, x, x, x, x, x, x, x, x]) [] := by kernel_rfl
theorem e_in (w x : D) (c3 c4 : Cell) : loopM (gTp [3, 4]) (mSeq (mIfS (mB (mOp2 sNe (.dat (mCallF m_law_taken [(.dat (mVar 4))])) (.dat (mLc (mRange1 (M.pure (.int 12))) (gNm 5) (M.pure true) (mOp2 sEq (.dat (mVar 5)) (.dat (mVar 3))) [5])))) (mRet (M.pure (.bl false))) mSkip) (mIfS (mOr (mNot (mB (mIsE [true, true, true, true, true, true, true, true, true, true, true, true] (mVar 4)))) (mNot (mB (mIsE [true, true, true, true, true, true, true, true, true, true, true, true] (mVar 4))))) (mRet (M.pure (.bl false))) mSkip)) (enumD 0 (EL x)) [.own (w), .dat x, .dat (.lst (EL x)), c3, c4, .no] = .next [.own (w), .dat x, .dat (.lst (EL x)), .dat (.int 11), .dat (.exc 13 [x]), .no] := by kernel_rfl
theorem e_body (w x : D) (hx : Pn 1 x) (c3 c4 : Cell) : (mSeq (mIfS (mOr (mB (mOp2 sNe (.dat (mCallF m_law_fields [(.dat (mVar 2))])) (.dat (mOp2 sMulL (.dat (mLst [(mVar 1)])) (.dat (M.pure (.int 12))))))) (mOr (mB (mOp2 sNe (.dat (mXf 0 0 (mOp2 sIx (.dat (mVar 2)) (.dat (M.pure (.int 0)))))) (.dat (M.pure (.int 7))))) (mB (mOp2 sNe (.dat (mXf 2 0 (mOp2 sIx (.dat (mVar 2)) (.dat (M.pure (.int 1)))))) (.dat (M.pure (.int 7))))))) (mRet (M.pure (.bl false))) mSkip) (mFor (mEnum (mVar 2)) (gTp [3, 4]) (mSeq (mIfS (mB (mOp2 sNe (.dat (mCallF m_law_taken [(.dat (mVar 4))])) (.dat (mLc (mRange1 (M.pure (.int 12))) (gNm 5) (M.pure true) (mOp2 sEq (.dat (mVar 5)) (.dat (mVar 3))) [5])))) (mRet (M.pure (.bl false))) mSkip) (mIfS (mOr (mNot (mB (mIsE [true, true, true, true, true, true, true, true, true, true, true, true] (mVar 4)))) (mNot (mB (mIsE [true, true, true, true, true, true, true, true, true, true, true, true] (mVar 4))))) (mRet (M.pure (.bl false))) mSkip)))) [.own (w), .dat x, .dat (.lst (EL x)), c3, c4, .no] = .next [.own (w), .dat x, .dat (.lst (EL x)), .dat (.int 11), .dat (.exc 13 [x]), .no] := by
  have h1 := e_fields x
  have h2 := e_in w x c3 c4
  have q1 : sMulL (.lst [x]) (.int 12) = some (.lst [x, x, x, x, x, x, x, x, x, x, x, x]) := by kernel_rfl
  have q2 : sNe (.lst [x, x, x, x, x, x, x, x, x, x, x, x]) (.lst [x, x, x, x, x, x, x, x, x, x, x, x]) = some (.bl false) := sNe_same (k := 2) (.lst fun d hd => by
    have : d = x := by simpa using hd
    exact this ▸ hx)
  have t2 : mXf 0 0 (mOp2 sIx (.dat (mVar 2)) (.dat (M.pure (.int 0)))) [.own (w), .dat x, .dat (.lst (EL x)), c3, c4, .no] = .ok (.int 7) [.own (w), .dat x, .dat (.lst (EL x)), c3, c4, .no] := by kernel_rfl
  have t3 : mXf 2 0 (mOp2 sIx (.dat (mVar 2)) (.dat (M.pure (.int 1)))) [.own (w), .dat x, .dat (.lst (EL x)), c3, c4, .no] = .ok (.int 7) [.own (w), .dat x, .dat (.lst (EL x)), c3, c4, .no] := by kernel_rfl
  have q3 : sNe (.int 7) (.int 7) = some (.bl false) := rfl
  have h3 : mEnum (mVar 2) [.own (w), .dat x, .dat (.lst (EL x)), c3, c4, .no] = .ok (enumD 0 (EL x)) [.own (w), .dat x, .dat (.lst (EL x)), c3, c4, .no] := rfl
  generalize EL x = L at *
  trivial
theorem e_pick (r z : Int) (h0 : 0 ≤ z) (h1 : z < 5) : ∃ x, Pn 1 x ∧ sIx (.lst [.int r, .int (-1), .non, .str "v", .tup [.int 0, .int 1]]) (.int z) = some x := by
  have : z = 0 ∨ z = 1 ∨ z = 2 ∨ z = 3 ∨ z = 4 := by omega
  rcases this with rfl | rfl | rfl | rfl | rfl
  · exact ⟨_, .int, rfl⟩
  · exact ⟨_, .int, rfl⟩
  · exact ⟨_, .non, rfl⟩
  · exact ⟨_, .str (by decide +kernel), rfl⟩
  · exact ⟨_, .tup fun d hd => by
      simp only [List.mem_cons, List.not_mem_nil, or_false] at hd
      rcases hd with rfl | rfl <;> exact .int, rfl⟩
theorem e_law_right (a b d : Int) : ∃ outs, m_law_right [wellD a b d] = .ret (.bl true) outs := by
  obtain ⟨r, a1, b1, d1, e1, _, _⟩ := e_draw a b d (lim := 1000) (by omega) (by omega)
  obtain ⟨z, a2, b2, d2, e2, z0, z1⟩ := e_draw a1 b1 d1 (lim := 5) (by omega) (by omega)
  obtain ⟨x, hx, q1⟩ := e_pick r z z0 z1
  obtain ⟨ρ', e, c3, c4, hρ⟩ := loop_inv (g := (gNm 2)) (body := (mSeq (mIfS (mOr (mB (mOp2 sNe (.dat (mCallF m_law_fields [(.dat (mVar 2))])) (.dat (mOp2 sMulL (.dat (mLst [(mVar 1)])) (.dat (M.pure (.int 12))))))) (mOr (mB (mOp2 sNe (.dat (mXf 0 0 (mOp2 sIx (.dat (mVar 2)) (.dat (M.pure (.int 0)))))) (.dat (M.pure (.int 7))))) (mB (mOp2 sNe (.dat (mXf 2 0 (mOp2 sIx (.dat (mVar 2)) (.dat (M.pure (.int 1)))))) (.dat (M.pure (.int 7))))))) (mRet (M.pure (.bl false))) mSkip) (mFor (mEnum (mVar 2)) (gTp [3, 4]) (mSeq (mIfS (mB (mOp2 sNe (.dat (mCallF m_law_taken [(.dat (mVar 4))])) (.dat (mLc (mRange1 (M.pure (.int 12))) (gNm 5) (M.pure true) (mOp2 sEq (.dat (mVar 5)) (.dat (mVar 3))) [5])))) (mRet (M.pure (.bl false))) mSkip) (mIfS (mOr (mNot (mB (mIsE [true, true, true, true, true, true, true, true, true, true, true, true] (mVar 4)))) (mNot (mB (mIsE [true, true, true, true, true, true, true, true, true, true, true, true] (mVar 4))))) (mRet (M.pure (.bl false))) mSkip))))) (fun _ ρ => ∃ c2 c3 c4, ρ = [.own (wellD a2 b2 d2), .dat x, c2, c3, c4, .no]) [.lst (EL x), .lst (EL x)] 0 [.own (wellD a2 b2 d2), .dat x, .no, .no, .no, .no] ⟨.no, .no, .no, rfl⟩
    (fun i dd ρ hd ⟨c2, c3, c4, hρ⟩ => by
      subst hρ
      have : dd = .lst (EL x) := by
        have := List.mem_of_getElem? hd
        simpa using this
      subst this
      exact ⟨[.own (wellD a2 b2 d2), .dat x, .dat (.lst (EL x)), c3, c4, .no], rfl, _, e_body _ x hx c3 c4, _, _, _, rfl⟩)
  obtain ⟨c4, hρ⟩ := hρ
  subst hρ
  have h1 := e_place x
  have h2 := e_name x
  refine ⟨[wellD a2 b2 d2], ?_⟩
  generalize EL x = L at *
  generalize wellD a b d = W0 at *
  (unfold m_law_right; apply s_run (ρ0 := [.own (W0), .no, .no, .no, .no, .no]) rfl; unfold b_law_right)
  · trivial
  · rfl
theorem sMod_ok {i j : Int} (h : j ≠ 0) : sMod (.int i) (.int j) = some (.int (i.fmod j)) := by simp [sMod, h]
theorem cutHi (l : List Int) {k : Int} (h0 : 0 ≤ k) : sCut (D.lst (List.map D.int l)) none (some k) = some (D.lst (List.map D.int (l.take k.toNat))) := by
  show some (D.lst _) = _
  rw [cut_take' _ _ h0, ← List.map_take]
theorem plain_law (ns : List Int) (hl : ns.length ≤ 63) : ∃ outs, m_law [.lst (ns.map .int)] = .ret (.bl true) outs := by
  obtain ⟨ρ', e, c1, c2, hρ⟩ := loop_inv (g := (gTp [1, 2])) (body := (mIfS (mNot (mB (mCallN m_law_right (mLst [(mOp2 sMul (.dat (mVar 2)) (.dat (mCall sInt [(.dat (mOp2 sGe (.dat (mVar 2)) (.dat (mOp2 sPow (.dat (M.pure (.int 10))) (.dat (M.pure (.int 18)))))))]))), (mOp2 sAdd (.dat (mOp2 sMod (.dat (mVar 2)) (.dat (M.pure (.int 2147483647))))) (.dat (mOp2 sMul (.dat (M.pure (.int 7919))) (.dat (mVar 1))))), (M.pure (.int 0))]) []))) (mRet (M.pure (.bl false))) mSkip)) (fun _ ρ => ∃ c1 c2, ρ = [.dat (.lst (ns.map .int)), c1, c2]) (enumD 0 (((ns ++ [0]).take 3).map .int)) 0 [.dat (.lst (ns.map .int)), .no, .no] ⟨.no, .no, rfl⟩
    (fun i dd ρ hd ⟨x, y, hρ⟩ => by
      obtain ⟨d', h7, rfl⟩ := enumD_inv 0 i _ _ hd
      rw [List.getElem?_map] at h7
      cases hr : ((ns ++ [0]).take 3)[i]? with
      | none => rw [hr] at h7; cases h7
      | some v =>
        rw [hr] at h7
        cases h7
        subst hρ
        have h2 : ∃ j, sInt [.bl (decide ((10 : Int) ^ 18 ≤ v))] = some (.int j) ∧ inR j = true := by
          refine ⟨if decide ((10 : Int) ^ 18 ≤ v) then 1 else 0, rfl, ?_⟩
          split <;> decide
        obtain ⟨j, q1, hj⟩ := h2
        have q2 : sMul (.int v) (.int j) = some (.int (v * j)) := sMul_r hj
        have q3 := pow18
        have q4 : sGe (.int v) (.int (10 ^ 18)) = some (.bl (decide ((10 : Int) ^ 18 ≤ v))) := rfl
        have q5 : sMul (.int 7919) (.int ((0 + i : Nat) : Int)) = some (.int (7919 * ((0 + i : Nat) : Int))) := sMul_l (by decide)
        have q6 : sMod (.int v) (.int 2147483647) = some (.int (v.fmod 2147483647)) := sMod_ok (by decide)
        obtain ⟨o, e2⟩ := e_law_right (v * j) (v.fmod 2147483647 + 7919 * ((0 + i : Nat) : Int)) 0
        unfold wellD at e2
        refine ⟨[.dat (.lst (ns.map .int)), .dat (.int ((0 + i : Nat) : Int)), .dat (.int v)], rfl, [.dat (.lst (ns.map .int)), .dat (.int ((0 + i : Nat) : Int)), .dat (.int v)], ?_, _, _, rfl⟩
        trivial)
  subst hρ
  refine ⟨[], ?_⟩
  have q1 : sAdd (.lst (ns.map .int)) (.lst [.int 0]) = some (.lst ((ns ++ [0]).map .int)) := by
    rw [List.map_append]
    exact sAdd_lst (by rw [List.length_map, List.length_singleton]; omega)
  have q2 : sCut (.lst ((ns ++ [0]).map .int)) none (some 3) = some (.lst (((ns ++ [0]).take 3).map .int)) := cutHi (ns ++ [0]) (by decide)
  rw [enum_map] at e
  (unfold m_law; apply s_run (ρ0 := [.dat (.lst (ns.map .int)), .no, .no]) rfl; unfold b_law)
  · trivial
  · rfl
end Fx
set_option Elab.async false
set_option linter.all false
set_option maxRecDepth 100000
set_option maxHeartbeats 8000000
namespace Fx
open PySem L2
abbrev s_x0 : Stmt := inClass (top 2) 0
theorem sc_x0 : FnScope ["self", "part", "index"] ["self", "part", "index"] (defScope s_x0) := ⟨rfl, rfl, rfl, by decide +kernel, rfl, by decide +kernel, by decide +kernel⟩
theorem ok_x0 {P : Program} {w : World} {K : PySem.W.Frag} {mg : Str → Option Value} {base : Heap} {f C CB : Addr} {fd : FuncData} (TB : BaseX K mg CB) (T : OexC K C) (hpart : PySem.W.findIn K (.ref C) "part" = some none) (hindex : PySem.W.findIn K (.ref C) "index" = some none) (F : FunD K "__init__" "NoFarm.__init__" (defArgs s_x0) (defBody s_x0) (defScope s_x0) [] [] f fd) : FnOk P w K mg base (L2.CX P w) 1 f fd ["self", "part", "index"] (spI2 C "part" "index") :=
  F.ok sc_x0 (fun vs H Q E h => by obtain ⟨a, y, z, rfl, _⟩ := h; rfl) fun cdv A outer s H vs Q E hr h => ⟨_, pss_cons (ps_expr (pe_feinit TB (pa_cons (pv 0) (pa_cons pe_str pa_nil)))) (pss_cons (ps_ost (pv 0) (pv 1)) (pss_one (ps_ost (pv 0) (pv 2)))), read2 rfl T hpart hindex h⟩
abbrev s_x2 : Stmt := inClass (top 4) 0
theorem sc_x2 : FnScope ["self", "part", "index"] ["self", "part", "index"] (defScope s_x2) := ⟨rfl, rfl, rfl, by decide +kernel, rfl, by decide +kernel, by decide +kernel⟩
theorem ok_x2 {P : Program} {w : World} {K : PySem.W.Frag} {mg : Str → Option Value} {base : Heap} {f C CB : Addr} {fd : FuncData} (TB : BaseX K mg CB) (T : OexC K C) (hpart : PySem.W.findIn K (.ref C) "part" = some none) (hindex : PySem.W.findIn K (.ref C) "index" = some none) (F : FunD K "__init__" "NoState.__init__" (defArgs s_x2) (defBody s_x2) (defScope s_x2) [] [] f fd) : FnOk P w K mg base (L2.CX P w) 1 f fd ["self", "part", "index"] (spI2 C "part" "index") :=
  F.ok sc_x2 (fun vs H Q E h => by obtain ⟨a, y, z, rfl, _⟩ := h; rfl) fun cdv A outer s H vs Q E hr h => ⟨_, pss_cons (ps_expr (pe_feinit TB (pa_cons (pv 0) (pa_cons pe_str pa_nil)))) (pss_cons (ps_ost (pv 0) (pv 1)) (pss_one (ps_ost (pv 0) (pv 2)))), read2 rfl T hpart hindex h⟩
abbrev s_x1 : Stmt := inClass (top 3) 0
theorem sc_x1 : FnScope ["self", "session"] ["self", "session"] (defScope s_x1) := ⟨rfl, rfl, rfl, by decide +kernel, rfl, by decide +kernel, by decide +kernel⟩
theorem ok_x1 {P : Program} {w : World} {K : PySem.W.Frag} {mg : Str → Option Value} {base : Heap} {f C CB : Addr} {fd : FuncData} (TB : BaseX K mg CB) (T : OexC K C) (hsession : PySem.W.findIn K (.ref C) "session" = some none) (F : FunD K "__init__" "NoSession.__init__" (defArgs s_x1) (defBody s_x1) (defScope s_x1) [] [] f fd) : FnOk P w K mg base (L2.CX P w) 1 f fd ["self", "session"] (spI1 C "session") :=
  F.ok sc_x1 (fun vs H Q E h => by obtain ⟨a, y, rfl, _⟩ := h; rfl) fun cdv A outer s H vs Q E hr h => ⟨_, pss_cons (ps_expr (pe_feinit TB (pa_cons (pv 0) (pa_cons pe_str pa_nil)))) (pss_one (ps_ost (pv 0) (pv 1))), read1 rfl T hsession h⟩
abbrev s_x3 : Stmt := inClass (top 5) 0
theorem sc_x3 : FnScope ["self", "index"] ["self", "index"] (defScope s_x3) := ⟨rfl, rfl, rfl, by decide +kernel, rfl, by decide +kernel, by decide +kernel⟩
theorem ok_x3 {P : Program} {w : World} {K : PySem.W.Frag} {mg : Str → Option Value} {base : Heap} {f C CB : Addr} {fd : FuncData} (TB : BaseX K mg CB) (T : OexC K C) (hindex : PySem.W.findIn K (.ref C) "index" = some none) (F : FunD K "__init__" "NoPlacement.__init__" (defArgs s_x3) (defBody s_x3) (defScope s_x3) [] [] f fd) : FnOk P w K mg base (L2.CX P w) 1 f fd ["self", "index"] (spI1 C "index") :=
  F.ok sc_x3 (fun vs H Q E h => by obtain ⟨a, y, rfl, _⟩ := h; rfl) fun cdv A outer s H vs Q E hr h => ⟨_, pss_cons (ps_expr (pe_feinit TB (pa_cons (pv 0) (pa_cons pe_str pa_nil)))) (pss_one (ps_ost (pv 0) (pv 1))), read1 rfl T hindex h⟩
abbrev s_x4 : Stmt := inClass (top 6) 0
theorem sc_x4 : FnScope ["self", "index"] ["self", "index"] (defScope s_x4) := ⟨rfl, rfl, rfl, by decide +kernel, rfl, by decide +kernel, by decide +kernel⟩
theorem ok_x4 {P : Program} {w : World} {K : PySem.W.Frag} {mg : Str → Option Value} {base : Heap} {f C CB : Addr} {fd : FuncData} (TB : BaseX K mg CB) (T : OexC K C) (hindex : PySem.W.findIn K (.ref C) "index" = some none) (F : FunD K "__init__" "NoSessions.__init__" (defArgs s_x4) (defBody s_x4) (defScope s_x4) [] [] f fd) : FnOk P w K mg base (L2.CX P w) 1 f fd ["self", "index"] (spI1 C "index") :=
  F.ok sc_x4 (fun vs H Q E h => by obtain ⟨a, y, rfl, _⟩ := h; rfl) fun cdv A outer s H vs Q E hr h => ⟨_, pss_cons (ps_expr (pe_feinit TB (pa_cons (pv 0) (pa_cons pe_str pa_nil)))) (pss_one (ps_ost (pv 0) (pv 1))), read1 rfl T hindex h⟩
abbrev s_x5 : Stmt := inClass (top 7) 0
theorem sc_x5 : FnScope ["self", "index"] ["self", "index"] (defScope s_x5) := ⟨rfl, rfl, rfl, by decide +kernel, rfl, by decide +kernel, by decide +kernel⟩
theorem ok_x5 {P : Program} {w : World} {K : PySem.W.Frag} {mg : Str → Option Value} {base : Heap} {f C CB : Addr} {fd : FuncData} (TB : BaseX K mg CB) (T : OexC K C) (hindex : PySem.W.findIn K (.ref C) "index" = some none) (F : FunD K "__init__" "NoEvents.__init__" (defArgs s_x5) (defBody s_x5) (defScope s_x5) [] [] f fd) : FnOk P w K mg base (L2.CX P w) 1 f fd ["self", "index"] (spI1 C "index") :=
  F.ok sc_x5 (fun vs H Q E h => by obtain ⟨a, y, rfl, _⟩ := h; rfl) fun cdv A outer s H vs Q E hr h => ⟨_, pss_cons (ps_expr (pe_feinit TB (pa_cons (pv 0) (pa_cons pe_str pa_nil)))) (pss_one (ps_ost (pv 0) (pv 1))), read1 rfl T hindex h⟩
abbrev s_x6 : Stmt := inClass (top 8) 0
theorem sc_x6 : FnScope ["self", "index"] ["self", "index"] (defScope s_x6) := ⟨rfl, rfl, rfl, by decide +kernel, rfl, by decide +kernel, by decide +kernel⟩
theorem ok_x6 {P : Program} {w : World} {K : PySem.W.Frag} {mg : Str → Option Value} {base : Heap} {f C CB : Addr} {fd : FuncData} (TB : BaseX K mg CB) (T : OexC K C) (hindex : PySem.W.findIn K (.ref C) "index" = some none) (F : FunD K "__init__" "NoCertificate.__init__" (defArgs s_x6) (defBody s_x6) (defScope s_x6) [] [] f fd) : FnOk P w K mg base (L2.CX P w) 1 f fd ["self", "index"] (spI1 C "index") :=
  F.ok sc_x6 (fun vs H Q E h => by obtain ⟨a, y, rfl, _⟩ := h; rfl) fun cdv A outer s H vs Q E hr h => ⟨_, pss_cons (ps_expr (pe_feinit TB (pa_cons (pv 0) (pa_cons pe_str pa_nil)))) (pss_one (ps_ost (pv 0) (pv 1))), read1 rfl T hindex h⟩
abbrev s_x7 : Stmt := inClass (top 9) 0
theorem sc_x7 : FnScope ["self", "answer"] ["self", "answer"] (defScope s_x7) := ⟨rfl, rfl, rfl, by decide +kernel, rfl, by decide +kernel, by decide +kernel⟩
theorem ok_x7 {P : Program} {w : World} {K : PySem.W.Frag} {mg : Str → Option Value} {base : Heap} {f C CB : Addr} {fd : FuncData} (TB : BaseX K mg CB) (T : OexC K C) (hanswer : PySem.W.findIn K (.ref C) "answer" = some none) (F : FunD K "__init__" "NeverArises.__init__" (defArgs s_x7) (defBody s_x7) (defScope s_x7) [] [] f fd) : FnOk P w K mg base (L2.CX P w) 1 f fd ["self", "answer"] (spI1 C "answer") :=
  F.ok sc_x7 (fun vs H Q E h => by obtain ⟨a, y, rfl, _⟩ := h; rfl) fun cdv A outer s H vs Q E hr h => ⟨_, pss_cons (ps_expr (pe_feinit TB (pa_cons (pv 0) (pa_cons pe_str pa_nil)))) (pss_one (ps_ost (pv 0) (pv 1))), read1 rfl T hanswer h⟩
abbrev s_x8 : Stmt := inClass (top 10) 0
theorem sc_x8 : FnScope ["self", "index"] ["self", "index"] (defScope s_x8) := ⟨rfl, rfl, rfl, by decide +kernel, rfl, by decide +kernel, by decide +kernel⟩
theorem ok_x8 {P : Program} {w : World} {K : PySem.W.Frag} {mg : Str → Option Value} {base : Heap} {f C CB : Addr} {fd : FuncData} (TB : BaseX K mg CB) (T : OexC K C) (hindex : PySem.W.findIn K (.ref C) "index" = some none) (F : FunD K "__init__" "NoServers.__init__" (defArgs s_x8) (defBody s_x8) (defScope s_x8) [] [] f fd) : FnOk P w K mg base (L2.CX P w) 1 f fd ["self", "index"] (spI1 C "index") :=
  F.ok sc_x8 (fun vs H Q E h => by obtain ⟨a, y, rfl, _⟩ := h; rfl) fun cdv A outer s H vs Q E hr h => ⟨_, pss_cons (ps_expr (pe_feinit TB (pa_cons (pv 0) (pa_cons pe_str pa_nil)))) (pss_one (ps_ost (pv 0) (pv 1))), read1 rfl T hindex h⟩
abbrev s_x9 : Stmt := inClass (top 11) 0
theorem sc_x9 : FnScope ["self", "index"] ["self", "index"] (defScope s_x9) := ⟨rfl, rfl, rfl, by decide +kernel, rfl, by decide +kernel, by decide +kernel⟩
theorem ok_x9 {P : Program} {w : World} {K : PySem.W.Frag} {mg : Str → Option Value} {base : Heap} {f C CB : Addr} {fd : FuncData} (TB : BaseX K mg CB) (T : OexC K C) (hindex : PySem.W.findIn K (.ref C) "index" = some none) (F : FunD K "__init__" "NoNumbers.__init__" (defArgs s_x9) (defBody s_x9) (defScope s_x9) [] [] f fd) : FnOk P w K mg base (L2.CX P w) 1 f fd ["self", "index"] (spI1 C "index") :=
  F.ok sc_x9 (fun vs H Q E h => by obtain ⟨a, y, rfl, _⟩ := h; rfl) fun cdv A outer s H vs Q E hr h => ⟨_, pss_cons (ps_expr (pe_feinit TB (pa_cons (pv 0) (pa_cons pe_str pa_nil)))) (pss_one (ps_ost (pv 0) (pv 1))), read1 rfl T hindex h⟩
abbrev s_x10 : Stmt := inClass (top 12) 0
theorem sc_x10 : FnScope ["self", "group"] ["self", "group"] (defScope s_x10) := ⟨rfl, rfl, rfl, by decide +kernel, rfl, by decide +kernel, by decide +kernel⟩
theorem ok_x10 {P : Program} {w : World} {K : PySem.W.Frag} {mg : Str → Option Value} {base : Heap} {f C CB : Addr} {fd : FuncData} (TB : BaseX K mg CB) (T : OexC K C) (hgroup : PySem.W.findIn K (.ref C) "group" = some none) (F : FunD K "__init__" "Short.__init__" (defArgs s_x10) (defBody s_x10) (defScope s_x10) [] [] f fd) : FnOk P w K mg base (L2.CX P w) 1 f fd ["self", "group"] (spI1 C "group") :=
  F.ok sc_x10 (fun vs H Q E h => by obtain ⟨a, y, rfl, _⟩ := h; rfl) fun cdv A outer s H vs Q E hr h => ⟨_, pss_cons (ps_expr (pe_feinit TB (pa_cons (pv 0) (pa_cons pe_str pa_nil)))) (pss_one (ps_ost (pv 0) (pv 1))), read1 rfl T hgroup h⟩
abbrev s_x11 : Stmt := inClass (top 13) 0
theorem sc_x11 : FnScope ["self", "most"] ["self", "most"] (defScope s_x11) := ⟨rfl, rfl, rfl, by decide +kernel, rfl, by decide +kernel, by decide +kernel⟩
theorem ok_x11 {P : Program} {w : World} {K : PySem.W.Frag} {mg : Str → Option Value} {base : Heap} {f C CB : Addr} {fd : FuncData} (TB : BaseX K mg CB) (T : OexC K C) (hmost : PySem.W.findIn K (.ref C) "most" = some none) (F : FunD K "__init__" "TooMany.__init__" (defArgs s_x11) (defBody s_x11) (defScope s_x11) [] [] f fd) : FnOk P w K mg base (L2.CX P w) 1 f fd ["self", "most"] (spI1 C "most") :=
  F.ok sc_x11 (fun vs H Q E h => by obtain ⟨a, y, rfl, _⟩ := h; rfl) fun cdv A outer s H vs Q E hr h => ⟨_, pss_cons (ps_expr (pe_feinit TB (pa_cons (pv 0) (pa_cons pe_str pa_nil)))) (pss_one (ps_ost (pv 0) (pv 1))), read1 rfl T hmost h⟩
theorem vals_rev : ∀ {vs : List V} {us : List Value}, Vals vs us → Vals vs.reverse us.reverse
  | _, _, .nil => .nil
  | _, _, .cons a r => by
    rw [List.reverse_cons, List.reverse_cons]
    exact (vals_rev r).append (.cons a .nil)
theorem isErr_n {K : PySem.W.Frag} {c : Cf} {cv : Value} {b0 b1 b2 b3 b4 b5 b6 b7 b8 b9 b10 b11 : Bool} (h0 : ExcC K (c.exc 0) ∧ PySem.W.kitOne K (.ref (c.exc 0)) cv = some b0) (h1 : ExcC K (c.exc 1) ∧ PySem.W.kitOne K (.ref (c.exc 1)) cv = some b1) (h2 : ExcC K (c.exc 2) ∧ PySem.W.kitOne K (.ref (c.exc 2)) cv = some b2) (h3 : ExcC K (c.exc 3) ∧ PySem.W.kitOne K (.ref (c.exc 3)) cv = some b3) (h4 : ExcC K (c.exc 4) ∧ PySem.W.kitOne K (.ref (c.exc 4)) cv = some b4) (h5 : ExcC K (c.exc 5) ∧ PySem.W.kitOne K (.ref (c.exc 5)) cv = some b5) (h6 : ExcC K (c.exc 6) ∧ PySem.W.kitOne K (.ref (c.exc 6)) cv = some b6) (h7 : ExcC K (c.exc 7) ∧ PySem.W.kitOne K (.ref (c.exc 7)) cv = some b7) (h8 : ExcC K (c.exc 8) ∧ PySem.W.kitOne K (.ref (c.exc 8)) cv = some b8) (h9 : ExcC K (c.exc 9) ∧ PySem.W.kitOne K (.ref (c.exc 9)) cv = some b9) (h10 : ExcC K (c.exc 10) ∧ PySem.W.kitOne K (.ref (c.exc 10)) cv = some b10) (h11 : ExcC K (c.exc 11) ∧ PySem.W.kitOne K (.ref (c.exc 11)) cv = some b11) : IsErr K c cv [b0, b1, b2, b3, b4, b5, b6, b7, b8, b9, b10, b11] := ⟨fun k b hb => match k, hb with
  | 0, hb => by simp at hb; subst hb; exact h0
  | 1, hb => by simp at hb; subst hb; exact h1
  | 2, hb => by simp at hb; subst hb; exact h2
  | 3, hb => by simp at hb; subst hb; exact h3
  | 4, hb => by simp at hb; subst hb; exact h4
  | 5, hb => by simp at hb; subst hb; exact h5
  | 6, hb => by simp at hb; subst hb; exact h6
  | 7, hb => by simp at hb; subst hb; exact h7
  | 8, hb => by simp at hb; subst hb; exact h8
  | 9, hb => by simp at hb; subst hb; exact h9
  | 10, hb => by simp at hb; subst hb; exact h10
  | 11, hb => by simp at hb; subst hb; exact h11
  | _ + 12, hb => by simp at hb⟩
theorem wire (plain : ∀ ns : List Int, ns.length ≤ 63 → ∃ outs, m_law [.lst (ns.map .int)] = .ret (.bl true) outs) {l : PySem.W.OpenLaw} {w : World} {K : PySem.W.Frag} {h : Heap} {mg : Str → Option Value} {fa CB X0 X2 X1 X3 X4 X5 X6 X7 X8 X9 X10 X11 : Addr} (X : K.In h) (G : h.Ns mainGlobals mg) (hfa : mg "law" = some (.ref fa))
    {xn0 xq0 : Str} {xN0 : Addr} {xb0 : List Value} {xs0 : List Str} {xu0 : List Value} {xa0 : Bool} {xc0 : Option Bool} {xd0 : Option Addr} {xe0 xf0 xg0 xh0 xi0 : Option Value}
    {xn2 xq2 : Str} {xN2 : Addr} {xb2 : List Value} {xs2 : List Str} {xu2 : List Value} {xa2 : Bool} {xc2 : Option Bool} {xd2 : Option Addr} {xe2 xf2 xg2 xh2 xi2 : Option Value}
    {xn1 xq1 : Str} {xN1 : Addr} {xb1 : List Value} {xs1 : List Str} {xu1 : List Value} {xa1 : Bool} {xc1 : Option Bool} {xd1 : Option Addr} {xe1 xf1 xg1 xh1 xi1 : Option Value}
    {xn3 xq3 : Str} {xN3 : Addr} {xb3 : List Value} {xs3 : List Str} {xu3 : List Value} {xa3 : Bool} {xc3 : Option Bool} {xd3 : Option Addr} {xe3 xf3 xg3 xh3 xi3 : Option Value}
    {xn4 xq4 : Str} {xN4 : Addr} {xb4 : List Value} {xs4 : List Str} {xu4 : List Value} {xa4 : Bool} {xc4 : Option Bool} {xd4 : Option Addr} {xe4 xf4 xg4 xh4 xi4 : Option Value}
    {xn5 xq5 : Str} {xN5 : Addr} {xb5 : List Value} {xs5 : List Str} {xu5 : List Value} {xa5 : Bool} {xc5 : Option Bool} {xd5 : Option Addr} {xe5 xf5 xg5 xh5 xi5 : Option Value}
    {xn6 xq6 : Str} {xN6 : Addr} {xb6 : List Value} {xs6 : List Str} {xu6 : List Value} {xa6 : Bool} {xc6 : Option Bool} {xd6 : Option Addr} {xe6 xf6 xg6 xh6 xi6 : Option Value}
    {xn7 xq7 : Str} {xN7 : Addr} {xb7 : List Value} {xs7 : List Str} {xu7 : List Value} {xa7 : Bool} {xc7 : Option Bool} {xd7 : Option Addr} {xe7 xf7 xg7 xh7 xi7 : Option Value}
    {xn8 xq8 : Str} {xN8 : Addr} {xb8 : List Value} {xs8 : List Str} {xu8 : List Value} {xa8 : Bool} {xc8 : Option Bool} {xd8 : Option Addr} {xe8 xf8 xg8 xh8 xi8 : Option Value}
    {xn9 xq9 : Str} {xN9 : Addr} {xb9 : List Value} {xs9 : List Str} {xu9 : List Value} {xa9 : Bool} {xc9 : Option Bool} {xd9 : Option Addr} {xe9 xf9 xg9 xh9 xi9 : Option Value}
    {xn10 xq10 : Str} {xN10 : Addr} {xb10 : List Value} {xs10 : List Str} {xu10 : List Value} {xa10 : Bool} {xc10 : Option Bool} {xd10 : Option Addr} {xe10 xf10 xg10 xh10 xi10 : Option Value}
    {xn11 xq11 : Str} {xN11 : Addr} {xb11 : List Value} {xs11 : List Str} {xu11 : List Value} {xa11 : Bool} {xc11 : Option Bool} {xd11 : Option Addr} {xe11 xf11 xg11 xh11 xi11 : Option Value}
    {f_NoFarmdd_initdd : Addr} {od_NoFarmdd_initdd an_NoFarmdd_initdd : Option Addr} {sl_NoFarmdd_initdd : Array (Option Value)} {oc_NoFarmdd_initdd dc_NoFarmdd_initdd pm_NoFarmdd_initdd ct_NoFarmdd_initdd : Value} {cd_NoFarmdd_initdd : Value}
    {kV_NoFarmdd_initdd : Value}
    {f_NoStatedd_initdd : Addr} {od_NoStatedd_initdd an_NoStatedd_initdd : Option Addr} {sl_NoStatedd_initdd : Array (Option Value)} {oc_NoStatedd_initdd dc_NoStatedd_initdd pm_NoStatedd_initdd ct_NoStatedd_initdd : Value} {cd_NoStatedd_initdd : Value}
    {kV_NoStatedd_initdd : Value}
    {f_NoSessiondd_initdd : Addr} {od_NoSessiondd_initdd an_NoSessiondd_initdd : Option Addr} {sl_NoSessiondd_initdd : Array (Option Value)} {oc_NoSessiondd_initdd dc_NoSessiondd_initdd pm_NoSessiondd_initdd ct_NoSessiondd_initdd : Value} {cd_NoSessiondd_initdd : Value}
    {kV_NoSessiondd_initdd : Value}
    {f_NoPlacementdd_initdd : Addr} {od_NoPlacementdd_initdd an_NoPlacementdd_initdd : Option Addr} {sl_NoPlacementdd_initdd : Array (Option Value)} {oc_NoPlacementdd_initdd dc_NoPlacementdd_initdd pm_NoPlacementdd_initdd ct_NoPlacementdd_initdd : Value} {cd_NoPlacementdd_initdd : Value}
    {kV_NoPlacementdd_initdd : Value}
    {f_NoSessionsdd_initdd : Addr} {od_NoSessionsdd_initdd an_NoSessionsdd_initdd : Option Addr} {sl_NoSessionsdd_initdd : Array (Option Value)} {oc_NoSessionsdd_initdd dc_NoSessionsdd_initdd pm_NoSessionsdd_initdd ct_NoSessionsdd_initdd : Value} {cd_NoSessionsdd_initdd : Value}
    {kV_NoSessionsdd_initdd : Value}
    {f_NoEventsdd_initdd : Addr} {od_NoEventsdd_initdd an_NoEventsdd_initdd : Option Addr} {sl_NoEventsdd_initdd : Array (Option Value)} {oc_NoEventsdd_initdd dc_NoEventsdd_initdd pm_NoEventsdd_initdd ct_NoEventsdd_initdd : Value} {cd_NoEventsdd_initdd : Value}
    {kV_NoEventsdd_initdd : Value}
    {f_NoCertificatedd_initdd : Addr} {od_NoCertificatedd_initdd an_NoCertificatedd_initdd : Option Addr} {sl_NoCertificatedd_initdd : Array (Option Value)} {oc_NoCertificatedd_initdd dc_NoCertificatedd_initdd pm_NoCertificatedd_initdd ct_NoCertificatedd_initdd : Value} {cd_NoCertificatedd_initdd : Value}
    {kV_NoCertificatedd_initdd : Value}
    {f_NeverArisesdd_initdd : Addr} {od_NeverArisesdd_initdd an_NeverArisesdd_initdd : Option Addr} {sl_NeverArisesdd_initdd : Array (Option Value)} {oc_NeverArisesdd_initdd dc_NeverArisesdd_initdd pm_NeverArisesdd_initdd ct_NeverArisesdd_initdd : Value} {cd_NeverArisesdd_initdd : Value}
    {kV_NeverArisesdd_initdd : Value}
    {f_NoServersdd_initdd : Addr} {od_NoServersdd_initdd an_NoServersdd_initdd : Option Addr} {sl_NoServersdd_initdd : Array (Option Value)} {oc_NoServersdd_initdd dc_NoServersdd_initdd pm_NoServersdd_initdd ct_NoServersdd_initdd : Value} {cd_NoServersdd_initdd : Value}
    {kV_NoServersdd_initdd : Value}
    {f_NoNumbersdd_initdd : Addr} {od_NoNumbersdd_initdd an_NoNumbersdd_initdd : Option Addr} {sl_NoNumbersdd_initdd : Array (Option Value)} {oc_NoNumbersdd_initdd dc_NoNumbersdd_initdd pm_NoNumbersdd_initdd ct_NoNumbersdd_initdd : Value} {cd_NoNumbersdd_initdd : Value}
    {kV_NoNumbersdd_initdd : Value}
    {f_Shortdd_initdd : Addr} {od_Shortdd_initdd an_Shortdd_initdd : Option Addr} {sl_Shortdd_initdd : Array (Option Value)} {oc_Shortdd_initdd dc_Shortdd_initdd pm_Shortdd_initdd ct_Shortdd_initdd : Value} {cd_Shortdd_initdd : Value}
    {kV_Shortdd_initdd : Value}
    {f_TooManydd_initdd : Addr} {od_TooManydd_initdd an_TooManydd_initdd : Option Addr} {sl_TooManydd_initdd : Array (Option Value)} {oc_TooManydd_initdd dc_TooManydd_initdd pm_TooManydd_initdd ct_TooManydd_initdd : Value} {cd_TooManydd_initdd : Value}
    {kV_TooManydd_initdd : Value}
    {f_law_draw : Addr} {od_law_draw an_law_draw : Option Addr} {sl_law_draw : Array (Option Value)} {oc_law_draw dc_law_draw pm_law_draw ct_law_draw : Value} {cd_law_draw : Value}
    {kV_law_draw : Value}
    {f_law_by_place : Addr} {od_law_by_place an_law_by_place : Option Addr} {sl_law_by_place : Array (Option Value)} {oc_law_by_place dc_law_by_place pm_law_by_place ct_law_by_place : Value} {cd_law_by_place : Value}
    {kV_law_by_place : Value}
    {f_law_by_name : Addr} {od_law_by_name an_law_by_name : Option Addr} {sl_law_by_name : Array (Option Value)} {oc_law_by_name dc_law_by_name pm_law_by_name ct_law_by_name : Value} {cd_law_by_name : Value}
    {kV_law_by_name : Value}
    {f_law_fields : Addr} {od_law_fields an_law_fields : Option Addr} {sl_law_fields : Array (Option Value)} {oc_law_fields dc_law_fields pm_law_fields ct_law_fields : Value} {cd_law_fields : Value}
    {kV_law_fields : Value}
    {f_law_taken : Addr} {od_law_taken an_law_taken : Option Addr} {sl_law_taken : Array (Option Value)} {oc_law_taken dc_law_taken pm_law_taken ct_law_taken : Value} {cd_law_taken : Value}
    {kV_law_taken : Value}
    {f_law_right : Addr} {od_law_right an_law_right : Option Addr} {sl_law_right : Array (Option Value)} {oc_law_right dc_law_right pm_law_right ct_law_right : Value} {cd_law_right : Value}
    {kV_law_right : Value}
    {f_law : Addr} {od_law an_law : Option Addr} {sl_law : Array (Option Value)} {oc_law dc_law pm_law ct_law : Value} {cd_law : Value}
    {kV_law : Value}
    (aFE : PySem.W.nsIn K mainGlobals "FarmError" = some (some (.ref CB)))
    (aX0 : PySem.W.nsIn K mainGlobals "NoFarm" = some (some (.ref X0)))
    (xL0 : K.lookup X0 = some (PySem.excClassObj xn0 xq0 X0 xN0 xb0 [.ref CB, .type "ValueError", .type "Exception", .type "BaseException", .type "object"] true xs0 xu0 xa0 xc0 xd0 xe0 xf0 xg0 xh0 xi0 "ValueError.__new__"))
    (xsa0 : PySem.W.findIn K (.ref X0) "__setattr__" = some (some (.builtin "object.__setattr__")))
    (xex0 : PySem.W.subIn K (.ref X0) (.type "BaseException") = some true)
    (xty0 : PySem.W.typeIn K (.ref X0) = some (.type "type"))
    (xkp0 : PySem.W.keepIn K (.ref X0) = true)
    (xga0 : PySem.W.findIn K (.ref X0) "__getattribute__" = some (some (.builtin "BaseException.__getattribute__")))
    (xgg0 : PySem.W.findIn K (.ref X0) "__getattr__" = some none)
    (xhd0 : PySem.W.hasDictIn K X0 = true)
    (xss0 : PySem.W.subIn K (.ref X0) (.ref X0) = some true)
    (xcl0 : PySem.W.findIn K (.ref X0) "__class__" = some (some (.builtin "object.__class__")))
    (xmo0 : PySem.W.mroIn K X0 (.type "object") = some true)
    (xsb0 : PySem.W.subIn K (.ref X0) (.ref CB) = some true)
    (xp0_part : PySem.W.findIn K (.ref X0) "part" = some none)
    (xp0_index : PySem.W.findIn K (.ref X0) "index" = some none)
    (aX2 : PySem.W.nsIn K mainGlobals "NoState" = some (some (.ref X2)))
    (xL2 : K.lookup X2 = some (PySem.excClassObj xn2 xq2 X2 xN2 xb2 [.ref CB, .type "ValueError", .type "Exception", .type "BaseException", .type "object"] true xs2 xu2 xa2 xc2 xd2 xe2 xf2 xg2 xh2 xi2 "ValueError.__new__"))
    (xsa2 : PySem.W.findIn K (.ref X2) "__setattr__" = some (some (.builtin "object.__setattr__")))
    (xex2 : PySem.W.subIn K (.ref X2) (.type "BaseException") = some true)
    (xty2 : PySem.W.typeIn K (.ref X2) = some (.type "type"))
    (xkp2 : PySem.W.keepIn K (.ref X2) = true)
    (xga2 : PySem.W.findIn K (.ref X2) "__getattribute__" = some (some (.builtin "BaseException.__getattribute__")))
    (xgg2 : PySem.W.findIn K (.ref X2) "__getattr__" = some none)
    (xhd2 : PySem.W.hasDictIn K X2 = true)
    (xss2 : PySem.W.subIn K (.ref X2) (.ref X2) = some true)
    (xcl2 : PySem.W.findIn K (.ref X2) "__class__" = some (some (.builtin "object.__class__")))
    (xmo2 : PySem.W.mroIn K X2 (.type "object") = some true)
    (xsb2 : PySem.W.subIn K (.ref X2) (.ref CB) = some true)
    (xp2_part : PySem.W.findIn K (.ref X2) "part" = some none)
    (xp2_index : PySem.W.findIn K (.ref X2) "index" = some none)
    (aX1 : PySem.W.nsIn K mainGlobals "NoSession" = some (some (.ref X1)))
    (xL1 : K.lookup X1 = some (PySem.excClassObj xn1 xq1 X1 xN1 xb1 [.ref CB, .type "ValueError", .type "Exception", .type "BaseException", .type "object"] true xs1 xu1 xa1 xc1 xd1 xe1 xf1 xg1 xh1 xi1 "ValueError.__new__"))
    (xsa1 : PySem.W.findIn K (.ref X1) "__setattr__" = some (some (.builtin "object.__setattr__")))
    (xex1 : PySem.W.subIn K (.ref X1) (.type "BaseException") = some true)
    (xty1 : PySem.W.typeIn K (.ref X1) = some (.type "type"))
    (xkp1 : PySem.W.keepIn K (.ref X1) = true)
    (xga1 : PySem.W.findIn K (.ref X1) "__getattribute__" = some (some (.builtin "BaseException.__getattribute__")))
    (xgg1 : PySem.W.findIn K (.ref X1) "__getattr__" = some none)
    (xhd1 : PySem.W.hasDictIn K X1 = true)
    (xss1 : PySem.W.subIn K (.ref X1) (.ref X1) = some true)
    (xcl1 : PySem.W.findIn K (.ref X1) "__class__" = some (some (.builtin "object.__class__")))
    (xmo1 : PySem.W.mroIn K X1 (.type "object") = some true)
    (xsb1 : PySem.W.subIn K (.ref X1) (.ref CB) = some true)
    (xp1_session : PySem.W.findIn K (.ref X1) "session" = some none)
    (aX3 : PySem.W.nsIn K mainGlobals "NoPlacement" = some (some (.ref X3)))
    (xL3 : K.lookup X3 = some (PySem.excClassObj xn3 xq3 X3 xN3 xb3 [.ref CB, .type "ValueError", .type "Exception", .type "BaseException", .type "object"] true xs3 xu3 xa3 xc3 xd3 xe3 xf3 xg3 xh3 xi3 "ValueError.__new__"))
    (xsa3 : PySem.W.findIn K (.ref X3) "__setattr__" = some (some (.builtin "object.__setattr__")))
    (xex3 : PySem.W.subIn K (.ref X3) (.type "BaseException") = some true)
    (xty3 : PySem.W.typeIn K (.ref X3) = some (.type "type"))
    (xkp3 : PySem.W.keepIn K (.ref X3) = true)
    (xga3 : PySem.W.findIn K (.ref X3) "__getattribute__" = some (some (.builtin "BaseException.__getattribute__")))
    (xgg3 : PySem.W.findIn K (.ref X3) "__getattr__" = some none)
    (xhd3 : PySem.W.hasDictIn K X3 = true)
    (xss3 : PySem.W.subIn K (.ref X3) (.ref X3) = some true)
    (xcl3 : PySem.W.findIn K (.ref X3) "__class__" = some (some (.builtin "object.__class__")))
    (xmo3 : PySem.W.mroIn K X3 (.type "object") = some true)
    (xsb3 : PySem.W.subIn K (.ref X3) (.ref CB) = some true)
    (xp3_index : PySem.W.findIn K (.ref X3) "index" = some none)
    (aX4 : PySem.W.nsIn K mainGlobals "NoSessions" = some (some (.ref X4)))
    (xL4 : K.lookup X4 = some (PySem.excClassObj xn4 xq4 X4 xN4 xb4 [.ref CB, .type "ValueError", .type "Exception", .type "BaseException", .type "object"] true xs4 xu4 xa4 xc4 xd4 xe4 xf4 xg4 xh4 xi4 "ValueError.__new__"))
    (xsa4 : PySem.W.findIn K (.ref X4) "__setattr__" = some (some (.builtin "object.__setattr__")))
    (xex4 : PySem.W.subIn K (.ref X4) (.type "BaseException") = some true)
    (xty4 : PySem.W.typeIn K (.ref X4) = some (.type "type"))
    (xkp4 : PySem.W.keepIn K (.ref X4) = true)
    (xga4 : PySem.W.findIn K (.ref X4) "__getattribute__" = some (some (.builtin "BaseException.__getattribute__")))
    (xgg4 : PySem.W.findIn K (.ref X4) "__getattr__" = some none)
    (xhd4 : PySem.W.hasDictIn K X4 = true)
    (xss4 : PySem.W.subIn K (.ref X4) (.ref X4) = some true)
    (xcl4 : PySem.W.findIn K (.ref X4) "__class__" = some (some (.builtin "object.__class__")))
    (xmo4 : PySem.W.mroIn K X4 (.type "object") = some true)
    (xsb4 : PySem.W.subIn K (.ref X4) (.ref CB) = some true)
    (xp4_index : PySem.W.findIn K (.ref X4) "index" = some none)
    (aX5 : PySem.W.nsIn K mainGlobals "NoEvents" = some (some (.ref X5)))
    (xL5 : K.lookup X5 = some (PySem.excClassObj xn5 xq5 X5 xN5 xb5 [.ref CB, .type "ValueError", .type "Exception", .type "BaseException", .type "object"] true xs5 xu5 xa5 xc5 xd5 xe5 xf5 xg5 xh5 xi5 "ValueError.__new__"))
    (xsa5 : PySem.W.findIn K (.ref X5) "__setattr__" = some (some (.builtin "object.__setattr__")))
    (xex5 : PySem.W.subIn K (.ref X5) (.type "BaseException") = some true)
    (xty5 : PySem.W.typeIn K (.ref X5) = some (.type "type"))
    (xkp5 : PySem.W.keepIn K (.ref X5) = true)
    (xga5 : PySem.W.findIn K (.ref X5) "__getattribute__" = some (some (.builtin "BaseException.__getattribute__")))
    (xgg5 : PySem.W.findIn K (.ref X5) "__getattr__" = some none)
    (xhd5 : PySem.W.hasDictIn K X5 = true)
    (xss5 : PySem.W.subIn K (.ref X5) (.ref X5) = some true)
    (xcl5 : PySem.W.findIn K (.ref X5) "__class__" = some (some (.builtin "object.__class__")))
    (xmo5 : PySem.W.mroIn K X5 (.type "object") = some true)
    (xsb5 : PySem.W.subIn K (.ref X5) (.ref CB) = some true)
    (xp5_index : PySem.W.findIn K (.ref X5) "index" = some none)
    (aX6 : PySem.W.nsIn K mainGlobals "NoCertificate" = some (some (.ref X6)))
    (xL6 : K.lookup X6 = some (PySem.excClassObj xn6 xq6 X6 xN6 xb6 [.ref CB, .type "ValueError", .type "Exception", .type "BaseException", .type "object"] true xs6 xu6 xa6 xc6 xd6 xe6 xf6 xg6 xh6 xi6 "ValueError.__new__"))
    (xsa6 : PySem.W.findIn K (.ref X6) "__setattr__" = some (some (.builtin "object.__setattr__")))
    (xex6 : PySem.W.subIn K (.ref X6) (.type "BaseException") = some true)
    (xty6 : PySem.W.typeIn K (.ref X6) = some (.type "type"))
    (xkp6 : PySem.W.keepIn K (.ref X6) = true)
    (xga6 : PySem.W.findIn K (.ref X6) "__getattribute__" = some (some (.builtin "BaseException.__getattribute__")))
    (xgg6 : PySem.W.findIn K (.ref X6) "__getattr__" = some none)
    (xhd6 : PySem.W.hasDictIn K X6 = true)
    (xss6 : PySem.W.subIn K (.ref X6) (.ref X6) = some true)
    (xcl6 : PySem.W.findIn K (.ref X6) "__class__" = some (some (.builtin "object.__class__")))
    (xmo6 : PySem.W.mroIn K X6 (.type "object") = some true)
    (xsb6 : PySem.W.subIn K (.ref X6) (.ref CB) = some true)
    (xp6_index : PySem.W.findIn K (.ref X6) "index" = some none)
    (aX7 : PySem.W.nsIn K mainGlobals "NeverArises" = some (some (.ref X7)))
    (xL7 : K.lookup X7 = some (PySem.excClassObj xn7 xq7 X7 xN7 xb7 [.ref CB, .type "ValueError", .type "Exception", .type "BaseException", .type "object"] true xs7 xu7 xa7 xc7 xd7 xe7 xf7 xg7 xh7 xi7 "ValueError.__new__"))
    (xsa7 : PySem.W.findIn K (.ref X7) "__setattr__" = some (some (.builtin "object.__setattr__")))
    (xex7 : PySem.W.subIn K (.ref X7) (.type "BaseException") = some true)
    (xty7 : PySem.W.typeIn K (.ref X7) = some (.type "type"))
    (xkp7 : PySem.W.keepIn K (.ref X7) = true)
    (xga7 : PySem.W.findIn K (.ref X7) "__getattribute__" = some (some (.builtin "BaseException.__getattribute__")))
    (xgg7 : PySem.W.findIn K (.ref X7) "__getattr__" = some none)
    (xhd7 : PySem.W.hasDictIn K X7 = true)
    (xss7 : PySem.W.subIn K (.ref X7) (.ref X7) = some true)
    (xcl7 : PySem.W.findIn K (.ref X7) "__class__" = some (some (.builtin "object.__class__")))
    (xmo7 : PySem.W.mroIn K X7 (.type "object") = some true)
    (xsb7 : PySem.W.subIn K (.ref X7) (.ref CB) = some true)
    (xp7_answer : PySem.W.findIn K (.ref X7) "answer" = some none)
    (aX8 : PySem.W.nsIn K mainGlobals "NoServers" = some (some (.ref X8)))
    (xL8 : K.lookup X8 = some (PySem.excClassObj xn8 xq8 X8 xN8 xb8 [.ref CB, .type "ValueError", .type "Exception", .type "BaseException", .type "object"] true xs8 xu8 xa8 xc8 xd8 xe8 xf8 xg8 xh8 xi8 "ValueError.__new__"))
    (xsa8 : PySem.W.findIn K (.ref X8) "__setattr__" = some (some (.builtin "object.__setattr__")))
    (xex8 : PySem.W.subIn K (.ref X8) (.type "BaseException") = some true)
    (xty8 : PySem.W.typeIn K (.ref X8) = some (.type "type"))
    (xkp8 : PySem.W.keepIn K (.ref X8) = true)
    (xga8 : PySem.W.findIn K (.ref X8) "__getattribute__" = some (some (.builtin "BaseException.__getattribute__")))
    (xgg8 : PySem.W.findIn K (.ref X8) "__getattr__" = some none)
    (xhd8 : PySem.W.hasDictIn K X8 = true)
    (xss8 : PySem.W.subIn K (.ref X8) (.ref X8) = some true)
    (xcl8 : PySem.W.findIn K (.ref X8) "__class__" = some (some (.builtin "object.__class__")))
    (xmo8 : PySem.W.mroIn K X8 (.type "object") = some true)
    (xsb8 : PySem.W.subIn K (.ref X8) (.ref CB) = some true)
    (xp8_index : PySem.W.findIn K (.ref X8) "index" = some none)
    (aX9 : PySem.W.nsIn K mainGlobals "NoNumbers" = some (some (.ref X9)))
    (xL9 : K.lookup X9 = some (PySem.excClassObj xn9 xq9 X9 xN9 xb9 [.ref CB, .type "ValueError", .type "Exception", .type "BaseException", .type "object"] true xs9 xu9 xa9 xc9 xd9 xe9 xf9 xg9 xh9 xi9 "ValueError.__new__"))
    (xsa9 : PySem.W.findIn K (.ref X9) "__setattr__" = some (some (.builtin "object.__setattr__")))
    (xex9 : PySem.W.subIn K (.ref X9) (.type "BaseException") = some true)
    (xty9 : PySem.W.typeIn K (.ref X9) = some (.type "type"))
    (xkp9 : PySem.W.keepIn K (.ref X9) = true)
    (xga9 : PySem.W.findIn K (.ref X9) "__getattribute__" = some (some (.builtin "BaseException.__getattribute__")))
    (xgg9 : PySem.W.findIn K (.ref X9) "__getattr__" = some none)
    (xhd9 : PySem.W.hasDictIn K X9 = true)
    (xss9 : PySem.W.subIn K (.ref X9) (.ref X9) = some true)
    (xcl9 : PySem.W.findIn K (.ref X9) "__class__" = some (some (.builtin "object.__class__")))
    (xmo9 : PySem.W.mroIn K X9 (.type "object") = some true)
    (xsb9 : PySem.W.subIn K (.ref X9) (.ref CB) = some true)
    (xp9_index : PySem.W.findIn K (.ref X9) "index" = some none)
    (aX10 : PySem.W.nsIn K mainGlobals "Short" = some (some (.ref X10)))
    (xL10 : K.lookup X10 = some (PySem.excClassObj xn10 xq10 X10 xN10 xb10 [.ref CB, .type "ValueError", .type "Exception", .type "BaseException", .type "object"] true xs10 xu10 xa10 xc10 xd10 xe10 xf10 xg10 xh10 xi10 "ValueError.__new__"))
    (xsa10 : PySem.W.findIn K (.ref X10) "__setattr__" = some (some (.builtin "object.__setattr__")))
    (xex10 : PySem.W.subIn K (.ref X10) (.type "BaseException") = some true)
    (xty10 : PySem.W.typeIn K (.ref X10) = some (.type "type"))
    (xkp10 : PySem.W.keepIn K (.ref X10) = true)
    (xga10 : PySem.W.findIn K (.ref X10) "__getattribute__" = some (some (.builtin "BaseException.__getattribute__")))
    (xgg10 : PySem.W.findIn K (.ref X10) "__getattr__" = some none)
    (xhd10 : PySem.W.hasDictIn K X10 = true)
    (xss10 : PySem.W.subIn K (.ref X10) (.ref X10) = some true)
    (xcl10 : PySem.W.findIn K (.ref X10) "__class__" = some (some (.builtin "object.__class__")))
    (xmo10 : PySem.W.mroIn K X10 (.type "object") = some true)
    (xsb10 : PySem.W.subIn K (.ref X10) (.ref CB) = some true)
    (xp10_group : PySem.W.findIn K (.ref X10) "group" = some none)
    (aX11 : PySem.W.nsIn K mainGlobals "TooMany" = some (some (.ref X11)))
    (xL11 : K.lookup X11 = some (PySem.excClassObj xn11 xq11 X11 xN11 xb11 [.ref CB, .type "ValueError", .type "Exception", .type "BaseException", .type "object"] true xs11 xu11 xa11 xc11 xd11 xe11 xf11 xg11 xh11 xi11 "ValueError.__new__"))
    (xsa11 : PySem.W.findIn K (.ref X11) "__setattr__" = some (some (.builtin "object.__setattr__")))
    (xex11 : PySem.W.subIn K (.ref X11) (.type "BaseException") = some true)
    (xty11 : PySem.W.typeIn K (.ref X11) = some (.type "type"))
    (xkp11 : PySem.W.keepIn K (.ref X11) = true)
    (xga11 : PySem.W.findIn K (.ref X11) "__getattribute__" = some (some (.builtin "BaseException.__getattribute__")))
    (xgg11 : PySem.W.findIn K (.ref X11) "__getattr__" = some none)
    (xhd11 : PySem.W.hasDictIn K X11 = true)
    (xss11 : PySem.W.subIn K (.ref X11) (.ref X11) = some true)
    (xcl11 : PySem.W.findIn K (.ref X11) "__class__" = some (some (.builtin "object.__class__")))
    (xmo11 : PySem.W.mroIn K X11 (.type "object") = some true)
    (xsb11 : PySem.W.subIn K (.ref X11) (.ref CB) = some true)
    (xp11_most : PySem.W.findIn K (.ref X11) "most" = some none)
    (cget : PySem.W.specialIn K (.builtin "object.__class__") "__get__" = some (some (.builtin "getset_descriptor.__get__")))
    (ctak : PySem.W.takesIn K (.builtin "object.__class__") = some true)
    (bex : PySem.W.subIn K (.ref CB) (.type "BaseException") = some true)
    (bhd : PySem.W.hasDictIn K CB = true)
    (bty : PySem.W.typeIn K (.ref CB) = some (.type "type"))
    (ki0_0 : PySem.W.kitOne K (.ref X0) (.ref X0) = some true)
    (ki0_1 : PySem.W.kitOne K (.ref X0) (.ref X1) = some false)
    (ki0_2 : PySem.W.kitOne K (.ref X0) (.ref X2) = some false)
    (ki0_3 : PySem.W.kitOne K (.ref X0) (.ref X3) = some false)
    (ki0_4 : PySem.W.kitOne K (.ref X0) (.ref X4) = some false)
    (ki0_5 : PySem.W.kitOne K (.ref X0) (.ref X5) = some false)
    (ki0_6 : PySem.W.kitOne K (.ref X0) (.ref X6) = some false)
    (ki0_7 : PySem.W.kitOne K (.ref X0) (.ref X7) = some false)
    (ki0_8 : PySem.W.kitOne K (.ref X0) (.ref X8) = some false)
    (ki0_9 : PySem.W.kitOne K (.ref X0) (.ref X9) = some false)
    (ki0_10 : PySem.W.kitOne K (.ref X0) (.ref X10) = some false)
    (ki0_11 : PySem.W.kitOne K (.ref X0) (.ref X11) = some false)
    (ki0_b : PySem.W.kitOne K (.ref X0) (.ref CB) = some true)
    (kiv0 : PySem.W.kitOne K (.ref X0) (.type "ValueError") = some true)
    (ki1_0 : PySem.W.kitOne K (.ref X1) (.ref X0) = some false)
    (ki1_1 : PySem.W.kitOne K (.ref X1) (.ref X1) = some true)
    (ki1_2 : PySem.W.kitOne K (.ref X1) (.ref X2) = some false)
    (ki1_3 : PySem.W.kitOne K (.ref X1) (.ref X3) = some false)
    (ki1_4 : PySem.W.kitOne K (.ref X1) (.ref X4) = some false)
    (ki1_5 : PySem.W.kitOne K (.ref X1) (.ref X5) = some false)
    (ki1_6 : PySem.W.kitOne K (.ref X1) (.ref X6) = some false)
    (ki1_7 : PySem.W.kitOne K (.ref X1) (.ref X7) = some false)
    (ki1_8 : PySem.W.kitOne K (.ref X1) (.ref X8) = some false)
    (ki1_9 : PySem.W.kitOne K (.ref X1) (.ref X9) = some false)
    (ki1_10 : PySem.W.kitOne K (.ref X1) (.ref X10) = some false)
    (ki1_11 : PySem.W.kitOne K (.ref X1) (.ref X11) = some false)
    (ki1_b : PySem.W.kitOne K (.ref X1) (.ref CB) = some true)
    (kiv1 : PySem.W.kitOne K (.ref X1) (.type "ValueError") = some true)
    (ki2_0 : PySem.W.kitOne K (.ref X2) (.ref X0) = some false)
    (ki2_1 : PySem.W.kitOne K (.ref X2) (.ref X1) = some false)
    (ki2_2 : PySem.W.kitOne K (.ref X2) (.ref X2) = some true)
    (ki2_3 : PySem.W.kitOne K (.ref X2) (.ref X3) = some false)
    (ki2_4 : PySem.W.kitOne K (.ref X2) (.ref X4) = some false)
    (ki2_5 : PySem.W.kitOne K (.ref X2) (.ref X5) = some false)
    (ki2_6 : PySem.W.kitOne K (.ref X2) (.ref X6) = some false)
    (ki2_7 : PySem.W.kitOne K (.ref X2) (.ref X7) = some false)
    (ki2_8 : PySem.W.kitOne K (.ref X2) (.ref X8) = some false)
    (ki2_9 : PySem.W.kitOne K (.ref X2) (.ref X9) = some false)
    (ki2_10 : PySem.W.kitOne K (.ref X2) (.ref X10) = some false)
    (ki2_11 : PySem.W.kitOne K (.ref X2) (.ref X11) = some false)
    (ki2_b : PySem.W.kitOne K (.ref X2) (.ref CB) = some true)
    (kiv2 : PySem.W.kitOne K (.ref X2) (.type "ValueError") = some true)
    (ki3_0 : PySem.W.kitOne K (.ref X3) (.ref X0) = some false)
    (ki3_1 : PySem.W.kitOne K (.ref X3) (.ref X1) = some false)
    (ki3_2 : PySem.W.kitOne K (.ref X3) (.ref X2) = some false)
    (ki3_3 : PySem.W.kitOne K (.ref X3) (.ref X3) = some true)
    (ki3_4 : PySem.W.kitOne K (.ref X3) (.ref X4) = some false)
    (ki3_5 : PySem.W.kitOne K (.ref X3) (.ref X5) = some false)
    (ki3_6 : PySem.W.kitOne K (.ref X3) (.ref X6) = some false)
    (ki3_7 : PySem.W.kitOne K (.ref X3) (.ref X7) = some false)
    (ki3_8 : PySem.W.kitOne K (.ref X3) (.ref X8) = some false)
    (ki3_9 : PySem.W.kitOne K (.ref X3) (.ref X9) = some false)
    (ki3_10 : PySem.W.kitOne K (.ref X3) (.ref X10) = some false)
    (ki3_11 : PySem.W.kitOne K (.ref X3) (.ref X11) = some false)
    (ki3_b : PySem.W.kitOne K (.ref X3) (.ref CB) = some true)
    (kiv3 : PySem.W.kitOne K (.ref X3) (.type "ValueError") = some true)
    (ki4_0 : PySem.W.kitOne K (.ref X4) (.ref X0) = some false)
    (ki4_1 : PySem.W.kitOne K (.ref X4) (.ref X1) = some false)
    (ki4_2 : PySem.W.kitOne K (.ref X4) (.ref X2) = some false)
    (ki4_3 : PySem.W.kitOne K (.ref X4) (.ref X3) = some false)
    (ki4_4 : PySem.W.kitOne K (.ref X4) (.ref X4) = some true)
    (ki4_5 : PySem.W.kitOne K (.ref X4) (.ref X5) = some false)
    (ki4_6 : PySem.W.kitOne K (.ref X4) (.ref X6) = some false)
    (ki4_7 : PySem.W.kitOne K (.ref X4) (.ref X7) = some false)
    (ki4_8 : PySem.W.kitOne K (.ref X4) (.ref X8) = some false)
    (ki4_9 : PySem.W.kitOne K (.ref X4) (.ref X9) = some false)
    (ki4_10 : PySem.W.kitOne K (.ref X4) (.ref X10) = some false)
    (ki4_11 : PySem.W.kitOne K (.ref X4) (.ref X11) = some false)
    (ki4_b : PySem.W.kitOne K (.ref X4) (.ref CB) = some true)
    (kiv4 : PySem.W.kitOne K (.ref X4) (.type "ValueError") = some true)
    (ki5_0 : PySem.W.kitOne K (.ref X5) (.ref X0) = some false)
    (ki5_1 : PySem.W.kitOne K (.ref X5) (.ref X1) = some false)
    (ki5_2 : PySem.W.kitOne K (.ref X5) (.ref X2) = some false)
    (ki5_3 : PySem.W.kitOne K (.ref X5) (.ref X3) = some false)
    (ki5_4 : PySem.W.kitOne K (.ref X5) (.ref X4) = some false)
    (ki5_5 : PySem.W.kitOne K (.ref X5) (.ref X5) = some true)
    (ki5_6 : PySem.W.kitOne K (.ref X5) (.ref X6) = some false)
    (ki5_7 : PySem.W.kitOne K (.ref X5) (.ref X7) = some false)
    (ki5_8 : PySem.W.kitOne K (.ref X5) (.ref X8) = some false)
    (ki5_9 : PySem.W.kitOne K (.ref X5) (.ref X9) = some false)
    (ki5_10 : PySem.W.kitOne K (.ref X5) (.ref X10) = some false)
    (ki5_11 : PySem.W.kitOne K (.ref X5) (.ref X11) = some false)
    (ki5_b : PySem.W.kitOne K (.ref X5) (.ref CB) = some true)
    (kiv5 : PySem.W.kitOne K (.ref X5) (.type "ValueError") = some true)
    (ki6_0 : PySem.W.kitOne K (.ref X6) (.ref X0) = some false)
    (ki6_1 : PySem.W.kitOne K (.ref X6) (.ref X1) = some false)
    (ki6_2 : PySem.W.kitOne K (.ref X6) (.ref X2) = some false)
    (ki6_3 : PySem.W.kitOne K (.ref X6) (.ref X3) = some false)
    (ki6_4 : PySem.W.kitOne K (.ref X6) (.ref X4) = some false)
    (ki6_5 : PySem.W.kitOne K (.ref X6) (.ref X5) = some false)
    (ki6_6 : PySem.W.kitOne K (.ref X6) (.ref X6) = some true)
    (ki6_7 : PySem.W.kitOne K (.ref X6) (.ref X7) = some false)
    (ki6_8 : PySem.W.kitOne K (.ref X6) (.ref X8) = some false)
    (ki6_9 : PySem.W.kitOne K (.ref X6) (.ref X9) = some false)
    (ki6_10 : PySem.W.kitOne K (.ref X6) (.ref X10) = some false)
    (ki6_11 : PySem.W.kitOne K (.ref X6) (.ref X11) = some false)
    (ki6_b : PySem.W.kitOne K (.ref X6) (.ref CB) = some true)
    (kiv6 : PySem.W.kitOne K (.ref X6) (.type "ValueError") = some true)
    (ki7_0 : PySem.W.kitOne K (.ref X7) (.ref X0) = some false)
    (ki7_1 : PySem.W.kitOne K (.ref X7) (.ref X1) = some false)
    (ki7_2 : PySem.W.kitOne K (.ref X7) (.ref X2) = some false)
    (ki7_3 : PySem.W.kitOne K (.ref X7) (.ref X3) = some false)
    (ki7_4 : PySem.W.kitOne K (.ref X7) (.ref X4) = some false)
    (ki7_5 : PySem.W.kitOne K (.ref X7) (.ref X5) = some false)
    (ki7_6 : PySem.W.kitOne K (.ref X7) (.ref X6) = some false)
    (ki7_7 : PySem.W.kitOne K (.ref X7) (.ref X7) = some true)
    (ki7_8 : PySem.W.kitOne K (.ref X7) (.ref X8) = some false)
    (ki7_9 : PySem.W.kitOne K (.ref X7) (.ref X9) = some false)
    (ki7_10 : PySem.W.kitOne K (.ref X7) (.ref X10) = some false)
    (ki7_11 : PySem.W.kitOne K (.ref X7) (.ref X11) = some false)
    (ki7_b : PySem.W.kitOne K (.ref X7) (.ref CB) = some true)
    (kiv7 : PySem.W.kitOne K (.ref X7) (.type "ValueError") = some true)
    (ki8_0 : PySem.W.kitOne K (.ref X8) (.ref X0) = some false)
    (ki8_1 : PySem.W.kitOne K (.ref X8) (.ref X1) = some false)
    (ki8_2 : PySem.W.kitOne K (.ref X8) (.ref X2) = some false)
    (ki8_3 : PySem.W.kitOne K (.ref X8) (.ref X3) = some false)
    (ki8_4 : PySem.W.kitOne K (.ref X8) (.ref X4) = some false)
    (ki8_5 : PySem.W.kitOne K (.ref X8) (.ref X5) = some false)
    (ki8_6 : PySem.W.kitOne K (.ref X8) (.ref X6) = some false)
    (ki8_7 : PySem.W.kitOne K (.ref X8) (.ref X7) = some false)
    (ki8_8 : PySem.W.kitOne K (.ref X8) (.ref X8) = some true)
    (ki8_9 : PySem.W.kitOne K (.ref X8) (.ref X9) = some false)
    (ki8_10 : PySem.W.kitOne K (.ref X8) (.ref X10) = some false)
    (ki8_11 : PySem.W.kitOne K (.ref X8) (.ref X11) = some false)
    (ki8_b : PySem.W.kitOne K (.ref X8) (.ref CB) = some true)
    (kiv8 : PySem.W.kitOne K (.ref X8) (.type "ValueError") = some true)
    (ki9_0 : PySem.W.kitOne K (.ref X9) (.ref X0) = some false)
    (ki9_1 : PySem.W.kitOne K (.ref X9) (.ref X1) = some false)
    (ki9_2 : PySem.W.kitOne K (.ref X9) (.ref X2) = some false)
    (ki9_3 : PySem.W.kitOne K (.ref X9) (.ref X3) = some false)
    (ki9_4 : PySem.W.kitOne K (.ref X9) (.ref X4) = some false)
    (ki9_5 : PySem.W.kitOne K (.ref X9) (.ref X5) = some false)
    (ki9_6 : PySem.W.kitOne K (.ref X9) (.ref X6) = some false)
    (ki9_7 : PySem.W.kitOne K (.ref X9) (.ref X7) = some false)
    (ki9_8 : PySem.W.kitOne K (.ref X9) (.ref X8) = some false)
    (ki9_9 : PySem.W.kitOne K (.ref X9) (.ref X9) = some true)
    (ki9_10 : PySem.W.kitOne K (.ref X9) (.ref X10) = some false)
    (ki9_11 : PySem.W.kitOne K (.ref X9) (.ref X11) = some false)
    (ki9_b : PySem.W.kitOne K (.ref X9) (.ref CB) = some true)
    (kiv9 : PySem.W.kitOne K (.ref X9) (.type "ValueError") = some true)
    (ki10_0 : PySem.W.kitOne K (.ref X10) (.ref X0) = some false)
    (ki10_1 : PySem.W.kitOne K (.ref X10) (.ref X1) = some false)
    (ki10_2 : PySem.W.kitOne K (.ref X10) (.ref X2) = some false)
    (ki10_3 : PySem.W.kitOne K (.ref X10) (.ref X3) = some false)
    (ki10_4 : PySem.W.kitOne K (.ref X10) (.ref X4) = some false)
    (ki10_5 : PySem.W.kitOne K (.ref X10) (.ref X5) = some false)
    (ki10_6 : PySem.W.kitOne K (.ref X10) (.ref X6) = some false)
    (ki10_7 : PySem.W.kitOne K (.ref X10) (.ref X7) = some false)
    (ki10_8 : PySem.W.kitOne K (.ref X10) (.ref X8) = some false)
    (ki10_9 : PySem.W.kitOne K (.ref X10) (.ref X9) = some false)
    (ki10_10 : PySem.W.kitOne K (.ref X10) (.ref X10) = some true)
    (ki10_11 : PySem.W.kitOne K (.ref X10) (.ref X11) = some false)
    (ki10_b : PySem.W.kitOne K (.ref X10) (.ref CB) = some true)
    (kiv10 : PySem.W.kitOne K (.ref X10) (.type "ValueError") = some true)
    (ki11_0 : PySem.W.kitOne K (.ref X11) (.ref X0) = some false)
    (ki11_1 : PySem.W.kitOne K (.ref X11) (.ref X1) = some false)
    (ki11_2 : PySem.W.kitOne K (.ref X11) (.ref X2) = some false)
    (ki11_3 : PySem.W.kitOne K (.ref X11) (.ref X3) = some false)
    (ki11_4 : PySem.W.kitOne K (.ref X11) (.ref X4) = some false)
    (ki11_5 : PySem.W.kitOne K (.ref X11) (.ref X5) = some false)
    (ki11_6 : PySem.W.kitOne K (.ref X11) (.ref X6) = some false)
    (ki11_7 : PySem.W.kitOne K (.ref X11) (.ref X7) = some false)
    (ki11_8 : PySem.W.kitOne K (.ref X11) (.ref X8) = some false)
    (ki11_9 : PySem.W.kitOne K (.ref X11) (.ref X9) = some false)
    (ki11_10 : PySem.W.kitOne K (.ref X11) (.ref X10) = some false)
    (ki11_11 : PySem.W.kitOne K (.ref X11) (.ref X11) = some true)
    (ki11_b : PySem.W.kitOne K (.ref X11) (.ref CB) = some true)
    (kiv11 : PySem.W.kitOne K (.ref X11) (.type "ValueError") = some true)
    (kivb : PySem.W.kitOne K (.type "ValueError") (.ref CB) = some false)
    (zValueError : PySem.W.nsIn K mainGlobals "ValueError" = some none)
    (fB : PySem.W.specialIn K (.ref CB) "__getattribute__" = some (some (.builtin "type.__getattribute__")))
    (fR : PySem.W.readsIn K CB (.type "type") = true)
    (fV : PySem.W.findCls K (.ref CB) (.type "type") "__init__" = some (.val (.builtin "ValueError.__init__")))
    (zlen : PySem.W.nsIn K mainGlobals "len" = some none)
    (ztuple : PySem.W.nsIn K mainGlobals "tuple" = some none)
    (zlist : PySem.W.nsIn K mainGlobals "list" = some none)
    (zint : PySem.W.nsIn K mainGlobals "int" = some none)
    (zsum : PySem.W.nsIn K mainGlobals "sum" = some none)
    (zall : PySem.W.nsIn K mainGlobals "all" = some none)
    (zmax : PySem.W.nsIn K mainGlobals "max" = some none)
    (zmin : PySem.W.nsIn K mainGlobals "min" = some none)
    (zsorted : PySem.W.nsIn K mainGlobals "sorted" = some none)
    (zisinstance : PySem.W.nsIn K mainGlobals "isinstance" = some none)
    (zenumerate : PySem.W.nsIn K mainGlobals "enumerate" = some none)
    (zrange : PySem.W.nsIn K mainGlobals "range" = some none)
    (zset : PySem.W.nsIn K mainGlobals "set" = some none)
    (zbool : PySem.W.nsIn K mainGlobals "bool" = some none)
    (zstr : PySem.W.nsIn K mainGlobals "str" = some none)
    (a_NoFarmdd_initdd : PySem.W.findIn K (.ref X0) "__init__" = some (some (.ref f_NoFarmdd_initdd)))
    (l_NoFarmdd_initdd : K.lookup f_NoFarmdd_initdd = some ⟨oc_NoFarmdd_initdd, od_NoFarmdd_initdd, .func (PySem.W.fnOf "__init__" "NoFarm.__init__" (defArgs s_x0) (defBody s_x0) (defScope s_x0) .none kV_NoFarmdd_initdd dc_NoFarmdd_initdd pm_NoFarmdd_initdd an_NoFarmdd_initdd cd_NoFarmdd_initdd ct_NoFarmdd_initdd), sl_NoFarmdd_initdd⟩)
    (c_NoFarmdd_initdd : PySem.W.codeIn K cd_NoFarmdd_initdd "NoFarm.__init__" = true)
    (k_NoFarmdd_initdd : PySem.W.keepIn K (.ref f_NoFarmdd_initdd) = true)
    (i_NoFarmdd_initdd : PySem.W.typeIn K (.ref f_NoFarmdd_initdd) = some (.type "function"))
    (a_NoStatedd_initdd : PySem.W.findIn K (.ref X2) "__init__" = some (some (.ref f_NoStatedd_initdd)))
    (l_NoStatedd_initdd : K.lookup f_NoStatedd_initdd = some ⟨oc_NoStatedd_initdd, od_NoStatedd_initdd, .func (PySem.W.fnOf "__init__" "NoState.__init__" (defArgs s_x2) (defBody s_x2) (defScope s_x2) .none kV_NoStatedd_initdd dc_NoStatedd_initdd pm_NoStatedd_initdd an_NoStatedd_initdd cd_NoStatedd_initdd ct_NoStatedd_initdd), sl_NoStatedd_initdd⟩)
    (c_NoStatedd_initdd : PySem.W.codeIn K cd_NoStatedd_initdd "NoState.__init__" = true)
    (k_NoStatedd_initdd : PySem.W.keepIn K (.ref f_NoStatedd_initdd) = true)
    (i_NoStatedd_initdd : PySem.W.typeIn K (.ref f_NoStatedd_initdd) = some (.type "function"))
    (a_NoSessiondd_initdd : PySem.W.findIn K (.ref X1) "__init__" = some (some (.ref f_NoSessiondd_initdd)))
    (l_NoSessiondd_initdd : K.lookup f_NoSessiondd_initdd = some ⟨oc_NoSessiondd_initdd, od_NoSessiondd_initdd, .func (PySem.W.fnOf "__init__" "NoSession.__init__" (defArgs s_x1) (defBody s_x1) (defScope s_x1) .none kV_NoSessiondd_initdd dc_NoSessiondd_initdd pm_NoSessiondd_initdd an_NoSessiondd_initdd cd_NoSessiondd_initdd ct_NoSessiondd_initdd), sl_NoSessiondd_initdd⟩)
    (c_NoSessiondd_initdd : PySem.W.codeIn K cd_NoSessiondd_initdd "NoSession.__init__" = true)
    (k_NoSessiondd_initdd : PySem.W.keepIn K (.ref f_NoSessiondd_initdd) = true)
    (i_NoSessiondd_initdd : PySem.W.typeIn K (.ref f_NoSessiondd_initdd) = some (.type "function"))
    (a_NoPlacementdd_initdd : PySem.W.findIn K (.ref X3) "__init__" = some (some (.ref f_NoPlacementdd_initdd)))
    (l_NoPlacementdd_initdd : K.lookup f_NoPlacementdd_initdd = some ⟨oc_NoPlacementdd_initdd, od_NoPlacementdd_initdd, .func (PySem.W.fnOf "__init__" "NoPlacement.__init__" (defArgs s_x3) (defBody s_x3) (defScope s_x3) .none kV_NoPlacementdd_initdd dc_NoPlacementdd_initdd pm_NoPlacementdd_initdd an_NoPlacementdd_initdd cd_NoPlacementdd_initdd ct_NoPlacementdd_initdd), sl_NoPlacementdd_initdd⟩)
    (c_NoPlacementdd_initdd : PySem.W.codeIn K cd_NoPlacementdd_initdd "NoPlacement.__init__" = true)
    (k_NoPlacementdd_initdd : PySem.W.keepIn K (.ref f_NoPlacementdd_initdd) = true)
    (i_NoPlacementdd_initdd : PySem.W.typeIn K (.ref f_NoPlacementdd_initdd) = some (.type "function"))
    (a_NoSessionsdd_initdd : PySem.W.findIn K (.ref X4) "__init__" = some (some (.ref f_NoSessionsdd_initdd)))
    (l_NoSessionsdd_initdd : K.lookup f_NoSessionsdd_initdd = some ⟨oc_NoSessionsdd_initdd, od_NoSessionsdd_initdd, .func (PySem.W.fnOf "__init__" "NoSessions.__init__" (defArgs s_x4) (defBody s_x4) (defScope s_x4) .none kV_NoSessionsdd_initdd dc_NoSessionsdd_initdd pm_NoSessionsdd_initdd an_NoSessionsdd_initdd cd_NoSessionsdd_initdd ct_NoSessionsdd_initdd), sl_NoSessionsdd_initdd⟩)
    (c_NoSessionsdd_initdd : PySem.W.codeIn K cd_NoSessionsdd_initdd "NoSessions.__init__" = true)
    (k_NoSessionsdd_initdd : PySem.W.keepIn K (.ref f_NoSessionsdd_initdd) = true)
    (i_NoSessionsdd_initdd : PySem.W.typeIn K (.ref f_NoSessionsdd_initdd) = some (.type "function"))
    (a_NoEventsdd_initdd : PySem.W.findIn K (.ref X5) "__init__" = some (some (.ref f_NoEventsdd_initdd)))
    (l_NoEventsdd_initdd : K.lookup f_NoEventsdd_initdd = some ⟨oc_NoEventsdd_initdd, od_NoEventsdd_initdd, .func (PySem.W.fnOf "__init__" "NoEvents.__init__" (defArgs s_x5) (defBody s_x5) (defScope s_x5) .none kV_NoEventsdd_initdd dc_NoEventsdd_initdd pm_NoEventsdd_initdd an_NoEventsdd_initdd cd_NoEventsdd_initdd ct_NoEventsdd_initdd), sl_NoEventsdd_initdd⟩)
    (c_NoEventsdd_initdd : PySem.W.codeIn K cd_NoEventsdd_initdd "NoEvents.__init__" = true)
    (k_NoEventsdd_initdd : PySem.W.keepIn K (.ref f_NoEventsdd_initdd) = true)
    (i_NoEventsdd_initdd : PySem.W.typeIn K (.ref f_NoEventsdd_initdd) = some (.type "function"))
    (a_NoCertificatedd_initdd : PySem.W.findIn K (.ref X6) "__init__" = some (some (.ref f_NoCertificatedd_initdd)))
    (l_NoCertificatedd_initdd : K.lookup f_NoCertificatedd_initdd = some ⟨oc_NoCertificatedd_initdd, od_NoCertificatedd_initdd, .func (PySem.W.fnOf "__init__" "NoCertificate.__init__" (defArgs s_x6) (defBody s_x6) (defScope s_x6) .none kV_NoCertificatedd_initdd dc_NoCertificatedd_initdd pm_NoCertificatedd_initdd an_NoCertificatedd_initdd cd_NoCertificatedd_initdd ct_NoCertificatedd_initdd), sl_NoCertificatedd_initdd⟩)
    (c_NoCertificatedd_initdd : PySem.W.codeIn K cd_NoCertificatedd_initdd "NoCertificate.__init__" = true)
    (k_NoCertificatedd_initdd : PySem.W.keepIn K (.ref f_NoCertificatedd_initdd) = true)
    (i_NoCertificatedd_initdd : PySem.W.typeIn K (.ref f_NoCertificatedd_initdd) = some (.type "function"))
    (a_NeverArisesdd_initdd : PySem.W.findIn K (.ref X7) "__init__" = some (some (.ref f_NeverArisesdd_initdd)))
    (l_NeverArisesdd_initdd : K.lookup f_NeverArisesdd_initdd = some ⟨oc_NeverArisesdd_initdd, od_NeverArisesdd_initdd, .func (PySem.W.fnOf "__init__" "NeverArises.__init__" (defArgs s_x7) (defBody s_x7) (defScope s_x7) .none kV_NeverArisesdd_initdd dc_NeverArisesdd_initdd pm_NeverArisesdd_initdd an_NeverArisesdd_initdd cd_NeverArisesdd_initdd ct_NeverArisesdd_initdd), sl_NeverArisesdd_initdd⟩)
    (c_NeverArisesdd_initdd : PySem.W.codeIn K cd_NeverArisesdd_initdd "NeverArises.__init__" = true)
    (k_NeverArisesdd_initdd : PySem.W.keepIn K (.ref f_NeverArisesdd_initdd) = true)
    (i_NeverArisesdd_initdd : PySem.W.typeIn K (.ref f_NeverArisesdd_initdd) = some (.type "function"))
    (a_NoServersdd_initdd : PySem.W.findIn K (.ref X8) "__init__" = some (some (.ref f_NoServersdd_initdd)))
    (l_NoServersdd_initdd : K.lookup f_NoServersdd_initdd = some ⟨oc_NoServersdd_initdd, od_NoServersdd_initdd, .func (PySem.W.fnOf "__init__" "NoServers.__init__" (defArgs s_x8) (defBody s_x8) (defScope s_x8) .none kV_NoServersdd_initdd dc_NoServersdd_initdd pm_NoServersdd_initdd an_NoServersdd_initdd cd_NoServersdd_initdd ct_NoServersdd_initdd), sl_NoServersdd_initdd⟩)
    (c_NoServersdd_initdd : PySem.W.codeIn K cd_NoServersdd_initdd "NoServers.__init__" = true)
    (k_NoServersdd_initdd : PySem.W.keepIn K (.ref f_NoServersdd_initdd) = true)
    (i_NoServersdd_initdd : PySem.W.typeIn K (.ref f_NoServersdd_initdd) = some (.type "function"))
    (a_NoNumbersdd_initdd : PySem.W.findIn K (.ref X9) "__init__" = some (some (.ref f_NoNumbersdd_initdd)))
    (l_NoNumbersdd_initdd : K.lookup f_NoNumbersdd_initdd = some ⟨oc_NoNumbersdd_initdd, od_NoNumbersdd_initdd, .func (PySem.W.fnOf "__init__" "NoNumbers.__init__" (defArgs s_x9) (defBody s_x9) (defScope s_x9) .none kV_NoNumbersdd_initdd dc_NoNumbersdd_initdd pm_NoNumbersdd_initdd an_NoNumbersdd_initdd cd_NoNumbersdd_initdd ct_NoNumbersdd_initdd), sl_NoNumbersdd_initdd⟩)
    (c_NoNumbersdd_initdd : PySem.W.codeIn K cd_NoNumbersdd_initdd "NoNumbers.__init__" = true)
    (k_NoNumbersdd_initdd : PySem.W.keepIn K (.ref f_NoNumbersdd_initdd) = true)
    (i_NoNumbersdd_initdd : PySem.W.typeIn K (.ref f_NoNumbersdd_initdd) = some (.type "function"))
    (a_Shortdd_initdd : PySem.W.findIn K (.ref X10) "__init__" = some (some (.ref f_Shortdd_initdd)))
    (l_Shortdd_initdd : K.lookup f_Shortdd_initdd = some ⟨oc_Shortdd_initdd, od_Shortdd_initdd, .func (PySem.W.fnOf "__init__" "Short.__init__" (defArgs s_x10) (defBody s_x10) (defScope s_x10) .none kV_Shortdd_initdd dc_Shortdd_initdd pm_Shortdd_initdd an_Shortdd_initdd cd_Shortdd_initdd ct_Shortdd_initdd), sl_Shortdd_initdd⟩)
    (c_Shortdd_initdd : PySem.W.codeIn K cd_Shortdd_initdd "Short.__init__" = true)
    (k_Shortdd_initdd : PySem.W.keepIn K (.ref f_Shortdd_initdd) = true)
    (i_Shortdd_initdd : PySem.W.typeIn K (.ref f_Shortdd_initdd) = some (.type "function"))
    (a_TooManydd_initdd : PySem.W.findIn K (.ref X11) "__init__" = some (some (.ref f_TooManydd_initdd)))
    (l_TooManydd_initdd : K.lookup f_TooManydd_initdd = some ⟨oc_TooManydd_initdd, od_TooManydd_initdd, .func (PySem.W.fnOf "__init__" "TooMany.__init__" (defArgs s_x11) (defBody s_x11) (defScope s_x11) .none kV_TooManydd_initdd dc_TooManydd_initdd pm_TooManydd_initdd an_TooManydd_initdd cd_TooManydd_initdd ct_TooManydd_initdd), sl_TooManydd_initdd⟩)
    (c_TooManydd_initdd : PySem.W.codeIn K cd_TooManydd_initdd "TooMany.__init__" = true)
    (k_TooManydd_initdd : PySem.W.keepIn K (.ref f_TooManydd_initdd) = true)
    (i_TooManydd_initdd : PySem.W.typeIn K (.ref f_TooManydd_initdd) = some (.type "function"))
    (a_law_draw : PySem.W.nsIn K mainGlobals "_law_draw" = some (some (.ref f_law_draw)))
    (l_law_draw : K.lookup f_law_draw = some ⟨oc_law_draw, od_law_draw, .func (PySem.W.fnOf "_law_draw" "_law_draw" (defArgs s_law_draw) (defBody s_law_draw) (defScope s_law_draw) .none kV_law_draw dc_law_draw pm_law_draw an_law_draw cd_law_draw ct_law_draw), sl_law_draw⟩)
    (c_law_draw : PySem.W.codeIn K cd_law_draw "_law_draw" = true)
    (k_law_draw : PySem.W.keepIn K (.ref f_law_draw) = true)
    (a_law_by_place : PySem.W.nsIn K mainGlobals "_law_by_place" = some (some (.ref f_law_by_place)))
    (l_law_by_place : K.lookup f_law_by_place = some ⟨oc_law_by_place, od_law_by_place, .func (PySem.W.fnOf "_law_by_place" "_law_by_place" (defArgs s_law_by_place) (defBody s_law_by_place) (defScope s_law_by_place) .none kV_law_by_place dc_law_by_place pm_law_by_place an_law_by_place cd_law_by_place ct_law_by_place), sl_law_by_place⟩)
    (c_law_by_place : PySem.W.codeIn K cd_law_by_place "_law_by_place" = true)
    (k_law_by_place : PySem.W.keepIn K (.ref f_law_by_place) = true)
    (a_law_by_name : PySem.W.nsIn K mainGlobals "_law_by_name" = some (some (.ref f_law_by_name)))
    (l_law_by_name : K.lookup f_law_by_name = some ⟨oc_law_by_name, od_law_by_name, .func (PySem.W.fnOf "_law_by_name" "_law_by_name" (defArgs s_law_by_name) (defBody s_law_by_name) (defScope s_law_by_name) .none kV_law_by_name dc_law_by_name pm_law_by_name an_law_by_name cd_law_by_name ct_law_by_name), sl_law_by_name⟩)
    (c_law_by_name : PySem.W.codeIn K cd_law_by_name "_law_by_name" = true)
    (k_law_by_name : PySem.W.keepIn K (.ref f_law_by_name) = true)
    (a_law_fields : PySem.W.nsIn K mainGlobals "_law_fields" = some (some (.ref f_law_fields)))
    (l_law_fields : K.lookup f_law_fields = some ⟨oc_law_fields, od_law_fields, .func (PySem.W.fnOf "_law_fields" "_law_fields" (defArgs s_law_fields) (defBody s_law_fields) (defScope s_law_fields) .none kV_law_fields dc_law_fields pm_law_fields an_law_fields cd_law_fields ct_law_fields), sl_law_fields⟩)
    (c_law_fields : PySem.W.codeIn K cd_law_fields "_law_fields" = true)
    (k_law_fields : PySem.W.keepIn K (.ref f_law_fields) = true)
    (a_law_taken : PySem.W.nsIn K mainGlobals "_law_taken" = some (some (.ref f_law_taken)))
    (l_law_taken : K.lookup f_law_taken = some ⟨oc_law_taken, od_law_taken, .func (PySem.W.fnOf "_law_taken" "_law_taken" (defArgs s_law_taken) (defBody s_law_taken) (defScope s_law_taken) .none kV_law_taken dc_law_taken pm_law_taken an_law_taken cd_law_taken ct_law_taken), sl_law_taken⟩)
    (c_law_taken : PySem.W.codeIn K cd_law_taken "_law_taken" = true)
    (k_law_taken : PySem.W.keepIn K (.ref f_law_taken) = true)
    (a_law_right : PySem.W.nsIn K mainGlobals "_law_right" = some (some (.ref f_law_right)))
    (l_law_right : K.lookup f_law_right = some ⟨oc_law_right, od_law_right, .func (PySem.W.fnOf "_law_right" "_law_right" (defArgs s_law_right) (defBody s_law_right) (defScope s_law_right) .none kV_law_right dc_law_right pm_law_right an_law_right cd_law_right ct_law_right), sl_law_right⟩)
    (c_law_right : PySem.W.codeIn K cd_law_right "_law_right" = true)
    (k_law_right : PySem.W.keepIn K (.ref f_law_right) = true)
    (a_law : PySem.W.nsIn K mainGlobals "law" = some (some (.ref f_law)))
    (l_law : K.lookup f_law = some ⟨oc_law, od_law, .func (PySem.W.fnOf "law" "law" (defArgs s_law) (defBody s_law) (defScope s_law) .none kV_law dc_law pm_law an_law cd_law ct_law), sl_law⟩)
    (c_law : PySem.W.codeIn K cd_law "law" = true)
    (k_law : PySem.W.keepIn K (.ref f_law) = true) :
    ∃ fd : FuncData, (∀ (s : Shared) (v : Value), BindsTo s fd ⟨[v], []⟩ [("_law_script", v)]) ∧ ∀ base : Heap, K.In base → base.Ns mainGlobals mg → FnOk l.prog w K mg base (L2.CX l.prog w) 5 fa fd ["_law_script"] (spLaw K) := by
  have e := hfa.symm.trans (PySem.W.mg_of X G a_law)
  cases e
  have blt : Blt mg := ⟨PySem.W.mg_none_of X G zlen, PySem.W.mg_none_of X G ztuple, PySem.W.mg_none_of X G zlist, PySem.W.mg_none_of X G zint, PySem.W.mg_none_of X G zsum, PySem.W.mg_none_of X G zall, PySem.W.mg_none_of X G zmax, PySem.W.mg_none_of X G zmin, PySem.W.mg_none_of X G zsorted, PySem.W.mg_none_of X G zisinstance, PySem.W.mg_none_of X G zenumerate, PySem.W.mg_none_of X G zrange, PySem.W.mg_none_of X G zset, PySem.W.mg_none_of X G zbool, PySem.W.mg_none_of X G zstr⟩
  have T : Txt K mg CB := ⟨blt⟩
  have TB : BaseX K mg CB := ⟨PySem.W.mg_of X G aFE, fB, fR, fV⟩
  have O0 : OexC K X0 := ⟨⟨_, _, _, _, _, _, _, _, _, _, _, _, _, _, _, xL0, mro_ok⟩, xsa0, xex0, xty0, xkp0⟩
  have O2 : OexC K X2 := ⟨⟨_, _, _, _, _, _, _, _, _, _, _, _, _, _, _, xL2, mro_ok⟩, xsa2, xex2, xty2, xkp2⟩
  have O1 : OexC K X1 := ⟨⟨_, _, _, _, _, _, _, _, _, _, _, _, _, _, _, xL1, mro_ok⟩, xsa1, xex1, xty1, xkp1⟩
  have O3 : OexC K X3 := ⟨⟨_, _, _, _, _, _, _, _, _, _, _, _, _, _, _, xL3, mro_ok⟩, xsa3, xex3, xty3, xkp3⟩
  have O4 : OexC K X4 := ⟨⟨_, _, _, _, _, _, _, _, _, _, _, _, _, _, _, xL4, mro_ok⟩, xsa4, xex4, xty4, xkp4⟩
  have O5 : OexC K X5 := ⟨⟨_, _, _, _, _, _, _, _, _, _, _, _, _, _, _, xL5, mro_ok⟩, xsa5, xex5, xty5, xkp5⟩
  have O6 : OexC K X6 := ⟨⟨_, _, _, _, _, _, _, _, _, _, _, _, _, _, _, xL6, mro_ok⟩, xsa6, xex6, xty6, xkp6⟩
  have O7 : OexC K X7 := ⟨⟨_, _, _, _, _, _, _, _, _, _, _, _, _, _, _, xL7, mro_ok⟩, xsa7, xex7, xty7, xkp7⟩
  have O8 : OexC K X8 := ⟨⟨_, _, _, _, _, _, _, _, _, _, _, _, _, _, _, xL8, mro_ok⟩, xsa8, xex8, xty8, xkp8⟩
  have O9 : OexC K X9 := ⟨⟨_, _, _, _, _, _, _, _, _, _, _, _, _, _, _, xL9, mro_ok⟩, xsa9, xex9, xty9, xkp9⟩
  have O10 : OexC K X10 := ⟨⟨_, _, _, _, _, _, _, _, _, _, _, _, _, _, _, xL10, mro_ok⟩, xsa10, xex10, xty10, xkp10⟩
  have O11 : OexC K X11 := ⟨⟨_, _, _, _, _, _, _, _, _, _, _, _, _, _, _, xL11, mro_ok⟩, xsa11, xex11, xty11, xkp11⟩
  have F_NoFarmdd_initdd : FunD K "__init__" "NoFarm.__init__" (defArgs s_x0) (defBody s_x0) (defScope s_x0) [] [] _ _ := ⟨⟨_, _, _, _, _, _, _, _, _, _, rfl, l_NoFarmdd_initdd, c_NoFarmdd_initdd, .inl ⟨rfl, rfl⟩, .inl rfl⟩, k_NoFarmdd_initdd⟩
  have b_NoFarmdd_initdd : Binds K _ ["self", "part", "index"] [] := F_NoFarmdd_initdd.bindsN fun _ _ _ _ _ _ us hl => match us, hl with | [_, _, _], _ => rfl
  have F_NoStatedd_initdd : FunD K "__init__" "NoState.__init__" (defArgs s_x2) (defBody s_x2) (defScope s_x2) [] [] _ _ := ⟨⟨_, _, _, _, _, _, _, _, _, _, rfl, l_NoStatedd_initdd, c_NoStatedd_initdd, .inl ⟨rfl, rfl⟩, .inl rfl⟩, k_NoStatedd_initdd⟩
  have b_NoStatedd_initdd : Binds K _ ["self", "part", "index"] [] := F_NoStatedd_initdd.bindsN fun _ _ _ _ _ _ us hl => match us, hl with | [_, _, _], _ => rfl
  have F_NoSessiondd_initdd : FunD K "__init__" "NoSession.__init__" (defArgs s_x1) (defBody s_x1) (defScope s_x1) [] [] _ _ := ⟨⟨_, _, _, _, _, _, _, _, _, _, rfl, l_NoSessiondd_initdd, c_NoSessiondd_initdd, .inl ⟨rfl, rfl⟩, .inl rfl⟩, k_NoSessiondd_initdd⟩
  have b_NoSessiondd_initdd : Binds K _ ["self", "session"] [] := F_NoSessiondd_initdd.bindsN fun _ _ _ _ _ _ us hl => match us, hl with | [_, _], _ => rfl
  have F_NoPlacementdd_initdd : FunD K "__init__" "NoPlacement.__init__" (defArgs s_x3) (defBody s_x3) (defScope s_x3) [] [] _ _ := ⟨⟨_, _, _, _, _, _, _, _, _, _, rfl, l_NoPlacementdd_initdd, c_NoPlacementdd_initdd, .inl ⟨rfl, rfl⟩, .inl rfl⟩, k_NoPlacementdd_initdd⟩
  have b_NoPlacementdd_initdd : Binds K _ ["self", "index"] [] := F_NoPlacementdd_initdd.bindsN fun _ _ _ _ _ _ us hl => match us, hl with | [_, _], _ => rfl
  have F_NoSessionsdd_initdd : FunD K "__init__" "NoSessions.__init__" (defArgs s_x4) (defBody s_x4) (defScope s_x4) [] [] _ _ := ⟨⟨_, _, _, _, _, _, _, _, _, _, rfl, l_NoSessionsdd_initdd, c_NoSessionsdd_initdd, .inl ⟨rfl, rfl⟩, .inl rfl⟩, k_NoSessionsdd_initdd⟩
  have b_NoSessionsdd_initdd : Binds K _ ["self", "index"] [] := F_NoSessionsdd_initdd.bindsN fun _ _ _ _ _ _ us hl => match us, hl with | [_, _], _ => rfl
  have F_NoEventsdd_initdd : FunD K "__init__" "NoEvents.__init__" (defArgs s_x5) (defBody s_x5) (defScope s_x5) [] [] _ _ := ⟨⟨_, _, _, _, _, _, _, _, _, _, rfl, l_NoEventsdd_initdd, c_NoEventsdd_initdd, .inl ⟨rfl, rfl⟩, .inl rfl⟩, k_NoEventsdd_initdd⟩
  have b_NoEventsdd_initdd : Binds K _ ["self", "index"] [] := F_NoEventsdd_initdd.bindsN fun _ _ _ _ _ _ us hl => match us, hl with | [_, _], _ => rfl
  have F_NoCertificatedd_initdd : FunD K "__init__" "NoCertificate.__init__" (defArgs s_x6) (defBody s_x6) (defScope s_x6) [] [] _ _ := ⟨⟨_, _, _, _, _, _, _, _, _, _, rfl, l_NoCertificatedd_initdd, c_NoCertificatedd_initdd, .inl ⟨rfl, rfl⟩, .inl rfl⟩, k_NoCertificatedd_initdd⟩
  have b_NoCertificatedd_initdd : Binds K _ ["self", "index"] [] := F_NoCertificatedd_initdd.bindsN fun _ _ _ _ _ _ us hl => match us, hl with | [_, _], _ => rfl
  have F_NeverArisesdd_initdd : FunD K "__init__" "NeverArises.__init__" (defArgs s_x7) (defBody s_x7) (defScope s_x7) [] [] _ _ := ⟨⟨_, _, _, _, _, _, _, _, _, _, rfl, l_NeverArisesdd_initdd, c_NeverArisesdd_initdd, .inl ⟨rfl, rfl⟩, .inl rfl⟩, k_NeverArisesdd_initdd⟩
  have b_NeverArisesdd_initdd : Binds K _ ["self", "answer"] [] := F_NeverArisesdd_initdd.bindsN fun _ _ _ _ _ _ us hl => match us, hl with | [_, _], _ => rfl
  have F_NoServersdd_initdd : FunD K "__init__" "NoServers.__init__" (defArgs s_x8) (defBody s_x8) (defScope s_x8) [] [] _ _ := ⟨⟨_, _, _, _, _, _, _, _, _, _, rfl, l_NoServersdd_initdd, c_NoServersdd_initdd, .inl ⟨rfl, rfl⟩, .inl rfl⟩, k_NoServersdd_initdd⟩
  have b_NoServersdd_initdd : Binds K _ ["self", "index"] [] := F_NoServersdd_initdd.bindsN fun _ _ _ _ _ _ us hl => match us, hl with | [_, _], _ => rfl
  have F_NoNumbersdd_initdd : FunD K "__init__" "NoNumbers.__init__" (defArgs s_x9) (defBody s_x9) (defScope s_x9) [] [] _ _ := ⟨⟨_, _, _, _, _, _, _, _, _, _, rfl, l_NoNumbersdd_initdd, c_NoNumbersdd_initdd, .inl ⟨rfl, rfl⟩, .inl rfl⟩, k_NoNumbersdd_initdd⟩
  have b_NoNumbersdd_initdd : Binds K _ ["self", "index"] [] := F_NoNumbersdd_initdd.bindsN fun _ _ _ _ _ _ us hl => match us, hl with | [_, _], _ => rfl
  have F_Shortdd_initdd : FunD K "__init__" "Short.__init__" (defArgs s_x10) (defBody s_x10) (defScope s_x10) [] [] _ _ := ⟨⟨_, _, _, _, _, _, _, _, _, _, rfl, l_Shortdd_initdd, c_Shortdd_initdd, .inl ⟨rfl, rfl⟩, .inl rfl⟩, k_Shortdd_initdd⟩
  have b_Shortdd_initdd : Binds K _ ["self", "group"] [] := F_Shortdd_initdd.bindsN fun _ _ _ _ _ _ us hl => match us, hl with | [_, _], _ => rfl
  have F_TooManydd_initdd : FunD K "__init__" "TooMany.__init__" (defArgs s_x11) (defBody s_x11) (defScope s_x11) [] [] _ _ := ⟨⟨_, _, _, _, _, _, _, _, _, _, rfl, l_TooManydd_initdd, c_TooManydd_initdd, .inl ⟨rfl, rfl⟩, .inl rfl⟩, k_TooManydd_initdd⟩
  have b_TooManydd_initdd : Binds K _ ["self", "most"] [] := F_TooManydd_initdd.bindsN fun _ _ _ _ _ _ us hl => match us, hl with | [_, _], _ => rfl
  have F_law_draw : FunD K "_law_draw" "_law_draw" (defArgs s_law_draw) (defBody s_law_draw) (defScope s_law_draw) [] [] _ _ := ⟨⟨_, _, _, _, _, _, _, _, _, _, rfl, l_law_draw, c_law_draw, .inl ⟨rfl, rfl⟩, .inl rfl⟩, k_law_draw⟩
  have b_law_draw : Binds K _ ["_law_well", "_law_many"] [] := F_law_draw.bindsN fun _ _ _ _ _ _ us hl => match us, hl with | [_, _], _ => rfl
  have F_law_by_place : FunD K "_law_by_place" "_law_by_place" (defArgs s_law_by_place) (defBody s_law_by_place) (defScope s_law_by_place) [] [] _ _ := ⟨⟨_, _, _, _, _, _, _, _, _, _, rfl, l_law_by_place, c_law_by_place, .inl ⟨rfl, rfl⟩, .inl rfl⟩, k_law_by_place⟩
  have b_law_by_place : Binds K _ ["_law_x"] [] := F_law_by_place.bindsN fun _ _ _ _ _ _ us hl => match us, hl with | [_], _ => rfl
  have F_law_by_name : FunD K "_law_by_name" "_law_by_name" (defArgs s_law_by_name) (defBody s_law_by_name) (defScope s_law_by_name) [] [] _ _ := ⟨⟨_, _, _, _, _, _, _, _, _, _, rfl, l_law_by_name, c_law_by_name, .inl ⟨rfl, rfl⟩, .inl rfl⟩, k_law_by_name⟩
  have b_law_by_name : Binds K _ ["_law_x"] [] := F_law_by_name.bindsN fun _ _ _ _ _ _ us hl => match us, hl with | [_], _ => rfl
  have F_law_fields : FunD K "_law_fields" "_law_fields" (defArgs s_law_fields) (defBody s_law_fields) (defScope s_law_fields) [] [] _ _ := ⟨⟨_, _, _, _, _, _, _, _, _, _, rfl, l_law_fields, c_law_fields, .inl ⟨rfl, rfl⟩, .inl rfl⟩, k_law_fields⟩
  have b_law_fields : Binds K _ ["_law_some"] [] := F_law_fields.bindsN fun _ _ _ _ _ _ us hl => match us, hl with | [_], _ => rfl
  have F_law_taken : FunD K "_law_taken" "_law_taken" (defArgs s_law_taken) (defBody s_law_taken) (defScope s_law_taken) [] [] _ _ := ⟨⟨_, _, _, _, _, _, _, _, _, _, rfl, l_law_taken, c_law_taken, .inl ⟨rfl, rfl⟩, .inl rfl⟩, k_law_taken⟩
  have b_law_taken : Binds K _ ["_law_e"] [] := F_law_taken.bindsN fun _ _ _ _ _ _ us hl => match us, hl with | [_], _ => rfl
  have F_law_right : FunD K "_law_right" "_law_right" (defArgs s_law_right) (defBody s_law_right) (defScope s_law_right) [] [] _ _ := ⟨⟨_, _, _, _, _, _, _, _, _, _, rfl, l_law_right, c_law_right, .inl ⟨rfl, rfl⟩, .inl rfl⟩, k_law_right⟩
  have b_law_right : Binds K _ ["_law_well"] [] := F_law_right.bindsN fun _ _ _ _ _ _ us hl => match us, hl with | [_], _ => rfl
  have F_law : FunD K "law" "law" (defArgs s_law) (defBody s_law) (defScope s_law) [] [] _ _ := ⟨⟨_, _, _, _, _, _, _, _, _, _, rfl, l_law, c_law, .inl ⟨rfl, rfl⟩, .inl rfl⟩, k_law⟩
  have b_law : Binds K _ ["_law_script"] [] := F_law.bindsN fun _ _ _ _ _ _ us hl => match us, hl with | [_], _ => rfl
  refine ⟨_, fun s v => F_law.bindsA (ps := ["_law_script"]) (fun _ _ _ _ _ _ us hl => match us, hl with | [_], _ => rfl) s [v] rfl, fun base _ _ => ?_⟩
  have exc0 : ExcC K X0 := ⟨xga0, xgg0, xex0, xhd0, xcl0, cget, ctak, xmo0⟩
  have exc1 : ExcC K X1 := ⟨xga1, xgg1, xex1, xhd1, xcl1, cget, ctak, xmo1⟩
  have exc2 : ExcC K X2 := ⟨xga2, xgg2, xex2, xhd2, xcl2, cget, ctak, xmo2⟩
  have exc3 : ExcC K X3 := ⟨xga3, xgg3, xex3, xhd3, xcl3, cget, ctak, xmo3⟩
  have exc4 : ExcC K X4 := ⟨xga4, xgg4, xex4, xhd4, xcl4, cget, ctak, xmo4⟩
  have exc5 : ExcC K X5 := ⟨xga5, xgg5, xex5, xhd5, xcl5, cget, ctak, xmo5⟩
  have exc6 : ExcC K X6 := ⟨xga6, xgg6, xex6, xhd6, xcl6, cget, ctak, xmo6⟩
  have exc7 : ExcC K X7 := ⟨xga7, xgg7, xex7, xhd7, xcl7, cget, ctak, xmo7⟩
  have exc8 : ExcC K X8 := ⟨xga8, xgg8, xex8, xhd8, xcl8, cget, ctak, xmo8⟩
  have exc9 : ExcC K X9 := ⟨xga9, xgg9, xex9, xhd9, xcl9, cget, ctak, xmo9⟩
  have exc10 : ExcC K X10 := ⟨xga10, xgg10, xex10, xhd10, xcl10, cget, ctak, xmo10⟩
  have exc11 : ExcC K X11 := ⟨xga11, xgg11, xex11, xhd11, xcl11, cget, ctak, xmo11⟩
  have ie_NoFarm : IsErrN K mg (cfK l.prog w K CB ([X0, X1, X2, X3, X4, X5, X6, X7, X8, X9, X10, X11].getD · 0)) "NoFarm" [true, false, false, false, false, false, false, false, false, false, false, false] := ⟨_, PySem.W.mg_of X G aX0, isErr_n ⟨exc0, ki0_0⟩ ⟨exc1, ki1_0⟩ ⟨exc2, ki2_0⟩ ⟨exc3, ki3_0⟩ ⟨exc4, ki4_0⟩ ⟨exc5, ki5_0⟩ ⟨exc6, ki6_0⟩ ⟨exc7, ki7_0⟩ ⟨exc8, ki8_0⟩ ⟨exc9, ki9_0⟩ ⟨exc10, ki10_0⟩ ⟨exc11, ki11_0⟩⟩
  have ie_NoSession : IsErrN K mg (cfK l.prog w K CB ([X0, X1, X2, X3, X4, X5, X6, X7, X8, X9, X10, X11].getD · 0)) "NoSession" [false, true, false, false, false, false, false, false, false, false, false, false] := ⟨_, PySem.W.mg_of X G aX1, isErr_n ⟨exc0, ki0_1⟩ ⟨exc1, ki1_1⟩ ⟨exc2, ki2_1⟩ ⟨exc3, ki3_1⟩ ⟨exc4, ki4_1⟩ ⟨exc5, ki5_1⟩ ⟨exc6, ki6_1⟩ ⟨exc7, ki7_1⟩ ⟨exc8, ki8_1⟩ ⟨exc9, ki9_1⟩ ⟨exc10, ki10_1⟩ ⟨exc11, ki11_1⟩⟩
  have ie_NoState : IsErrN K mg (cfK l.prog w K CB ([X0, X1, X2, X3, X4, X5, X6, X7, X8, X9, X10, X11].getD · 0)) "NoState" [false, false, true, false, false, false, false, false, false, false, false, false] := ⟨_, PySem.W.mg_of X G aX2, isErr_n ⟨exc0, ki0_2⟩ ⟨exc1, ki1_2⟩ ⟨exc2, ki2_2⟩ ⟨exc3, ki3_2⟩ ⟨exc4, ki4_2⟩ ⟨exc5, ki5_2⟩ ⟨exc6, ki6_2⟩ ⟨exc7, ki7_2⟩ ⟨exc8, ki8_2⟩ ⟨exc9, ki9_2⟩ ⟨exc10, ki10_2⟩ ⟨exc11, ki11_2⟩⟩
  have ie_NoPlacement : IsErrN K mg (cfK l.prog w K CB ([X0, X1, X2, X3, X4, X5, X6, X7, X8, X9, X10, X11].getD · 0)) "NoPlacement" [false, false, false, true, false, false, false, false, false, false, false, false] := ⟨_, PySem.W.mg_of X G aX3, isErr_n ⟨exc0, ki0_3⟩ ⟨exc1, ki1_3⟩ ⟨exc2, ki2_3⟩ ⟨exc3, ki3_3⟩ ⟨exc4, ki4_3⟩ ⟨exc5, ki5_3⟩ ⟨exc6, ki6_3⟩ ⟨exc7, ki7_3⟩ ⟨exc8, ki8_3⟩ ⟨exc9, ki9_3⟩ ⟨exc10, ki10_3⟩ ⟨exc11, ki11_3⟩⟩
  have ie_NoSessions : IsErrN K mg (cfK l.prog w K CB ([X0, X1, X2, X3, X4, X5, X6, X7, X8, X9, X10, X11].getD · 0)) "NoSessions" [false, false, false, false, true, false, false, false, false, false, false, false] := ⟨_, PySem.W.mg_of X G aX4, isErr_n ⟨exc0, ki0_4⟩ ⟨exc1, ki1_4⟩ ⟨exc2, ki2_4⟩ ⟨exc3, ki3_4⟩ ⟨exc4, ki4_4⟩ ⟨exc5, ki5_4⟩ ⟨exc6, ki6_4⟩ ⟨exc7, ki7_4⟩ ⟨exc8, ki8_4⟩ ⟨exc9, ki9_4⟩ ⟨exc10, ki10_4⟩ ⟨exc11, ki11_4⟩⟩
  have ie_NoEvents : IsErrN K mg (cfK l.prog w K CB ([X0, X1, X2, X3, X4, X5, X6, X7, X8, X9, X10, X11].getD · 0)) "NoEvents" [false, false, false, false, false, true, false, false, false, false, false, false] := ⟨_, PySem.W.mg_of X G aX5, isErr_n ⟨exc0, ki0_5⟩ ⟨exc1, ki1_5⟩ ⟨exc2, ki2_5⟩ ⟨exc3, ki3_5⟩ ⟨exc4, ki4_5⟩ ⟨exc5, ki5_5⟩ ⟨exc6, ki6_5⟩ ⟨exc7, ki7_5⟩ ⟨exc8, ki8_5⟩ ⟨exc9, ki9_5⟩ ⟨exc10, ki10_5⟩ ⟨exc11, ki11_5⟩⟩
  have ie_NoCertificate : IsErrN K mg (cfK l.prog w K CB ([X0, X1, X2, X3, X4, X5, X6, X7, X8, X9, X10, X11].getD · 0)) "NoCertificate" [false, false, false, false, false, false, true, false, false, false, false, false] := ⟨_, PySem.W.mg_of X G aX6, isErr_n ⟨exc0, ki0_6⟩ ⟨exc1, ki1_6⟩ ⟨exc2, ki2_6⟩ ⟨exc3, ki3_6⟩ ⟨exc4, ki4_6⟩ ⟨exc5, ki5_6⟩ ⟨exc6, ki6_6⟩ ⟨exc7, ki7_6⟩ ⟨exc8, ki8_6⟩ ⟨exc9, ki9_6⟩ ⟨exc10, ki10_6⟩ ⟨exc11, ki11_6⟩⟩
  have ie_NeverArises : IsErrN K mg (cfK l.prog w K CB ([X0, X1, X2, X3, X4, X5, X6, X7, X8, X9, X10, X11].getD · 0)) "NeverArises" [false, false, false, false, false, false, false, true, false, false, false, false] := ⟨_, PySem.W.mg_of X G aX7, isErr_n ⟨exc0, ki0_7⟩ ⟨exc1, ki1_7⟩ ⟨exc2, ki2_7⟩ ⟨exc3, ki3_7⟩ ⟨exc4, ki4_7⟩ ⟨exc5, ki5_7⟩ ⟨exc6, ki6_7⟩ ⟨exc7, ki7_7⟩ ⟨exc8, ki8_7⟩ ⟨exc9, ki9_7⟩ ⟨exc10, ki10_7⟩ ⟨exc11, ki11_7⟩⟩
  have ie_NoServers : IsErrN K mg (cfK l.prog w K CB ([X0, X1, X2, X3, X4, X5, X6, X7, X8, X9, X10, X11].getD · 0)) "NoServers" [false, false, false, false, false, false, false, false, true, false, false, false] := ⟨_, PySem.W.mg_of X G aX8, isErr_n ⟨exc0, ki0_8⟩ ⟨exc1, ki1_8⟩ ⟨exc2, ki2_8⟩ ⟨exc3, ki3_8⟩ ⟨exc4, ki4_8⟩ ⟨exc5, ki5_8⟩ ⟨exc6, ki6_8⟩ ⟨exc7, ki7_8⟩ ⟨exc8, ki8_8⟩ ⟨exc9, ki9_8⟩ ⟨exc10, ki10_8⟩ ⟨exc11, ki11_8⟩⟩
  have ie_NoNumbers : IsErrN K mg (cfK l.prog w K CB ([X0, X1, X2, X3, X4, X5, X6, X7, X8, X9, X10, X11].getD · 0)) "NoNumbers" [false, false, false, false, false, false, false, false, false, true, false, false] := ⟨_, PySem.W.mg_of X G aX9, isErr_n ⟨exc0, ki0_9⟩ ⟨exc1, ki1_9⟩ ⟨exc2, ki2_9⟩ ⟨exc3, ki3_9⟩ ⟨exc4, ki4_9⟩ ⟨exc5, ki5_9⟩ ⟨exc6, ki6_9⟩ ⟨exc7, ki7_9⟩ ⟨exc8, ki8_9⟩ ⟨exc9, ki9_9⟩ ⟨exc10, ki10_9⟩ ⟨exc11, ki11_9⟩⟩
  have ie_Short : IsErrN K mg (cfK l.prog w K CB ([X0, X1, X2, X3, X4, X5, X6, X7, X8, X9, X10, X11].getD · 0)) "Short" [false, false, false, false, false, false, false, false, false, false, true, false] := ⟨_, PySem.W.mg_of X G aX10, isErr_n ⟨exc0, ki0_10⟩ ⟨exc1, ki1_10⟩ ⟨exc2, ki2_10⟩ ⟨exc3, ki3_10⟩ ⟨exc4, ki4_10⟩ ⟨exc5, ki5_10⟩ ⟨exc6, ki6_10⟩ ⟨exc7, ki7_10⟩ ⟨exc8, ki8_10⟩ ⟨exc9, ki9_10⟩ ⟨exc10, ki10_10⟩ ⟨exc11, ki11_10⟩⟩
  have ie_TooMany : IsErrN K mg (cfK l.prog w K CB ([X0, X1, X2, X3, X4, X5, X6, X7, X8, X9, X10, X11].getD · 0)) "TooMany" [false, false, false, false, false, false, false, false, false, false, false, true] := ⟨_, PySem.W.mg_of X G aX11, isErr_n ⟨exc0, ki0_11⟩ ⟨exc1, ki1_11⟩ ⟨exc2, ki2_11⟩ ⟨exc3, ki3_11⟩ ⟨exc4, ki4_11⟩ ⟨exc5, ki5_11⟩ ⟨exc6, ki6_11⟩ ⟨exc7, ki7_11⟩ ⟨exc8, ki8_11⟩ ⟨exc9, ki9_11⟩ ⟨exc10, ki10_11⟩ ⟨exc11, ki11_11⟩⟩
  have ie_FarmError : IsErrN K mg (cfK l.prog w K CB ([X0, X1, X2, X3, X4, X5, X6, X7, X8, X9, X10, X11].getD · 0)) "FarmError" [true, true, true, true, true, true, true, true, true, true, true, true] := ⟨_, PySem.W.mg_of X G aFE, isErr_n ⟨exc0, ki0_b⟩ ⟨exc1, ki1_b⟩ ⟨exc2, ki2_b⟩ ⟨exc3, ki3_b⟩ ⟨exc4, ki4_b⟩ ⟨exc5, ki5_b⟩ ⟨exc6, ki6_b⟩ ⟨exc7, ki7_b⟩ ⟨exc8, ki8_b⟩ ⟨exc9, ki9_b⟩ ⟨exc10, ki10_b⟩ ⟨exc11, ki11_b⟩⟩
  have iv_FarmError : IsVEN K mg "FarmError" false := ⟨PySem.W.mg_none_of X G zValueError, _, PySem.W.mg_of X G aFE, kivb⟩
  have ie_ValueError : IsErrV K mg (cfK l.prog w K CB ([X0, X1, X2, X3, X4, X5, X6, X7, X8, X9, X10, X11].getD · 0)) [true, true, true, true, true, true, true, true, true, true, true, true] := ⟨PySem.W.mg_none_of X G zValueError, isErr_n ⟨exc0, kiv0⟩ ⟨exc1, kiv1⟩ ⟨exc2, kiv2⟩ ⟨exc3, kiv3⟩ ⟨exc4, kiv4⟩ ⟨exc5, kiv5⟩ ⟨exc6, kiv6⟩ ⟨exc7, kiv7⟩ ⟨exc8, kiv8⟩ ⟨exc9, kiv9⟩ ⟨exc10, kiv10⟩ ⟨exc11, kiv11⟩⟩
  have c_law_draw : Cal l.prog w K mg base (cfK l.prog w K CB ([X0, X1, X2, X3, X4, X5, X6, X7, X8, X9, X10, X11].getD · 0)) 1 "_law_draw" [0] 2 m_law_draw := ⟨_, _, _, ok_law_draw T  F_law_draw, PySem.W.mg_of X G a_law_draw, k_law_draw, b_law_draw⟩
  have c_NoFarm : CalX2 l.prog w K mg base (cfK l.prog w K CB ([X0, X1, X2, X3, X4, X5, X6, X7, X8, X9, X10, X11].getD · 0)) 1 0 "NoFarm" "part" "index" := ⟨⟨_, _, _, ⟨PySem.W.mg_of X G aX0, O0, a_NoFarmdd_initdd, i_NoFarmdd_initdd⟩, ok_x0 TB O0 xp0_part xp0_index F_NoFarmdd_initdd, b_NoFarmdd_initdd⟩, rfl⟩
  have xk_NoFarm : CalX2K l.prog w K mg base (cfK l.prog w K CB ([X0, X1, X2, X3, X4, X5, X6, X7, X8, X9, X10, X11].getD · 0)) 1 0 "NoFarm" "part" "index" := ⟨⟨_, _, _, ⟨PySem.W.mg_of X G aX0, O0, a_NoFarmdd_initdd, i_NoFarmdd_initdd⟩, ok_x0 TB O0 xp0_part xp0_index F_NoFarmdd_initdd, ⟨fun s us ws _ h1 h2 => match us, ws, h1, h2 with | [_], [_, _], _, _ => .of_eq rfl, fun r1 r2 => r1.append (vals_rev r2)⟩⟩, rfl⟩
  have t_NoFarm : CatX K mg (cfK l.prog w K CB ([X0, X1, X2, X3, X4, X5, X6, X7, X8, X9, X10, X11].getD · 0)) 0 "NoFarm" ["index", "part"] := ⟨PySem.W.mg_of X G aX0, ⟨xga0, xgg0, xex0, xhd0⟩, PySem.W.exm_ref xex0 xhd0 xty0 xss0, rfl, fun f hf => by simp at hf; rcases hf with rfl | rfl; exact xp0_index; exact xp0_part⟩
  have c_NoState : CalX2 l.prog w K mg base (cfK l.prog w K CB ([X0, X1, X2, X3, X4, X5, X6, X7, X8, X9, X10, X11].getD · 0)) 1 2 "NoState" "part" "index" := ⟨⟨_, _, _, ⟨PySem.W.mg_of X G aX2, O2, a_NoStatedd_initdd, i_NoStatedd_initdd⟩, ok_x2 TB O2 xp2_part xp2_index F_NoStatedd_initdd, b_NoStatedd_initdd⟩, rfl⟩
  have xk_NoState : CalX2K l.prog w K mg base (cfK l.prog w K CB ([X0, X1, X2, X3, X4, X5, X6, X7, X8, X9, X10, X11].getD · 0)) 1 2 "NoState" "part" "index" := ⟨⟨_, _, _, ⟨PySem.W.mg_of X G aX2, O2, a_NoStatedd_initdd, i_NoStatedd_initdd⟩, ok_x2 TB O2 xp2_part xp2_index F_NoStatedd_initdd, ⟨fun s us ws _ h1 h2 => match us, ws, h1, h2 with | [_], [_, _], _, _ => .of_eq rfl, fun r1 r2 => r1.append (vals_rev r2)⟩⟩, rfl⟩
  have t_NoState : CatX K mg (cfK l.prog w K CB ([X0, X1, X2, X3, X4, X5, X6, X7, X8, X9, X10, X11].getD · 0)) 2 "NoState" ["index", "part"] := ⟨PySem.W.mg_of X G aX2, ⟨xga2, xgg2, xex2, xhd2⟩, PySem.W.exm_ref xex2 xhd2 xty2 xss2, rfl, fun f hf => by simp at hf; rcases hf with rfl | rfl; exact xp2_index; exact xp2_part⟩
  have c_NoSession : CalX1 l.prog w K mg base (cfK l.prog w K CB ([X0, X1, X2, X3, X4, X5, X6, X7, X8, X9, X10, X11].getD · 0)) 1 1 "NoSession" "session" := ⟨⟨_, _, _, ⟨PySem.W.mg_of X G aX1, O1, a_NoSessiondd_initdd, i_NoSessiondd_initdd⟩, ok_x1 TB O1 xp1_session F_NoSessiondd_initdd, b_NoSessiondd_initdd⟩, rfl⟩
  have xk_NoSession : CalX1K l.prog w K mg base (cfK l.prog w K CB ([X0, X1, X2, X3, X4, X5, X6, X7, X8, X9, X10, X11].getD · 0)) 1 1 "NoSession" "session" := ⟨⟨_, _, _, ⟨PySem.W.mg_of X G aX1, O1, a_NoSessiondd_initdd, i_NoSessiondd_initdd⟩, ok_x1 TB O1 xp1_session F_NoSessiondd_initdd, ⟨fun s us ws _ h1 h2 => match us, ws, h1, h2 with | [_], [_], _, _ => .of_eq rfl, fun r1 r2 => r1.append r2⟩⟩, rfl⟩
  have t_NoSession : CatX K mg (cfK l.prog w K CB ([X0, X1, X2, X3, X4, X5, X6, X7, X8, X9, X10, X11].getD · 0)) 1 "NoSession" ["session"] := ⟨PySem.W.mg_of X G aX1, ⟨xga1, xgg1, xex1, xhd1⟩, PySem.W.exm_ref xex1 xhd1 xty1 xss1, rfl, fun f hf => by simp at hf; subst hf; exact xp1_session⟩
  have c_NoPlacement : CalX1 l.prog w K mg base (cfK l.prog w K CB ([X0, X1, X2, X3, X4, X5, X6, X7, X8, X9, X10, X11].getD · 0)) 1 3 "NoPlacement" "index" := ⟨⟨_, _, _, ⟨PySem.W.mg_of X G aX3, O3, a_NoPlacementdd_initdd, i_NoPlacementdd_initdd⟩, ok_x3 TB O3 xp3_index F_NoPlacementdd_initdd, b_NoPlacementdd_initdd⟩, rfl⟩
  have xk_NoPlacement : CalX1K l.prog w K mg base (cfK l.prog w K CB ([X0, X1, X2, X3, X4, X5, X6, X7, X8, X9, X10, X11].getD · 0)) 1 3 "NoPlacement" "index" := ⟨⟨_, _, _, ⟨PySem.W.mg_of X G aX3, O3, a_NoPlacementdd_initdd, i_NoPlacementdd_initdd⟩, ok_x3 TB O3 xp3_index F_NoPlacementdd_initdd, ⟨fun s us ws _ h1 h2 => match us, ws, h1, h2 with | [_], [_], _, _ => .of_eq rfl, fun r1 r2 => r1.append r2⟩⟩, rfl⟩
  have t_NoPlacement : CatX K mg (cfK l.prog w K CB ([X0, X1, X2, X3, X4, X5, X6, X7, X8, X9, X10, X11].getD · 0)) 3 "NoPlacement" ["index"] := ⟨PySem.W.mg_of X G aX3, ⟨xga3, xgg3, xex3, xhd3⟩, PySem.W.exm_ref xex3 xhd3 xty3 xss3, rfl, fun f hf => by simp at hf; subst hf; exact xp3_index⟩
  have c_NoSessions : CalX1 l.prog w K mg base (cfK l.prog w K CB ([X0, X1, X2, X3, X4, X5, X6, X7, X8, X9, X10, X11].getD · 0)) 1 4 "NoSessions" "index" := ⟨⟨_, _, _, ⟨PySem.W.mg_of X G aX4, O4, a_NoSessionsdd_initdd, i_NoSessionsdd_initdd⟩, ok_x4 TB O4 xp4_index F_NoSessionsdd_initdd, b_NoSessionsdd_initdd⟩, rfl⟩
  have xk_NoSessions : CalX1K l.prog w K mg base (cfK l.prog w K CB ([X0, X1, X2, X3, X4, X5, X6, X7, X8, X9, X10, X11].getD · 0)) 1 4 "NoSessions" "index" := ⟨⟨_, _, _, ⟨PySem.W.mg_of X G aX4, O4, a_NoSessionsdd_initdd, i_NoSessionsdd_initdd⟩, ok_x4 TB O4 xp4_index F_NoSessionsdd_initdd, ⟨fun s us ws _ h1 h2 => match us, ws, h1, h2 with | [_], [_], _, _ => .of_eq rfl, fun r1 r2 => r1.append r2⟩⟩, rfl⟩
  have t_NoSessions : CatX K mg (cfK l.prog w K CB ([X0, X1, X2, X3, X4, X5, X6, X7, X8, X9, X10, X11].getD · 0)) 4 "NoSessions" ["index"] := ⟨PySem.W.mg_of X G aX4, ⟨xga4, xgg4, xex4, xhd4⟩, PySem.W.exm_ref xex4 xhd4 xty4 xss4, rfl, fun f hf => by simp at hf; subst hf; exact xp4_index⟩
  have c_NoEvents : CalX1 l.prog w K mg base (cfK l.prog w K CB ([X0, X1, X2, X3, X4, X5, X6, X7, X8, X9, X10, X11].getD · 0)) 1 5 "NoEvents" "index" := ⟨⟨_, _, _, ⟨PySem.W.mg_of X G aX5, O5, a_NoEventsdd_initdd, i_NoEventsdd_initdd⟩, ok_x5 TB O5 xp5_index F_NoEventsdd_initdd, b_NoEventsdd_initdd⟩, rfl⟩
  have xk_NoEvents : CalX1K l.prog w K mg base (cfK l.prog w K CB ([X0, X1, X2, X3, X4, X5, X6, X7, X8, X9, X10, X11].getD · 0)) 1 5 "NoEvents" "index" := ⟨⟨_, _, _, ⟨PySem.W.mg_of X G aX5, O5, a_NoEventsdd_initdd, i_NoEventsdd_initdd⟩, ok_x5 TB O5 xp5_index F_NoEventsdd_initdd, ⟨fun s us ws _ h1 h2 => match us, ws, h1, h2 with | [_], [_], _, _ => .of_eq rfl, fun r1 r2 => r1.append r2⟩⟩, rfl⟩
  have t_NoEvents : CatX K mg (cfK l.prog w K CB ([X0, X1, X2, X3, X4, X5, X6, X7, X8, X9, X10, X11].getD · 0)) 5 "NoEvents" ["index"] := ⟨PySem.W.mg_of X G aX5, ⟨xga5, xgg5, xex5, xhd5⟩, PySem.W.exm_ref xex5 xhd5 xty5 xss5, rfl, fun f hf => by simp at hf; subst hf; exact xp5_index⟩
  have c_NoCertificate : CalX1 l.prog w K mg base (cfK l.prog w K CB ([X0, X1, X2, X3, X4, X5, X6, X7, X8, X9, X10, X11].getD · 0)) 1 6 "NoCertificate" "index" := ⟨⟨_, _, _, ⟨PySem.W.mg_of X G aX6, O6, a_NoCertificatedd_initdd, i_NoCertificatedd_initdd⟩, ok_x6 TB O6 xp6_index F_NoCertificatedd_initdd, b_NoCertificatedd_initdd⟩, rfl⟩
  have xk_NoCertificate : CalX1K l.prog w K mg base (cfK l.prog w K CB ([X0, X1, X2, X3, X4, X5, X6, X7, X8, X9, X10, X11].getD · 0)) 1 6 "NoCertificate" "index" := ⟨⟨_, _, _, ⟨PySem.W.mg_of X G aX6, O6, a_NoCertificatedd_initdd, i_NoCertificatedd_initdd⟩, ok_x6 TB O6 xp6_index F_NoCertificatedd_initdd, ⟨fun s us ws _ h1 h2 => match us, ws, h1, h2 with | [_], [_], _, _ => .of_eq rfl, fun r1 r2 => r1.append r2⟩⟩, rfl⟩
  have t_NoCertificate : CatX K mg (cfK l.prog w K CB ([X0, X1, X2, X3, X4, X5, X6, X7, X8, X9, X10, X11].getD · 0)) 6 "NoCertificate" ["index"] := ⟨PySem.W.mg_of X G aX6, ⟨xga6, xgg6, xex6, xhd6⟩, PySem.W.exm_ref xex6 xhd6 xty6 xss6, rfl, fun f hf => by simp at hf; subst hf; exact xp6_index⟩
  have c_NeverArises : CalX1 l.prog w K mg base (cfK l.prog w K CB ([X0, X1, X2, X3, X4, X5, X6, X7, X8, X9, X10, X11].getD · 0)) 1 7 "NeverArises" "answer" := ⟨⟨_, _, _, ⟨PySem.W.mg_of X G aX7, O7, a_NeverArisesdd_initdd, i_NeverArisesdd_initdd⟩, ok_x7 TB O7 xp7_answer F_NeverArisesdd_initdd, b_NeverArisesdd_initdd⟩, rfl⟩
  have xk_NeverArises : CalX1K l.prog w K mg base (cfK l.prog w K CB ([X0, X1, X2, X3, X4, X5, X6, X7, X8, X9, X10, X11].getD · 0)) 1 7 "NeverArises" "answer" := ⟨⟨_, _, _, ⟨PySem.W.mg_of X G aX7, O7, a_NeverArisesdd_initdd, i_NeverArisesdd_initdd⟩, ok_x7 TB O7 xp7_answer F_NeverArisesdd_initdd, ⟨fun s us ws _ h1 h2 => match us, ws, h1, h2 with | [_], [_], _, _ => .of_eq rfl, fun r1 r2 => r1.append r2⟩⟩, rfl⟩
  have t_NeverArises : CatX K mg (cfK l.prog w K CB ([X0, X1, X2, X3, X4, X5, X6, X7, X8, X9, X10, X11].getD · 0)) 7 "NeverArises" ["answer"] := ⟨PySem.W.mg_of X G aX7, ⟨xga7, xgg7, xex7, xhd7⟩, PySem.W.exm_ref xex7 xhd7 xty7 xss7, rfl, fun f hf => by simp at hf; subst hf; exact xp7_answer⟩
  have c_NoServers : CalX1 l.prog w K mg base (cfK l.prog w K CB ([X0, X1, X2, X3, X4, X5, X6, X7, X8, X9, X10, X11].getD · 0)) 1 8 "NoServers" "index" := ⟨⟨_, _, _, ⟨PySem.W.mg_of X G aX8, O8, a_NoServersdd_initdd, i_NoServersdd_initdd⟩, ok_x8 TB O8 xp8_index F_NoServersdd_initdd, b_NoServersdd_initdd⟩, rfl⟩
  have xk_NoServers : CalX1K l.prog w K mg base (cfK l.prog w K CB ([X0, X1, X2, X3, X4, X5, X6, X7, X8, X9, X10, X11].getD · 0)) 1 8 "NoServers" "index" := ⟨⟨_, _, _, ⟨PySem.W.mg_of X G aX8, O8, a_NoServersdd_initdd, i_NoServersdd_initdd⟩, ok_x8 TB O8 xp8_index F_NoServersdd_initdd, ⟨fun s us ws _ h1 h2 => match us, ws, h1, h2 with | [_], [_], _, _ => .of_eq rfl, fun r1 r2 => r1.append r2⟩⟩, rfl⟩
  have t_NoServers : CatX K mg (cfK l.prog w K CB ([X0, X1, X2, X3, X4, X5, X6, X7, X8, X9, X10, X11].getD · 0)) 8 "NoServers" ["index"] := ⟨PySem.W.mg_of X G aX8, ⟨xga8, xgg8, xex8, xhd8⟩, PySem.W.exm_ref xex8 xhd8 xty8 xss8, rfl, fun f hf => by simp at hf; subst hf; exact xp8_index⟩
  have c_NoNumbers : CalX1 l.prog w K mg base (cfK l.prog w K CB ([X0, X1, X2, X3, X4, X5, X6, X7, X8, X9, X10, X11].getD · 0)) 1 9 "NoNumbers" "index" := ⟨⟨_, _, _, ⟨PySem.W.mg_of X G aX9, O9, a_NoNumbersdd_initdd, i_NoNumbersdd_initdd⟩, ok_x9 TB O9 xp9_index F_NoNumbersdd_initdd, b_NoNumbersdd_initdd⟩, rfl⟩
  have xk_NoNumbers : CalX1K l.prog w K mg base (cfK l.prog w K CB ([X0, X1, X2, X3, X4, X5, X6, X7, X8, X9, X10, X11].getD · 0)) 1 9 "NoNumbers" "index" := ⟨⟨_, _, _, ⟨PySem.W.mg_of X G aX9, O9, a_NoNumbersdd_initdd, i_NoNumbersdd_initdd⟩, ok_x9 TB O9 xp9_index F_NoNumbersdd_initdd, ⟨fun s us ws _ h1 h2 => match us, ws, h1, h2 with | [_], [_], _, _ => .of_eq rfl, fun r1 r2 => r1.append r2⟩⟩, rfl⟩
  have t_NoNumbers : CatX K mg (cfK l.prog w K CB ([X0, X1, X2, X3, X4, X5, X6, X7, X8, X9, X10, X11].getD · 0)) 9 "NoNumbers" ["index"] := ⟨PySem.W.mg_of X G aX9, ⟨xga9, xgg9, xex9, xhd9⟩, PySem.W.exm_ref xex9 xhd9 xty9 xss9, rfl, fun f hf => by simp at hf; subst hf; exact xp9_index⟩
  have c_Short : CalX1 l.prog w K mg base (cfK l.prog w K CB ([X0, X1, X2, X3, X4, X5, X6, X7, X8, X9, X10, X11].getD · 0)) 1 10 "Short" "group" := ⟨⟨_, _, _, ⟨PySem.W.mg_of X G aX10, O10, a_Shortdd_initdd, i_Shortdd_initdd⟩, ok_x10 TB O10 xp10_group F_Shortdd_initdd, b_Shortdd_initdd⟩, rfl⟩
  have xk_Short : CalX1K l.prog w K mg base (cfK l.prog w K CB ([X0, X1, X2, X3, X4, X5, X6, X7, X8, X9, X10, X11].getD · 0)) 1 10 "Short" "group" := ⟨⟨_, _, _, ⟨PySem.W.mg_of X G aX10, O10, a_Shortdd_initdd, i_Shortdd_initdd⟩, ok_x10 TB O10 xp10_group F_Shortdd_initdd, ⟨fun s us ws _ h1 h2 => match us, ws, h1, h2 with | [_], [_], _, _ => .of_eq rfl, fun r1 r2 => r1.append r2⟩⟩, rfl⟩
  have t_Short : CatX K mg (cfK l.prog w K CB ([X0, X1, X2, X3, X4, X5, X6, X7, X8, X9, X10, X11].getD · 0)) 10 "Short" ["group"] := ⟨PySem.W.mg_of X G aX10, ⟨xga10, xgg10, xex10, xhd10⟩, PySem.W.exm_ref xex10 xhd10 xty10 xss10, rfl, fun f hf => by simp at hf; subst hf; exact xp10_group⟩
  have c_TooMany : CalX1 l.prog w K mg base (cfK l.prog w K CB ([X0, X1, X2, X3, X4, X5, X6, X7, X8, X9, X10, X11].getD · 0)) 1 11 "TooMany" "most" := ⟨⟨_, _, _, ⟨PySem.W.mg_of X G aX11, O11, a_TooManydd_initdd, i_TooManydd_initdd⟩, ok_x11 TB O11 xp11_most F_TooManydd_initdd, b_TooManydd_initdd⟩, rfl⟩
  have xk_TooMany : CalX1K l.prog w K mg base (cfK l.prog w K CB ([X0, X1, X2, X3, X4, X5, X6, X7, X8, X9, X10, X11].getD · 0)) 1 11 "TooMany" "most" := ⟨⟨_, _, _, ⟨PySem.W.mg_of X G aX11, O11, a_TooManydd_initdd, i_TooManydd_initdd⟩, ok_x11 TB O11 xp11_most F_TooManydd_initdd, ⟨fun s us ws _ h1 h2 => match us, ws, h1, h2 with | [_], [_], _, _ => .of_eq rfl, fun r1 r2 => r1.append r2⟩⟩, rfl⟩
  have t_TooMany : CatX K mg (cfK l.prog w K CB ([X0, X1, X2, X3, X4, X5, X6, X7, X8, X9, X10, X11].getD · 0)) 11 "TooMany" ["most"] := ⟨PySem.W.mg_of X G aX11, ⟨xga11, xgg11, xex11, xhd11⟩, PySem.W.exm_ref xex11 xhd11 xty11 xss11, rfl, fun f hf => by simp at hf; subst hf; exact xp11_most⟩
  have c_law_by_place : Cal l.prog w K mg base (cfK l.prog w K CB ([X0, X1, X2, X3, X4, X5, X6, X7, X8, X9, X10, X11].getD · 0)) 3 "_law_by_place" [] 1 m_law_by_place := ⟨_, _, _, ok_law_by_place T c_NoFarm c_NoState c_NoSession c_NoPlacement c_NoSessions c_NoEvents c_NoCertificate c_NeverArises c_NoServers c_NoNumbers c_Short c_TooMany F_law_by_place, PySem.W.mg_of X G a_law_by_place, k_law_by_place, b_law_by_place⟩
  have c_law_by_name : Cal l.prog w K mg base (cfK l.prog w K CB ([X0, X1, X2, X3, X4, X5, X6, X7, X8, X9, X10, X11].getD · 0)) 3 "_law_by_name" [] 1 m_law_by_name := ⟨_, _, _, ok_law_by_name T xk_NoFarm xk_NoState xk_NoSession xk_NoPlacement xk_NoSessions xk_NoEvents xk_NoCertificate xk_NeverArises xk_NoServers xk_NoNumbers xk_Short xk_TooMany F_law_by_name, PySem.W.mg_of X G a_law_by_name, k_law_by_name, b_law_by_name⟩
  have c_law_fields : Cal l.prog w K mg base (cfK l.prog w K CB ([X0, X1, X2, X3, X4, X5, X6, X7, X8, X9, X10, X11].getD · 0)) 1 "_law_fields" [] 1 m_law_fields := ⟨_, _, _, ok_law_fields T t_NoFarm t_NoState t_NoSession t_NoPlacement t_NoSessions t_NoEvents t_NoCertificate t_NeverArises t_NoServers t_NoNumbers t_Short t_TooMany F_law_fields, PySem.W.mg_of X G a_law_fields, k_law_fields, b_law_fields⟩
  have c_law_taken : Cal l.prog w K mg base (cfK l.prog w K CB ([X0, X1, X2, X3, X4, X5, X6, X7, X8, X9, X10, X11].getD · 0)) 1 "_law_taken" [] 1 m_law_taken := ⟨_, _, _, ok_law_taken T ie_NoFarm ie_NoState ie_NoSession ie_NoPlacement ie_NoSessions ie_NoEvents ie_NoCertificate ie_NeverArises ie_NoServers ie_NoNumbers ie_Short ie_TooMany F_law_taken, PySem.W.mg_of X G a_law_taken, k_law_taken, b_law_taken⟩
  have c_law_right : Cal l.prog w K mg base (cfK l.prog w K CB ([X0, X1, X2, X3, X4, X5, X6, X7, X8, X9, X10, X11].getD · 0)) 4 "_law_right" [0] 1 m_law_right := ⟨_, _, _, ok_law_right T c_law_draw c_law_by_place c_law_by_name c_law_fields t_NoFarm t_NoState c_law_taken ie_FarmError ie_ValueError iv_FarmError F_law_right, PySem.W.mg_of X G a_law_right, k_law_right, b_law_right⟩
  exact (ok_law T c_law_right F_law : FnOk l.prog w K mg base (L2.CX l.prog w) 5 _ _ _ (spM (cfK l.prog w K CB ([X0, X1, X2, X3, X4, X5, X6, X7, X8, X9, X10, X11].getD · 0)) [] 1 m_law)).imp (law_imp (c := cfK l.prog w K CB ([X0, X1, X2, X3, X4, X5, X6, X7, X8, X9, X10, X11].getD · 0)) plain)
end Fx
open PySem PySem.W PyProof.Rows
set_option maxRecDepth 100000 in
set_option maxHeartbeats 0 in
theorem PySem.Challenge.cw_stickyservers_k19_exceptions_holds : PySem.Challenge.rw_stickyservers_k19_exceptions.Holds := by
  w_on; o_law; k_head; (case hw => w_witness2)
  k_fill
  refine Fx.walk_fx (l := PySem.Challenge.rw_stickyservers_k19_exceptions) (k := 5) (x := "_law_script") rfl rfl ⟨rfl, by decide, by decide⟩ (fun w h Y => PySem.W.kIn_of Y) ?F
  case F =>
    intro w mg fa h KX G hmg
    refine' Fx.wire Fx.plain_law KX G hmg ?aFE ?aX0 ?xL0 ?xsa0 ?xex0 ?xty0 ?xkp0 ?xga0 ?xgg0 ?xhd0 ?xss0 ?xcl0 ?xmo0 ?xsb0 ?xp0_part ?xp0_index ?aX2 ?xL2 ?xsa2 ?xex2 ?xty2 ?xkp2 ?xga2 ?xgg2 ?xhd2 ?xss2 ?xcl2 ?xmo2 ?xsb2 ?xp2_part ?xp2_index ?aX1 ?xL1 ?xsa1 ?xex1 ?xty1 ?xkp1 ?xga1 ?xgg1 ?xhd1 ?xss1 ?xcl1 ?xmo1 ?xsb1 ?xp1_session ?aX3 ?xL3 ?xsa3 ?xex3 ?xty3 ?xkp3 ?xga3 ?xgg3 ?xhd3 ?xss3 ?xcl3 ?xmo3 ?xsb3 ?xp3_index ?aX4 ?xL4 ?xsa4 ?xex4 ?xty4 ?xkp4 ?xga4 ?xgg4 ?xhd4 ?xss4 ?xcl4 ?xmo4 ?xsb4 ?xp4_index ?aX5 ?xL5 ?xsa5 ?xex5 ?xty5 ?xkp5 ?xga5 ?xgg5 ?xhd5 ?xss5 ?xcl5 ?xmo5 ?xsb5 ?xp5_index ?aX6 ?xL6 ?xsa6 ?xex6 ?xty6 ?xkp6 ?xga6 ?xgg6 ?xhd6 ?xss6 ?xcl6 ?xmo6 ?xsb6 ?xp6_index ?aX7 ?xL7 ?xsa7 ?xex7 ?xty7 ?xkp7 ?xga7 ?xgg7 ?xhd7 ?xss7 ?xcl7 ?xmo7 ?xsb7 ?xp7_answer ?aX8 ?xL8 ?xsa8 ?xex8 ?xty8 ?xkp8 ?xga8 ?xgg8 ?xhd8 ?xss8 ?xcl8 ?xmo8 ?xsb8 ?xp8_index ?aX9 ?xL9 ?xsa9 ?xex9 ?xty9 ?xkp9 ?xga9 ?xgg9 ?xhd9 ?xss9 ?xcl9 ?xmo9 ?xsb9 ?xp9_index ?aX10 ?xL10 ?xsa10 ?xex10 ?xty10 ?xkp10 ?xga10 ?xgg10 ?xhd10 ?xss10 ?xcl10 ?xmo10 ?xsb10 ?xp10_group ?aX11 ?xL11 ?xsa11 ?xex11 ?xty11 ?xkp11 ?xga11 ?xgg11 ?xhd11 ?xss11 ?xcl11 ?xmo11 ?xsb11 ?xp11_most ?cget ?ctak ?bex ?bhd ?bty ?ki0_0 ?ki0_1 ?ki0_2 ?ki0_3 ?ki0_4 ?ki0_5 ?ki0_6 ?ki0_7 ?ki0_8 ?ki0_9 ?ki0_10 ?ki0_11 ?ki0_b ?kiv0 ?ki1_0 ?ki1_1 ?ki1_2 ?ki1_3 ?ki1_4 ?ki1_5 ?ki1_6 ?ki1_7 ?ki1_8 ?ki1_9 ?ki1_10 ?ki1_11 ?ki1_b ?kiv1 ?ki2_0 ?ki2_1 ?ki2_2 ?ki2_3 ?ki2_4 ?ki2_5 ?ki2_6 ?ki2_7 ?ki2_8 ?ki2_9 ?ki2_10 ?ki2_11 ?ki2_b ?kiv2 ?ki3_0 ?ki3_1 ?ki3_2 ?ki3_3 ?ki3_4 ?ki3_5 ?ki3_6 ?ki3_7 ?ki3_8 ?ki3_9 ?ki3_10 ?ki3_11 ?ki3_b ?kiv3 ?ki4_0 ?ki4_1 ?ki4_2 ?ki4_3 ?ki4_4 ?ki4_5 ?ki4_6 ?ki4_7 ?ki4_8 ?ki4_9 ?ki4_10 ?ki4_11 ?ki4_b ?kiv4 ?ki5_0 ?ki5_1 ?ki5_2 ?ki5_3 ?ki5_4 ?ki5_5 ?ki5_6 ?ki5_7 ?ki5_8 ?ki5_9 ?ki5_10 ?ki5_11 ?ki5_b ?kiv5 ?ki6_0 ?ki6_1 ?ki6_2 ?ki6_3 ?ki6_4 ?ki6_5 ?ki6_6 ?ki6_7 ?ki6_8 ?ki6_9 ?ki6_10 ?ki6_11 ?ki6_b ?kiv6 ?ki7_0 ?ki7_1 ?ki7_2 ?ki7_3 ?ki7_4 ?ki7_5 ?ki7_6 ?ki7_7 ?ki7_8 ?ki7_9 ?ki7_10 ?ki7_11 ?ki7_b ?kiv7 ?ki8_0 ?ki8_1 ?ki8_2 ?ki8_3 ?ki8_4 ?ki8_5 ?ki8_6 ?ki8_7 ?ki8_8 ?ki8_9 ?ki8_10 ?ki8_11 ?ki8_b ?kiv8 ?ki9_0 ?ki9_1 ?ki9_2 ?ki9_3 ?ki9_4 ?ki9_5 ?ki9_6 ?ki9_7 ?ki9_8 ?ki9_9 ?ki9_10 ?ki9_11 ?ki9_b ?kiv9 ?ki10_0 ?ki10_1 ?ki10_2 ?ki10_3 ?ki10_4 ?ki10_5 ?ki10_6 ?ki10_7 ?ki10_8 ?ki10_9 ?ki10_10 ?ki10_11 ?ki10_b ?kiv10 ?ki11_0 ?ki11_1 ?ki11_2 ?ki11_3 ?ki11_4 ?ki11_5 ?ki11_6 ?ki11_7 ?ki11_8 ?ki11_9 ?ki11_10 ?ki11_11 ?ki11_b ?kiv11 ?kivb ?zValueError ?fB ?fR ?fV ?zlen ?ztuple ?zlist ?zint ?zsum ?zall ?zmax ?zmin ?zsorted ?zisinstance ?zenumerate ?zrange ?zset ?zbool ?zstr ?a_NoFarmdd_initdd ?l_NoFarmdd_initdd ?c_NoFarmdd_initdd ?k_NoFarmdd_initdd ?i_NoFarmdd_initdd ?a_NoStatedd_initdd ?l_NoStatedd_initdd ?c_NoStatedd_initdd ?k_NoStatedd_initdd ?i_NoStatedd_initdd ?a_NoSessiondd_initdd ?l_NoSessiondd_initdd ?c_NoSessiondd_initdd ?k_NoSessiondd_initdd ?i_NoSessiondd_initdd ?a_NoPlacementdd_initdd ?l_NoPlacementdd_initdd ?c_NoPlacementdd_initdd ?k_NoPlacementdd_initdd ?i_NoPlacementdd_initdd ?a_NoSessionsdd_initdd ?l_NoSessionsdd_initdd ?c_NoSessionsdd_initdd ?k_NoSessionsdd_initdd ?i_NoSessionsdd_initdd ?a_NoEventsdd_initdd ?l_NoEventsdd_initdd ?c_NoEventsdd_initdd ?k_NoEventsdd_initdd ?i_NoEventsdd_initdd ?a_NoCertificatedd_initdd ?l_NoCertificatedd_initdd ?c_NoCertificatedd_initdd ?k_NoCertificatedd_initdd ?i_NoCertificatedd_initdd ?a_NeverArisesdd_initdd ?l_NeverArisesdd_initdd ?c_NeverArisesdd_initdd ?k_NeverArisesdd_initdd ?i_NeverArisesdd_initdd ?a_NoServersdd_initdd ?l_NoServersdd_initdd ?c_NoServersdd_initdd ?k_NoServersdd_initdd ?i_NoServersdd_initdd ?a_NoNumbersdd_initdd ?l_NoNumbersdd_initdd ?c_NoNumbersdd_initdd ?k_NoNumbersdd_initdd ?i_NoNumbersdd_initdd ?a_Shortdd_initdd ?l_Shortdd_initdd ?c_Shortdd_initdd ?k_Shortdd_initdd ?i_Shortdd_initdd ?a_TooManydd_initdd ?l_TooManydd_initdd ?c_TooManydd_initdd ?k_TooManydd_initdd ?i_TooManydd_initdd ?a_law_draw ?l_law_draw ?c_law_draw ?k_law_draw ?a_law_by_place ?l_law_by_place ?c_law_by_place ?k_law_by_place ?a_law_by_name ?l_law_by_name ?c_law_by_name ?k_law_by_name ?a_law_fields ?l_law_fields ?c_law_fields ?k_law_fields ?a_law_taken ?l_law_taken ?c_law_taken ?k_law_taken ?a_law_right ?l_law_right ?c_law_right ?k_law_right ?a_law ?l_law ?c_law ?k_law
    (case aFE => k_is); (case aX0 => k_is); (case xL0 => k_is); (case xsa0 => k_is); (case xex0 => k_is); (case xty0 => k_is)
    (case xkp0 => k_is); (case xga0 => k_is); (case xgg0 => k_is); (case xhd0 => k_is); (case xss0 => k_is); (case xcl0 => k_is)
    (case xmo0 => k_is); (case xsb0 => k_is); (case xp0_part => k_is); (case xp0_index => k_is); (case aX2 => k_is); (case xL2 => k_is)
    (case xsa2 => k_is); (case xex2 => k_is); (case xty2 => k_is); (case xkp2 => k_is); (case xga2 => k_is); (case xgg2 => k_is)
    (case xhd2 => k_is); (case xss2 => k_is); (case xcl2 => k_is); (case xmo2 => k_is); (case xsb2 => k_is); (case xp2_part => k_is)
    (case xp2_index => k_is); (case aX1 => k_is); (case xL1 => k_is); (case xsa1 => k_is); (case xex1 => k_is); (case xty1 => k_is)
    (case xkp1 => k_is); (case xga1 => k_is); (case xgg1 => k_is); (case xhd1 => k_is); (case xss1 => k_is); (case xcl1 => k_is)
    (case xmo1 => k_is); (case xsb1 => k_is); (case xp1_session => k_is); (case aX3 => k_is); (case xL3 => k_is); (case xsa3 => k_is)
    (case xex3 => k_is); (case xty3 => k_is); (case xkp3 => k_is); (case xga3 => k_is); (case xgg3 => k_is); (case xhd3 => k_is)
    (case xss3 => k_is); (case xcl3 => k_is); (case xmo3 => k_is); (case xsb3 => k_is); (case xp3_index => k_is); (case aX4 => k_is)
    (case xL4 => k_is); (case xsa4 => k_is); (case xex4 => k_is); (case xty4 => k_is); (case xkp4 => k_is); (case xga4 => k_is)
    (case xgg4 => k_is); (case xhd4 => k_is); (case xss4 => k_is); (case xcl4 => k_is); (case xmo4 => k_is); (case xsb4 => k_is)
    (case xp4_index => k_is); (case aX5 => k_is); (case xL5 => k_is); (case xsa5 => k_is); (case xex5 => k_is); (case xty5 => k_is)
    (case xkp5 => k_is); (case xga5 => k_is); (case xgg5 => k_is); (case xhd5 => k_is); (case xss5 => k_is); (case xcl5 => k_is)
    (case xmo5 => k_is); (case xsb5 => k_is); (case xp5_index => k_is); (case aX6 => k_is); (case xL6 => k_is); (case xsa6 => k_is)
    (case xex6 => k_is); (case xty6 => k_is); (case xkp6 => k_is); (case xga6 => k_is); (case xgg6 => k_is); (case xhd6 => k_is)
    (case xss6 => k_is); (case xcl6 => k_is); (case xmo6 => k_is); (case xsb6 => k_is); (case xp6_index => k_is); (case aX7 => k_is)
    (case xL7 => k_is); (case xsa7 => k_is); (case xex7 => k_is); (case xty7 => k_is); (case xkp7 => k_is); (case xga7 => k_is)
    (case xgg7 => k_is); (case xhd7 => k_is); (case xss7 => k_is); (case xcl7 => k_is); (case xmo7 => k_is); (case xsb7 => k_is)
    (case xp7_answer => k_is); (case aX8 => k_is); (case xL8 => k_is); (case xsa8 => k_is); (case xex8 => k_is); (case xty8 => k_is)
    (case xkp8 => k_is); (case xga8 => k_is); (case xgg8 => k_is); (case xhd8 => k_is); (case xss8 => k_is); (case xcl8 => k_is)
    (case xmo8 => k_is); (case xsb8 => k_is); (case xp8_index => k_is); (case aX9 => k_is); (case xL9 => k_is); (case xsa9 => k_is)
    (case xex9 => k_is); (case xty9 => k_is); (case xkp9 => k_is); (case xga9 => k_is); (case xgg9 => k_is); (case xhd9 => k_is)
    (case xss9 => k_is); (case xcl9 => k_is); (case xmo9 => k_is); (case xsb9 => k_is); (case xp9_index => k_is); (case aX10 => k_is)
    (case xL10 => k_is); (case xsa10 => k_is); (case xex10 => k_is); (case xty10 => k_is); (case xkp10 => k_is); (case xga10 => k_is)
    (case xgg10 => k_is); (case xhd10 => k_is); (case xss10 => k_is); (case xcl10 => k_is); (case xmo10 => k_is); (case xsb10 => k_is)
    (case xp10_group => k_is); (case aX11 => k_is); (case xL11 => k_is); (case xsa11 => k_is); (case xex11 => k_is); (case xty11 => k_is)
    (case xkp11 => k_is); (case xga11 => k_is); (case xgg11 => k_is); (case xhd11 => k_is); (case xss11 => k_is); (case xcl11 => k_is)
    (case xmo11 => k_is); (case xsb11 => k_is); (case xp11_most => k_is); (case cget => k_is); (case ctak => k_is); (case bex => k_is)
    (case bhd => k_is); (case bty => k_is); (case ki0_0 => kit_is); (case ki0_1 => kit_is); (case ki0_2 => kit_is); (case ki0_3 => kit_is)
    (case ki0_4 => kit_is); (case ki0_5 => kit_is); (case ki0_6 => kit_is); (case ki0_7 => kit_is); (case ki0_8 => kit_is); (case ki0_9 => kit_is)
    (case ki0_10 => kit_is); (case ki0_11 => kit_is); (case ki0_b => kit_is); (case kiv0 => kit_is); (case ki1_0 => kit_is); (case ki1_1 => kit_is)
    (case ki1_2 => kit_is); (case ki1_3 => kit_is); (case ki1_4 => kit_is); (case ki1_5 => kit_is); (case ki1_6 => kit_is); (case ki1_7 => kit_is)
    (case ki1_8 => kit_is); (case ki1_9 => kit_is); (case ki1_10 => kit_is); (case ki1_11 => kit_is); (case ki1_b => kit_is); (case kiv1 => kit_is)
    (case ki2_0 => kit_is); (case ki2_1 => kit_is); (case ki2_2 => kit_is); (case ki2_3 => kit_is); (case ki2_4 => kit_is); (case ki2_5 => kit_is)
    (case ki2_6 => kit_is); (case ki2_7 => kit_is); (case ki2_8 => kit_is); (case ki2_9 => kit_is); (case ki2_10 => kit_is); (case ki2_11 => kit_is)
    (case ki2_b => kit_is); (case kiv2 => kit_is); (case ki3_0 => kit_is); (case ki3_1 => kit_is); (case ki3_2 => kit_is); (case ki3_3 => kit_is)
    (case ki3_4 => kit_is); (case ki3_5 => kit_is); (case ki3_6 => kit_is); (case ki3_7 => kit_is); (case ki3_8 => kit_is); (case ki3_9 => kit_is)
    (case ki3_10 => kit_is); (case ki3_11 => kit_is); (case ki3_b => kit_is); (case kiv3 => kit_is); (case ki4_0 => kit_is); (case ki4_1 => kit_is)
    (case ki4_2 => kit_is); (case ki4_3 => kit_is); (case ki4_4 => kit_is); (case ki4_5 => kit_is); (case ki4_6 => kit_is); (case ki4_7 => kit_is)
    (case ki4_8 => kit_is); (case ki4_9 => kit_is); (case ki4_10 => kit_is); (case ki4_11 => kit_is); (case ki4_b => kit_is); (case kiv4 => kit_is)
    (case ki5_0 => kit_is); (case ki5_1 => kit_is); (case ki5_2 => kit_is); (case ki5_3 => kit_is); (case ki5_4 => kit_is); (case ki5_5 => kit_is)
    (case ki5_6 => kit_is); (case ki5_7 => kit_is); (case ki5_8 => kit_is); (case ki5_9 => kit_is); (case ki5_10 => kit_is); (case ki5_11 => kit_is)
    (case ki5_b => kit_is); (case kiv5 => kit_is); (case ki6_0 => kit_is); (case ki6_1 => kit_is); (case ki6_2 => kit_is); (case ki6_3 => kit_is)
    (case ki6_4 => kit_is); (case ki6_5 => kit_is); (case ki6_6 => kit_is); (case ki6_7 => kit_is); (case ki6_8 => kit_is); (case ki6_9 => kit_is)
    (case ki6_10 => kit_is); (case ki6_11 => kit_is); (case ki6_b => kit_is); (case kiv6 => kit_is); (case ki7_0 => kit_is); (case ki7_1 => kit_is)
    (case ki7_2 => kit_is); (case ki7_3 => kit_is); (case ki7_4 => kit_is); (case ki7_5 => kit_is); (case ki7_6 => kit_is); (case ki7_7 => kit_is)
    (case ki7_8 => kit_is); (case ki7_9 => kit_is); (case ki7_10 => kit_is); (case ki7_11 => kit_is); (case ki7_b => kit_is); (case kiv7 => kit_is)
    (case ki8_0 => kit_is); (case ki8_1 => kit_is); (case ki8_2 => kit_is); (case ki8_3 => kit_is); (case ki8_4 => kit_is); (case ki8_5 => kit_is)
    (case ki8_6 => kit_is); (case ki8_7 => kit_is); (case ki8_8 => kit_is); (case ki8_9 => kit_is); (case ki8_10 => kit_is); (case ki8_11 => kit_is)
    (case ki8_b => kit_is); (case kiv8 => kit_is); (case ki9_0 => kit_is); (case ki9_1 => kit_is); (case ki9_2 => kit_is); (case ki9_3 => kit_is)
    (case ki9_4 => kit_is); (case ki9_5 => kit_is); (case ki9_6 => kit_is); (case ki9_7 => kit_is); (case ki9_8 => kit_is); (case ki9_9 => kit_is)
    (case ki9_10 => kit_is); (case ki9_11 => kit_is); (case ki9_b => kit_is); (case kiv9 => kit_is); (case ki10_0 => kit_is); (case ki10_1 => kit_is)
    (case ki10_2 => kit_is); (case ki10_3 => kit_is); (case ki10_4 => kit_is); (case ki10_5 => kit_is); (case ki10_6 => kit_is); (case ki10_7 => kit_is)
    (case ki10_8 => kit_is); (case ki10_9 => kit_is); (case ki10_10 => kit_is); (case ki10_11 => kit_is); (case ki10_b => kit_is); (case kiv10 => kit_is)
    (case ki11_0 => kit_is); (case ki11_1 => kit_is); (case ki11_2 => kit_is); (case ki11_3 => kit_is); (case ki11_4 => kit_is); (case ki11_5 => kit_is)
    (case ki11_6 => kit_is); (case ki11_7 => kit_is); (case ki11_8 => kit_is); (case ki11_9 => kit_is); (case ki11_10 => kit_is); (case ki11_11 => kit_is)
    (case ki11_b => kit_is); (case kiv11 => kit_is); (case kivb => kit_is); (case zValueError => k_is); (case fB => k_is); (case fR => k_is)
    (case fV => k_is); (case zlen => k_is); (case ztuple => k_is); (case zlist => k_is); (case zint => k_is); (case zsum => k_is)
    (case zall => k_is); (case zmax => k_is); (case zmin => k_is); (case zsorted => k_is); (case zisinstance => k_is); (case zenumerate => k_is)
    (case zrange => k_is); (case zset => k_is); (case zbool => k_is); (case zstr => k_is); (case a_NoFarmdd_initdd => k_is); (case l_NoFarmdd_initdd => k_is)
    (case c_NoFarmdd_initdd => k_is); (case k_NoFarmdd_initdd => k_is); (case i_NoFarmdd_initdd => k_is); (case a_NoStatedd_initdd => k_is); (case l_NoStatedd_initdd => k_is); (case c_NoStatedd_initdd => k_is)
    (case k_NoStatedd_initdd => k_is); (case i_NoStatedd_initdd => k_is); (case a_NoSessiondd_initdd => k_is); (case l_NoSessiondd_initdd => k_is); (case c_NoSessiondd_initdd => k_is); (case k_NoSessiondd_initdd => k_is)
    (case i_NoSessiondd_initdd => k_is); (case a_NoPlacementdd_initdd => k_is); (case l_NoPlacementdd_initdd => k_is); (case c_NoPlacementdd_initdd => k_is); (case k_NoPlacementdd_initdd => k_is); (case i_NoPlacementdd_initdd => k_is)
    (case a_NoSessionsdd_initdd => k_is); (case l_NoSessionsdd_initdd => k_is); (case c_NoSessionsdd_initdd => k_is); (case k_NoSessionsdd_initdd => k_is); (case i_NoSessionsdd_initdd => k_is); (case a_NoEventsdd_initdd => k_is)
    (case l_NoEventsdd_initdd => k_is); (case c_NoEventsdd_initdd => k_is); (case k_NoEventsdd_initdd => k_is); (case i_NoEventsdd_initdd => k_is); (case a_NoCertificatedd_initdd => k_is); (case l_NoCertificatedd_initdd => k_is)
    (case c_NoCertificatedd_initdd => k_is); (case k_NoCertificatedd_initdd => k_is); (case i_NoCertificatedd_initdd => k_is); (case a_NeverArisesdd_initdd => k_is); (case l_NeverArisesdd_initdd => k_is); (case c_NeverArisesdd_initdd => k_is)
    (case k_NeverArisesdd_initdd => k_is); (case i_NeverArisesdd_initdd => k_is); (case a_NoServersdd_initdd => k_is); (case l_NoServersdd_initdd => k_is); (case c_NoServersdd_initdd => k_is); (case k_NoServersdd_initdd => k_is)
    (case i_NoServersdd_initdd => k_is); (case a_NoNumbersdd_initdd => k_is); (case l_NoNumbersdd_initdd => k_is); (case c_NoNumbersdd_initdd => k_is); (case k_NoNumbersdd_initdd => k_is); (case i_NoNumbersdd_initdd => k_is)
    (case a_Shortdd_initdd => k_is); (case l_Shortdd_initdd => k_is); (case c_Shortdd_initdd => k_is); (case k_Shortdd_initdd => k_is); (case i_Shortdd_initdd => k_is); (case a_TooManydd_initdd => k_is)
    (case l_TooManydd_initdd => k_is); (case c_TooManydd_initdd => k_is); (case k_TooManydd_initdd => k_is); (case i_TooManydd_initdd => k_is); (case a_law_draw => k_is); (case l_law_draw => k_is)
    (case c_law_draw => k_is); (case k_law_draw => k_is); (case a_law_by_place => k_is); (case l_law_by_place => k_is); (case c_law_by_place => k_is); (case k_law_by_place => k_is)
    (case a_law_by_name => k_is); (case l_law_by_name => k_is); (case c_law_by_name => k_is); (case k_law_by_name => k_is); (case a_law_fields => k_is); (case l_law_fields => k_is)
    (case c_law_fields => k_is); (case k_law_fields => k_is); (case a_law_taken => k_is); (case l_law_taken => k_is); (case c_law_taken => k_is); (case k_law_taken => k_is)
    (case a_law_right => k_is); (case l_law_right => k_is); (case c_law_right => k_is); (case k_law_right => k_is); (case a_law => k_is); (case l_law => k_is)
    (case c_law => k_is); (case k_law => k_is)

