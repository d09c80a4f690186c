import PyProof.Rows.All
import HandS.ForMost
import HandS.IsInst
import HandS.Deep
import HandS.Zip
import HandS.TupAny
import HandS.Style
import KE.GoesEnum
import KE.DataFind
import HandS.SortRule
import HandS.SortInts
import KE.KDictKeyed
import KE.SortData
import KE.DatumOrd
import HandS.Conv
import PyProof.CollectWalk
import Wide.All
import OpenK.AllK
import Wide.FinOn
import PySem.Challenge.RW_roofsights_k05_whole_who_is_surely_highe
set_option Elab.async false
set_option linter.all false
set_option maxRecDepth 100000
set_option maxHeartbeats 2000000
/-! Data-level walks: Da (a value is such data), Ok (what a state is known to be), GE, GL, GT, GSs (what an expression, a test, a block does to it). -/
namespace G
open PySem PySem.Spec PyProof.Rows L2

def Ex (H H' : Hp) : Prop := ∀ a o, H a = some o → H' a = some o
theorem Ex.refl (H : Hp) : Ex H H := fun _ _ h => h
theorem Ex.trans {H H1 H2 : Hp} (a : Ex H H1) (b : Ex H1 H2) : Ex H H2 := fun x o h => b x o (a x o h)
theorem ex_rd {H H' : Hp} {a : Addr} {u : HO} (e : Ex H H') (h : Rd H a u) : Rd H' a u := by
  rcases h with h | ⟨o, h⟩
  · exact .inl (e a _ h)
  · exact .inr ⟨o, e a _ h⟩
theorem ex_l {K : PySem.W.Frag} {H H' : Hp} {a : Addr} {xs : List V} (e : Ex H H') (h : SqL K H a xs) : SqL K H' a xs := h.imp (ex_rd e) id
theorem ex_t {K : PySem.W.Frag} {H H' : Hp} {a : Addr} {xs : List V} (e : Ex H H') (h : H a = some (.tup xs)) : SqT K H' a xs := .of (e _ _ h)

/-! ### data -/
abbrev IK (kvs : List (Int × Int)) : List (Key × V) := kvs.map fun p => (Sum.inl p.1, V.int p.2)
abbrev TK (kvs : List ((Int × Int) × Int)) : List (List Key × V) := kvs.map fun p => ([Sum.inl p.1.1, Sum.inl p.1.2], V.int p.2)
abbrev dI (kvs : List (Int × Int)) : PyData := .dict (kvs.map fun p => (.int p.1, .int p.2))
mutual
inductive Da (K : PySem.W.Frag) (R : Hp) : V → PyData → Prop
  | non : Da K R .non .none
  | bl (b : Bool) : Da K R (.bl b) (.bool b)
  | int (i : Int) : Da K R (.int i) (.int i)
  | str (x : Str) : Da K R (.str x) (.str x)
  | lst {a : Addr} {xs : List V} {ds : List PyData} : SqL K R a xs → DaAll K R xs ds → Da K R (.ref a) (.list ds)
  | tup {a : Addr} {xs : List V} {ds : List PyData} : R a = some (.tup xs) → DaAll K R xs ds → Da K R (.ref a) (.tuple ds)
  | dic {a : Addr} {kvs : List (Int × Int)} : Rd R a (.dK (IK kvs)) → Da K R (.ref a) (dI kvs)
inductive DaAll (K : PySem.W.Frag) (R : Hp) : List V → List PyData → Prop
  | nil : DaAll K R [] []
  | cons {v : V} {vs : List V} {d : PyData} {ds : List PyData} : Da K R v d → DaAll K R vs ds → DaAll K R (v :: vs) (d :: ds)
end
section
variable {K : PySem.W.Frag} {R R' H : Hp}
mutual
theorem Da.mono (e : Ex R R') : ∀ {v : V} {d : PyData}, Da K R v d → Da K R' v d
  | _, _, .non => .non
  | _, _, .bl b => .bl b
  | _, _, .int i => .int i
  | _, _, .str x => .str x
  | _, _, .lst h a => .lst (ex_l e h) (DaAll.mono e a)
  | _, _, .tup h a => .tup (e _ _ h) (DaAll.mono e a)
  | _, _, .dic h => .dic (ex_rd e h)
theorem DaAll.mono (e : Ex R R') : ∀ {vs : List V} {ds : List PyData}, DaAll K R vs ds → DaAll K R' vs ds
  | _, _, .nil => .nil
  | _, _, .cons h a => .cons (Da.mono e h) (DaAll.mono e a)
end
mutual
theorem Da.dp (e : Ex R H) : ∀ {v : V} {d : PyData}, d.canLay0 = true → Da K R v d → Dp K H v d
  | _, _, _, .non => .non
  | _, _, _, .bl b => .bl b
  | _, _, _, .int i => .int i
  | _, _, _, .str x => .str x
  | _, _, c, .lst h a => .lst (ex_l e h) (DaAll.dp e (by simpa [PyData.canLay0] using c) a)
  | _, _, c, .tup h a => .tup (ex_t e h) (DaAll.dp e (by simpa [PyData.canLay0] using c) a)
  | _, _, c, .dic h => by simp [PyData.canLay0] at c
theorem DaAll.dp (e : Ex R H) : ∀ {vs : List V} {ds : List PyData}, PyData.canLayAll0 ds = true → DaAll K R vs ds → DpAll K H vs ds
  | _, _, _, .nil => .nil
  | _, _, c, .cons h a => by
    rw [PyData.canLayAll0, Bool.and_eq_true] at c
    exact .cons (Da.dp e c.1 h) (DaAll.dp e c.2 a)
end
theorem DaAll.length : ∀ {vs : List V} {ds : List PyData}, DaAll K R vs ds → vs.length = ds.length
  | _, _, .nil => rfl
  | _, _, .cons _ a => by simp [DaAll.length a]
theorem DaAll.get : ∀ {vs : List V} {ds : List PyData} {i : Nat} {d : PyData}, DaAll K R vs ds → ds[i]? = some d → ∃ v, vs[i]? = some v ∧ Da K R v d
  | _, _, _, _, .nil, e => by simp at e
  | _, _, 0, _, .cons h _, e => by simp at e; subst e; exact ⟨_, rfl, h⟩
  | _, _, i + 1, d, .cons _ a, e => by
    obtain ⟨v, h1, h2⟩ := DaAll.get (i := i) (d := d) a (by simpa using e)
    exact ⟨v, by simpa using h1, h2⟩
theorem DaAll.getV : ∀ {vs : List V} {ds : List PyData} {i : Nat} {v : V}, DaAll K R vs ds → vs[i]? = some v → ∃ d, ds[i]? = some d ∧ Da K R v d
  | _, _, _, _, .nil, e => by simp at e
  | _, _, 0, _, .cons h _, e => by simp at e; subst e; exact ⟨_, rfl, h⟩
  | _, _, i + 1, v, .cons _ a, e => by
    obtain ⟨d, h1, h2⟩ := DaAll.getV (i := i) (v := v) a (by simpa using e)
    exact ⟨d, by simpa using h1, h2⟩
theorem DaAll.append : ∀ {vs ws : List V} {ds es : List PyData}, DaAll K R vs ds → DaAll K R ws es → DaAll K R (vs ++ ws) (ds ++ es)
  | _, _, _, _, .nil, b => b
  | _, _, _, _, .cons h a, b => .cons h (DaAll.append a b)
theorem DaAll.set {v : V} {d : PyData} (h : Da K R v d) : ∀ {vs : List V} {ds : List PyData} (i : Nat), DaAll K R vs ds → DaAll K R (vs.set i v) (ds.set i d)
  | _, _, _, .nil => .nil
  | _, _, 0, .cons _ a => .cons h a
  | _, _, i + 1, .cons q a => .cons q (DaAll.set h i a)
theorem DaAll.take : ∀ {vs : List V} {ds : List PyData} (n : Nat), DaAll K R vs ds → DaAll K R (vs.take n) (ds.take n)
  | _, _, 0, _ => .nil
  | _, _, _ + 1, .nil => .nil
  | _, _, n + 1, .cons h a => .cons h (DaAll.take n a)
theorem DaAll.drop : ∀ {vs : List V} {ds : List PyData} (n : Nat), DaAll K R vs ds → DaAll K R (vs.drop n) (ds.drop n)
  | _, _, 0, a => a
  | _, _, _ + 1, .nil => .nil
  | _, _, n + 1, .cons _ a => DaAll.drop n a
theorem DaAll.eraseIdx : ∀ {vs : List V} {ds : List PyData} (n : Nat), DaAll K R vs ds → DaAll K R (vs.eraseIdx n) (ds.eraseIdx n)
  | _, _, _, .nil => .nil
  | _, _, 0, .cons _ a => a
  | _, _, n + 1, .cons h a => .cons h (DaAll.eraseIdx n a)
theorem DaAll.reverse {vs : List V} {ds : List PyData} (a : DaAll K R vs ds) : DaAll K R vs.reverse ds.reverse := by
  induction vs generalizing ds with
  | nil => cases a; exact .nil
  | cons v vs ih =>
    cases a with
    | cons h a =>
      rw [List.reverse_cons, List.reverse_cons]
      exact (ih a).append (.cons h .nil)
theorem DaAll.rep {vs : List V} {ds : List PyData} (a : DaAll K R vs ds) : ∀ n : Nat, DaAll K R (List.replicate n vs).flatten (List.replicate n ds).flatten
  | 0 => .nil
  | n + 1 => by
    rw [List.replicate_succ, List.replicate_succ, List.flatten_cons, List.flatten_cons]
    exact a.append (DaAll.rep a n)
theorem DaAll.ints : ∀ {vs : List V} {ns : List Int}, DaAll K R vs (ns.map .int) → vs = ns.map V.int
  | _, [], .nil => rfl
  | _, n :: ns, .cons h a => by
    cases h
    rw [List.map_cons, DaAll.ints a]
theorem DaAll.bls : ∀ {vs : List V} {ns : List Bool}, DaAll K R vs (ns.map .bool) → vs = ns.map V.bl
  | _, [], .nil => rfl
  | _, n :: ns, .cons h a => by
    cases h
    rw [List.map_cons, DaAll.bls a]
theorem DaAll.of_ints (K : PySem.W.Frag) (R : Hp) : ∀ ns : List Int, DaAll K R (ns.map V.int) (ns.map .int)
  | [] => .nil
  | n :: ns => .cons (.int n) (DaAll.of_ints K R ns)
end
def scal : PyData → Bool
  | .none => true
  | .bool _ => true
  | .int _ => true
  | .str _ => true
  | _ => false
theorem Da.scal {K : PySem.W.Frag} {R R' : Hp} {v : V} {d : PyData} (h : Da K R v d) (s : G.scal d = true) : Da K R' v d := by
  cases h with
  | non => exact .non
  | bl b => exact .bl b
  | int i => exact .int i
  | str x => exact .str x
  | lst _ _ => cases s
  | tup _ _ => cases s
  | dic _ => cases s

/-! ### what a state is known to be -/
/-- what stands at an owned address: a list, a dict of pairs, a dict of ints -/
inductive Cn where
  | L (ds : List PyData)
  | T (kvs : List ((Int × Int) × Int))
  | I (kvs : List (Int × Int))
  /-- any other object, with the values that it holds -/
  | E (o : HO) (vs : List V) (ds : List PyData)
abbrev Own := List (Addr × Cn)
/-- a slot: not known, shared data, an owned object -/
inductive Sl where
  | no
  | sh (d : PyData)
  | ow (l : Addr)
def CnOk (K : PySem.W.Frag) (R H : Hp) (l : Addr) : Cn → Prop
  | .L ds => ∃ vs, H l = some (.lst vs) ∧ DaAll K R vs ds
  | .T kvs => H l = some (.dT (TK kvs))
  | .I kvs => H l = some (.dK (IK kvs))
  | .E o vs ds => H l = some o ∧ DaAll K R vs ds
theorem CnOk.some {K : PySem.W.Frag} {R H : Hp} {l : Addr} {c : Cn} (h : CnOk K R H l c) : ∃ o, H l = some o := by
  cases c with
  | L ds => obtain ⟨vs, h, _⟩ := h; exact ⟨_, h⟩
  | T kvs => exact ⟨_, h⟩
  | I kvs => exact ⟨_, h⟩
  | E o vs ds => exact ⟨_, h.1⟩
theorem CnOk.mono {K : PySem.W.Frag} {R R' H H' : Hp} {l : Addr} {c : Cn} (h : CnOk K R H l c) (e : Ex R R') (q : H' l = H l) : CnOk K R' H' l c := by
  cases c with
  | L ds => obtain ⟨vs, h, a⟩ := h; exact ⟨vs, q.trans h, a.mono e⟩
  | T kvs => exact q.trans h
  | I kvs => exact q.trans h
  | E o vs ds => exact ⟨q.trans h.1, h.2.mono e⟩
def VlOk (K : PySem.W.Frag) (R : Hp) : Sl → V → Prop
  | .no, _ => True
  | .sh d, v => Da K R v d
  | .ow l, v => v = .ref l
def SlOk (K : PySem.W.Frag) (R : Hp) : Sl → Option V → Prop
  | .no, _ => True
  | _, none => False
  | s, some v => VlOk K R s v
theorem VlOk.mono {K : PySem.W.Frag} {R R' : Hp} {s : Sl} {v : V} (h : VlOk K R s v) (e : Ex R R') : VlOk K R' s v := by
  cases s with
  | no => trivial
  | sh d => exact Da.mono e h
  | ow l => exact h
theorem SlOk.mono {K : PySem.W.Frag} {R R' : Hp} {s : Sl} {v : Option V} (h : SlOk K R s v) (e : Ex R R') : SlOk K R' s v := by
  cases s with
  | no => trivial
  | sh d => cases v with
    | none => exact h
    | some v => exact Da.mono e h
  | ow l => cases v with
    | none => exact h
    | some v => exact h
theorem SlOk.of {K : PySem.W.Frag} {R : Hp} {s : Sl} {v : V} (h : VlOk K R s v) : SlOk K R s (some v) := by
  cases s with
  | no => trivial
  | sh d => exact h
  | ow l => exact h
structure Base where
  R0 : Hp
  H0 : Hp
  lent : List Addr
structure Ok (K : PySem.W.Frag) (B : Base) (Γ : List Sl) (O : Own) (σ : L2.St) (R H : Hp) : Prop where
  sub : Ex R H
  r0 : Ex B.R0 R
  fr : ∀ a o, R a = some o → B.R0 a = some o ∨ B.H0 a = none ∨ a ∈ B.lent
  keep : ∀ a o, B.H0 a = some o → a ∉ B.lent → H a = some o
  len : ∀ a ∈ B.lent, H a ≠ none
  sl : Paired (SlOk K R) Γ σ
  own : ∀ p ∈ O, CnOk K R H p.1 p.2 ∧ R p.1 = none ∧ (p.1 ∈ B.lent ∨ B.H0 p.1 = none)
  nd : (O.map (·.1)).Nodup
/-- nothing changes, something new -/
structure Grow (R H R' H' : Hp) : Prop where
  r : Ex R R'
  h : Ex H H'
  sub : Ex R' H'
  new : ∀ a o, R' a = some o → R a = some o ∨ H a = none
theorem Grow.refl {R H : Hp} (s : Ex R H) : Grow R H R H := ⟨.refl _, .refl _, s, fun _ _ h => .inl h⟩
theorem Ex.new {H : Hp} {p : Addr} {o : HO} (h : H p = none) : Ex H (upd H p o) := fun a u e => by
  rw [upd_ne (ne_of_none e h)]
  exact e
theorem ex_none {R H : Hp} {p : Addr} (e : Ex R H) (h : H p = none) : R p = none := by
  cases q : R p with
  | none => rfl
  | some o => rw [e p o q] at h; cases h
theorem Grow.made {R H : Hp} {p : Addr} {o : HO} (s : Ex R H) (h : H p = none) : Grow R H (upd R p o) (upd H p o) where
  r := .new (ex_none s h)
  h := .new h
  sub := fun a u e => by
    by_cases q : a = p
    · subst q; rw [upd_same] at e; rw [upd_same]; exact e
    · rw [upd_ne q] at e; rw [upd_ne q]; exact s a u e
  new := fun a u e => by
    by_cases q : a = p
    · subst q; exact .inr h
    · rw [upd_ne q] at e; exact .inl e
theorem Grow.trans {R H R1 H1 R2 H2 : Hp} (a : Grow R H R1 H1) (b : Grow R1 H1 R2 H2) : Grow R H R2 H2 where
  r := a.r.trans b.r
  h := a.h.trans b.h
  sub := b.sub
  new := fun c o e => by
    rcases b.new c o e with q | q
    · exact a.new c o q
    · exact .inr (ex_none a.h q)
/-- an address of H alone grows too (garbage) -/
theorem Grow.junk {R H H' : Hp} (s : Ex R H) (h : Ex H H') : Grow R H R H' := ⟨.refl _, h, s.trans h, fun _ _ q => .inl q⟩
/-- what is new and not yet told is told -/
theorem Grow.thaw {R H R' H' : Hp} {p : Addr} {o : HO} (g : Grow R H R' H') (e2 : R' p = none) (e3 : H p = none) (e4 : H' p = some o) : Grow R H (upd R' p o) H' where
  r := g.r.trans (.new e2)
  h := g.h
  sub := fun a u e => by
    by_cases q : a = p
    · subst q; rw [upd_same] at e; rw [e4]; exact e
    · rw [upd_ne q] at e; exact g.sub a u e
  new := fun a u e => by
    by_cases q : a = p
    · subst q; exact .inr e3
    · rw [upd_ne q] at e; exact g.new a u e
/-- what is new and not told changes -/
theorem Grow.mut {R H R' H' : Hp} {p : Addr} {o : HO} (g : Grow R H R' H') (e2 : R' p = none) (e3 : H p = none) : Grow R H R' (upd H' p o) where
  r := g.r
  h := fun a u e => by
    rw [upd_ne (ne_of_none e e3)]
    exact g.h a u e
  sub := fun a u e => by
    rw [upd_ne (ne_of_none e e2)]
    exact g.sub a u e
  new := g.new
section
variable {K : PySem.W.Frag} {B : Base} {Γ Γ' : List Sl} {O O' : Own} {σ : L2.St} {R H R' H' : Hp}
theorem Ok.grow (k : Ok K B Γ O σ R H) (g : Grow R H R' H') : Ok K B Γ O σ R' H' where
  sub := g.sub
  r0 := k.r0.trans g.r
  fr := fun a o e => by
    rcases g.new a o e with q | q
    · exact k.fr a o q
    · by_cases l : a ∈ B.lent
      · exact .inr (.inr l)
      · refine .inr (.inl ?_)
        cases z : B.H0 a with
        | none => rfl
        | some u => rw [k.keep a u z l] at q; cases q
  keep := fun a o e n => g.h a o (k.keep a o e n)
  len := fun a l q => k.len a l (ex_none g.h q)
  sl := Paired.mapP k.sl fun _ _ h => h.mono g.r
  own := fun p hp => by
    obtain ⟨c, r, l⟩ := k.own p hp
    obtain ⟨o, ho⟩ := c.some
    refine ⟨c.mono g.r ((g.h _ _ ho).trans ho.symm), ?_, l⟩
    cases q : R' p.1 with
    | none => rfl
    | some u =>
      rcases g.new _ _ q with z | z
      · rw [r] at z; cases z
      · rw [ho] at z; cases z
  nd := k.nd
theorem Paired.get {α β : Type} {F : α → β → Prop} : ∀ {l : List α} {m : List β} {i : Nat} {a : α}, Paired F l m → l[i]? = some a → ∃ b, m[i]? = some b ∧ F a b
  | _, _, _, _, .nil, e => by simp at e
  | _, _, 0, _, .cons h _, e => by simp at e; subst e; exact ⟨_, rfl, h⟩
  | _, _, i + 1, a, .cons _ t, e => by
    obtain ⟨b, h1, h2⟩ := Paired.get (i := i) (a := a) t (by simpa using e)
    exact ⟨b, by simpa using h1, h2⟩
theorem Paired.set {α β : Type} {F : α → β → Prop} {a : α} {b : β} (h : F a b) : ∀ {l : List α} {m : List β} (i : Nat), Paired F l m → Paired F (l.set i a) (m.set i b)
  | _, _, _, .nil => .nil
  | _, _, 0, .cons _ t => .cons h t
  | _, _, i + 1, .cons q t => .cons q (Paired.set h i t)
theorem Ok.set (k : Ok K B Γ O σ R H) {s : Sl} {v : V} (i : Nat) (h : VlOk K R s v) : Ok K B (Γ.set i s) O (σ.set i (some v)) R H :=
  ⟨k.sub, k.r0, k.fr, k.keep, k.len, Paired.set (SlOk.of h) i k.sl, k.own, k.nd⟩
/-- what a slot holds -/
theorem Ok.get (k : Ok K B Γ O σ R H) {i : Nat} {d : PyData} (h : Γ[i]? = some (.sh d)) : ∃ v, σ[i]? = some (some v) ∧ Da K R v d := by
  obtain ⟨b, h1, h2⟩ := Paired.get k.sl h
  cases b with
  | none => exact False.elim h2
  | some v => exact ⟨v, h1, h2⟩
theorem Ok.getO (k : Ok K B Γ O σ R H) {i : Nat} {l : Addr} (h : Γ[i]? = some (.ow l)) : σ[i]? = some (some (.ref l)) := by
  obtain ⟨b, h1, h2⟩ := Paired.get k.sl h
  cases b with
  | none => exact False.elim h2
  | some v =>
    have e : v = .ref l := h2
    rw [← e]
    exact h1
/-- less is known -/
inductive Wk : List Sl → List Sl → Prop
  | nil : Wk [] []
  | same {s : Sl} {l m : List Sl} : Wk l m → Wk (s :: l) (s :: m)
  | no {s : Sl} {l m : List Sl} : Wk l m → Wk (s :: l) (.no :: m)
theorem Wk.ok : ∀ {Γ Γ' : List Sl} {σ : L2.St}, Wk Γ Γ' → Paired (SlOk K R) Γ σ → Paired (SlOk K R) Γ' σ
  | _, _, _, .nil, .nil => .nil
  | _, _, _, .same w, .cons h t => .cons h (Wk.ok w t)
  | _, _, _, .no w, .cons h t => .cons trivial (Wk.ok w t)
theorem Wk.refl : ∀ Γ : List Sl, Wk Γ Γ
  | [] => .nil
  | _ :: Γ => .same (Wk.refl Γ)
theorem Ok.weak (k : Ok K B Γ O σ R H) (w : Wk Γ Γ') : Ok K B Γ' O σ R H := ⟨k.sub, k.r0, k.fr, k.keep, k.len, w.ok k.sl, k.own, k.nd⟩
theorem Ok.drop (k : Ok K B Γ O σ R H) (s : O'.Sublist O) : Ok K B Γ O' σ R H :=
  ⟨k.sub, k.r0, k.fr, k.keep, k.len, k.sl, fun p hp => k.own p (s.subset hp), (s.map _).nodup k.nd⟩
/-- from here on -/
def now (R H : Hp) (O : Own) : Base := ⟨R, H, O.map (·.1)⟩
theorem Ok.now (k : Ok K B Γ O σ R H) : Ok K (G.now R H O) Γ O σ R H where
  sub := k.sub
  r0 := .refl _
  fr := fun a o e => .inl e
  keep := fun a o e _ => e
  len := fun a l q => by
    obtain ⟨p, hp, rfl⟩ := List.mem_map.mp l
    obtain ⟨o, ho⟩ := (k.own p hp).1.some
    rw [q] at ho; cases ho
  sl := k.sl
  own := fun p hp => ⟨(k.own p hp).1, (k.own p hp).2.1, .inl (List.mem_map.mpr ⟨p, hp, rfl⟩)⟩
  nd := k.nd
/-- behind what was done with a part of the owned objects: the others stand as they stood -/
theorem Ok.back {F : Own} (k : Ok K B Γ (O ++ F) σ R H) (k2 : Ok K (G.now R H O) Γ' O' σ' R' H') : Ok K B Γ' (O' ++ F) σ' R' H' := by
  have nd := k.nd
  rw [List.map_append, List.nodup_append] at nd
  have fO : ∀ p ∈ F, p.1 ∉ O.map (·.1) := fun p hp h => nd.2.2 _ h _ (List.mem_map.mpr ⟨p, hp, rfl⟩) rfl
  have inF : ∀ p ∈ F, p ∈ O ++ F := fun p hp => List.mem_append_right _ hp
  have inO : ∀ a, a ∈ O.map (·.1) → (a ∈ B.lent ∨ B.H0 a = none) ∧ R a = none := fun a h => by
    obtain ⟨p, hp, rfl⟩ := List.mem_map.mp h
    have q := k.own p (List.mem_append_left _ hp)
    exact ⟨q.2.2, q.2.1⟩
  have hF : ∀ p ∈ F, H' p.1 = H p.1 := fun p hp => by
    obtain ⟨o, ho⟩ := (k.own p (inF p hp)).1.some
    rw [ho]
    exact k2.keep _ _ ho (fO p hp)
  have RF : ∀ p ∈ F, R' p.1 = none := fun p hp => by
    cases q : R' p.1 with
    | none => rfl
    | some u =>
      obtain ⟨o, ho⟩ := (k.own p (inF p hp)).1.some
      rcases k2.fr _ _ q with z | z | z
      · have z : R p.1 = some u := z
        rw [(k.own p (inF p hp)).2.1] at z; cases z
      · have z : H p.1 = none := z
        rw [ho] at z; cases z
      · exact absurd z (fO p hp)
  have keepB : ∀ a o, B.H0 a = some o → a ∉ B.lent → H' a = some o := fun a o e n => by
    refine k2.keep a o (k.keep a o e n) fun m => ?_
    rcases (inO a m).1 with z | z
    · exact n z
    · rw [e] at z; cases z
  have lenB : ∀ a ∈ B.lent, H' a ≠ none := fun a l q => by
    cases z : H a with
    | none => exact k.len a l z
    | some o =>
      by_cases m : a ∈ O.map (·.1)
      · exact k2.len a m q
      · rw [k2.keep a o z m] at q; cases q
  have hNew : ∀ a, H a = none → a ∈ B.lent ∨ B.H0 a = none := fun a z => by
    cases y : B.H0 a with
    | none => exact .inr rfl
    | some u =>
      by_cases l : a ∈ B.lent
      · exact .inl l
      · rw [k.keep a u y l] at z; cases z
  refine ⟨k2.sub, k.r0.trans k2.r0, fun a o e => ?_, keepB, lenB, k2.sl, fun p hp => ?_, ?_⟩
  · rcases k2.fr a o e with z | z | z
    · exact k.fr a o z
    · rcases hNew a z with q | q
      · exact .inr (.inr q)
      · exact .inr (.inl q)
    · rcases (inO a z).1 with q | q
      · exact .inr (.inr q)
      · exact .inr (.inl q)
  · rcases List.mem_append.mp hp with hp | hp
    · obtain ⟨c, r, l⟩ := k2.own p hp
      refine ⟨c, r, ?_⟩
      rcases l with z | z
      · exact (inO _ z).1
      · exact hNew _ z
    · obtain ⟨c, r, l⟩ := k.own p (inF p hp)
      exact ⟨c.mono k2.r0 (hF p hp), RF p hp, l⟩
  · rw [List.map_append, List.nodup_append]
    refine ⟨k2.nd, nd.2.1, fun a h1 b h2 e => ?_⟩
    subst e
    obtain ⟨p, hp, e⟩ := List.mem_map.mp h2
    obtain ⟨q, hq, e2⟩ := List.mem_map.mp h1
    have l := (k2.own q hq).2.2
    rw [e2] at l
    rcases l with z | z
    · exact fO p hp (by rw [e]; exact z)
    · obtain ⟨o, ho⟩ := (k.own p (inF p hp)).1.some
      have z : H a = none := z
      rw [← e] at z
      rw [ho] at z; cases z
end
end G

set_option Elab.async false
set_option linter.all false
set_option maxRecDepth 100000
set_option maxHeartbeats 2000000
namespace G
open PySem PySem.Spec L2
open PyProof.Rows (chain_last test_last chain_link test_link ite_ff ite_tt room_in_shaped)

/-! ### the readings as they are -/
def RE (X : Cx) (e : Expr) : TE := fun σ H Q => ∀ (pins : List (Addr × Obj)) (s : Shared), Inv X pins σ H s → wpAny (model X.prog X.w) X.A (eval e X.env) (EP X pins σ Q) X.xe s
def RT (X : Cx) (e : Expr) : TT := fun σ H Q => ∀ (pins : List (Addr × Obj)) (s : Shared), Inv X pins σ H s → wpAny (model X.prog X.w) X.A (isTrue e X.env (eval e X.env)) (TP X pins σ Q) X.xe s
def RA (X : Cx) (es : List Expr) : TA := fun σ H Q => ∀ (pos : Pos) (pins : List (Addr × Obj)) (s : Shared), Inv X pins σ H s → wpAny (model X.prog X.w) X.A (spliced (backTo pos (starEach es X.env))) (AP X pins σ Q) X.xe s
def RI (X : Cx) (tg iter : Expr) : TI := fun σ H R => ∀ (pins : List (Addr × Obj)) (s : Shared), Inv X pins σ H s → wpAny (model X.prog X.w) X.A (eval iter X.env) (fun v s1 => wpAny (model X.prog X.w) X.A (pyIter v) (PIE X pins σ tg R) X.xe s1) X.xe s
def RG (X : Cx) (tg : Expr) : TG := fun v σ H Q => ∀ (pins : List (Addr × Obj)) (s : Shared) (u : Value), Inv X pins σ H s → RelV v u → wpAny (model X.prog X.w) X.A (assign tg X.env u) (fun _ s' => ∃ σ' H', Inv X pins σ' H' s' ∧ Q σ' H') X.xe s
def RGs (X : Cx) (ts : List Expr) : TGs := fun vs σ H Q => ∀ (pins : List (Addr × Obj)) (s : Shared) (us : List Value), Inv X pins σ H s → Vals vs us → wpAny (model X.prog X.w) X.A (assignInOrder ((assignEach ts X.env).map (·.2)) us) (fun _ s' => ∃ σ' H', Inv X pins σ' H' s' ∧ Q σ' H') X.xe s
def RS (X : Cx) (st : Stmt) : TS := fun D σ H => ∀ (pins : List (Addr × Obj)) (s : Shared), Inv X pins σ H s → wpAny (model X.prog X.w) X.A (exec st X.env) (SP X pins D) X.xe s
def RSs (X : Cx) (st : List Stmt) : TS := fun D σ H => ∀ (pins : List (Addr × Obj)) (s : Shared), Inv X pins σ H s → wpAny (model X.prog X.w) X.A (execs st X.env) (SP X pins D) X.xe s
def RPo (X : Cx) (e : Option Expr) : TO := fun σ H Q => ∀ (t : TO), PO X e t → t σ H Q
section
variable {X : Cx} {σ : L2.St} {H : Hp}
theorem pe_re {e : Expr} : PE X e (RE X e) := ⟨fun pins s _ _ _ I h => h pins s I⟩
theorem pt_re {e : Expr} : PT X e (RT X e) := ⟨fun pins s _ _ _ I h => h pins s I⟩
theorem pa_re {es : List Expr} : PA X es (RA X es) := ⟨fun pos pins s _ _ _ I h => h pos pins s I⟩
theorem pi_re {tg iter : Expr} : PI X tg iter (RI X tg iter) := ⟨fun pins s _ _ _ I h => h pins s I⟩
theorem pg_re {tg : Expr} : PG X tg (RG X tg) := ⟨fun pins s _ _ _ u _ I r h => h pins s u I r⟩
theorem pgs_re {ts : List Expr} : PGs X ts (RGs X ts) := ⟨fun pins s _ _ _ us _ I r h => h pins s us I r⟩
theorem ps_re {st : Stmt} : PS X st (RS X st) := ⟨fun pins s _ _ _ I h => h pins s I⟩
theorem pss_re {st : List Stmt} : PSs X st (RSs X st) := ⟨fun pins s _ _ _ I h => h pins s I⟩
theorem _root_.L2.PE.re {e : Expr} {t : TE} (h : PE X e t) {Q : VK} (q : t σ H Q) : RE X e σ H Q := fun pins s I => h.run pins s σ H Q I q
theorem _root_.L2.PT.re {e : Expr} {t : TT} (h : PT X e t) {Q : Bool → Hp → Prop} (q : t σ H Q) : RT X e σ H Q := fun pins s I => h.run pins s σ H Q I q
theorem _root_.L2.PA.re {e : List Expr} {t : TA} (h : PA X e t) {Q : List V → Hp → Prop} (q : t σ H Q) : RA X e σ H Q := fun pos pins s I => h.run pos pins s σ H Q I q
theorem _root_.L2.PI.re {tg e : Expr} {t : TI} (h : PI X tg e t) {Q : It → Hp → Prop} (q : t σ H Q) : RI X tg e σ H Q := fun pins s I => h.run pins s σ H Q I q
theorem _root_.L2.PG.re {tg : Expr} {t : TG} (h : PG X tg t) {v : V} {Q : L2.St → Hp → Prop} (q : t v σ H Q) : RG X tg v σ H Q := fun pins s u I r => h.run pins s σ H v u Q I r q
theorem _root_.L2.PGs.re {ts : List Expr} {t : TGs} (h : PGs X ts t) {vs : List V} {Q : L2.St → Hp → Prop} (q : t vs σ H Q) : RGs X ts vs σ H Q := fun pins s us I r => h.run pins s σ H vs us Q I r q
theorem _root_.L2.PS.re {st : Stmt} {t : TS} (h : PS X st t) {D : Ends} (q : t D σ H) : RS X st D σ H := fun pins s I => h.run pins s σ H D I q
theorem _root_.L2.PSs.re {st : List Stmt} {t : TS} (h : PSs X st t) {D : Ends} (q : t D σ H) : RSs X st D σ H := fun pins s I => h.run pins s σ H D I q
theorem RE.mono {e : Expr} {Q Q' : VK} (h : RE X e σ H Q) (k : ∀ v H', Q v H' → Q' v H') : RE X e σ H Q' := fun pins s I => thn (h pins s I) fun _ _ ⟨v, H', I', r, q⟩ => ⟨v, H', I', r, k _ _ q⟩
theorem RT.mono {e : Expr} {Q Q' : Bool → Hp → Prop} (h : RT X e σ H Q) (k : ∀ v H', Q v H' → Q' v H') : RT X e σ H Q' := fun pins s I => thn (h pins s I) fun _ _ ⟨H', I', q⟩ => ⟨H', I', k _ _ q⟩
theorem RA.mono {e : List Expr} {Q Q' : List V → Hp → Prop} (h : RA X e σ H Q) (k : ∀ v H', Q v H' → Q' v H') : RA X e σ H Q' := fun pos pins s I => thn (h pos pins s I) fun _ _ ⟨v, H', I', r, q⟩ => ⟨v, H', I', r, k _ _ q⟩
theorem RI.mono {tg e : Expr} {Q Q' : It → Hp → Prop} (h : RI X tg e σ H Q) (k : ∀ v H', Q v H' → Q' v H') : RI X tg e σ H Q' := fun pins s I => thn (h pins s I) fun _ _ h2 => thn h2 fun _ _ ⟨it, fp, tn, J, H', e, I', T, t0, f, q⟩ => ⟨it, fp, tn, J, H', e, I', T, t0, f, k _ _ q⟩
theorem RG.mono {tg : Expr} {v : V} {Q Q' : L2.St → Hp → Prop} (h : RG X tg v σ H Q) (k : ∀ σ' H', Q σ' H' → Q' σ' H') : RG X tg v σ H Q' := fun pins s u I r => thn (h pins s u I r) fun _ _ ⟨σ', H', I', q⟩ => ⟨σ', H', I', k _ _ q⟩
theorem RGs.mono {tg : List Expr} {v : List V} {Q Q' : L2.St → Hp → Prop} (h : RGs X tg v σ H Q) (k : ∀ σ' H', Q σ' H' → Q' σ' H') : RGs X tg v σ H Q' := fun pins s u I r => thn (h pins s u I r) fun _ _ ⟨σ', H', I', q⟩ => ⟨σ', H', I', k _ _ q⟩
structure Ends.Le (D D' : Ends) : Prop where
  nx : ∀ σ H, D.nx σ H → D'.nx σ H
  rt : ∀ v H, D.rt v H → D'.rt v H
  bk : ∀ σ H, D.bk σ H → D'.bk σ H
  ct : ∀ σ H, D.ct σ H → D'.ct σ H
theorem SP.mono {pins : List (Addr × Obj)} {D D' : Ends} (l : Ends.Le D D') {f : Flow} {s : Shared} (h : SP X pins D f s) : SP X pins D' f s := by
  cases f with
  | next => obtain ⟨σ, H, I, q⟩ := h; exact ⟨σ, H, I, l.nx _ _ q⟩
  | brk => obtain ⟨σ, H, I, q⟩ := h; exact ⟨σ, H, I, l.bk _ _ q⟩
  | cont => obtain ⟨σ, H, I, q⟩ := h; exact ⟨σ, H, I, l.ct _ _ q⟩
  | ret u => obtain ⟨v, σ, H, I, r, q⟩ := h; exact ⟨v, σ, H, I, r, l.rt _ _ q⟩
theorem RS.mono {st : Stmt} {D D' : Ends} (h : RS X st D σ H) (l : Ends.Le D D') : RS X st D' σ H := fun pins s I => thn (h pins s I) fun _ _ q => SP.mono l q
theorem RSs.mono {st : List Stmt} {D D' : Ends} (h : RSs X st D σ H) (l : Ends.Le D D') : RSs X st D' σ H := fun pins s I => thn (h pins s I) fun _ _ q => SP.mono l q
end

/-! ### pure things: a value that denotes such data, nothing changed -/
structure GP (X : Cx) (Γ : List Sl) (e : Expr) (d : PyData) : Prop where
  run : ∀ σ R H, Ex R H → Paired (SlOk X.K R) Γ σ → RE X e σ H fun v H' => ∃ R', Grow R H R' H' ∧ Da X.K R' v d
structure GTP (X : Cx) (Γ : List Sl) (e : Expr) (b : Bool) : Prop where
  run : ∀ σ R H, Ex R H → Paired (SlOk X.K R) Γ σ → RT X e σ H fun c H' => ∃ R', Grow R H R' H' ∧ c = b
structure GPA (X : Cx) (Γ : List Sl) (es : List Expr) (ds : List PyData) : Prop where
  run : ∀ σ R H, Ex R H → Paired (SlOk X.K R) Γ σ → RA X es σ H fun vs H' => ∃ R', Grow R H R' H' ∧ DaAll X.K R' vs ds
/-- a new list -/
structure GLP (X : Cx) (Γ : List Sl) (e : Expr) (ds : List PyData) : Prop where
  run : ∀ σ R H, Ex R H → Paired (SlOk X.K R) Γ σ → RE X e σ H fun v H' => ∃ R' p vs, Grow R H R' H' ∧ v = .ref p ∧ R' p = none ∧ H p = none ∧ H' p = some (.lst vs) ∧ DaAll X.K R' vs ds
section
variable {X : Cx} {Γ : List Sl} {a b c e : Expr} {d d1 d2 : PyData} {pos : Pos}
theorem slots_mono {K : PySem.W.Frag} {R R' : Hp} (g : Ex R R') {σ : L2.St} (h : Paired (SlOk K R) Γ σ) : Paired (SlOk K R') Γ σ := Paired.mapP h fun _ _ q => q.mono g
theorem GP.is {d d' : PyData} (h : GP X Γ e d) (q : d = d') : GP X Γ e d' := q ▸ h
theorem GTP.is {d d' : Bool} (h : GTP X Γ e d) (q : d = d') : GTP X Γ e d' := q ▸ h
theorem gp_of_glp {ds : List PyData} (h : GLP X Γ e ds) : GP X Γ e (.list ds) := ⟨fun σ R H s k => (h.run σ R H s k).mono fun v H' ⟨R', p, vs, g, e1, e2, e3, e4, a⟩ => by
  subst e1
  exact ⟨upd R' p (.lst vs), g.thaw e2 e3 e4, .lst (.of upd_same) (a.mono (.new e2))⟩⟩
theorem newl {K : PySem.W.Frag} {R H : Hp} {vs : List V} {ds : List PyData} {p : Addr} (s : Ex R H) (hp : H p = none) (a : DaAll K R vs ds) : Grow R H R (upd H p (.lst vs)) ∧ R p = none ∧ H p = none ∧ (upd H p (.lst vs)) p = some (.lst vs) ∧ DaAll K R vs ds :=
  ⟨Grow.junk s (.new hp), ex_none s hp, hp, upd_same, a⟩
theorem gp_name (i : Nat) {x : Str} (h : Γ[i]? = some (.sh d)) (hN : X.N[i]? = some x := by rfl) (hv : Vis X.env.scope x := by first | exact Or.inl rfl | exact Or.inr (Or.inl rfl) | exact Or.inr (Or.inr rfl)) (hd : (x == ("__debug__" : Str)) = false := by decide)
    (hcd : (x == ("__classdict__" : Str)) = false := by decide) : GP X Γ (.Name x pos) d := ⟨fun σ R H s k => by
  obtain ⟨u, h1, h2⟩ := Paired.get k h
  cases u with
  | none => exact False.elim h2
  | some v => exact (pe_var hN hv hd hcd).re ⟨v, h1, R, Grow.refl s, h2⟩⟩
theorem gp_int {i : Int} {j : Nat} : GP X Γ (.Constant (.int i) j pos) (.int i) := ⟨fun σ R H s k => pe_int.re ⟨R, Grow.refl s, .int i⟩⟩
theorem gp_bl {i : Bool} {j : Nat} : GP X Γ (.Constant (.bool i) j pos) (.bool i) := ⟨fun σ R H s k => pe_bl.re ⟨R, Grow.refl s, .bl i⟩⟩
theorem gp_non {j : Nat} : GP X Γ (.Constant .none j pos) .none := ⟨fun σ R H s k => pe_non.re ⟨R, Grow.refl s, .non⟩⟩
theorem gp_str {x : Str} {j : Nat} : GP X Γ (.Constant (.str x) j pos) (.str x) := ⟨fun σ R H s k => pe_str.re ⟨R, Grow.refl s, .str x⟩⟩
theorem gp_glob {x : Str} {n : Int} {u : Value} (hg : Gl X x) (hm : X.mg x = some u) (r : RelV (.int n) u) (hd : (x == ("__debug__" : Str)) = false := by decide) : GP X Γ (.Name x pos) (.int n) := ⟨fun σ R H s k => (pe_glob hg hm r hd).re ⟨R, Grow.refl s, .int n⟩⟩

/-! ### operators -/
def OpP (K : PySem.W.Frag) (r : R2) (d1 d2 d : PyData) : Prop := ∀ R H x y, Ex R H → Da K R x d1 → Da K R y d2 → ∀ Q : VK, (∀ v R' H', Grow R H R' H' → Da K R' v d → Q v H') → r x y H Q
def UnP (K : PySem.W.Frag) (r : V → Hp → VK → Prop) (d1 d : PyData) : Prop := ∀ R H x, Ex R H → Da K R x d1 → ∀ Q : VK, (∀ v R' H', Grow R H R' H' → Da K R' v d → Q v H') → r x H Q
def CallP (K : PySem.W.Frag) (r : List V → Hp → VK → Prop) (ds : List PyData) (d : PyData) : Prop := ∀ R H vs, Ex R H → DaAll K R vs ds → ∀ Q : VK, (∀ v R' H', Grow R H R' H' → Da K R' v d → Q v H') → r vs H Q
def CallLP (K : PySem.W.Frag) (r : List V → Hp → VK → Prop) (ds es : List PyData) : Prop := ∀ R H vs, Ex R H → DaAll K R vs ds → ∀ Q : VK, (∀ p us, H p = none → DaAll K R us es → us.length ≤ sizeLine → Q (.ref p) (upd H p (.lst us))) → r vs H Q
theorem gp_two {r : R2} {e : Expr} (he : ∀ {ta tb : TE}, PE X a ta → PE X b tb → PE X e (tOp r ta tb)) (ha : GP X Γ a d1) (hb : GP X Γ b d2) (hr : OpP X.K r d1 d2 d) : GP X Γ e d := ⟨fun σ R H s k =>
  (he pe_re pe_re).re ((ha.run σ R H s k).mono fun x H1 ⟨R1, g1, x1⟩ => (hb.run σ R1 H1 g1.sub (slots_mono g1.r k)).mono fun y H2 ⟨R2, g2, y2⟩ =>
    hr R2 H2 x y g2.sub (x1.mono g2.r) y2 _ fun v R3 H3 g dv => ⟨R3, (g1.trans g2).trans g, dv⟩)⟩
theorem gp_bin {op : Operator} {r : R2} (ho : OpR X (binaryOp op) r) (ha : GP X Γ a d1) (hb : GP X Γ b d2) (hr : OpP X.K r d1 d2 d) : GP X Γ (.BinOp a op b pos) d := gp_two (pe_op ho) ha hb hr
theorem opP_I0 {K : PySem.W.Frag} {g : Int → Int → Int} {i j : Int} : OpP K (rI0 fun i j => .int (g i j)) (.int i) (.int j) (.int (g i j)) := fun R H x y s hx hy Q q => by
  cases hx
  cases hy
  exact ⟨i, j, rfl, rfl, q _ R H (Grow.refl s) (.int _)⟩
theorem opP_I {K : PySem.W.Frag} {C : Int → Int → Prop} {g : Int → Int → Int} {i j : Int} (hc : C i j) : OpP K (rI C fun i j => .int (g i j)) (.int i) (.int j) (.int (g i j)) := fun R H x y s hx hy Q q => by
  cases hx
  cases hy
  exact ⟨i, j, rfl, rfl, hc, q _ R H (Grow.refl s) (.int _)⟩
variable {i j : Int}
theorem gp_add (ha : GP X Γ a (.int i)) (hb : GP X Γ b (.int j)) : GP X Γ (.BinOp a .Add b pos) (.int (i + j)) := gp_bin op_add ha hb opP_I0
theorem gp_sub (ha : GP X Γ a (.int i)) (hb : GP X Γ b (.int j)) : GP X Γ (.BinOp a .Sub b pos) (.int (i - j)) := gp_bin op_sub ha hb opP_I0
theorem gp_mul (ha : GP X Γ a (.int i)) (hb : GP X Γ b (.int j)) (hc : CMul i j) : GP X Γ (.BinOp a .Mult b pos) (.int (i * j)) := gp_bin op_mul ha hb (opP_I hc)
theorem gp_mod (ha : GP X Γ a (.int i)) (hb : GP X Γ b (.int j)) (hc : 0 < j) : GP X Γ (.BinOp a .Mod b pos) (.int (i % j)) := gp_bin op_mod ha hb (opP_I (C := fun _ j => 0 < j) hc)
theorem gp_fdiv (ha : GP X Γ a (.int i)) (hb : GP X Γ b (.int j)) (hc : CDiv i j) : GP X Γ (.BinOp a .FloorDiv b pos) (.int (i / j)) := gp_bin op_fdiv ha hb (opP_I hc)
theorem gp_pow (ha : GP X Γ a (.int i)) (hb : GP X Γ b (.int j)) (hc : CPow i j) : GP X Γ (.BinOp a .Pow b pos) (.int (i ^ j.toNat)) := gp_bin op_pow ha hb (opP_I hc)
theorem gp_neg (ha : GP X Γ a (.int i)) : GP X Γ (.UnaryOp .USub a pos) (.int (-i)) := ⟨fun σ R H s k => (pe_un un_neg pe_re).re ((ha.run σ R H s k).mono fun x H1 ⟨R1, g1, x1⟩ => by
  cases x1
  exact ⟨i, rfl, R1, g1, .int _⟩)⟩
/-- tuples together -/
theorem gp_catT {xs ys : List PyData} (ha : GP X Γ a (.tuple xs)) (hb : GP X Γ b (.tuple ys)) (hz : xs.length + ys.length ≤ sizeLine) : GP X Γ (.BinOp a .Add b pos) (.tuple (xs ++ ys)) := gp_bin op_catA ha hb fun R H x y s hx hy Q q => by
  cases hx with
  | tup h1 a1 =>
    cases hy with
    | tup h2 a2 =>
      rename_i p1 v1 p2 v2
      refine ⟨p1, p2, v1, v2, rfl, rfl, ex_t s h1, ex_t s h2, by rw [a1.length, a2.length]; exact hz, fun e => ?_, fun _ e => ?_, fun _ _ p hp => ?_⟩
      · subst e
        cases a1
        exact q _ R H (Grow.refl s) (.tup h2 a2)
      · subst e
        cases a2
        rw [List.append_nil] at q
        exact q _ R H (Grow.refl s) (.tup h1 a1)
      · have n := Ex.new (o := .tup (v1 ++ v2)) (ex_none s hp)
        exact q _ _ _ (Grow.made s hp) (.tup upd_same ((a1.mono n).append (a2.mono n)))

/-! ### comparisons -/
structure CmpD (X : Cx) (op : CmpOp) (d1 d2 : PyData) (t : Bool) : Prop where
  run : ∃ r, OpR X (compareOp op) r ∧ ∀ R H x y, Ex R H → Da X.K R x d1 → Da X.K R y d2 → ∀ Q : VK, Q (.bl t) H → r x y H Q
variable {t t' : Bool} {op : CmpOp}
theorem cmp_I {g : Int → Int → Bool} (h : OpR X (compareOp op) (rI0 fun i j => .bl (g i j))) : CmpD X op (.int i) (.int j) (g i j) := ⟨_, h, fun R H x y s hx hy Q q => by
  cases hx
  cases hy
  exact ⟨i, j, rfl, rfl, q⟩⟩
theorem cmp_lt : CmpD X .Lt (.int i) (.int j) (decide (i < j)) := cmp_I op_lt
theorem cmp_le : CmpD X .LtE (.int i) (.int j) (decide (i ≤ j)) := cmp_I op_le
theorem cmp_gt : CmpD X .Gt (.int i) (.int j) (decide (j < i)) := cmp_I op_gt
theorem cmp_ge : CmpD X .GtE (.int i) (.int j) (decide (j ≤ i)) := cmp_I op_ge
theorem cmp_eqI : CmpD X .Eq (.int i) (.int j) (decide (i = j)) := ⟨_, op_eq, fun R H x y s hx hy Q q => by
  cases hx
  cases hy
  refine ⟨rfl, ?_⟩
  rw [dec_int, Bool.beq_eq_decide_eq]
  exact q⟩
theorem cmp_neI : CmpD X .NotEq (.int i) (.int j) (!decide (i = j)) := ⟨_, op_ne, fun R H x y s hx hy Q q => by
  cases hx
  cases hy
  refine ⟨rfl, ?_⟩
  rw [dec_int, Bool.beq_eq_decide_eq]
  exact q⟩
theorem cmp_eqD (hu : X.A.units + 64 < cLine) (h1 : SeqAt.shaped d1 = true) (h2 : SeqAt.shaped d2 = true) : CmpD X .Eq d1 d2 (PyData.eqv d1 d2) := ⟨_, op_eqD hu, fun R H x y s hx hy Q q =>
  ⟨d1, d2, hx.dp s (SeqAt.canLay_of_shaped h1), hy.dp s (SeqAt.canLay_of_shaped h2), h1, h2, q⟩⟩
theorem cmp_neD (hu : X.A.units + 64 < cLine) (h1 : SeqAt.shaped d1 = true) (h2 : SeqAt.shaped d2 = true) : CmpD X .NotEq d1 d2 (!PyData.eqv d1 d2) := ⟨_, op_neD hu, fun R H x y s hx hy Q q =>
  ⟨d1, d2, hx.dp s (SeqAt.canLay_of_shaped h1), hy.dp s (SeqAt.canLay_of_shaped h2), h1, h2, q⟩⟩
theorem cmp_inL {ds : List PyData} (hu : X.A.units + 65 < cLine) (h1 : SeqAt.shaped d1 = true) (h2 : SeqAt.shaped (.list ds) = true) : CmpD X .In d1 (.list ds) (ds.any fun z => PyData.eqv z d1) := ⟨_, op_inD hu, fun R H x y s hx hy Q q =>
  ⟨d1, ds, hx.dp s (SeqAt.canLay_of_shaped h1), hy.dp s (SeqAt.canLay_of_shaped h2), h1, h2, q⟩⟩
theorem cmp_niL {ds : List PyData} (hu : X.A.units + 65 < cLine) (h1 : SeqAt.shaped d1 = true) (h2 : SeqAt.shaped (.list ds) = true) : CmpD X .NotIn d1 (.list ds) (!ds.any fun z => PyData.eqv z d1) := ⟨_, op_notInD hu, fun R H x y s hx hy Q q =>
  ⟨d1, ds, hx.dp s (SeqAt.canLay_of_shaped h1), hy.dp s (SeqAt.canLay_of_shaped h2), h1, h2, q⟩⟩
def rInTD (K : PySem.W.Frag) (neg : Bool) : R2 := fun x y H Q => ∃ d ds, Dp K H x d ∧ Dp K H y (.tuple ds) ∧ SeqAt.shaped d = true ∧ SeqAt.shaped (.tuple ds) = true ∧ Q (.bl (if neg then !(ds.any fun z => PyData.eqv z d) else ds.any fun z => PyData.eqv z d)) H
theorem op_inTD (hu : X.A.units + 65 < cLine) : OpR X (compareOp .In) (rInTD X.K false) := by
  intro pins s σ H x y v u Q I rx ry h
  obtain ⟨d, ds, hd, he, sd, se, q⟩ := h
  obtain ⟨as, r1⟩ := Dp.reads I d x v hd rx
  obtain ⟨bs, r2⟩ := Dp.reads I (.tuple ds) y u he ry
  exact SeqAt.in_tuple_reads r2 r1 (SeqAt.canLay_of_shaped se) (SeqAt.canLay_of_shaped sd) (room_in_shaped sd hu) ⟨.bl _, H, I, rfl, q⟩
theorem op_niTD (hu : X.A.units + 65 < cLine) : OpR X (compareOp .NotIn) (rInTD X.K true) := by
  intro pins s σ H x y v u Q I rx ry h
  obtain ⟨d, ds, hd, he, sd, se, q⟩ := h
  obtain ⟨as, r1⟩ := Dp.reads I d x v hd rx
  obtain ⟨bs, r2⟩ := Dp.reads I (.tuple ds) y u he ry
  exact SeqAt.notIn_tuple_reads r2 r1 (SeqAt.canLay_of_shaped se) (SeqAt.canLay_of_shaped sd) (room_in_shaped sd hu) ⟨.bl _, H, I, rfl, q⟩
theorem cmp_inT {ds : List PyData} (hu : X.A.units + 65 < cLine) (h1 : SeqAt.shaped d1 = true) (h2 : SeqAt.shaped (.tuple ds) = true) : CmpD X .In d1 (.tuple ds) (ds.any fun z => PyData.eqv z d1) := ⟨_, op_inTD hu, fun R H x y s hx hy Q q =>
  ⟨d1, ds, hx.dp s (SeqAt.canLay_of_shaped h1), hy.dp s (SeqAt.canLay_of_shaped h2), h1, h2, q⟩⟩
theorem cmp_niT {ds : List PyData} (hu : X.A.units + 65 < cLine) (h1 : SeqAt.shaped d1 = true) (h2 : SeqAt.shaped (.tuple ds) = true) : CmpD X .NotIn d1 (.tuple ds) (!ds.any fun z => PyData.eqv z d1) := ⟨_, op_niTD hu, fun R H x y s hx hy Q q =>
  ⟨d1, ds, hx.dp s (SeqAt.canLay_of_shaped h1), hy.dp s (SeqAt.canLay_of_shaped h2), h1, h2, q⟩⟩
theorem cmp_isN : CmpD X .Is d1 .none (match d1 with | .none => true | _ => false) := ⟨_, op_isN, fun R H x y s hx hy Q q => by
  cases hy
  refine ⟨rfl, ?_⟩
  cases hx <;> exact q⟩
theorem cmp_notN : CmpD X .IsNot d1 .none (!(match d1 with | .none => true | _ => false)) := ⟨_, op_notN, fun R H x y s hx hy Q q => by
  cases hy
  refine ⟨rfl, ?_⟩
  cases hx <;> exact q⟩
theorem cmp_ltT (hu : X.A.units < cLine) {ns ms : List Int} : CmpD X .Lt (.tuple (ns.map .int)) (.tuple (ms.map .int)) (HT.lexLt ns ms) := ⟨_, op_ltT hu, fun R H x y s hx hy Q q => by
  cases hx with
  | tup h1 a1 =>
    cases hy with
    | tup h2 a2 =>
      have e1 := a1.ints
      have e2 := a2.ints
      subst e1 e2
      exact ⟨_, _, ns, ms, rfl, rfl, ex_t s h1, ex_t s h2, q⟩⟩
theorem gp_cmp (ha : GP X Γ a d1) (hb : GP X Γ b d2) (hc : CmpD X op d1 d2 t) (hm : behindInMarks op b = false := by first | exact nomark _ | rfl) : GP X Γ (.Compare a [op] [b] pos) (.bool t) := by
  obtain ⟨r, ho, hr⟩ := hc.run
  exact gp_two (fun ha hb => pe_cmpR ho ha hb hm) ha hb fun R H x y s hx hy Q q => hr R H x y s hx hy Q (q _ R H (Grow.refl s) (.bl t))
theorem gt_cmp (ha : GP X Γ a d1) (hb : GP X Γ b d2) (hc : CmpD X op d1 d2 t) (hm : behindInMarks op b = false := by first | exact nomark _ | rfl) : GTP X Γ (.Compare a [op] [b] pos) t := by
  obtain ⟨r, ho, hr⟩ := hc.run
  exact ⟨fun σ R H s k => (pt_cmpR ho pe_re pe_re hm).re ((ha.run σ R H s k).mono fun x H1 ⟨R1, g1, x1⟩ => (hb.run σ R1 H1 g1.sub (slots_mono g1.r k)).mono fun y H2 ⟨R2, g2, y2⟩ =>
    hr R2 H2 x y g2.sub (x1.mono g2.r) y2 _ ⟨t, rfl, R2, g1.trans g2, rfl⟩)⟩
/-- a chain's rest, behind the left value d1 -/
structure GCh (X : Cx) (Γ : List Sl) (d1 : PyData) (ops : List CmpOp) (es : List Expr) (t : Bool) : Prop where
  val : ∀ (pos : Pos) σ R H x, Ex R H → Paired (SlOk X.K R) Γ σ → Da X.K R x d1 → ∀ (pins : List (Addr × Obj)) (s : Shared) (u : Value), Inv X pins σ H s → RelV x u →
    wpAny (model X.prog X.w) X.A (compareChain pos u ops (es.map fun e => eval e X.env)) (EP X pins σ fun v H' => ∃ R', Grow R H R' H' ∧ v = .bl t) X.xe s
  tst : ∀ (pos : Pos) σ R H x, Ex R H → Paired (SlOk X.K R) Γ σ → Da X.K R x d1 → ∀ (pins : List (Addr × Obj)) (s : Shared) (u : Value), Inv X pins σ H s → RelV x u →
    wpAny (model X.prog X.w) X.A (testChain pos u ops (es.map fun e => eval e X.env)) (TP X pins σ fun c H' => ∃ R', Grow R H R' H' ∧ c = t) X.xe s
theorem gch_last (hb : GP X Γ b d2) (hc : CmpD X op d1 d2 t) : GCh X Γ d1 [op] [b] t := by
  obtain ⟨r, ho, hr⟩ := hc.run
  refine ⟨fun pos σ R H x s k dx pins sh u I rx => ?_, fun pos σ R H x s k dx pins sh u I rx => ?_⟩
  · exact chain_last (thn (hb.run σ R H s k pins sh I) fun w' s1 ⟨y, H1, I1, r1, R1, g1, y1⟩ => ho pins s1 σ H1 x y u w' _ I1 rx r1 (hr R1 H1 x y g1.sub (dx.mono g1.r) y1 _ ⟨R1, g1, rfl⟩))
  · refine test_last (thn (hb.run σ R H s k pins sh I) fun w' s1 ⟨y, H1, I1, r1, R1, g1, y1⟩ => thn (ho pins s1 σ H1 x y u w' (fun v H' => v = .bl t ∧ H' = H1) I1 rx r1 (hr R1 H1 x y g1.sub (dx.mono g1.r) y1 _ ⟨rfl, rfl⟩)) fun c s2 ⟨z, H2, I2, r2, e1, e2⟩ => ?_)
    subst e1 e2
    cases r2
    exact wpAny_truthy_bool ⟨H2, I2, R1, g1, rfl⟩
theorem gch_link {op' : CmpOp} {ops : List CmpOp} {e' : Expr} {es : List Expr} (hb : GP X Γ b d2) (hc : CmpD X op d1 d2 t) (hr' : GCh X Γ d2 (op' :: ops) (e' :: es) t') : GCh X Γ d1 (op :: op' :: ops) (b :: e' :: es) (t && t') := by
  obtain ⟨r, ho, hr⟩ := hc.run
  refine ⟨fun pos σ R H x s k dx pins sh u I rx => ?_, fun pos σ R H x s k dx pins sh u I rx => ?_⟩
  · refine chain_link (thn (hb.run σ R H s k pins sh I) fun w' s1 ⟨y, H1, I1, r1, R1, g1, y1⟩ => thn (ho pins s1 σ H1 x y u w' (fun v H' => v = .bl t ∧ H' = H1) I1 rx r1 (hr R1 H1 x y g1.sub (dx.mono g1.r) y1 _ ⟨rfl, rfl⟩)) fun c s2 ⟨z, H2, I2, r2, e1, e2⟩ => ?_)
    subst e1 e2
    cases r2
    refine wpAny_truthy_bool ?_
    cases t with
    | false => exact ite_ff ⟨.bl false, H2, I2, rfl, R1, g1, rfl⟩
    | true => exact ite_tt (thn (hr'.val pos σ R1 H2 y g1.sub (slots_mono g1.r k) y1 pins s2 w' I2 r1) fun _ _ ⟨z, H3, I3, r3, R3, g3, e3⟩ => ⟨z, H3, I3, r3, R3, g1.trans g3, by rw [e3]; rfl⟩)
  · refine test_link (thn (hb.run σ R H s k pins sh I) fun w' s1 ⟨y, H1, I1, r1, R1, g1, y1⟩ => thn (ho pins s1 σ H1 x y u w' (fun v H' => v = .bl t ∧ H' = H1) I1 rx r1 (hr R1 H1 x y g1.sub (dx.mono g1.r) y1 _ ⟨rfl, rfl⟩)) fun c s2 ⟨z, H2, I2, r2, e1, e2⟩ => ?_)
    subst e1 e2
    cases r2
    refine wpAny_truthy_bool ?_
    cases t with
    | false => exact ite_ff ⟨H2, I2, R1, g1, rfl⟩
    | true => exact ite_tt (thn (hr'.tst pos σ R1 H2 y g1.sub (slots_mono g1.r k) y1 pins s2 w' I2 r1) fun _ _ ⟨H3, I3, R3, g3, e3⟩ => ⟨H3, I3, R3, g1.trans g3, by rw [e3]; rfl⟩)
theorem evalEach_map (env : Env) : ∀ es : List Expr, evalEach es env = es.map fun e => eval e env
  | [] => rfl
  | e :: es => by
    show eval e env :: evalEach es env = _
    rw [evalEach_map env es]
    rfl
theorem gp_chain {op' : CmpOp} {ops : List CmpOp} {e' : Expr} {es : List Expr} (ha : GP X Γ a d1) (hc : GCh X Γ d1 (op :: op' :: ops) (b :: e' :: es) t) (hm : lastMarks (op :: op' :: ops) (b :: e' :: es) = false := by with_unfolding_all rfl) :
    GP X Γ (.Compare a (op :: op' :: ops) (b :: e' :: es) pos) (.bool t) := ⟨fun σ R H s k pins sh I => PyProof.Rows.Compare_chain (thn (ha.run σ R H s k pins sh I) fun u s1 ⟨x, H1, I1, r1, R1, g1, x1⟩ => by
  have h := hc.val pos σ R1 H1 x g1.sub (slots_mono g1.r k) x1 pins s1 u I1 r1
  rw [List.map_cons, List.map_cons, ← evalEach_map] at h
  exact thn h fun _ _ ⟨v, H2, I2, r2, R2, g2, e2⟩ => ⟨v, H2, I2, r2, R2, g1.trans g2, by rw [e2]; exact .bl t⟩) hm⟩
theorem gt_chain {op' : CmpOp} {ops : List CmpOp} {e' : Expr} {es : List Expr} (ha : GP X Γ a d1) (hc : GCh X Γ d1 (op :: op' :: ops) (b :: e' :: es) t) (hm : lastMarks (op :: op' :: ops) (b :: e' :: es) = false := by with_unfolding_all rfl) :
    GTP X Γ (.Compare a (op :: op' :: ops) (b :: e' :: es) pos) t := ⟨fun σ R H s k pins sh I => PyProof.Rows.isTrue_chain (thn (ha.run σ R H s k pins sh I) fun u s1 ⟨x, H1, I1, r1, R1, g1, x1⟩ => by
  have h := hc.tst pos σ R1 H1 x g1.sub (slots_mono g1.r k) x1 pins s1 u I1 r1
  rw [List.map_cons, List.map_cons, ← evalEach_map] at h
  exact thn h fun _ _ ⟨H2, I2, R2, g2, e2⟩ => ⟨H2, I2, R2, g1.trans g2, e2⟩) hm⟩
end
end G

set_option Elab.async false
set_option linter.all false
set_option maxRecDepth 100000
set_option maxHeartbeats 2000000
namespace G
open PySem PySem.Spec L2
section
variable {X : Cx} {Γ : List Sl} {a b c e : Expr} {d d1 d2 : PyData} {pos : Pos} {t t' : Bool}
/-! ### tests -/
theorem gt_val (h : GP X Γ e (.bool t)) (he : ∀ whole, isTrue e X.env whole = (do let v ← whole; standAt e.pos; holding [v] (truthy v)) := by intro _; rfl) : GTP X Γ e t := ⟨fun σ R H s k =>
  (pt_val pe_re he).re ((h.run σ R H s k).mono fun v H' ⟨R', g, x⟩ => by
    cases x
    exact ⟨t, rfl, R', g, rfl⟩)⟩
theorem gt_not (h : GTP X Γ e t) : GTP X Γ (.UnaryOp .Not e pos) (!t) := ⟨fun σ R H s k => (pt_not pt_re).re ((h.run σ R H s k).mono fun v H' ⟨R', g, x⟩ => ⟨R', g, by rw [x]⟩)⟩
structure GWP (X : Cx) (Γ : List Sl) (e : Expr) (b : Bool) : Prop where
  run : ∀ σ R H, Ex R H → Paired (SlOk X.K R) Γ σ → ∀ (whole : Sem Value) (pins : List (Addr × Obj)) (s : Shared), Inv X pins σ H s → wpAny (model X.prog X.w) X.A (isTrue e X.env whole) (TP X pins σ fun c H' => ∃ R', Grow R H R' H' ∧ c = b) X.xe s
def RW (X : Cx) (e : Expr) : TT := fun σ H Q => ∀ (whole : Sem Value) (pins : List (Addr × Obj)) (s : Shared), Inv X pins σ H s → wpAny (model X.prog X.w) X.A (isTrue e X.env whole) (TP X pins σ Q) X.xe s
theorem pw_re : PW X e (RW X e) := ⟨fun whole pins s _ _ _ I h => h whole pins s I⟩
theorem RW.mono {σ : L2.St} {H : Hp} {Q Q' : Bool → Hp → Prop} (h : RW X e σ H Q) (k : ∀ v H', Q v H' → Q' v H') : RW X e σ H Q' := fun whole pins s I => thn (h whole pins s I) fun _ _ ⟨H', I', q⟩ => ⟨H', I', k _ _ q⟩
theorem gt_w (h : GWP X Γ e t) : GTP X Γ e t := ⟨fun σ R H s k pins sh I => h.run σ R H s k _ pins sh I⟩
variable {rest : List Expr}
theorem gw_and1 (h : GTP X Γ a t) : GWP X Γ (.BoolOp .And [a] pos) t := ⟨fun σ R H s k whole pins sh I => (pw_and1 pt_re).run whole pins sh σ H _ I (h.run σ R H s k)⟩
theorem gw_or1 (h : GTP X Γ a t) : GWP X Γ (.BoolOp .Or [a] pos) t := ⟨fun σ R H s k whole pins sh I => (pw_or1 pt_re).run whole pins sh σ H _ I (h.run σ R H s k)⟩
theorem gw_and (h : GTP X Γ a t) (h2 : t = true → GWP X Γ (.BoolOp .And (b :: rest) pos) t') : GWP X Γ (.BoolOp .And (a :: b :: rest) pos) (t && t') := ⟨fun σ R H s k whole pins sh I =>
  (pw_and pt_re pw_re).run whole pins sh σ H _ I ((h.run σ R H s k).mono fun c H1 ⟨R1, g1, e1⟩ => by
    subst e1
    cases c with
    | false => exact ⟨R1, g1, rfl⟩
    | true => exact fun whole pins sh I => thn ((h2 rfl).run σ R1 H1 g1.sub (slots_mono g1.r k) whole pins sh I) fun _ _ ⟨H2, I2, R2, g2, e2⟩ => ⟨H2, I2, R2, g1.trans g2, by rw [e2]; rfl⟩)⟩
theorem gw_or (h : GTP X Γ a t) (h2 : t = false → GWP X Γ (.BoolOp .Or (b :: rest) pos) t') : GWP X Γ (.BoolOp .Or (a :: b :: rest) pos) (t || t') := ⟨fun σ R H s k whole pins sh I =>
  (pw_or pt_re pw_re).run whole pins sh σ H _ I ((h.run σ R H s k).mono fun c H1 ⟨R1, g1, e1⟩ => by
    subst e1
    cases c with
    | true => exact ⟨R1, g1, rfl⟩
    | false => exact fun whole pins sh I => thn ((h2 rfl).run σ R1 H1 g1.sub (slots_mono g1.r k) whole pins sh I) fun _ _ ⟨H2, I2, R2, g2, e2⟩ => ⟨H2, I2, R2, g1.trans g2, by rw [e2]; rfl⟩)⟩
/-- the same as values -/
theorem gp_one {op : BoolOp} (h : GP X Γ a d) : GP X Γ (.BoolOp op [a] pos) d := ⟨fun σ R H s k => (pe_one pe_re).re (h.run σ R H s k)⟩
theorem gp_and (h : GP X Γ a (.bool t)) (h2 : t = true → GP X Γ (.BoolOp .And (b :: rest) pos) (.bool t')) : GP X Γ (.BoolOp .And (a :: b :: rest) pos) (.bool (t && t')) := ⟨fun σ R H s k =>
  (pe_and pe_re pe_re).re ((h.run σ R H s k).mono fun v H1 ⟨R1, g1, x1⟩ => by
    cases x1
    refine ⟨t, rfl, ?_⟩
    cases t with
    | false => exact ⟨R1, g1, .bl _⟩
    | true => exact ((h2 rfl).run σ R1 H1 g1.sub (slots_mono g1.r k)).mono fun v H2 ⟨R2, g2, x2⟩ => ⟨R2, g1.trans g2, x2⟩)⟩
theorem gp_or (h : GP X Γ a (.bool t)) (h2 : t = false → GP X Γ (.BoolOp .Or (b :: rest) pos) (.bool t')) : GP X Γ (.BoolOp .Or (a :: b :: rest) pos) (.bool (t || t')) := ⟨fun σ R H s k =>
  (pe_or pe_re pe_re).re ((h.run σ R H s k).mono fun v H1 ⟨R1, g1, x1⟩ => by
    cases x1
    refine ⟨t, rfl, ?_⟩
    cases t with
    | true => exact ⟨R1, g1, .bl _⟩
    | false => exact ((h2 rfl).run σ R1 H1 g1.sub (slots_mono g1.r k)).mono fun v H2 ⟨R2, g2, x2⟩ => ⟨R2, g1.trans g2, x2⟩)⟩
theorem gp_not (h : GP X Γ a (.bool t)) : GP X Γ (.UnaryOp .Not a pos) (.bool (!t)) := ⟨fun σ R H s k => (pe_not pe_re).re ((h.run σ R H s k).mono fun v H1 ⟨R1, g1, x1⟩ => by
  cases x1
  exact ⟨t, rfl, R1, g1, .bl _⟩)⟩
theorem gp_if (h : GTP X Γ c t) (ha : t = true → GP X Γ a d) (hb : t = false → GP X Γ b d) : GP X Γ (.IfExp c a b pos) d := ⟨fun σ R H s k =>
  (pe_ifExp pt_re pe_re pe_re).re ((h.run σ R H s k).mono fun v H1 ⟨R1, g1, x1⟩ => by
    subst x1
    cases v with
    | true => exact ((ha rfl).run σ R1 H1 g1.sub (slots_mono g1.r k)).mono fun v H2 ⟨R2, g2, x2⟩ => ⟨R2, g1.trans g2, x2⟩
    | false => exact ((hb rfl).run σ R1 H1 g1.sub (slots_mono g1.r k)).mono fun v H2 ⟨R2, g2, x2⟩ => ⟨R2, g1.trans g2, x2⟩)⟩

/-! ### arguments, displays -/
theorem gpa_nil : GPA X Γ [] [] := ⟨fun σ R H s k => pa_nil.re ⟨R, Grow.refl s, .nil⟩⟩
theorem gpa_cons {es : List Expr} {ds : List PyData} (h : GP X Γ e d) (h2 : GPA X Γ es ds) (hs : starEach (e :: es) X.env = (false, eval e X.env) :: starEach es X.env := by rfl) : GPA X Γ (e :: es) (d :: ds) := ⟨fun σ R H s k =>
  (pa_cons pe_re pa_re hs).re ((h.run σ R H s k).mono fun v H1 ⟨R1, g1, x1⟩ => (h2.run σ R1 H1 g1.sub (slots_mono g1.r k)).mono fun vs H2 ⟨R2, g2, x2⟩ => ⟨R2, g1.trans g2, .cons (x1.mono g2.r) x2⟩)⟩
theorem gp_tup {x1 : Nat} {es : List Expr} {ds : List PyData} (h : GPA X Γ es ds) (hz : ds.length ≤ sizeLine := by (simp only [List.length_cons, List.length_nil]; decide)) : GP X Γ (.Tuple es x1 pos) (.tuple ds) := ⟨fun σ R H s k => (pe_tup pa_re).re ((h.run σ R H s k).mono fun vs H1 ⟨R1, g1, x1⟩ =>
  ⟨by rw [x1.length]; exact hz, fun p hp => ⟨_, g1.trans (Grow.made g1.sub hp), .tup upd_same (x1.mono (.new (ex_none g1.sub hp)))⟩⟩)⟩
theorem NewL.of {K : PySem.W.Frag} {R H R1 H1 : Hp} {vs : List V} {ds : List PyData} {p : Addr} (g : Grow R H R1 H1) (hp : H1 p = none) (a : DaAll K R1 vs ds) :
    ∃ R' q us, Grow R H R' (upd H1 p (.lst vs)) ∧ V.ref p = .ref q ∧ R' q = none ∧ H q = none ∧ (upd H1 p (.lst vs)) q = some (.lst us) ∧ DaAll K R' us ds :=
  ⟨R1, p, vs, g.trans (Grow.junk g.sub (.new hp)), rfl, ex_none g.sub hp, ex_none g.h hp, upd_same, a⟩
theorem glp_lst {es : List Expr} {ds : List PyData} (h : GPA X Γ es ds) (hz : ds.length ≤ sizeLine := by (simp only [List.length_cons, List.length_nil]; decide)) : GLP X Γ (.List es pos) ds := ⟨fun σ R H s k => (pe_lst pa_re).re ((h.run σ R H s k).mono fun vs H1 ⟨R1, g1, x1⟩ =>
  ⟨by rw [x1.length]; exact hz, fun p hp => NewL.of g1 hp x1⟩)⟩

/-! ### items and slices -/
theorem atD {K : PySem.W.Frag} {R : Hp} {vs : List V} {ds : List PyData} {i : Int} (x : DaAll K R vs ds) (h : atI ds i = some d) : ∃ v, atI vs i = some v ∧ Da K R v d := by
  unfold atI at h ⊢
  rw [x.length]
  cases q : ixN ds.length i with
  | none => rw [q] at h; cases h
  | some j =>
    rw [q] at h
    exact x.get h
theorem gp_ixL {ds : List PyData} {i : Int} (ha : GP X Γ a (.list ds)) (hb : GP X Γ b (.int i)) (h : atI ds i = some d) (hp : PlainIx b := by exact fun _ _ => rfl) : GP X Γ (.Subscript a b pos) d :=
  gp_two (fun ha hb => pe_ix ix_list ha hb hp) ha hb fun R H x y s hx hy Q q => by
    cases hx with
    | lst h1 a1 =>
      cases hy
      obtain ⟨v, h2, h3⟩ := atD a1 h
      exact ⟨_, _, i, v, rfl, rfl, ex_l s h1, h2, q v R H (Grow.refl s) h3⟩
theorem gp_ixT {ds : List PyData} {i : Int} (ha : GP X Γ a (.tuple ds)) (hb : GP X Γ b (.int i)) (h : atI ds i = some d) (hp : PlainIx b := by exact fun _ _ => rfl) : GP X Γ (.Subscript a b pos) d :=
  gp_two (fun ha hb => pe_ix ix_tup ha hb hp) ha hb fun R H x y s hx hy Q q => by
    cases hx with
    | tup h1 a1 =>
      cases hy
      obtain ⟨v, h2, h3⟩ := atD a1 h
      exact ⟨_, _, i, v, rfl, rfl, ex_t s h1, h2, q v R H (Grow.refl s) h3⟩
def cutD (ds : List PyData) (lo hi : Option Int) : List PyData := (ds.drop (HT.sIx ds.length 0 lo)).take (HT.sIx ds.length ds.length hi - HT.sIx ds.length 0 lo)
theorem DaAll.cut {K : PySem.W.Frag} {R : Hp} {vs : List V} {ds : List PyData} (x : DaAll K R vs ds) (lo hi : Option Int) : DaAll K R (cutV vs lo hi) (cutD ds lo hi) := by
  unfold cutV cutD
  rw [x.length]
  exact (x.drop _).take _
/-- a slice's parts -/
structure GPO (X : Cx) (Γ : List Sl) (e : Option Expr) (o : Option Int) : Prop where
  run : ∃ to : TO, PO X e to ∧ ∀ σ R H, Ex R H → Paired (SlOk X.K R) Γ σ → ∀ Q : Option Int → Hp → Prop, (∀ R' H', Grow R H R' H' → Q o H') → to σ H Q
theorem gpo_none : GPO X Γ none none := ⟨_, po_none, fun σ R H s k Q q => q R H (Grow.refl s)⟩
theorem gpo_some {i : Int} (h : GP X Γ e (.int i)) : GPO X Γ (some e) (some i) := by
  -- the part's value, whatever is wanted of it
  refine ⟨tPart (fun σ H Q => ∃ R, Ex R H ∧ Paired (SlOk X.K R) Γ σ ∧ ∀ v R' H', Grow R H R' H' → Da X.K R' v (.int i) → Q v H'), po_some ⟨fun pins sh σ H Q I ⟨R, s, k, q⟩ => ((h.run σ R H s k).mono fun v H' ⟨R', g, x⟩ => q v R' H' g x) pins sh I⟩, fun σ R H s k Q q => ?_⟩
  exact ⟨R, s, k, fun v R' H' g x => by
    cases x
    exact ⟨i, rfl, q R' H' g⟩⟩
variable {lo hi : Option Expr} {p2 : Pos} {i j : Option Int}
theorem glp_slL {ds : List PyData} (ha : GP X Γ a (.list ds)) (hl : GPO X Γ lo i) (hh : GPO X Γ hi j) : GLP X Γ (.Subscript a (.Slice lo hi none p2) pos) (cutD ds i j) := by
  obtain ⟨tl, pl, ql⟩ := hl.run
  obtain ⟨th, ph, qh⟩ := hh.run
  exact ⟨fun σ R H s k => (pe_slice sl_list pe_re pl ph).re ((ha.run σ R H s k).mono fun x H1 ⟨R1, g1, x1⟩ => ql σ R1 H1 g1.sub (slots_mono g1.r k) _ fun R2 H2 g2 => qh σ R2 H2 g2.sub (slots_mono (g1.trans g2).r k) _ fun R3 H3 g3 => by
    cases x1 with
    | lst h1 a1 => exact ⟨_, _, rfl, ex_l (g2.r.trans (g3.r.trans g3.sub)) h1, fun p hp => NewL.of ((g1.trans g2).trans g3) hp ((a1.cut i j).mono (g2.trans g3).r)⟩)⟩
theorem gp_slT {ds : List PyData} (ha : GP X Γ a (.tuple ds)) (hl : GPO X Γ lo i) (hh : GPO X Γ hi j) : GP X Γ (.Subscript a (.Slice lo hi none p2) pos) (.tuple (cutD ds i j)) := by
  obtain ⟨tl, pl, ql⟩ := hl.run
  obtain ⟨th, ph, qh⟩ := hh.run
  exact ⟨fun σ R H s k => (pe_slice sl_tupA pe_re pl ph).re ((ha.run σ R H s k).mono fun x H1 ⟨R1, g1, x1⟩ => ql σ R1 H1 g1.sub (slots_mono g1.r k) _ fun R2 H2 g2 => qh σ R2 H2 g2.sub (slots_mono (g1.trans g2).r k) _ fun R3 H3 g3 => by
    cases x1 with
    | tup h1 a1 =>
      refine ⟨_, _, rfl, ex_t (g2.r.trans (g3.r.trans g3.sub)) h1, fun w => ?_, fun w p hp => ?_⟩
      · refine ⟨R3, (g1.trans g2).trans g3, ?_⟩
        have e : cutD ds i j = ds := by
          unfold cutD
          rw [a1.length] at w
          rw [w.1, w.2, List.drop_zero, Nat.sub_zero, List.take_length]
        rw [e]
        exact .tup ((g2.trans g3).r _ _ h1) (a1.mono (g2.trans g3).r)
      · exact ⟨_, ((g1.trans g2).trans g3).trans (Grow.made g3.sub hp), .tup upd_same ((a1.cut i j).mono ((g2.trans g3).r.trans (.new (ex_none g3.sub hp))))⟩)⟩
theorem glp_revL {ds : List PyData} {k : Nat} {p1 p2 p3 : Pos} (ha : GP X Γ a (.list ds)) : GLP X Γ (.Subscript a (.Slice none none (some (.UnaryOp .USub (.Constant (.int 1) k p1) p2)) p3) pos) ds.reverse := ⟨fun σ R H s k => (pe_revL pe_re).re ((ha.run σ R H s k).mono fun x H1 ⟨R1, g1, x1⟩ => by
  cases x1 with
  | lst h1 a1 => exact ⟨_, _, rfl, ex_l g1.sub h1, fun p hp => NewL.of g1 hp a1.reverse⟩)⟩

/-! ### built-ins by name -/
variable {x : Str} {p : Pos} {es : List Expr} {ds : List PyData}
theorem gp_callB {id : String} {r : List V → Hp → VK → Prop} (hc : CallR X (.builtin id) r) (hm : X.mg x = none) (hv : bootBuiltins x = some (.builtin id)) (ha : GPA X Γ (e :: es) ds) (hr : CallP X.K r ds d) (hg : Gl X x := by rfl) (hn : x ≠ "__name__" := by decide) (hdb : (x == ("__debug__" : Str)) = false := by decide)
    (he : starEach (e :: es) X.env = (false, eval e X.env) :: starEach es X.env := by rfl) (hpl : (backTo pos (starEach es X.env)).any (·.1) = false := by rfl) : GP X Γ (.Call (.Name x p) (e :: es) [] pos) d := ⟨fun σ R H s k =>
  (pe_callB hc hg hm hv pa_re hn hdb he hpl).re ((ha.run σ R H s k).mono fun vs H1 ⟨R1, g1, x1⟩ => hr R1 H1 vs g1.sub x1 _ fun v R2 H2 g2 x2 => ⟨R2, g1.trans g2, x2⟩)⟩
theorem gp_callT {id : String} {r : List V → Hp → VK → Prop} (hc : CallR X (.type id) r) (hm : X.mg x = none) (hv : bootBuiltins x = some (.type id)) (ha : GPA X Γ (e :: es) ds) (hr : CallP X.K r ds d) (hg : Gl X x := by rfl) (hn : x ≠ "__name__" := by decide) (hdb : (x == ("__debug__" : Str)) = false := by decide)
    (he : starEach (e :: es) X.env = (false, eval e X.env) :: starEach es X.env := by rfl) (hpl : (backTo pos (starEach es X.env)).any (·.1) = false := by rfl) : GP X Γ (.Call (.Name x p) (e :: es) [] pos) d := ⟨fun σ R H s k =>
  (pe_callTy hc hg hm hv pa_re hn hdb he hpl).re ((ha.run σ R H s k).mono fun vs H1 ⟨R1, g1, x1⟩ => hr R1 H1 vs g1.sub x1 _ fun v R2 H2 g2 x2 => ⟨R2, g1.trans g2, x2⟩)⟩
theorem glp_callB {id : String} {r : List V → Hp → VK → Prop} {us : List PyData} (hc : CallR X (.builtin id) r) (hm : X.mg x = none) (hv : bootBuiltins x = some (.builtin id)) (ha : GPA X Γ (e :: es) ds) (hr : CallLP X.K r ds us) (hg : Gl X x := by rfl) (hn : x ≠ "__name__" := by decide) (hdb : (x == ("__debug__" : Str)) = false := by decide)
    (he : starEach (e :: es) X.env = (false, eval e X.env) :: starEach es X.env := by rfl) (hpl : (backTo pos (starEach es X.env)).any (·.1) = false := by rfl) : GLP X Γ (.Call (.Name x p) (e :: es) [] pos) us := ⟨fun σ R H s k =>
  (pe_callB hc hg hm hv pa_re hn hdb he hpl).re ((ha.run σ R H s k).mono fun vs H1 ⟨R1, g1, x1⟩ => hr R1 H1 vs g1.sub x1 _ fun p us hp a2 _ => NewL.of g1 hp a2)⟩
theorem glp_callT {id : String} {r : List V → Hp → VK → Prop} {us : List PyData} (hc : CallR X (.type id) r) (hm : X.mg x = none) (hv : bootBuiltins x = some (.type id)) (ha : GPA X Γ (e :: es) ds) (hr : CallLP X.K r ds us) (hg : Gl X x := by rfl) (hn : x ≠ "__name__" := by decide) (hdb : (x == ("__debug__" : Str)) = false := by decide)
    (he : starEach (e :: es) X.env = (false, eval e X.env) :: starEach es X.env := by rfl) (hpl : (backTo pos (starEach es X.env)).any (·.1) = false := by rfl) : GLP X Γ (.Call (.Name x p) (e :: es) [] pos) us := ⟨fun σ R H s k =>
  (pe_callTy hc hg hm hv pa_re hn hdb he hpl).re ((ha.run σ R H s k).mono fun vs H1 ⟨R1, g1, x1⟩ => hr R1 H1 vs g1.sub x1 _ fun p us hp a2 _ => NewL.of g1 hp a2)⟩
theorem gp_lenL (hm : X.mg "len" = none) (ha : GP X Γ e (.list ds)) (hg : Gl X "len" := by rfl) (he : starEach [e] X.env = (false, eval e X.env) :: starEach [] X.env := by rfl) : GP X Γ (.Call (.Name "len" p) [e] [] pos) (.int ds.length) :=
  gp_callB call_len_seq hm PySem.boot_len (gpa_cons ha gpa_nil he) (fun R H vs s a Q q => by
    cases a with
    | cons h1 a =>
      cases a
      cases h1 with
      | lst h1 a1 => exact ⟨_, _, rfl, .inl (ex_l s h1), by rw [a1.length]; exact q _ R H (Grow.refl s) (.int _)⟩) hg (by decide) (by decide) he rfl
theorem gp_lenT (hm : X.mg "len" = none) (ha : GP X Γ e (.tuple ds)) (hg : Gl X "len" := by rfl) (he : starEach [e] X.env = (false, eval e X.env) :: starEach [] X.env := by rfl) : GP X Γ (.Call (.Name "len" p) [e] [] pos) (.int ds.length) :=
  gp_callB call_len_seq hm PySem.boot_len (gpa_cons ha gpa_nil he) (fun R H vs s a Q q => by
    cases a with
    | cons h1 a =>
      cases a
      cases h1 with
      | tup h1 a1 => exact ⟨_, _, rfl, .inr (ex_t s h1), by rw [a1.length]; exact q _ R H (Grow.refl s) (.int _)⟩) hg (by decide) (by decide) he rfl
theorem gp_all {bs : List Bool} (hm : X.mg "all" = none) (ha : GP X Γ e (.list (bs.map .bool))) (hc : X.calm = true := by rfl) (hg : Gl X "all" := by rfl) (he : starEach [e] X.env = (false, eval e X.env) :: starEach [] X.env := by rfl) : GP X Γ (.Call (.Name "all" p) [e] [] pos) (.bool (bs.all id)) :=
  gp_callB (cr_all hc) hm PyProof.Rows.boot_all (gpa_cons ha gpa_nil he) (fun R H vs s a Q q => by
    cases a with
    | cons h1 a =>
      cases a
      cases h1 with
      | lst h1 a1 =>
        have e := a1.bls
        subst e
        exact ⟨_, bs, rfl, ex_l s h1, q _ R H (Grow.refl s) (.bl _)⟩) hg (by decide) (by decide) he rfl
theorem gp_any {bs : List Bool} (hm : X.mg "any" = none) (ha : GP X Γ e (.list (bs.map .bool))) (hc : X.calm = true := by rfl) (hg : Gl X "any" := by rfl) (he : starEach [e] X.env = (false, eval e X.env) :: starEach [] X.env := by rfl) : GP X Γ (.Call (.Name "any" p) [e] [] pos) (.bool (bs.any id)) :=
  gp_callB (cr_any hc) hm PyProof.Rows.boot_any (gpa_cons ha gpa_nil he) (fun R H vs s a Q q => by
    cases a with
    | cons h1 a =>
      cases a
      cases h1 with
      | lst h1 a1 =>
        have e := a1.bls
        subst e
        exact ⟨_, bs, rfl, ex_l s h1, q _ R H (Grow.refl s) (.bl _)⟩) hg (by decide) (by decide) he rfl
theorem gp_sum {ns : List Int} (hm : X.mg "sum" = none) (ha : GP X Γ e (.list (ns.map .int))) (hc : X.calm = true := by rfl) (hg : Gl X "sum" := by rfl) (he : starEach [e] X.env = (false, eval e X.env) :: starEach [] X.env := by rfl) : GP X Γ (.Call (.Name "sum" p) [e] [] pos) (.int ns.sum) :=
  gp_callB (cr_sum hc) hm PyProof.Rows.boot_sum (gpa_cons ha gpa_nil he) (fun R H vs s a Q q => by
    cases a with
    | cons h1 a =>
      cases a
      cases h1 with
      | lst h1 a1 =>
        have e := a1.ints
        subst e
        exact ⟨_, ns, rfl, ex_l s h1, q _ R H (Grow.refl s) (.int _)⟩) hg (by decide) (by decide) he rfl
theorem gp_min2 {i j : Int} (hm : X.mg "min" = none) (ha : GP X Γ a (.int i)) (hb : GP X Γ b (.int j)) (hc : X.calm = true := by rfl) (hg : Gl X "min" := by rfl) (he : starEach [a, b] X.env = (false, eval a X.env) :: starEach [b] X.env := by rfl) (he2 : starEach [b] X.env = (false, eval b X.env) :: starEach [] X.env := by rfl)
    (hpl : (backTo pos (starEach [b] X.env)).any (·.1) = false := by rfl) : GP X Γ (.Call (.Name "min" p) [a, b] [] pos) (.int (if j < i then j else i)) :=
  gp_callB (call_min2 hc) hm PyProof.Rows.boot_min (gpa_cons ha (gpa_cons hb gpa_nil he2) he) (fun R H vs s a Q q => by
    cases a with
    | cons h1 a =>
      cases a with
      | cons h2 a =>
        cases a
        cases h1
        cases h2
        exact ⟨i, j, rfl, q _ R H (Grow.refl s) (.int _)⟩) hg (by decide) (by decide) he hpl
theorem gp_max2 {i j : Int} (hm : X.mg "max" = none) (ha : GP X Γ a (.int i)) (hb : GP X Γ b (.int j)) (hc : X.calm = true := by rfl) (hg : Gl X "max" := by rfl) (he : starEach [a, b] X.env = (false, eval a X.env) :: starEach [b] X.env := by rfl) (he2 : starEach [b] X.env = (false, eval b X.env) :: starEach [] X.env := by rfl)
    (hpl : (backTo pos (starEach [b] X.env)).any (·.1) = false := by rfl) : GP X Γ (.Call (.Name "max" p) [a, b] [] pos) (.int (if j > i then j else i)) :=
  gp_callB (call_max2 hc) hm PyProof.Rows.boot_max (gpa_cons ha (gpa_cons hb gpa_nil he2) he) (fun R H vs s a Q q => by
    cases a with
    | cons h1 a =>
      cases a with
      | cons h2 a =>
        cases a
        cases h1
        cases h2
        exact ⟨i, j, rfl, q _ R H (Grow.refl s) (.int _)⟩) hg (by decide) (by decide) he hpl
theorem gp_strI {i : Int} (hm : X.mg "str" = none) (ha : GP X Γ e (.int i)) (hz : i.natAbs.log2 < 1920) (hg : Gl X "str" := by rfl) (he : starEach [e] X.env = (false, eval e X.env) :: starEach [] X.env := by rfl) : GP X Γ (.Call (.Name "str" p) [e] [] pos) (.str (toString i)) :=
  gp_callT call_str_int hm PyProof.Rows.boot_str (gpa_cons ha gpa_nil he) (fun R H vs s a Q q => by
    cases a with
    | cons h1 a =>
      cases a
      cases h1
      exact ⟨i, rfl, hz, q _ R H (Grow.refl s) (.str _)⟩) hg (by decide) (by decide) he rfl
/-- the items of a list or a tuple -/
inductive IsSeq : PyData → List PyData → Prop
  | l (ds : List PyData) : IsSeq (.list ds) ds
  | t (ds : List PyData) : IsSeq (.tuple ds) ds
theorem gp_tupleT (hm : X.mg "tuple" = none) (ha : GP X Γ e d) (hs : IsSeq d ds) (hg : Gl X "tuple" := by rfl) (he : starEach [e] X.env = (false, eval e X.env) :: starEach [] X.env := by rfl) : GP X Γ (.Call (.Name "tuple" p) [e] [] pos) (.tuple ds) :=
  gp_callT call_tuple_of hm PyProof.Rows.boot_tuple (gpa_cons ha gpa_nil he) (fun R H vs s a Q q => by
    cases a with
    | cons h1 a =>
      cases a
      cases hs with
      | l =>
        cases h1 with
        | lst h1 a1 => exact ⟨_, _, rfl, .inl ⟨ex_l s h1, fun l hl => q _ _ _ (Grow.made s hl) (.tup upd_same (a1.mono (.new (ex_none s hl))))⟩⟩
      | t =>
        cases h1 with
        | tup h1 a1 => exact ⟨_, _, rfl, .inr ⟨ex_t s h1, q _ R H (Grow.refl s) (.tup h1 a1)⟩⟩) hg (by decide) (by decide) he rfl
theorem glp_list (hm : X.mg "list" = none) (ha : GP X Γ e d) (hs : IsSeq d ds) (hz : ds.length ≤ sizeLine) (hg : Gl X "list" := by rfl) (he : starEach [e] X.env = (false, eval e X.env) :: starEach [] X.env := by rfl) : GLP X Γ (.Call (.Name "list" p) [e] [] pos) ds :=
  glp_callT call_list_of hm PyProof.Rows.boot_list (gpa_cons ha gpa_nil he) (fun R H vs s a Q q => by
    cases a with
    | cons h1 a =>
      cases a
      cases hs with
      | l =>
        cases h1 with
        | lst h1 a1 => exact ⟨_, _, rfl, .inl (ex_l s h1), fun l hl => q l _ hl a1 (by rw [a1.length]; exact hz)⟩
      | t =>
        cases h1 with
        | tup h1 a1 => exact ⟨_, _, rfl, .inr (ex_t s h1), fun l hl => q l _ hl a1 (by rw [a1.length]; exact hz)⟩) hg (by decide) (by decide) he rfl

/-! ### isinstance -/
def tyD : PyData → String
  | .none => "NoneType"
  | .bool _ => "bool"
  | .int _ => "int"
  | .str _ => "str"
  | .list _ => "list"
  | .tuple _ => "tuple"
  | .dict _ => "dict"
def noDict : PyData → Bool
  | .dict _ => false
  | _ => true
theorem noDict_lay {d : PyData} (h : d.canLay0 = true) : noDict d = true := by
  cases d <;> first | rfl | (simp [PyData.canLay0] at h)
theorem Da.tyx {K : PySem.W.Frag} {R H : Hp} {v : V} (s : Ex R H) (h : Da K R v d) (nd : noDict d = true) : TyX K H v (.type (tyD d)) := by
  cases h with
  | non => exact .base .non
  | bl b => exact .base (.bl b)
  | int i => exact .base (.int i)
  | str z => exact .base (.str z)
  | lst h _ =>
    rcases h with (h | ⟨o, h⟩) | ⟨o, its, n, h, c, _⟩
    · exact .base (.lst (s _ _ h))
    · exact .base (.frz (s _ _ h))
    · exact .kList h c
  | tup h _ => exact .base (.tup (s _ _ h))
  | dic h => cases nd
theorem gp_isi {T : String} {y : Str} {p2 : Pos} (hm : X.mg "isinstance" = none) (hm2 : X.mg y = none) (hv : bootBuiltins y = some (.type T)) (ha : GP X Γ e d) (hk : kitB (tyD d) T = some t) (nd : noDict d = true := by rfl) (hg : Gl X "isinstance" := by rfl) (hg2 : Gl X y := by rfl) (hn : y ≠ "__name__" := by decide) (hd : (y == ("__debug__" : Str)) = false := by decide)
    (he : starEach [e, .Name y p2] X.env = (false, eval e X.env) :: starEach [.Name y p2] X.env := by rfl) (he2 : starEach [.Name y p2] X.env = (false, eval (.Name y p2) X.env) :: starEach [] X.env := by rfl) (hpl : (backTo pos (starEach [.Name y p2] X.env)).any (·.1) = false := by rfl) :
    GP X Γ (.Call (.Name "isinstance" p) [e, .Name y p2] [] pos) (.bool t) := ⟨fun σ R H s k =>
  (pe_callB call_isi hg hm PyProof.Rows.boot_isinstance (pa_cons pe_re (pa_cons (pe_bltn (v := .ty T) hg2 hm2 hv rfl hn hd) pa_nil he2) he) (by decide) (by decide) he hpl).re ((ha.run σ R H s k).mono fun v H1 ⟨R1, g1, x1⟩ =>
    ⟨v, .ty T, .type (tyD d), .type T, t, rfl, .ty T, x1.tyx g1.sub nd, kit_ty hk, R1, g1, .bl t⟩)⟩
theorem gp_isi2 {T T2 : String} {y z : Str} {p2 p3 p4 : Pos} {t2 : Bool} {n : Nat} (hm : X.mg "isinstance" = none) (hm2 : X.mg y = none) (hv : bootBuiltins y = some (.type T)) (hm3 : X.mg z = none) (hv3 : bootBuiltins z = some (.type T2)) (ha : GP X Γ e d) (hk : kitB (tyD d) T = some t) (hk2 : kitB (tyD d) T2 = some t2)
    (nd : noDict d = true := by rfl) (hg : Gl X "isinstance" := by rfl) (hg2 : Gl X y := by rfl) (hg3 : Gl X z := by rfl) (hn : y ≠ "__name__" := by decide) (hd : (y == ("__debug__" : Str)) = false := by decide) (hn3 : z ≠ "__name__" := by decide) (hd3 : (z == ("__debug__" : Str)) = false := by decide)
    (he : starEach [e, .Tuple [.Name y p2, .Name z p3] n p4] X.env = (false, eval e X.env) :: starEach [.Tuple [.Name y p2, .Name z p3] n p4] X.env := by rfl) (he2 : starEach [.Tuple [.Name y p2, .Name z p3] n p4] X.env = (false, eval (.Tuple [.Name y p2, .Name z p3] n p4) X.env) :: starEach [] X.env := by rfl)
    (hpl : (backTo pos (starEach [.Tuple [.Name y p2, .Name z p3] n p4] X.env)).any (·.1) = false := by rfl) :
    GP X Γ (.Call (.Name "isinstance" p) [e, .Tuple [.Name y p2, .Name z p3] n p4] [] pos) (.bool (t || t2)) := ⟨fun σ R H s k =>
  (pe_callB call_isiT hg hm PyProof.Rows.boot_isinstance (pa_cons pe_re (pa_cons (pe_tup (pa_cons (pe_bltn (v := .ty T) hg2 hm2 hv rfl hn hd) (pa_cons (pe_bltn (v := .ty T2) hg3 hm3 hv3 rfl hn3 hd3) pa_nil))) pa_nil he2) he) (by decide) (by decide) he hpl).re ((ha.run σ R H s k).mono fun v H1 ⟨R1, g1, x1⟩ =>
    ⟨by show 2 ≤ sizeLine; decide, fun q hq => ⟨v, q, [.ty T, .ty T2], .type (tyD d), [.type T, .type T2], t || t2, rfl, upd_same, .cons (.ty T) (.cons (.ty T2) .nil), x1.tyx (g1.sub.trans (.new hq)) nd,
      kitAny_cons (kit_ty hk) (fun e => by subst e; exact kitAny_cons (kit_ty hk2) (fun e => by subst e; exact kitAny_nil) (fun e => by subst e; rfl)) (fun e => by subst e; rfl), R1, g1.trans (Grow.junk g1.sub (.new hq)), .bl _⟩⟩)⟩
def is_int : PyData → Bool
  | .bool _ => true
  | .int _ => true
  | _ => false
theorem kb_int : kitB (tyD d) "int" = some (is_int d) := by
  cases d with
  | none => exact (by decide +kernel : kitB "NoneType" "int" = some false)
  | bool b => exact (by decide +kernel : kitB "bool" "int" = some true)
  | int i => exact (by decide +kernel : kitB "int" "int" = some true)
  | str z => exact (by decide +kernel : kitB "str" "int" = some false)
  | list z => exact (by decide +kernel : kitB "list" "int" = some false)
  | tuple z => exact (by decide +kernel : kitB "tuple" "int" = some false)
  | dict z => exact (by decide +kernel : kitB "dict" "int" = some false)
def is_bool : PyData → Bool
  | .bool _ => true
  | _ => false
theorem kb_bool : kitB (tyD d) "bool" = some (is_bool d) := by
  cases d with
  | none => exact (by decide +kernel : kitB "NoneType" "bool" = some false)
  | bool b => exact (by decide +kernel : kitB "bool" "bool" = some true)
  | int i => exact (by decide +kernel : kitB "int" "bool" = some false)
  | str z => exact (by decide +kernel : kitB "str" "bool" = some false)
  | list z => exact (by decide +kernel : kitB "list" "bool" = some false)
  | tuple z => exact (by decide +kernel : kitB "tuple" "bool" = some false)
  | dict z => exact (by decide +kernel : kitB "dict" "bool" = some false)
def is_str : PyData → Bool
  | .str _ => true
  | _ => false
theorem kb_str : kitB (tyD d) "str" = some (is_str d) := by
  cases d with
  | none => exact (by decide +kernel : kitB "NoneType" "str" = some false)
  | bool b => exact (by decide +kernel : kitB "bool" "str" = some false)
  | int i => exact (by decide +kernel : kitB "int" "str" = some false)
  | str z => exact (by decide +kernel : kitB "str" "str" = some true)
  | list z => exact (by decide +kernel : kitB "list" "str" = some false)
  | tuple z => exact (by decide +kernel : kitB "tuple" "str" = some false)
  | dict z => exact (by decide +kernel : kitB "dict" "str" = some false)
def is_list : PyData → Bool
  | .list _ => true
  | _ => false
theorem kb_list : kitB (tyD d) "list" = some (is_list d) := by
  cases d with
  | none => exact (by decide +kernel : kitB "NoneType" "list" = some false)
  | bool b => exact (by decide +kernel : kitB "bool" "list" = some false)
  | int i => exact (by decide +kernel : kitB "int" "list" = some false)
  | str z => exact (by decide +kernel : kitB "str" "list" = some false)
  | list z => exact (by decide +kernel : kitB "list" "list" = some true)
  | tuple z => exact (by decide +kernel : kitB "tuple" "list" = some false)
  | dict z => exact (by decide +kernel : kitB "dict" "list" = some false)
def is_tuple : PyData → Bool
  | .tuple _ => true
  | _ => false
theorem kb_tuple : kitB (tyD d) "tuple" = some (is_tuple d) := by
  cases d with
  | none => exact (by decide +kernel : kitB "NoneType" "tuple" = some false)
  | bool b => exact (by decide +kernel : kitB "bool" "tuple" = some false)
  | int i => exact (by decide +kernel : kitB "int" "tuple" = some false)
  | str z => exact (by decide +kernel : kitB "str" "tuple" = some false)
  | list z => exact (by decide +kernel : kitB "list" "tuple" = some false)
  | tuple z => exact (by decide +kernel : kitB "tuple" "tuple" = some true)
  | dict z => exact (by decide +kernel : kitB "dict" "tuple" = some false)
end
end G

set_option Elab.async false
set_option linter.all false
set_option maxRecDepth 100000
set_option maxHeartbeats 2000000
namespace G
open PySem PySem.Spec L2
/-! ### targets -/
structure GGP (X : Cx) (Γ : List Sl) (tg : Expr) (d : PyData) (Γ' : List Sl) (js : List Nat) : Prop where
  run : ∀ σ R H v, Ex R H → Paired (SlOk X.K R) Γ σ → Da X.K R v d → RG X tg v σ H fun σ' H' => H' = H ∧ Paired (SlOk X.K R) Γ' σ' ∧ σ'.length = σ.length ∧ ∀ i, i ∉ js → σ'[i]? = σ[i]?
structure GGsP (X : Cx) (Γ : List Sl) (tgs : List Expr) (ds : List PyData) (Γ' : List Sl) (js : List Nat) : Prop where
  run : ∀ σ R H vs, Ex R H → Paired (SlOk X.K R) Γ σ → DaAll X.K R vs ds → RGs X tgs vs σ H fun σ' H' => H' = H ∧ Paired (SlOk X.K R) Γ' σ' ∧ σ'.length = σ.length ∧ ∀ i, i ∉ js → σ'[i]? = σ[i]?
section
variable {X : Cx} {Γ Γ1 Γ2 : List Sl} {d : PyData} {pos : Pos} {js ks : List Nat}
theorem gg_name (i : Nat) {x : Str} (hN : X.N.Nodup) (hi : X.N[i]? = some x := by rfl) (hx : Loc X.env.scope x := by first | exact .inl rfl | exact .inr rfl) (hf : X.fn x = true ∨ X.env.scope.names.lookup x = some .local := by first | exact .inl rfl | exact .inr rfl) : GGP X Γ (.Name x pos) d (Γ.set i (.sh d)) [i] := ⟨fun σ R H v s k h =>
  (pg_name hN hi hx hf).re ⟨rfl, Paired.set (SlOk.of (s := .sh d) h) i k, by simp, fun j hj => by rw [List.getElem?_set_ne (fun e => hj (by simp [e]))]⟩⟩
theorem ggs_nil : GGsP X Γ [] [] Γ [] := ⟨fun σ R H vs s k h => by
  cases h
  exact pgs_nil.re ⟨rfl, rfl, k, rfl, fun _ _ => rfl⟩⟩
theorem ggs_cons {t : Expr} {ts : List Expr} {ds : List PyData} (h1 : GGP X Γ t d Γ1 js) (h2 : GGsP X Γ1 ts ds Γ2 ks) (hs : (assignEach (t :: ts) X.env).map (·.2) = assign t X.env :: (assignEach ts X.env).map (·.2) := by rfl) : GGsP X Γ (t :: ts) (d :: ds) Γ2 (js ++ ks) := ⟨fun σ R H vs s k h => by
  cases h with
  | cons h a =>
    exact (pgs_cons pg_re pgs_re hs).re ⟨_, _, rfl, (h1.run σ R H _ s k h).mono fun σ1 H1 ⟨e1, k1, l1, f1⟩ => by
      subst e1
      exact (h2.run σ1 R H1 _ s k1 a).mono fun σ2 H2 ⟨e2, k2, l2, f2⟩ => ⟨e2, k2, l2.trans l1, fun i hi => by
        rw [List.mem_append, not_or] at hi
        rw [f2 i hi.2, f1 i hi.1]⟩⟩⟩
theorem gg_tup {ts : List Expr} {ds : List PyData} {n : Nat} (h : GGsP X Γ ts ds Γ1 js) (hc : X.calm = true := by rfl) (hl : (assignEach ts X.env).length = ds.length := by rfl) (hst : (assignEach ts X.env).findIdx? (·.1) = none := by rfl) : GGP X Γ (.Tuple ts n pos) (.tuple ds) Γ1 js := ⟨fun σ R H v s k hv => by
  cases hv with
  | tup h1 a1 => exact (pg_tup hc pgs_re hl hst).re ⟨_, _, rfl, ex_t s h1, a1.length, h.run σ R H _ s k a1⟩⟩
end

/-! ### what is walked -/
structure Walks (K : PySem.W.Frag) (J : It) (R : Hp) (ds : List PyData) : Prop where
  go : ∀ i R2 H, i < ds.length → Ex R R2 → Ex R2 H → J.go i H
  yld : ∀ i d R2 H x H', ds[i]? = some d → Ex R R2 → Ex R2 H → J.yld i H x H' → ∃ R3, Grow R2 H R3 H' ∧ Da K R3 x d
  stop : ∀ R2 H, Ex R R2 → Ex R2 H → J.stop ds.length H
structure GIP (X : Cx) (Γ : List Sl) (tg iter : Expr) (ds : List PyData) : Prop where
  run : ∀ σ R H, Ex R H → Paired (SlOk X.K R) Γ σ → RI X tg iter σ H fun J H' => ∃ R', Grow R H R' H' ∧ Walks X.K J R' ds
section
variable {X : Cx} {Γ : List Sl} {tg e : Expr} {ds es : List PyData} {p pos tpos : Pos}
theorem walks_list {K : PySem.W.Frag} {R : Hp} {a : Addr} {xs : List V} (h : SqL K R a xs) (x : DaAll K R xs ds) : Walks K (Itl K a) R ds where
  go := fun i R2 H hi r s => by
    have hx : i < xs.length := by rw [x.length]; exact hi
    exact ⟨xs, xs[i], ex_l (r.trans s) h, by simp [hx]⟩
  yld := fun i d R2 H v H' hd r s y => by
    obtain ⟨e, y⟩ := y
    subst e
    obtain ⟨u, h1, h2⟩ := x.get hd
    have h3 := y xs (ex_l (r.trans s) h)
    rw [h1] at h3
    cases h3
    exact ⟨R2, Grow.refl s, h2.mono r⟩
  stop := fun R2 H r s => ⟨xs, ex_l (r.trans s) h, by rw [x.length]; exact Nat.le_refl _⟩
theorem walks_tup {K : PySem.W.Frag} {R : Hp} {a : Addr} {xs : List V} (h : R a = some (.tup xs)) (x : DaAll K R xs ds) : Walks K (Itt K a) R ds where
  go := fun i R2 H hi r s => by
    have hx : i < xs.length := by rw [x.length]; exact hi
    exact ⟨xs, xs[i], ex_t (r.trans s) h, by simp [hx]⟩
  yld := fun i d R2 H v H' hd r s y => by
    obtain ⟨e, y⟩ := y
    subst e
    obtain ⟨u, h1, h2⟩ := x.get hd
    have h3 := y xs (ex_t (r.trans s) h)
    rw [h1] at h3
    cases h3
    exact ⟨R2, Grow.refl s, h2.mono r⟩
  stop := fun R2 H r s => ⟨xs, ex_t (r.trans s) h, by rw [x.length]; exact Nat.le_refl _⟩
def rng (lo : Int) (n : Nat) : List Int := (List.range n).map fun (i : Nat) => lo + (i : Int)
theorem rng_len (lo : Int) (n : Nat) : (rng lo n).length = n := by simp [rng]
theorem rng_get {lo : Int} {n i : Nat} {d : PyData} (h : ((rng lo n).map PyData.int)[i]? = some d) : i < n ∧ d = .int (lo + (i : Int)) := by
  rw [List.getElem?_map, rng, List.getElem?_map] at h
  by_cases hi : i < n
  · rw [List.getElem?_range hi] at h
    simp at h
    exact ⟨hi, h.symm⟩
  · rw [List.getElem?_eq_none (by simp; omega)] at h
    simp at h
theorem walks_rng {K : PySem.W.Frag} {R : Hp} {lo : Int} {n : Nat} : Walks K (Itr lo n) R ((rng lo n).map PyData.int) where
  go := fun i R2 H hi r s => by
    rw [List.length_map, rng_len] at hi
    exact hi
  yld := fun i d R2 H v H' hd r s y => by
    obtain ⟨e, y⟩ := y
    subst e y
    obtain ⟨_, rfl⟩ := rng_get hd
    exact ⟨R2, Grow.refl s, .int _⟩
  stop := fun R2 H r s => by
    rw [List.length_map, rng_len]
    exact Nat.le_refl n
theorem gi_list (h : GP X Γ e (.list ds)) : GIP X Γ tg e ds := ⟨fun σ R H s k => (pi_list pe_re).re ((h.run σ R H s k).mono fun v H1 ⟨R1, g1, x1⟩ => by
  cases x1 with
  | lst h1 a1 => exact ⟨_, rfl, ⟨_, ex_l g1.sub h1⟩, R1, g1, walks_list h1 a1⟩)⟩
theorem gi_tup (h : GP X Γ e (.tuple ds)) : GIP X Γ tg e ds := ⟨fun σ R H s k => (pi_tup pe_re).re ((h.run σ R H s k).mono fun v H1 ⟨R1, g1, x1⟩ => by
  cases x1 with
  | tup h1 a1 => exact ⟨_, rfl, ⟨_, ex_t g1.sub h1⟩, R1, g1, walks_tup h1 a1⟩)⟩
theorem gi_range1 {a : Expr} {n : Int} (hm : X.mg "range" = none) (h : GP X Γ a (.int n)) (hn : -(2 ^ 62) ≤ n ∧ n < 2 ^ 62) (hg : Gl X "range" := by rfl) (hs : starEach [a] X.env = [(false, eval a X.env)] := by rfl) : GIP X Γ tg (.Call (.Name "range" p) [a] [] pos) ((rng 0 n.toNat).map .int) := ⟨fun σ R H s k =>
  (pi_range1 hg hm pa_re hs).re (((gpa_cons h gpa_nil hs).run σ R H s k).mono fun v H1 ⟨R1, g1, x1⟩ => by
    cases x1 with
    | cons h1 a1 =>
      cases a1
      cases h1
      exact ⟨n, rfl, hn.1, hn.2, R1, g1, walks_rng⟩)⟩
theorem gi_range2 {a b : Expr} {m n : Int} (hm : X.mg "range" = none) (h : GP X Γ a (.int m)) (h2 : GP X Γ b (.int n)) (hmn : (-(2 ^ 62) ≤ m ∧ m < 2 ^ 62) ∧ -(2 ^ 62) ≤ n ∧ n < 2 ^ 62) (hg : Gl X "range" := by rfl) (hs : starEach [a, b] X.env = [(false, eval a X.env), (false, eval b X.env)] := by rfl) (hs2 : starEach [b] X.env = [(false, eval b X.env)] := by rfl) :
    GIP X Γ tg (.Call (.Name "range" p) [a, b] [] pos) ((rng m (n - m).toNat).map .int) := ⟨fun σ R H s k =>
  (pi_range2 hg hm pa_re hs hs2).re (((gpa_cons h (gpa_cons h2 gpa_nil hs2) (by rw [hs, hs2])).run σ R H s k).mono fun v H1 ⟨R1, g1, x1⟩ => by
    cases x1 with
    | cons h1 a1 =>
      cases a1 with
      | cons h2 a2 =>
        cases a2
        cases h1
        cases h2
        exact ⟨m, n, rfl, ⟨hmn.1.1, hmn.1.2, hmn.2.1, hmn.2.2⟩, R1, g1, walks_rng⟩)⟩
def pair2 (d1 d2 : PyData) : PyData := .tuple [d1, d2]
theorem zip_get {i : Nat} {d : PyData} (h : (List.zipWith pair2 ds es)[i]? = some d) : ∃ d1 d2, ds[i]? = some d1 ∧ es[i]? = some d2 ∧ d = pair2 d1 d2 := by
  rw [List.getElem?_zipWith] at h
  cases h1 : ds[i]? with
  | none => rw [h1] at h; cases h
  | some d1 =>
    cases h2 : es[i]? with
    | none => rw [h1, h2] at h; cases h
    | some d2 =>
      rw [h1, h2] at h
      cases h
      exact ⟨d1, d2, rfl, rfl, rfl⟩
theorem pair_new {K : PySem.W.Frag} {R2 H : Hp} {T : Addr} {x y : V} {d1 d2 : PyData} (s : Ex R2 H) (hT : H T = none) (h1 : Da K R2 x d1) (h2 : Da K R2 y d2) : ∃ R3, Grow R2 H R3 (upd H T (.tup [x, y])) ∧ Da K R3 (.ref T) (pair2 d1 d2) := by
  have n := Ex.new (o := .tup [x, y]) (ex_none s hT)
  exact ⟨_, Grow.made s hT, .tup upd_same (.cons (h1.mono n) (.cons (h2.mono n) .nil))⟩
theorem walks_zipL {K : PySem.W.Frag} {R : Hp} {a b : Addr} {xs ys : List V} (h : SqL K R a xs) (x : DaAll K R xs ds) (h2 : SqL K R b ys) (y : DaAll K R ys es) : Walks K (Itz K a b) R (List.zipWith pair2 ds es) where
  go := fun i R2 H hi r s => by
    rw [List.length_zipWith] at hi
    have l1 : i < xs.length := by rw [x.length]; omega
    have l2 : i < ys.length := by rw [y.length]; omega
    exact ⟨xs, ys, xs[i], ys[i], ex_l (r.trans s) h, ex_l (r.trans s) h2, by simp [l1], by simp [l2]⟩
  yld := fun i d R2 H v H' hd r s z => by
    obtain ⟨d1, d2, e1, e2, rfl⟩ := zip_get hd
    obtain ⟨T, x', y', rfl, hT, rfl, f1, f2⟩ := z
    obtain ⟨u1, q1, w1⟩ := x.get e1
    obtain ⟨u2, q2, w2⟩ := y.get e2
    have f1 := f1 xs (ex_l (r.trans s) h)
    have f2 := f2 ys (ex_l (r.trans s) h2)
    rw [q1] at f1
    rw [q2] at f2
    cases f1
    cases f2
    exact pair_new s hT (w1.mono r) (w2.mono r)
  stop := fun R2 H r s => by
    refine ⟨xs, ys, ex_l (r.trans s) h, ex_l (r.trans s) h2, ?_⟩
    rw [List.length_zipWith, x.length, y.length]
    omega
theorem walks_zipT {K : PySem.W.Frag} {R : Hp} {a b : Addr} {xs ys : List V} (h : R a = some (.tup xs)) (x : DaAll K R xs ds) (h2 : R b = some (.tup ys)) (y : DaAll K R ys es) : Walks K (RZ.ItzT K a b) R (List.zipWith pair2 ds es) where
  go := fun i R2 H hi r s => by
    rw [List.length_zipWith] at hi
    have l1 : i < xs.length := by rw [x.length]; omega
    have l2 : i < ys.length := by rw [y.length]; omega
    exact ⟨xs, ys, xs[i], ys[i], ex_t (r.trans s) h, ex_t (r.trans s) h2, by simp [l1], by simp [l2]⟩
  yld := fun i d R2 H v H' hd r s z => by
    obtain ⟨d1, d2, e1, e2, rfl⟩ := zip_get hd
    obtain ⟨T, x', y', rfl, hT, rfl, f1, f2⟩ := z
    obtain ⟨u1, q1, w1⟩ := x.get e1
    obtain ⟨u2, q2, w2⟩ := y.get e2
    have f1 := f1 xs (ex_t (r.trans s) h)
    have f2 := f2 ys (ex_t (r.trans s) h2)
    rw [q1] at f1
    rw [q2] at f2
    cases f1
    cases f2
    exact pair_new s hT (w1.mono r) (w2.mono r)
  stop := fun R2 H r s => by
    refine ⟨xs, ys, ex_t (r.trans s) h, ex_t (r.trans s) h2, ?_⟩
    rw [List.length_zipWith, x.length, y.length]
    omega
/-- both lists, or both tuples -/
theorem gi_zip {a b : Expr} {d1 d2 : PyData} {ts : List Expr} {n : Nat} (hm : X.mg "zip" = none) (h : GP X Γ a d1) (h2 : GP X Γ b d2) (hq : (d1 = .list ds ∧ d2 = .list es) ∨ (d1 = .tuple ds ∧ d2 = .tuple es)) (hg : Gl X "zip" := by rfl)
    (hs : starEach [a, b] X.env = (false, eval a X.env) :: starEach [b] X.env := by rfl) (hs2 : starEach [b] X.env = (false, eval b X.env) :: starEach [] X.env := by rfl) (hpl : (backTo pos (starEach [b] X.env)).any (·.1) = false := by rfl) :
    GIP X Γ (.Tuple ts n tpos) (.Call (.Name "zip" p) [a, b] [] pos) (List.zipWith pair2 ds es) := ⟨fun σ R H s k =>
  (RZ.pi_zipA hg hm pa_re hs hpl).re (((gpa_cons h (gpa_cons h2 gpa_nil hs2) hs).run σ R H s k).mono fun v H1 ⟨R1, g1, x1⟩ => by
    cases x1 with
    | cons x1 a1 =>
      cases a1 with
      | cons x2 a2 =>
        cases a2
        rcases hq with ⟨rfl, rfl⟩ | ⟨rfl, rfl⟩
        · cases x1 with
          | lst q1 w1 =>
            cases x2 with
            | lst q2 w2 => exact ⟨_, _, _, _, rfl, .inl ⟨ex_l g1.sub q1, ex_l g1.sub q2, R1, g1, walks_zipL q1 w1 q2 w2⟩⟩
        · cases x1 with
          | tup q1 w1 =>
            cases x2 with
            | tup q2 w2 => exact ⟨_, _, _, _, rfl, .inr ⟨ex_t g1.sub q1, ex_t g1.sub q2, R1, g1, walks_zipT q1 w1 q2 w2⟩⟩)⟩
end

/-! ### comprehensions: nothing changed -/
abbrev InB (X : Cx) (scope : Scope) (T : Cx → Prop) : Prop := ∀ (s : Shared) (H : Hp) (C : Addr) (cl : List (Str × Addr)) (fp : List Addr), T (X.blk s H scope (compEnvC scope cl C X.env) fp)
def wipeG (Γ : List Sl) : List Nat → List Sl
  | [] => Γ
  | v :: vs => (wipeG Γ vs).set v .no
theorem wipe_ok {K : PySem.W.Frag} {R : Hp} {Γ : List Sl} {σ : L2.St} (h : Paired (SlOk K R) Γ σ) : ∀ vs : List Nat, Paired (SlOk K R) (wipeG Γ vs) (wipe σ vs)
  | [] => h
  | v :: vs => by
    have g : SlOk K R .no none := trivial
    exact Paired.set g v (wipe_ok h vs)
theorem wipe_ext {σ σ' : L2.St} : ∀ (vs : List Nat), σ'.length = σ.length → (∀ i, i ∉ vs → σ'[i]? = σ[i]?) → wipe σ' vs = wipe σ vs := by
  intro vs hl h
  apply List.ext_getElem?
  intro i
  by_cases hi : i ∈ vs
  · have key : ∀ (τ : L2.St) (us : List Nat), i ∈ us → (wipe τ us)[i]? = if i < τ.length then some none else none := by
      intro τ us
      induction us with
      | nil => intro h; cases h
      | cons u us ih =>
        intro hm
        unfold wipe
        by_cases e : u = i
        · subst e
          by_cases hlt : u < τ.length
          · rw [List.getElem?_set_self (by rw [wipe_length]; exact hlt), if_pos hlt]
          · rw [List.getElem?_eq_none (by rw [List.length_set, wipe_length]; omega), if_neg hlt]
        · rw [List.getElem?_set_ne e]
          rcases List.mem_cons.mp hm with q | q
          · exact absurd q.symm e
          · exact ih q
    rw [key σ' vs hi, key σ vs hi, hl]
  · rw [wipe_out hi, wipe_out hi]
    exact h i hi
theorem wipe_wipe {σ σ' : L2.St} {vs js : List Nat} (hj : ∀ i ∈ js, i ∈ vs) (hl : σ'.length = (wipe σ vs).length) (h : ∀ i, i ∉ js → σ'[i]? = (wipe σ vs)[i]?) : wipe σ' vs = wipe σ vs := by
  refine wipe_ext vs (hl.trans (wipe_length σ vs)) fun i hi => ?_
  rw [h i fun q => hi (hj i q), wipe_out hi]
structure GTsP (X : Cx) (Γ : List Sl) (ifs : List Expr) (b : Bool) : Prop where
  run : ∃ tt : TT, PTs X ifs tt ∧ ∀ σ R H, Ex R H → Paired (SlOk X.K R) Γ σ → ∀ Q : Bool → Hp → Prop, (∀ R' H', Grow R H R' H' → Q b H') → tt σ H Q
theorem gts_nil {X : Cx} {Γ : List Sl} : GTsP X Γ [] true := ⟨_, pts_nil, fun σ R H s k Q q => q R H (Grow.refl s)⟩
theorem gts_one {X : Cx} {Γ : List Sl} {c : Expr} {b : Bool} (h : GTP X Γ c b) : GTsP X Γ [c] b := ⟨_, pts_one pt_re, fun σ R H s k Q q => (h.run σ R H s k).mono fun v H' ⟨R', g, e⟩ => by
  subst e
  exact q R' H' g⟩
def RTs (X : Cx) (ifs : List Expr) : TT := fun σ H Q => ∀ (pins : List (Addr × Obj)) (s : Shared), Inv X pins σ H s →
  wpAny (model X.prog X.w) X.A (forIn ifs true fun c r => if r = true then do let ok ← isTrue c X.env (eval c X.env); pure (ForInStep.yield ok) else pure (ForInStep.yield r)) (TP X pins σ Q) X.xe s
theorem GTsP.re {X : Cx} {Γ : List Sl} {ifs : List Expr} {b : Bool} (h : GTsP X Γ ifs b) {σ : L2.St} {R H : Hp} (s : Ex R H) (k : Paired (SlOk X.K R) Γ σ) {Q : Bool → Hp → Prop} (q : ∀ R' H', Grow R H R' H' → Q b H') : RTs X ifs σ H Q := by
  obtain ⟨tt, p, f⟩ := h.run
  exact fun pins sh I => p.run pins sh σ H Q I (f σ R H s k Q q)
section
variable {X : Cx} {Γ : List Sl} {tg iter elt : Expr} {ifs : List Expr} {scope : Scope} {pos : Pos}
theorem lc_list_ok {α : Type} {enc out : α → PyData} {p : α → Bool} {own : List (Str × Nat)} (xs : List α) (Γt : α → List Sl) {js : List Nat} (hN : X.N.Nodup) (hi : GIP X Γ tg iter (xs.map enc)) (ok : BlkOk X.N X.env.scope scope own)
    (hg : ∀ x ∈ xs, InB X scope fun X' => GGP X' (wipeG Γ (own.map (·.2))) tg (enc x) (Γt x) js) (hj : ∀ i ∈ js, i ∈ own.map (·.2))
    (ht : ∀ x ∈ xs, InB X scope fun X' => GTsP X' (Γt x) ifs (p x)) (he : ∀ x ∈ xs, p x = true → InB X scope fun X' => GP X' (Γt x) elt (out x))
    (hz : xs.length < sizeLine) (hc : X.calm = true := by rfl) (hs : ∀ x, foldedSetIterable iter X.env x = pure x := by intro _; rfl) :
    ∃ wi g tt te, PI X tg iter wi ∧ (InB X scope fun X' => PG X' tg g) ∧ (InB X scope fun X' => PTs X' ifs tt) ∧ (InB X scope fun X' => PE X' elt te) ∧
      ∀ σ R H, Ex R H → Paired (SlOk X.K R) Γ σ → ∀ Q : VK, (∀ v H', (∃ R' p' vs, Grow R H R' H' ∧ v = .ref p' ∧ R' p' = none ∧ H p' = none ∧ H' p' = some (.lst vs) ∧ DaAll X.K R' vs ((xs.filter p).map out)) → Q v H') → tLc wi g tt te (own.map (·.2)) σ H Q := by
  refine ⟨RI X tg iter, fun v σ H Q => InB X scope fun X' => RG X' tg v σ H Q, fun σ H Q => InB X scope fun X' => RTs X' ifs σ H Q, fun σ H Q => InB X scope fun X' => RE X' elt σ H Q, pi_re,
    fun s H C cl fp => ⟨fun pins sh σ H' v u Q I r h => h s H C cl fp pins sh u I r⟩, fun s H C cl fp => ⟨fun pins sh σ H' Q I h => h s H C cl fp pins sh I⟩, fun s H C cl fp => ⟨fun pins sh σ H' Q I h => h s H C cl fp pins sh I⟩, fun σ R H s k Q hQ => ?_⟩
  refine (hi.run σ R H s k).mono fun J H1 ⟨R1, g1, wk⟩ D hD => ?_
  refine ⟨fun i m Hc => m = xs.length - i ∧ i ≤ xs.length ∧ ∃ R2 acc, Grow R1 H1 R2 Hc ∧ R2 D = none ∧ Hc D = some (.lst acc) ∧ DaAll X.K R2 acc (((xs.take i).filter p).map out), ⟨_, rfl, Nat.zero_le _, R1, [], Grow.junk g1.sub (.new hD), ex_none g1.sub hD, upd_same, .nil⟩, ?_⟩
  rintro i m Hc ⟨rfl, hle, R2, acc, g2, nD, cD, dA⟩
  by_cases hlt : i < xs.length
  · refine .inr ⟨wk.go i R2 Hc (by rw [List.length_map]; exact hlt) g2.r g2.sub, fun H' => i + 1 ≤ xs.length ∧ ∃ R2 acc, Grow R1 H1 R2 H' ∧ R2 D = none ∧ H' D = some (.lst acc) ∧ DaAll X.K R2 acc (((xs.take (i + 1)).filter p).map out), fun H' ⟨h1, h2⟩ => ⟨xs.length - (i + 1), by omega, rfl, h1, h2⟩, fun v H3 y => ?_⟩
    have hx : xs[i] ∈ xs := List.getElem_mem hlt
    have hget : (xs.map enc)[i]? = some (enc xs[i]) := by rw [List.getElem?_map, List.getElem?_eq_getElem hlt]; rfl
    obtain ⟨R3, g3, dv⟩ := wk.yld i _ R2 Hc v H3 hget g2.r g2.sub y
    intro s0 H0 C cl fp
    have hS := wipe_ok (slots_mono (g1.trans (g2.trans g3)).r k) (own.map (·.2))
    refine ((hg _ hx s0 H0 C cl fp).run _ R3 H3 v g3.sub hS dv).mono fun σ4 H4 ⟨e4, k4, l4, f4⟩ => ?_
    subst e4
    refine ⟨wipe_wipe hj l4 f4, fun s0 H0 C cl fp => (ht _ hx s0 H0 C cl fp).re g3.sub k4 fun R5 H5 g5 => ?_⟩
    have tk : xs.take (i + 1) = xs.take i ++ [xs[i]] := by rw [List.take_add_one, List.getElem?_eq_getElem hlt]; rfl
    have noD : ∀ {Ra Ha Rb Hb : Hp}, Grow Ra Ha Rb Hb → Ra D = none → (∃ o, Ha D = some o) → Rb D = none := fun {Ra Ha Rb Hb} g n ⟨o, ho⟩ => by
      cases q : Rb D with
      | none => rfl
      | some u =>
        rcases g.new _ _ q with z | z
        · rw [n] at z; cases z
        · rw [ho] at z; cases z
    have c3 : H4 D = some (.lst acc) := g3.h _ _ cD
    have c5 : H5 D = some (.lst acc) := g5.h _ _ c3
    have n3 := noD g3 nD ⟨_, cD⟩
    have n5 := noD g5 n3 ⟨_, c3⟩
    cases hp : p xs[i] with
    | false =>
      rw [if_neg Bool.false_ne_true]
      refine ⟨hlt, R5, acc, (g2.trans g3).trans g5, n5, c5, ?_⟩
      rw [tk, List.filter_append, List.filter_cons, if_neg (by rw [hp]; exact Bool.false_ne_true), List.filter_nil, List.append_nil]
      exact dA.mono (g3.trans g5).r
    | true =>
      rw [if_pos rfl]
      intro s0 H0 C cl fp
      refine ((he _ hx hp s0 H0 C cl fp).run _ R5 H5 g5.sub (slots_mono g5.r k4)).mono fun y6 H6 ⟨R6, g6, d6⟩ => ?_
      have c6 : H6 D = some (.lst acc) := g6.h _ _ c5
      have n6 := noD g6 n5 ⟨_, c5⟩
      refine ⟨acc, c6, ?_, hlt, R6, acc ++ [y6], ((g2.trans g3).trans (g5.trans g6)).mut n6 hD, n6, upd_same, ?_⟩
      · rw [dA.length, List.length_map]
        have := List.length_filter_le p (xs.take i)
        have h2 := List.length_take_le i xs
        omega
      · rw [tk, List.filter_append, List.map_append, List.filter_cons, if_pos hp, List.filter_nil]
        exact (dA.mono (g3.trans (g5.trans g6)).r).append (.cons d6 .nil)
  · have e : i = xs.length := by omega
    subst e
    refine .inl ⟨?_, hQ _ _ ⟨R2, D, acc, g1.trans g2, rfl, nD, ex_none g1.h hD, cD, ?_⟩⟩
    · have q := wk.stop R2 Hc g2.r g2.sub
      rw [List.length_map] at q
      exact q
    · rw [List.take_length] at dA
      exact dA
theorem glp_lc {α : Type} {enc out : α → PyData} {p : α → Bool} {own : List (Str × Nat)} (xs : List α) (Γt : α → List Sl) {js : List Nat} (hN : X.N.Nodup) (hi : GIP X Γ tg iter (xs.map enc)) (ok : BlkOk X.N X.env.scope scope own)
    (hg : ∀ x ∈ xs, InB X scope fun X' => GGP X' (wipeG Γ (own.map (·.2))) tg (enc x) (Γt x) js) (hj : ∀ i ∈ js, i ∈ own.map (·.2))
    (ht : ∀ x ∈ xs, InB X scope fun X' => GTsP X' (Γt x) ifs (p x)) (he : ∀ x ∈ xs, p x = true → InB X scope fun X' => GP X' (Γt x) elt (out x))
    (hz : xs.length < sizeLine) (hc : X.calm = true := by rfl) (hs : ∀ x, foldedSetIterable iter X.env x = pure x := by intro _; rfl) : GLP X Γ (.ListComp elt [⟨tg, iter, ifs, 0⟩] scope pos) ((xs.filter p).map out) := by
  obtain ⟨wi, g, tt, te, h1, h2, h3, h4, h5⟩ := lc_list_ok xs Γt hN hi ok hg hj ht he hz hc hs
  exact ⟨fun σ R H s k => (pe_lc hc hN h1 ok h2 h3 h4 hs).re (h5 σ R H s k _ fun v H' q => q)⟩
end
end G

set_option Elab.async false
set_option linter.all false
set_option maxRecDepth 100000
set_option maxHeartbeats 2000000
namespace G
open PySem PySem.Spec L2
/-! ### what changes owned objects: what is wanted behind it -/
structure GE (X : Cx) (Γ : List Sl) (O : Own) (e : Expr) (P : PyData → Own → Prop) : Prop where
  run : ∀ B σ R H, Ok X.K B Γ O σ R H → RE X e σ H fun v H' => ∃ R' O' d, Ex R R' ∧ Ok X.K B Γ O' σ R' H' ∧ Da X.K R' v d ∧ P d O'
/-- a new list, owned (its address is the last) -/
structure GL (X : Cx) (Γ : List Sl) (O : Own) (e : Expr) (P : List PyData → Own → Prop) : Prop where
  run : ∀ B σ R H, Ok X.K B Γ O σ R H → RE X e σ H fun v H' => ∃ R' O' l ds, v = .ref l ∧ Ex R R' ∧ Ok X.K B Γ (O' ++ [(l, .L ds)]) σ R' H' ∧ P ds O'
structure GT (X : Cx) (Γ : List Sl) (O : Own) (e : Expr) (P : Bool → Own → Prop) : Prop where
  run : ∀ B σ R H, Ok X.K B Γ O σ R H → RT X e σ H fun b H' => ∃ R' O', Ex R R' ∧ Ok X.K B Γ O' σ R' H' ∧ P b O'
structure GW (X : Cx) (Γ : List Sl) (O : Own) (e : Expr) (P : Bool → Own → Prop) : Prop where
  run : ∀ B σ R H, Ok X.K B Γ O σ R H → RW X e σ H fun b H' => ∃ R' O', Ex R R' ∧ Ok X.K B Γ O' σ R' H' ∧ P b O'
structure GA (X : Cx) (Γ : List Sl) (O : Own) (es : List Expr) (P : List Sl → Own → Prop) : Prop where
  run : ∀ B σ R H, Ok X.K B Γ O σ R H → RA X es σ H fun vs H' => ∃ R' O' as, Ex R R' ∧ Ok X.K B Γ O' σ R' H' ∧ Paired (VlOk X.K R') as vs ∧ P as O'
structure GI (X : Cx) (Γ : List Sl) (O : Own) (tg iter : Expr) (P : List PyData → Own → Prop) : Prop where
  run : ∀ B σ R H, Ok X.K B Γ O σ R H → RI X tg iter σ H fun J H' => ∃ R' O' ds, Ex R R' ∧ Ok X.K B Γ O' σ R' H' ∧ Walks X.K J R' ds ∧ P ds O'
section
variable {K : PySem.W.Frag} {B : Base} {Γ Γ' : List Sl} {O O' F : Own} {σ : L2.St} {R R' H H' : Hp}
theorem Ok.perm (k : Ok K B Γ O σ R H) (p : O.Perm O') : Ok K B Γ O' σ R H :=
  ⟨k.sub, k.r0, k.fr, k.keep, k.len, k.sl, fun q hq => k.own q (p.symm.subset hq), (p.map _).nodup_iff.mp k.nd⟩
theorem Ok.sl2 (k : Ok K B Γ O σ R H) {σ' : L2.St} (h : Paired (SlOk K R) Γ' σ') : Ok K B Γ' O σ' R H := ⟨k.sub, k.r0, k.fr, k.keep, k.len, h, k.own, k.nd⟩
/-- an owned object is told as shared from now on -/
theorem Ok.freeze {l : Addr} {ds : List PyData} (k : Ok K B Γ (O ++ [(l, .L ds)]) σ R H) : ∃ R', Ex R R' ∧ Ok K B Γ O σ R' H ∧ Da K R' (.ref l) (.list ds) := by
  obtain ⟨⟨vs, hl, a⟩, rl, ll⟩ := k.own (l, .L ds) (List.mem_append_right _ List.mem_cons_self)
  have hl : H l = some (.lst vs) := hl
  have rl : R l = none := rl
  have e : Ex R (upd R l (.lst vs)) := .new rl
  have nd := k.nd
  rw [List.map_append, List.nodup_append] at nd
  refine ⟨_, e, ⟨fun a o q => ?_, k.r0.trans e, fun a o q => ?_, k.keep, k.len, slots_mono e k.sl, fun p hp => ?_, nd.1⟩, .lst (.of upd_same) (a.mono e)⟩
  · by_cases z : a = l
    · subst z; rw [upd_same] at q; rw [hl]; exact q
    · rw [upd_ne z] at q; exact k.sub a o q
  · by_cases z : a = l
    · subst z; exact .inr (ll.symm)
    · rw [upd_ne z] at q; exact k.fr a o q
  · obtain ⟨c, r, q⟩ := k.own p (List.mem_append_left _ hp)
    have n : p.1 ≠ l := fun z => nd.2.2 _ (List.mem_map.mpr ⟨p, hp, rfl⟩) _ (by simp) z
    exact ⟨c.mono e rfl, by rw [upd_ne n]; exact r, q⟩
/-- a new object, owned -/
theorem Ok.own1 {l : Addr} {ds : List PyData} {vs : List V} (k : Ok K B Γ O σ R H) (g : Grow R H R' H') (rl : R' l = none) (hl : H l = none) (hl' : H' l = some (.lst vs)) (a : DaAll K R' vs ds) : Ok K B Γ (O ++ [(l, .L ds)]) σ R' H' := by
  have k2 := k.grow g
  refine ⟨k2.sub, k2.r0, k2.fr, k2.keep, k2.len, k2.sl, fun p hp => ?_, ?_⟩
  · rcases List.mem_append.mp hp with hp | hp
    · exact k2.own p hp
    · have e : p = (l, .L ds) := by simpa using hp
      subst e
      refine ⟨⟨vs, hl', a⟩, rl, ?_⟩
      by_cases z : l ∈ B.lent
      · exact .inl z
      · refine .inr ?_
        cases q : B.H0 l with
        | none => rfl
        | some u =>
          have w := k.keep l u q z
          rw [hl] at w; cases w
  · rw [List.map_append, List.nodup_append]
    refine ⟨k.nd, by simp, fun b hb c hc e => ?_⟩
    have hc : c = l := by simpa using hc
    obtain ⟨p, hp, rfl⟩ := List.mem_map.mp hb
    obtain ⟨o, ho⟩ := (k.own p hp).1.some
    rw [e, hc, hl] at ho; cases ho
/-- an owned object stands otherwise -/
theorem Ok.put {i : Nat} {l : Addr} {c c' : Cn} {o : HO} (k : Ok K B Γ O σ R H) (h : O[i]? = some (l, c)) (hc : CnOk K R (upd H l o) l c') : Ok K B Γ (O.set i (l, c')) σ R (upd H l o) := by
  have hm : (l, c) ∈ O := List.mem_of_getElem? h
  obtain ⟨c0, rl, ll⟩ := k.own _ hm
  have rl : R l = none := rl
  have hi : i < O.length := (List.getElem?_eq_some_iff.mp h).1
  have mp : (O.set i (l, c')).map (·.1) = O.map (·.1) := by
    apply List.ext_getElem?
    intro j
    rw [List.getElem?_map, List.getElem?_map]
    by_cases e : i = j
    · subst e
      rw [List.getElem?_set_self hi, h]
      rfl
    · rw [List.getElem?_set_ne e]
  refine ⟨fun a u q => ?_, k.r0, k.fr, fun a u q n => ?_, fun a m q => ?_, k.sl, fun p hp => ?_, by rw [mp]; exact k.nd⟩
  · rw [upd_ne (ne_of_none q rl)]
    exact k.sub a u q
  · by_cases e : a = l
    · subst e
      rcases ll with z | z
      · exact absurd z n
      · have z : B.H0 a = none := z
        rw [q] at z; cases z
    · rw [upd_ne e]; exact k.keep a u q n
  · by_cases e : a = l
    · subst e; rw [upd_same] at q; cases q
    · rw [upd_ne e] at q; exact k.len a m q
  · obtain ⟨j, hj⟩ := List.mem_iff_getElem?.mp hp
    by_cases e : i = j
    · subst e
      rw [List.getElem?_set_self hi] at hj
      cases hj
      exact ⟨hc, rl, ll⟩
    · rw [List.getElem?_set_ne e] at hj
      have hp' : p ∈ O := List.mem_of_getElem? hj
      obtain ⟨c1, r1, l1⟩ := k.own p hp'
      have n : p.1 ≠ l := fun z => by
        have nd := k.nd
        have h1 : (O.map (·.1))[i]? = some l := by rw [List.getElem?_map, h]; rfl
        have h2 : (O.map (·.1))[j]? = some l := by rw [List.getElem?_map, hj]; rw [← z]; rfl
        exact e (nd_ix nd h1 h2)
      exact ⟨c1.mono (.refl _) (upd_ne n), r1, l1⟩
end
theorem DaAll.sh {K : PySem.W.Frag} {R : Hp} : ∀ {vs : List V} {ds : List PyData}, DaAll K R vs ds → Paired (VlOk K R) (ds.map .sh) vs
  | _, _, .nil => .nil
  | _, _, .cons h a => .cons h (DaAll.sh a)
section
variable {X : Cx} {Γ : List Sl} {O F : Own} {a b c e : Expr} {es : List Expr} {d : PyData} {pos : Pos} {P : PyData → Own → Prop} {t : Bool}
theorem GE.imp {P' : PyData → Own → Prop} (h : GE X Γ O e P) (k : ∀ d O', P d O' → P' d O') : GE X Γ O e P' := ⟨fun B σ R H o => (h.run B σ R H o).mono fun v H' ⟨R', O', d, x, y, z, w⟩ => ⟨R', O', d, x, y, z, k _ _ w⟩⟩
theorem GT.imp {P P' : Bool → Own → Prop} (h : GT X Γ O e P) (k : ∀ d O', P d O' → P' d O') : GT X Γ O e P' := ⟨fun B σ R H o => (h.run B σ R H o).mono fun v H' ⟨R', O', x, y, w⟩ => ⟨R', O', x, y, k _ _ w⟩⟩
theorem GL.imp {P P' : List PyData → Own → Prop} (h : GL X Γ O e P) (k : ∀ d O', P d O' → P' d O') : GL X Γ O e P' := ⟨fun B σ R H o => (h.run B σ R H o).mono fun v H' ⟨R', O', l, ds, x, y, z, w⟩ => ⟨R', O', l, ds, x, y, z, k _ _ w⟩⟩
theorem ge_p (h : GP X Γ e d) (q : P d O) : GE X Γ O e P := ⟨fun B σ R H o => (h.run σ R H o.sub o.sl).mono fun v H' ⟨R', g, x⟩ => ⟨R', O, d, g.r, o.grow g, x, q⟩⟩
theorem gt_p {P : Bool → Own → Prop} (h : GTP X Γ e t) (q : P t O) : GT X Γ O e P := ⟨fun B σ R H o => (h.run σ R H o.sub o.sl).mono fun v H' ⟨R', g, x⟩ => ⟨R', O, g.r, o.grow g, by rw [x]; exact q⟩⟩
theorem gl_p {P : List PyData → Own → Prop} {ds : List PyData} (h : GLP X Γ e ds) (q : P ds O) : GL X Γ O e P := ⟨fun B σ R H o => (h.run σ R H o.sub o.sl).mono fun v H' ⟨R', p, vs, g, e1, e2, e3, e4, x⟩ => ⟨R', O, p, ds, e1, g.r, o.own1 g e2 e3 e4 x, q⟩⟩
theorem ge_l (h : GL X Γ O e fun ds O' => P (.list ds) O') : GE X Γ O e P := ⟨fun B σ R H o => (h.run B σ R H o).mono fun v H' ⟨R', O', l, ds, e1, x, y, w⟩ => by
  subst e1
  obtain ⟨R2, x2, y2, z2⟩ := y.freeze
  exact ⟨R2, O', .list ds, x.trans x2, y2, z2, w⟩⟩
theorem gi_p {P : List PyData → Own → Prop} {tg : Expr} {ds : List PyData} (h : GIP X Γ tg e ds) (q : P ds O) : GI X Γ O tg e P := ⟨fun B σ R H o => (h.run σ R H o.sub o.sl).mono fun v H' ⟨R', g, x⟩ => ⟨R', O, ds, g.r, o.grow g, x, q⟩⟩
/-- what is not touched stands -/
theorem ge_frame (h : GE X Γ O e P) : GE X Γ (O ++ F) e fun d O' => ∃ O1, O' = O1 ++ F ∧ P d O1 := ⟨fun B σ R H o => (h.run _ σ R H (o.drop (List.sublist_append_left O F)).now).mono fun v H' ⟨R', O', d, x, y, z, w⟩ => ⟨R', O' ++ F, d, x, o.back y, z, O', rfl, w⟩⟩
/-- owned lists, read only -/
inductive Bor (O : Own) : List Sl → List Sl → Prop
  | nil : Bor O [] []
  | same {s : Sl} {l m : List Sl} : Bor O l m → Bor O (s :: l) (s :: m)
  | own {a : Addr} {ds : List PyData} {l m : List Sl} : (a, .L ds) ∈ O → Bor O l m → Bor O (.ow a :: l) (.sh (.list ds) :: m)
  | dic {a : Addr} {kvs : List (Int × Int)} {l m : List Sl} : (a, .I kvs) ∈ O → Bor O l m → Bor O (.ow a :: l) (.sh (dI kvs) :: m)
/-- all owned lists and dicts told as shared -/
theorem Ok.lend {K : PySem.W.Frag} {B : Base} {O : Own} {σ : L2.St} {R H : Hp} (k : Ok K B Γ O σ R H) : ∃ R1, Ex R R1 ∧ Ex R1 H ∧ ∀ p ∈ O, (∀ ds, p.2 = .L ds → Da K R1 (.ref p.1) (.list ds)) ∧ ∀ kvs, p.2 = .I kvs → Da K R1 (.ref p.1) (dI kvs) := by
  refine ⟨H, k.sub, .refl _, fun p hp => ⟨fun ds e => ?_, fun kvs e => ?_⟩⟩
  · obtain ⟨c, _, _⟩ := k.own p hp
    rw [e] at c
    obtain ⟨vs, h, a⟩ := c
    exact .lst (.of h) (a.mono k.sub)
  · obtain ⟨c, _, _⟩ := k.own p hp
    rw [e] at c
    exact .dic (.of c)
theorem Bor.ok {K : PySem.W.Frag} {R1 : Hp} (q : ∀ p ∈ O, (∀ ds, p.2 = .L ds → Da K R1 (.ref p.1) (.list ds)) ∧ ∀ kvs, p.2 = .I kvs → Da K R1 (.ref p.1) (dI kvs)) : ∀ {Γ Γ' : List Sl} {σ : L2.St}, Bor O Γ Γ' → Paired (SlOk K R1) Γ σ → Paired (SlOk K R1) Γ' σ
  | _, _, _, .nil, .nil => .nil
  | _, _, _, .same b, .cons h t => .cons h (Bor.ok q b t)
  | _, _, _, .own m b, .cons (b := v) h t => .cons (by
      cases v with
      | none => exact h
      | some v =>
        have e : v = .ref _ := h
        rw [e]
        exact (q _ m).1 _ rfl) (Bor.ok q b t)
  | _, _, _, .dic m b, .cons (b := v) h t => .cons (by
      cases v with
      | none => exact h
      | some v =>
        have e : v = .ref _ := h
        rw [e]
        exact (q _ m).2 _ rfl) (Bor.ok q b t)
theorem Ok.keepH {K : PySem.W.Frag} {B : Base} {O : Own} {σ : L2.St} {R H H' : Hp} (k : Ok K B Γ O σ R H) (e : Ex H H') : Ok K B Γ O σ R H' := k.grow (.junk k.sub e)
theorem ge_b {Γ' : List Sl} (hb : Bor O Γ Γ') (h : GP X Γ' e d) (hs : scal d = true) (q : P d O) : GE X Γ O e P := ⟨fun B σ R H o => by
  obtain ⟨R1, r1, s1, w⟩ := o.lend
  exact (h.run σ R1 H s1 (hb.ok w (slots_mono r1 o.sl))).mono fun v H' ⟨R', g, x⟩ => ⟨R, O, d, .refl _, o.keepH g.h, x.scal hs, q⟩⟩
theorem gt_b {P : Bool → Own → Prop} {Γ' : List Sl} (hb : Bor O Γ Γ') (h : GTP X Γ' e t) (q : P t O) : GT X Γ O e P := ⟨fun B σ R H o => by
  obtain ⟨R1, r1, s1, w⟩ := o.lend
  exact (h.run σ R1 H s1 (hb.ok w (slots_mono r1 o.sl))).mono fun v H' ⟨R', g, x⟩ => ⟨R, O, .refl _, o.keepH g.h, by rw [x]; exact q⟩⟩

/-! ### expressions in a row -/
theorem ge_two {r : R2} (he : ∀ {ta tb : TE}, PE X a ta → PE X b tb → PE X e (tOp r ta tb)) (h : GE X Γ O a fun d1 O1 => GE X Γ O1 b fun d2 O2 => ∃ d, OpP X.K r d1 d2 d ∧ P d O2) : GE X Γ O e P := ⟨fun B σ R H o =>
  (he pe_re pe_re).re ((h.run B σ R H o).mono fun x H1 ⟨R1, O1, d1, e1, o1, x1, q1⟩ => (q1.run B σ R1 H1 o1).mono fun y H2 ⟨R2, O2, d2, e2, o2, y2, d, hr, q2⟩ =>
    hr R2 H2 x y o2.sub (x1.mono e2) y2 _ fun v R3 H3 g dv => ⟨R3, O2, d, (e1.trans e2).trans g.r, o2.grow g, dv, q2⟩)⟩
theorem ge_add (h : GE X Γ O a fun d1 O1 => GE X Γ O1 b fun d2 O2 => ∃ i j, d1 = .int i ∧ d2 = .int j ∧ P (.int (i + j)) O2) : GE X Γ O (.BinOp a .Add b pos) P :=
  ge_two (pe_op op_add) (h.imp fun d1 O1 h => h.imp fun d2 O2 ⟨i, j, e1, e2, q⟩ => by subst e1 e2; exact ⟨_, opP_I0, q⟩)
theorem ge_cmp {op : CmpOp} (h : GE X Γ O a fun d1 O1 => GE X Γ O1 b fun d2 O2 => ∃ t, CmpD X op d1 d2 t ∧ P (.bool t) O2) (hm : behindInMarks op b = false := by first | exact nomark _ | rfl) : GE X Γ O (.Compare a [op] [b] pos) P := ⟨fun B σ R H o pins sh I =>
  wpAny_Compare1 (thn (h.run B σ R H o pins sh I) fun v s1 ⟨x, H1, I1, r1, R1, O1, d1, e1, o1, x1, q1⟩ => thn (q1.run B σ R1 H1 o1 pins s1 I1) fun u s2 ⟨y, H2, I2, r2, R2, O2, d2, e2, o2, y2, t, hc, q2⟩ => by
    obtain ⟨r, ho, hr⟩ := hc.run
    exact ho pins s2 σ H2 x y v u _ I2 r1 r2 (hr R2 H2 x y o2.sub (x1.mono e2) y2 _ ⟨R2, O2, .bool t, e1.trans e2, o2, .bl t, q2⟩)) hm⟩
theorem gt_cmpE {op : CmpOp} {P : Bool → Own → Prop} (h : GE X Γ O a fun d1 O1 => GE X Γ O1 b fun d2 O2 => ∃ t, CmpD X op d1 d2 t ∧ P t O2) (hm : behindInMarks op b = false := by first | exact nomark _ | rfl) : GT X Γ O (.Compare a [op] [b] pos) P := ⟨fun B σ R H o pins sh I =>
  wpAny_isTrue_Compare1 (thn (h.run B σ R H o pins sh I) fun v s1 ⟨x, H1, I1, r1, R1, O1, d1, e1, o1, x1, q1⟩ => thn (q1.run B σ R1 H1 o1 pins s1 I1) fun u s2 ⟨y, H2, I2, r2, R2, O2, d2, e2, o2, y2, t, hc, q2⟩ => by
    obtain ⟨r, ho, hr⟩ := hc.run
    refine thn (ho pins s2 σ H2 x y v u (fun v H' => v = .bl t ∧ H' = H2) I2 r1 r2 (hr R2 H2 x y o2.sub (x1.mono e2) y2 _ ⟨rfl, rfl⟩)) fun c s3 ⟨z, H3, I3, r3, e3, e4⟩ => ?_
    subst e3 e4
    cases r3
    exact wpAny_truthy_bool ⟨H3, I3, R2, O2, e1.trans e2, o2, q2⟩) hm⟩
theorem gt_valE {P : Bool → Own → Prop} (h : GE X Γ O e fun d O' => ∃ t, d = .bool t ∧ P t O') (he : ∀ whole, isTrue e X.env whole = (do let v ← whole; standAt e.pos; holding [v] (truthy v)) := by intro _; rfl) : GT X Γ O e P := ⟨fun B σ R H o =>
  (pt_val pe_re he).re ((h.run B σ R H o).mono fun v H' ⟨R', O', d, e1, o1, x, t, e2, q⟩ => by
    subst e2
    cases x
    exact ⟨t, rfl, R', O', e1, o1, q⟩)⟩
theorem gt_notE {P : Bool → Own → Prop} (h : GT X Γ O e fun t O' => P (!t) O') : GT X Γ O (.UnaryOp .Not e pos) P := ⟨fun B σ R H o => (pt_not pt_re).re ((h.run B σ R H o).mono fun v H' q => q)⟩
variable {rest : List Expr}
theorem gt_wE {P : Bool → Own → Prop} (h : GW X Γ O e P) : GT X Γ O e P := ⟨fun B σ R H o pins sh I => h.run B σ R H o _ pins sh I⟩
theorem gw_and1E {P : Bool → Own → Prop} (h : GT X Γ O a P) : GW X Γ O (.BoolOp .And [a] pos) P := ⟨fun B σ R H o whole pins sh I => (pw_and1 pt_re).run whole pins sh σ H _ I (h.run B σ R H o)⟩
theorem gw_or1E {P : Bool → Own → Prop} (h : GT X Γ O a P) : GW X Γ O (.BoolOp .Or [a] pos) P := ⟨fun B σ R H o whole pins sh I => (pw_or1 pt_re).run whole pins sh σ H _ I (h.run B σ R H o)⟩
theorem gw_andE {P : Bool → Own → Prop} (h : GT X Γ O a fun t O1 => (t = true → GW X Γ O1 (.BoolOp .And (b :: rest) pos) P) ∧ (t = false → P false O1)) : GW X Γ O (.BoolOp .And (a :: b :: rest) pos) P := ⟨fun B σ R H o whole pins sh I =>
  (pw_and pt_re pw_re).run whole pins sh σ H _ I ((h.run B σ R H o).mono fun c H1 ⟨R1, O1, e1, o1, q⟩ => by
    cases c with
    | false => exact ⟨R1, O1, e1, o1, q.2 rfl⟩
    | true => exact ((q.1 rfl).run B σ R1 H1 o1).mono fun c H2 ⟨R2, O2, e2, o2, q⟩ => ⟨R2, O2, e1.trans e2, o2, q⟩)⟩
theorem gw_orE {P : Bool → Own → Prop} (h : GT X Γ O a fun t O1 => (t = false → GW X Γ O1 (.BoolOp .Or (b :: rest) pos) P) ∧ (t = true → P true O1)) : GW X Γ O (.BoolOp .Or (a :: b :: rest) pos) P := ⟨fun B σ R H o whole pins sh I =>
  (pw_or pt_re pw_re).run whole pins sh σ H _ I ((h.run B σ R H o).mono fun c H1 ⟨R1, O1, e1, o1, q⟩ => by
    cases c with
    | true => exact ⟨R1, O1, e1, o1, q.2 rfl⟩
    | false => exact ((q.1 rfl).run B σ R1 H1 o1).mono fun c H2 ⟨R2, O2, e2, o2, q⟩ => ⟨R2, O2, e1.trans e2, o2, q⟩)⟩
theorem ga_nil {P : List Sl → Own → Prop} (h : P [] O) : GA X Γ O [] P := ⟨fun B σ R H o => pa_nil.re ⟨R, O, [], .refl _, o, .nil, h⟩⟩
theorem Paired.monoV {K : PySem.W.Frag} {R R' : Hp} (g : Ex R R') {as : List Sl} {vs : List V} (h : Paired (VlOk K R) as vs) : Paired (VlOk K R') as vs := Paired.mapP h fun _ _ q => q.mono g
theorem ga_cons {P : List Sl → Own → Prop} (h : GE X Γ O e fun d O1 => GA X Γ O1 es fun as O2 => P (.sh d :: as) O2) (hs : starEach (e :: es) X.env = (false, eval e X.env) :: starEach es X.env := by rfl) : GA X Γ O (e :: es) P := ⟨fun B σ R H o =>
  (pa_cons pe_re pa_re hs).re ((h.run B σ R H o).mono fun v H1 ⟨R1, O1, d, e1, o1, x1, q1⟩ => (q1.run B σ R1 H1 o1).mono fun vs H2 ⟨R2, O2, as, e2, o2, x2, q2⟩ => ⟨R2, O2, .sh d :: as, e1.trans e2, o2, .cons (x1.mono e2) x2, q2⟩)⟩
/-- an owned object is handed on -/
theorem ga_own {P : List Sl → Own → Prop} (i : Nat) {l : Addr} {x : Str} (h : Γ[i]? = some (.ow l)) (h2 : GA X Γ O es fun as O2 => P (.ow l :: as) O2) (hN : X.N[i]? = some x := by rfl) (hv : Vis X.env.scope x := by first | exact Or.inl rfl | exact Or.inr (Or.inl rfl) | exact Or.inr (Or.inr rfl)) (hd : (x == ("__debug__" : Str)) = false := by decide)
    (hcd : (x == ("__classdict__" : Str)) = false := by decide) (hs : starEach (.Name x pos :: es) X.env = (false, eval (.Name x pos) X.env) :: starEach es X.env := by rfl) : GA X Γ O (.Name x pos :: es) P := ⟨fun B σ R H o =>
  (pa_cons (pe_var hN hv hd hcd) pa_re hs).re ⟨.ref l, o.getO h, (h2.run B σ R H o).mono fun vs H2 ⟨R2, O2, as, e2, o2, x2, q2⟩ => ⟨R2, O2, .ow l :: as, e2, o2, .cons rfl x2, q2⟩⟩⟩
theorem ga_p {P : List Sl → Own → Prop} {ds : List PyData} (h : GPA X Γ es ds) (q : P (ds.map .sh) O) : GA X Γ O es P := ⟨fun B σ R H o => (h.run σ R H o.sub o.sl).mono fun vs H' ⟨R', g, x⟩ => ⟨R', O, _, g.r, o.grow g, x.sh, q⟩⟩
end

/-! ### defs -/
abbrev Ctr := List Sl → Own → (Sl → Own → Prop) → Prop
def spG (K : PySem.W.Frag) (C : Ctr) : Sp := fun vs H Q _ => ∃ R O as q, Ok K (now R H O) [] O [] R H ∧ Paired (VlOk K R) as vs ∧ C as O q ∧ ∀ r O' v R' H', q r O' → Ok K (now R H O) [] O' [] R' H' → VlOk K R' r v → Q v H'
/-- a def of the text: where it stands, its contract -/
def Def (P : Program) (w : World) (K : PySem.W.Frag) (mg : Str → Option Value) (base : Heap) (x : Str) (k : Nat) (C : Ctr) : Prop :=
  ∃ f fd ps, FnOk P w K mg base CX0 k f fd ps (spG K C) ∧ mg x = some (.ref f) ∧ PySem.W.keepIn K (.ref f) = true ∧ Binds K fd ps []
section
variable {X : Cx} {Γ : List Sl} {O : Own} {e : Expr} {es : List Expr} {d : PyData} {ds : List PyData} {x : Str} {p pos : Pos} {k : Nat} {C : Ctr}
theorem okNil {K : PySem.W.Frag} {B : Base} {O : Own} {σ : L2.St} {R H : Hp} (o : Ok K B Γ O σ R H) : Ok K B [] O [] R H := o.sl2 .nil
theorem ok_bare {K : PySem.W.Frag} {R H : Hp} (s : Ex R H) : Ok K (now R H []) [] [] [] R H :=
  ⟨s, .refl _, fun a o e => .inl e, fun a o e _ => e, fun a m => absurd m (by simp [now]), .nil, fun p m => absurd m (by simp), .nil⟩
theorem ok_grow {K : PySem.W.Frag} {R H R' H' : Hp} (o : Ok K (now R H []) [] [] [] R' H') : Grow R H R' H' :=
  ⟨o.r0, fun a u e => o.keep a u e (by simp [now]), o.sub, fun a u e => by
    rcases o.fr a u e with z | z | z
    · exact .inl z
    · exact .inr z
    · exact absurd z (by simp [now])⟩
/-- a call that changes nothing -/
theorem gp_call (D : Def X.prog X.w X.K X.mg X.base x k C) (hr : Room k X.A) (ha : GPA X Γ (e :: es) ds) (hC : C (ds.map .sh) [] fun r O' => O' = [] ∧ r = .sh d) (hg : Gl X x := by rfl) (hdb : (x == ("__debug__" : Str)) = false := by decide)
    (he : starEach (e :: es) X.env = (false, eval e X.env) :: starEach es X.env := by rfl) (hpl : (backTo pos (starEach es X.env)).any (·.1) = false := by rfl) : GP X Γ (.Call (.Name x p) (e :: es) [] pos) d := by
  obtain ⟨f, fd, ps, F, hm, hk, hb⟩ := D
  refine ⟨fun σ R H s k => (pe_call F hr hg hm hk hb .nil pass0 pa_re hdb he hpl).re ((ha.run σ R H s k).mono fun vs H1 ⟨R1, g1, x1⟩ => ?_)⟩
  rw [List.append_nil]
  refine ⟨R1, [], ds.map .sh, _, ok_bare g1.sub, x1.sh, hC, fun r O' v R' H' ⟨e1, e2⟩ o' hv => ?_⟩
  subst e1 e2
  exact ⟨R', g1.trans (ok_grow o'), hv⟩
/-- .. of no arguments -/
theorem gp_call0 (D : Def X.prog X.w X.K X.mg X.base x k C) (hr : Room k X.A) (hC : C [] [] fun r O' => O' = [] ∧ r = .sh d) (hg : Gl X x := by rfl) (hdb : (x == ("__debug__" : Str)) = false := by decide) : GP X Γ (.Call (.Name x p) [] [] pos) d := by
  obtain ⟨f, fd, ps, F, hm, hk, hb⟩ := D
  refine ⟨fun σ R H s k => (pe_call0 F hr hg hm hk hb .nil pass0 hdb).re ?_⟩
  refine ⟨R, [], [], _, ok_bare s, .nil, hC, fun r O' v R' H' ⟨e1, e2⟩ o' hv => ?_⟩
  subst e1 e2
  exact ⟨R', ok_grow o', hv⟩
/-- a call that is handed owned objects: L those handed, F the others -/
theorem run_call {K : PySem.W.Frag} {B : Base} {O L F : Own} {σ : L2.St} {R H : Hp} {vs : List V} {as : List Sl} {q : Sl → Own → Prop} {Q : VK} {E : XK} (o : Ok K B Γ O σ R H) (hp : O.Perm (L ++ F)) (hv : Paired (VlOk K R) as vs) (hC : C as L q)
    (h : ∀ r L' v R' H', q r L' → Ex R R' → Ok K B Γ (L' ++ F) σ R' H' → VlOk K R' r v → Q v H') : spG K C vs H Q E := by
  have o1 := o.perm hp
  have o2 := (o1.drop (List.sublist_append_left L F)).now
  refine ⟨R, L, as, q, okNil o2, hv, hC, fun r L' v R' H' hq o' hr => ?_⟩
  have o3 : Ok K B [] (L' ++ F) [] R' H' := Ok.back o1 o'
  exact h r L' v R' H' hq o'.r0 (o3.sl2 (slots_mono o'.r0 o.sl)) hr
theorem ge_call {P : PyData → Own → Prop} (D : Def X.prog X.w X.K X.mg X.base x k C) (hr : Room k X.A) (ha : GA X Γ O (e :: es) fun as O1 => ∃ L F, O1.Perm (L ++ F) ∧ C as L fun r L' => ∃ d O2, r = .sh d ∧ (L' ++ F).Perm O2 ∧ P d O2) (hg : Gl X x := by rfl) (hdb : (x == ("__debug__" : Str)) = false := by decide)
    (he : starEach (e :: es) X.env = (false, eval e X.env) :: starEach es X.env := by rfl) (hpl : (backTo pos (starEach es X.env)).any (·.1) = false := by rfl) : GE X Γ O (.Call (.Name x p) (e :: es) [] pos) P := by
  obtain ⟨f, fd, ps, F, hm, hk, hb⟩ := D
  refine ⟨fun B σ R H o => (pe_call F hr hg hm hk hb .nil pass0 pa_re hdb he hpl).re ((ha.run B σ R H o).mono fun vs H1 ⟨R1, O1, as, e1, o1, x1, L, F, hp, hC⟩ => ?_)⟩
  rw [List.append_nil]
  refine run_call o1 hp x1 hC fun r L' v R' H' ⟨d, O2, e2, hp2, q⟩ r1 o' hv => ?_
  subst e2
  exact ⟨R', O2, d, e1.trans r1, o'.perm hp2, hv, q⟩
/-- a call that hands back a new list -/
theorem gl_call {P : List PyData → Own → Prop} (D : Def X.prog X.w X.K X.mg X.base x k C) (hr : Room k X.A) (ha : GA X Γ O (e :: es) fun as O1 => ∃ L F, O1.Perm (L ++ F) ∧ C as L fun r L' => ∃ l ds O2, r = .ow l ∧ (L' ++ F).Perm (O2 ++ [(l, .L ds)]) ∧ P ds O2) (hg : Gl X x := by rfl) (hdb : (x == ("__debug__" : Str)) = false := by decide)
    (he : starEach (e :: es) X.env = (false, eval e X.env) :: starEach es X.env := by rfl) (hpl : (backTo pos (starEach es X.env)).any (·.1) = false := by rfl) : GL X Γ O (.Call (.Name x p) (e :: es) [] pos) P := by
  obtain ⟨f, fd, ps, F, hm, hk, hb⟩ := D
  refine ⟨fun B σ R H o => (pe_call F hr hg hm hk hb .nil pass0 pa_re hdb he hpl).re ((ha.run B σ R H o).mono fun vs H1 ⟨R1, O1, as, e1, o1, x1, L, F, hp, hC⟩ => ?_)⟩
  rw [List.append_nil]
  refine run_call o1 hp x1 hC fun r L' v R' H' ⟨l, ds, O2, e2, hp2, q⟩ r1 o' hv => ?_
  subst e2
  exact ⟨R', O2, l, ds, hv, e1.trans r1, o'.perm hp2, q⟩
end
end G

set_option Elab.async false
set_option linter.all false
set_option maxRecDepth 100000
set_option maxHeartbeats 2000000
namespace G
open PySem PySem.Spec L2
open PyProof.Rows (envOfC)
structure Nds where
  nx : List Sl → Own → Prop
  rt : Sl → Own → Prop
  bk : List Sl → Own → Prop := fun _ _ => False
  ct : List Sl → Own → Prop := fun _ _ => False
def ends (K : PySem.W.Frag) (B : Base) (D : Nds) : Ends where
  nx := fun σ H => ∃ R Γ O, Ok K B Γ O σ R H ∧ D.nx Γ O
  rt := fun v H => ∃ R O r, Ok K B [] O [] R H ∧ VlOk K R r v ∧ D.rt r O
  bk := fun σ H => ∃ R Γ O, Ok K B Γ O σ R H ∧ D.bk Γ O
  ct := fun σ H => ∃ R Γ O, Ok K B Γ O σ R H ∧ D.ct Γ O
structure GS (X : Cx) (Γ : List Sl) (O : Own) (st : Stmt) (D : Nds) : Prop where
  run : ∀ B σ R H, Ok X.K B Γ O σ R H → RS X st (ends X.K B D) σ H
structure GSs (X : Cx) (Γ : List Sl) (O : Own) (st : List Stmt) (D : Nds) : Prop where
  run : ∀ B σ R H, Ok X.K B Γ O σ R H → RSs X st (ends X.K B D) σ H
section
variable {X : Cx} {Γ Γ' : List Sl} {O : Own} {st : Stmt} {rest a b : List Stmt} {D : Nds} {c e : Expr} {pos : Pos} {x : Str}
theorem gs_cons (h : GS X Γ O st { D with nx := fun Γ' O' => GSs X Γ' O' rest D }) : GSs X Γ O (st :: rest) D := ⟨fun B σ R H o => (pss_cons ps_re pss_re).re ((h.run B σ R H o).mono
  ⟨fun σ' H' ⟨R', Γ', O', o', q⟩ => q.run B σ' R' H' o', fun _ _ q => q, fun _ _ q => q, fun _ _ q => q⟩)⟩
theorem gs_nil (q : D.nx Γ O) : GSs X Γ O [] D := ⟨fun B σ R H o => pss_nil.re ⟨R, Γ, O, o, q⟩⟩
theorem gs_nilW (w : Wk Γ Γ') (q : D.nx Γ' O) : GSs X Γ O [] D := ⟨fun B σ R H o => pss_nil.re ⟨R, Γ', O, o.weak w, q⟩⟩
theorem gs_weak (w : Wk Γ Γ') (h : GSs X Γ' O rest D) : GSs X Γ O rest D := ⟨fun B σ R H o => h.run B σ R H (o.weak w)⟩
theorem gs_drop {O' : Own} (w : O'.Sublist O) (h : GSs X Γ O' rest D) : GSs X Γ O rest D := ⟨fun B σ R H o => h.run B σ R H (o.drop w)⟩
theorem gs_perm {O' : Own} (w : O.Perm O') (h : GSs X Γ O' rest D) : GSs X Γ O rest D := ⟨fun B σ R H o => h.run B σ R H (o.perm w)⟩
theorem s_pass (q : D.nx Γ O) : GS X Γ O (.Pass pos) D := ⟨fun B σ R H o => ps_pass.re ⟨R, Γ, O, o, q⟩⟩
theorem s_set (i : Nat) {pos' : Pos} (hN : X.N.Nodup) (h : GE X Γ O e fun d O1 => D.nx (Γ.set i (.sh d)) O1) (hi : X.N[i]? = some x := by rfl) (hx : Loc X.env.scope x := by first | exact .inl rfl | exact .inr rfl) (hs : swapsWith e (some (.Name x pos')) pos.line X.env = pure false := by rfl)
    (hf : X.fn x = true ∨ X.env.scope.names.lookup x = some .local := by first | exact .inl rfl | exact .inr rfl) : GS X Γ O (.Assign [.Name x pos'] e pos) D := ⟨fun B σ R H o => (ps_set hN hi hx pe_re hs hf).re ((h.run B σ R H o).mono fun v H1 ⟨R1, O1, d, e1, o1, x1, q⟩ =>
  ⟨R1, _, O1, o1.set (s := .sh d) i x1, q⟩)⟩
theorem s_setL (i : Nat) {pos' : Pos} (hN : X.N.Nodup) (h : GL X Γ O e fun ds O1 => ∀ l, D.nx (Γ.set i (.ow l)) (O1 ++ [(l, .L ds)])) (hi : X.N[i]? = some x := by rfl) (hx : Loc X.env.scope x := by first | exact .inl rfl | exact .inr rfl) (hs : swapsWith e (some (.Name x pos')) pos.line X.env = pure false := by rfl)
    (hf : X.fn x = true ∨ X.env.scope.names.lookup x = some .local := by first | exact .inl rfl | exact .inr rfl) : GS X Γ O (.Assign [.Name x pos'] e pos) D := ⟨fun B σ R H o => (ps_set hN hi hx pe_re hs hf).re ((h.run B σ R H o).mono fun v H1 ⟨R1, O1, l, ds, e0, e1, o1, q⟩ =>
  ⟨R1, _, _, o1.set (s := .ow l) i e0, q l⟩)⟩
theorem s_ret (h : GE X Γ O e fun d O1 => D.rt (.sh d) O1) : GS X Γ O (.Return (some e) pos) D := ⟨fun B σ R H o => (ps_ret pe_re).re ((h.run B σ R H o).mono fun v H1 ⟨R1, O1, d, e1, o1, x1, q⟩ => ⟨R1, O1, .sh d, okNil o1, x1, q⟩)⟩
theorem s_retL (h : GL X Γ O e fun ds O1 => ∀ l, D.rt (.ow l) (O1 ++ [(l, .L ds)])) : GS X Γ O (.Return (some e) pos) D := ⟨fun B σ R H o => (ps_ret pe_re).re ((h.run B σ R H o).mono fun v H1 ⟨R1, O1, l, ds, e0, e1, o1, q⟩ => ⟨R1, _, .ow l, okNil o1, e0, q l⟩)⟩
theorem s_retN (q : D.rt (.sh .none) O) : GS X Γ O (.Return none pos) D := ⟨fun B σ R H o => ps_retN.re ⟨R, O, .sh .none, okNil o, .non, q⟩⟩
theorem s_expr (h : GE X Γ O e fun _ O1 => D.nx Γ O1) (hs : swapsWith e none pos.line X.env = pure false := by rfl) : GS X Γ O (.Expr e pos) D := ⟨fun B σ R H o => (ps_expr pe_re hs).re ((h.run B σ R H o).mono fun v H1 ⟨R1, O1, d, e1, o1, x1, q⟩ => ⟨R1, Γ, O1, o1, q⟩)⟩
theorem s_if (h : GT X Γ O c fun t O1 => (t = true → GSs X Γ O1 a D) ∧ (t = false → GSs X Γ O1 b D)) : GS X Γ O (.If c a b pos) D := ⟨fun B σ R H o => (ps_if pt_re pss_re pss_re).re ((h.run B σ R H o).mono fun t H1 ⟨R1, O1, e1, o1, q⟩ => by
  cases t with
  | true => exact (q.1 rfl).run B σ R1 H1 o1
  | false => exact (q.2 rfl).run B σ R1 H1 o1)⟩
theorem s_asg {tg : Expr} (h : GE X Γ O e fun d O1 => ∃ Γ' js, GGP X Γ tg d Γ' js ∧ D.nx Γ' O1) (hs : swapsWithSole [tg] e pos.line X.env = pure false := by rfl) (hw : swappedStores [tg] e X.env = pure none := by rfl)
    (h1 : (assignEach [tg] X.env).map (·.2) = [assign tg X.env] := by rfl) : GS X Γ O (.Assign [tg] e pos) D := ⟨fun B σ R H o => (ps_asg pe_re pg_re hs hw h1).re ((h.run B σ R H o).mono fun v H1 ⟨R1, O1, d, e1, o1, x1, Γ', js, g, q⟩ =>
  (g.run σ R1 H1 v o1.sub o1.sl x1).mono fun σ' H' ⟨e2, k2, _, _⟩ => by
    subst e2
    exact ⟨R1, Γ', O1, o1.sl2 k2, q⟩)⟩
theorem s_par {i j : Nat} {y : Str} {e1 e2 : Expr} {px py pt : Pos} {kt k2 : Nat} {pt2 : Pos} (hN : X.N.Nodup) (h : GA X Γ O [e1, e2] fun as O1 => ∃ s1 s2, as = [s1, s2] ∧ D.nx ((Γ.set i s1).set j s2) O1) (hi : X.N[i]? = some x) (hj : X.N[j]? = some y) (hij : i ≠ j)
    (hx : X.env.scope.names.lookup x = some .local := by rfl) (hy : X.env.scope.names.lookup y = some .local := by rfl) (hw : swappedStores [.Tuple [.Name x px, .Name y py] kt pt] (.Tuple [e1, e2] k2 pt2) X.env = pure (some [x, y]) := by rfl)
    (hs : swapsWithSole [.Tuple [.Name x px, .Name y py] kt pt] (.Tuple [e1, e2] k2 pt2) pos.line X.env = pure false := by rfl) (hc : X.calm = true := by rfl) : GS X Γ O (.Assign [.Tuple [.Name x px, .Name y py] kt pt] (.Tuple [e1, e2] k2 pt2) pos) D := ⟨fun B σ R H o =>
  (ps_par hc hN hi hj hij hx hy pa_re hw hs).re ((h.run B σ R H o).mono fun vs H1 ⟨R1, O1, as, e1, o1, x1, s1, s2, ea, q⟩ => by
    subst ea
    cases x1 with
    | cons h1 t =>
      cases t with
      | cons h2 t =>
        cases t
        exact ⟨_, _, rfl, R1, _, O1, (o1.set i h1).set j h2, q⟩)⟩
theorem ends_back {K : PySem.W.Frag} {B : Base} {σ0 : L2.St} {R0 H0 : Hp} (o : Ok K B Γ O σ0 R0 H0) (D : Nds) : Ends.Le (ends K (now R0 H0 O) D) (ends K B D) := by
  have back : ∀ {Γ' O' σ' R' H'}, Ok K (now R0 H0 O) Γ' O' σ' R' H' → Ok K B Γ' O' σ' R' H' := fun {Γ' O' σ' R' H'} o' => by
    have h := Ok.back (F := []) (by rw [List.append_nil]; exact o) o'
    rw [List.append_nil] at h
    exact h
  exact ⟨fun σ H ⟨R, Γ, O, o', q⟩ => ⟨R, Γ, O, back o', q⟩, fun v H ⟨R, O, r, o', h, q⟩ => ⟨R, O, r, back o', h, q⟩, fun σ H ⟨R, Γ, O, o', q⟩ => ⟨R, Γ, O, back o', q⟩, fun σ H ⟨R, Γ, O, o', q⟩ => ⟨R, Γ, O, back o', q⟩⟩
theorem s_for {tg iter : Expr} {body : List Stmt} (h : GI X Γ O tg iter fun ds O1 => ∃ Pv : Nat → List Sl → Own → Prop, Pv 0 Γ O1 ∧
      (∀ i d Γ2 O2, ds[i]? = some d → Pv i Γ2 O2 → ∃ Γ3 js, GGP X Γ2 tg d Γ3 js ∧ GSs X Γ3 O2 body { D with nx := Pv (i + 1), ct := Pv (i + 1), bk := D.nx }) ∧ ∀ Γ2 O2, Pv ds.length Γ2 O2 → D.nx Γ2 O2)
    (hp : PassesOwn (model X.prog X.w) X.A X.env X.xe := by exact PassesOwn.never) (hc : X.calm = true := by rfl) (hfs : ∀ x, foldedSetIterable iter X.env x = pure x := by intro _; rfl) : GS X Γ O (.For tg iter body [] pos) D := ⟨fun B σ R H o =>
  (ps_for hp hc pi_re pg_re pss_re hfs).re ((h.run B σ R H o).mono fun J H1 ⟨R1, O1, ds, e1, o1, wk, Pv, p0, hs, hd⟩ => by
    have lift := ends_back o1
    refine ⟨fun i m σ2 H2 => m = ds.length - i ∧ i ≤ ds.length ∧ ∃ R2 Γ2 O2, Ok X.K (now R1 H1 O1) Γ2 O2 σ2 R2 H2 ∧ Pv i Γ2 O2, ⟨_, rfl, Nat.zero_le _, R1, Γ, O1, o1.now, p0⟩, ?_⟩
    rintro i m σ2 H2 ⟨rfl, hle, R2, Γ2, O2, o2, p2⟩
    by_cases hlt : i < ds.length
    · refine .inr ⟨wk.go i R2 H2 hlt o2.r0 o2.sub, fun σ' H' => i + 1 ≤ ds.length ∧ ∃ R2 Γ2 O2, Ok X.K (now R1 H1 O1) Γ2 O2 σ' R2 H' ∧ Pv (i + 1) Γ2 O2, fun σ' H' ⟨h1, h2⟩ => ⟨ds.length - (i + 1), by omega, rfl, h1, h2⟩, fun v H3 y => ?_⟩
      have hget : ds[i]? = some ds[i] := List.getElem?_eq_getElem hlt
      obtain ⟨R3, g3, dv⟩ := wk.yld i _ R2 H2 v H3 hget o2.r0 o2.sub y
      have o3 := o2.grow g3
      obtain ⟨Γ3, js, hg, hb⟩ := hs i _ Γ2 O2 hget p2
      refine (hg.run σ2 R3 H3 v o3.sub o3.sl dv).mono fun σ4 H4 ⟨e4, k4, _, _⟩ => ?_
      subst e4
      refine (hb.run _ σ4 R3 H4 (o3.sl2 k4)).mono ⟨fun σ' H' q => ⟨hlt, q⟩, fun v H' q => (lift D).rt v H' q, fun σ' H' ⟨R', Γ', O', o', q⟩ => (lift D).nx σ' H' ⟨R', Γ', O', o', q⟩, fun σ' H' q => ⟨hlt, q⟩⟩
    · have e : i = ds.length := by omega
      subst e
      exact .inl ⟨wk.stop R2 H2 o2.r0 o2.sub, (lift D).nx σ2 H2 ⟨R2, Γ2, O2, o2, hd Γ2 O2 p2⟩⟩)⟩
theorem s_while {body : List Stmt} (W : Nat → List Sl → Own → Prop) (m0 : Nat) (h0 : W m0 Γ O)
    (hs : ∀ m Γ2 O2, W m Γ2 O2 → GT X Γ2 O2 c fun t O3 => (t = true → GSs X Γ2 O3 body { D with nx := fun Γ' O' => ∃ m', m' < m ∧ W m' Γ' O', ct := fun Γ' O' => ∃ m', m' < m ∧ W m' Γ' O', bk := D.nx }) ∧ (t = false → D.nx Γ2 O3))
    (hp : PassesOwn (model X.prog X.w) X.A X.env X.xe := by exact PassesOwn.never) : GS X Γ O (.While c body [] pos) D := ⟨fun B σ R H o =>
  (ps_while hp pt_re pss_re).re ⟨fun m σ2 H2 => ∃ R2 Γ2 O2, Ok X.K B Γ2 O2 σ2 R2 H2 ∧ W m Γ2 O2, ⟨m0, R, Γ, O, o, h0⟩, fun m σ2 H2 ⟨R2, Γ2, O2, o2, w2⟩ =>
    ((hs m Γ2 O2 w2).run B σ2 R2 H2 o2).mono fun t H3 ⟨R3, O3, e3, o3, q⟩ => by
      cases t with
      | true =>
        rw [if_pos rfl]
        refine ⟨fun σ' H' => ∃ m', m' < m ∧ ∃ R2 Γ2 O2, Ok X.K B Γ2 O2 σ' R2 H' ∧ W m' Γ2 O2, fun σ' H' q => q, ((q.1 rfl).run B σ2 R3 H3 o3).mono ⟨?_, fun _ _ q => q, fun _ _ q => q, ?_⟩⟩
        · exact fun σ' H' ⟨R', Γ', O', o', m', hm, w'⟩ => ⟨m', hm, R', Γ', O', o', w'⟩
        · exact fun σ' H' ⟨R', Γ', O', o', m', hm, w'⟩ => ⟨m', hm, R', Γ', O', o', w'⟩
      | false =>
        rw [if_neg Bool.false_ne_true]
        exact ⟨R3, Γ2, O3, o3, q.2 rfl⟩⟩⟩
/-- name op= e, ints -/
theorem s_aug {op : Operator} {r : R2} {pos' : Pos} (i : Nat) {d0 : PyData} (hN : X.N.Nodup) (ho : OpR X (inplaceOp op) r) (h0 : Γ[i]? = some (.sh d0)) (h : GE X Γ O e fun d O1 => ∃ d2, OpP X.K r d0 d d2 ∧ D.nx (Γ.set i (.sh d2)) O1) (hi : X.N[i]? = some x := by rfl) (hx : Loc X.env.scope x := by first | exact .inl rfl | exact .inr rfl)
    (hf : X.fn x = true ∨ X.env.scope.names.lookup x = some .local := by first | exact .inl rfl | exact .inr rfl) : GS X Γ O (.AugAssign (.Name x pos') op e pos) D := ⟨fun B σ R H o => by
  obtain ⟨v0, hv, dv⟩ := o.get h0
  exact (ps_aug (ti := r) hN hi hx pe_re ho hf).re ⟨v0, hv, (h.run B σ R H o).mono fun y H1 ⟨R1, O1, d, e1, o1, x1, d2, hr, q⟩ => hr R1 H1 v0 y o1.sub (dv.mono e1) x1 _ fun z R2 H2 g dz => ⟨R2, _, O1, (o1.grow g).set (s := .sh d2) i dz, q⟩⟩⟩
/-- xs.append(e) -/
theorem s_app (i : Nat) {l : Addr} {apos pos2 p : Pos} (h0 : Γ[i]? = some (.ow l)) (h : GE X Γ O e fun d O1 => ∃ j ds, O1[j]? = some (l, .L ds) ∧ ds.length < sizeLine ∧ D.nx Γ (O1.set j (l, .L (ds ++ [d])))) (hin : ∃ ds, (l, .L ds) ∈ O) (hN : X.N[i]? = some x := by rfl)
    (hv : Vis X.env.scope x := by first | exact Or.inl rfl | exact Or.inr (Or.inl rfl) | exact Or.inr (Or.inr rfl)) (hd : (x == ("__debug__" : Str)) = false := by decide) (hcd : (x == ("__classdict__" : Str)) = false := by decide)
    (hbase : attributeBase (.Name x p) "append" X.env (eval (.Name x p) X.env) = eval (.Name x p) X.env := by rfl)
    (hfew : ((backTo pos2 (starEach [e] X.env)).all (fun x => !x.1) && (backToKw pos2 (keywordEach [] X.env)).all (fun x => x.1.isSome)
      && decide (([e] : List Expr).length + ([] : List Keyword).length + (if ([] : List Keyword).isEmpty then 0 else 1) < 30)) = true := by rfl)
    (hline : (apos.endLine == pos2.line) = true := by rfl) (hs : starEach [e] X.env = (false, eval e X.env) :: starEach [] X.env := by rfl) (hsw : swapsWith (.Call (.Attribute (.Name x p) "append" apos) [e] [] pos2) none pos.line X.env = pure false := by rfl) :
    GS X Γ O (.Expr (.Call (.Attribute (.Name x p) "append" apos) [e] [] pos2) pos) D := ⟨fun B σ R H o => by
  obtain ⟨ds0, hm⟩ := hin
  obtain ⟨⟨vs0, hl0, _⟩, _, _⟩ := o.own _ hm
  have hl0 : H l = some (.lst vs0) := hl0
  refine (ps_expr (pe_bm PySem.F.plainAttrs_list PySem.F.slot_list_append PySem.F.type_list_append mt_append (pe_var hN hv hd hcd) (pa_cons pe_re pa_nil hs) hbase hfew hline hs rfl) hsw).re ?_
  refine ⟨.ref l, o.getO h0, .inl ⟨rfl, vs0, .of hl0⟩, (h.run B σ R H o).mono fun v H1 ⟨R1, O1, d, e1, o1, x1, j, ds, hj, hz, q⟩ => ?_⟩
  obtain ⟨⟨vs, hl, da⟩, _, _⟩ := o1.own _ (List.mem_of_getElem? hj)
  have hl : H1 l = some (.lst vs) := hl
  exact ⟨l, vs, v, rfl, rfl, hl, by rw [da.length]; exact hz, R1, Γ, _, o1.put (c' := .L (ds ++ [d])) hj ⟨_, upd_same, da.append (.cons x1 .nil)⟩, q⟩⟩
/-- xs[i] = e -/
theorem s_setIx (i : Nat) {l : Addr} {ei : Expr} {p1 p2 : Pos} (h0 : Γ[i]? = some (.ow l)) (h : GE X Γ O e fun d O1 => GE X Γ O1 ei fun d2 O2 => ∃ j ds k n, d2 = .int k ∧ O2[j]? = some (l, .L ds) ∧ ixN ds.length k = some n ∧ D.nx Γ (O2.set j (l, .L (ds.set n d)))) (hN : X.N[i]? = some x := by rfl)
    (hv : Vis X.env.scope x := by first | exact Or.inl rfl | exact Or.inr (Or.inl rfl) | exact Or.inr (Or.inr rfl)) (hd : (x == ("__debug__" : Str)) = false := by decide) (hcd : (x == ("__classdict__" : Str)) = false := by decide)
    (ha : ∀ v, assign (.Subscript (.Name x p1) ei p2) X.env v = (do
      let ov ← holding [v] (eval (.Name x p1) X.env)
      let iv ← holding [v, ov] (eval ei X.env)
      standAt p2
      holding [v, ov, iv] (setItem ov iv v)
      release [v, ov, iv] []) := by intro _; rfl)
    (hs : swapsWithSole [.Subscript (.Name x p1) ei p2] e pos.line X.env = pure false := by rfl) (hw : swappedStores [.Subscript (.Name x p1) ei p2] e X.env = pure none := by rfl)
    (h1 : (assignEach [.Subscript (.Name x p1) ei p2] X.env).map (·.2) = [assign (.Subscript (.Name x p1) ei p2) X.env] := by rfl) : GS X Γ O (.Assign [.Subscript (.Name x p1) ei p2] e pos) D := ⟨fun B σ R H o =>
  (ps_asg pe_re (pg_sub (pe_var hN hv hd hcd) pe_re set_list ha) hs hw h1).re ((h.run B σ R H o).mono fun v H1 ⟨R1, O1, d, e1, o1, x1, q1⟩ => ⟨.ref l, o1.getO h0, (q1.run B σ R1 H1 o1).mono fun u H2 ⟨R2, O2, d2, e2, o2, x2, j, ds, k, n, ek, hj, hn, q⟩ => by
    subst ek
    cases x2
    obtain ⟨⟨vs, hl, da⟩, _, _⟩ := o2.own _ (List.mem_of_getElem? hj)
    have hl : H2 l = some (.lst vs) := hl
    exact ⟨l, vs, k, n, rfl, rfl, hl, by rw [da.length]; exact hn, R2, Γ, _, o2.put (c' := .L (ds.set n d)) hj ⟨_, upd_same, da.set (x1.mono e2) n⟩, q⟩⟩)⟩
/-- an item of an owned list -/
theorem ge_ixO {P : PyData → Own → Prop} (i : Nat) {l : Addr} {ei : Expr} {p1 : Pos} (h0 : Γ[i]? = some (.ow l)) (h : GE X Γ O ei fun d2 O2 => ∃ ds k d, d2 = .int k ∧ (l, .L ds) ∈ O2 ∧ atI ds k = some d ∧ P d O2) (hN : X.N[i]? = some x := by rfl)
    (hv : Vis X.env.scope x := by first | exact Or.inl rfl | exact Or.inr (Or.inl rfl) | exact Or.inr (Or.inr rfl)) (hd : (x == ("__debug__" : Str)) = false := by decide) (hcd : (x == ("__classdict__" : Str)) = false := by decide) (hp : PlainIx ei := by exact fun _ _ => rfl) : GE X Γ O (.Subscript (.Name x p1) ei pos) P := ⟨fun B σ R H o =>
  (pe_ix ix_list (pe_var hN hv hd hcd) pe_re hp).re ⟨.ref l, o.getO h0, (h.run B σ R H o).mono fun u H2 ⟨R2, O2, d2, e2, o2, x2, ds, k, d, ek, hj, hn, q⟩ => by
    subst ek
    cases x2
    obtain ⟨⟨vs, hl, da⟩, _, _⟩ := o2.own _ hj
    have hl : H2 l = some (.lst vs) := hl
    obtain ⟨w, hw, dw⟩ := atD da hn
    exact ⟨l, vs, k, w, rfl, rfl, .of hl, hw, R2, O2, d, e2, o2, dw, q⟩⟩⟩
/-- an owned object of a slot is shared from here on -/
theorem gs_freeze (i j : Nat) {l : Addr} {ds : List PyData} (h0 : Γ[i]? = some (.ow l)) (hj : O[j]? = some (l, .L ds)) (h : GSs X (Γ.set i (.sh (.list ds))) (O.eraseIdx j) rest D) : GSs X Γ O rest D := ⟨fun B σ R H o => by
  have pm : O.Perm (O.eraseIdx j ++ [(l, .L ds)]) := by
    have hlt := (List.getElem?_eq_some_iff.mp hj).1
    have hg := (List.getElem?_eq_some_iff.mp hj).2
    have h1 : O = O.take j ++ (l, .L ds) :: O.drop (j + 1) := by rw [← hg, List.getElem_cons_drop, List.take_append_drop]
    rw [List.eraseIdx_eq_take_drop_succ]
    refine (List.Perm.of_eq h1).trans ?_
    exact List.perm_middle.trans ((List.perm_append_comm (l₁ := [(l, Cn.L ds)]) (l₂ := O.take j ++ O.drop (j + 1))))
  obtain ⟨R', e, o', dl⟩ := (o.perm pm).freeze
  have hσ := o.getO h0
  have hi : i < σ.length := (List.getElem?_eq_some_iff.mp hσ).1
  have es : σ.set i (some (.ref l)) = σ := by
    have := (List.getElem?_eq_some_iff.mp hσ).2
    rw [← this]
    exact List.set_getElem_self hi
  have o2 := o'.set (s := .sh (.list ds)) i dl
  rw [es] at o2
  exact h.run B σ R' H o2⟩
end
/-! ### a def's body -/
abbrev bX (P : Program) (w : World) (K : PySem.W.Frag) (mg : Str → Option Value) (base : Heap) (N : List Str) (qual : Str) (sc : Scope) (f : Addr) (cdv : Value) (A : Around) (outer : List Env) (s : Shared) (H : Hp) (E : XK) : Cx := (cxOf CX0 P w K mg base N qual sc f cdv A outer s H E).nox
theorem fn_ok {P : Program} {w : World} {K : PySem.W.Frag} {mg : Str → Option Value} {base : Heap} {x qual : Str} {st : Stmt} {f : Addr} {fd : FuncData} {N ps : List Str} {k : Nat} {C : Ctr} (F : Fun K x qual st f fd) (S : FnScope N ps (defScope st)) (len : ∀ as O q, C as O q → as.length = ps.length)
    (body : ∀ (cdv : Value) (A : Around) (outer : List Env) (s : Shared) (H : Hp) (E : XK), Room k (A.deeper (envOfC qual (defScope st) s.heap.objs.size f cdv)) → ∀ as O q, C as O q →
      GSs (bX P w K mg base N qual (defScope st) f cdv A outer s H E) (as ++ List.replicate (N.length - ps.length) .no) O (defBody st) { nx := fun _ O' => q (.sh .none) O', rt := q }) : FnOk P w K mg base CX0 (k + 1) f fd ps (spG K C) := by
  refine F.ok S (fun vs H Q E h => ?_) (fun cdv A outer s H vs Q E hr h => ?_)
  · obtain ⟨R, O, as, q, _, hv, hC, _⟩ := h
    rw [← len as O q hC]
    exact (Paired.length hv).symm
  · obtain ⟨R, O, as, q, o, hv, hC, k⟩ := h
    have hl := len as O q hC
    have hlv : vs.length = ps.length := (Paired.length hv).symm.trans hl
    refine ⟨_, pss_re, ?_⟩
    have hS : Paired (SlOk K R) (as ++ List.replicate (N.length - ps.length) .no) (L2.start N vs) := by
      unfold L2.start
      rw [hlv]
      have h1 : ∀ {as : List Sl} {vs : List V}, Paired (VlOk K R) as vs → ∀ n, Paired (SlOk K R) (as ++ List.replicate n .no) (vs.map some ++ List.replicate n none) := by
        intro as vs h
        induction h with
        | nil =>
          intro n
          show Paired (SlOk K R) (List.replicate n Sl.no) (List.replicate n none)
          induction n with
          | zero => exact .nil
          | succ n ih =>
            have t : SlOk K R .no none := trivial
            exact .cons t ih
        | cons h t ih => exact fun n => .cons (SlOk.of h) (ih n)
      exact h1 hv _
    refine ((body cdv A outer s H E hr as O q hC).run _ _ R H (o.sl2 hS)).mono ⟨fun σ' H' ⟨R', Γ', O', o', z⟩ => ?_, fun v H' ⟨R', O', r, o', hr', z⟩ => ?_, fun σ' H' ⟨R', Γ', O', o', z⟩ => z, fun σ' H' ⟨R', Γ', O', o', z⟩ => z⟩
    · exact k _ O' .non R' H' z (okNil o') .non
    · exact k r O' v R' H' z o' hr'
end G

set_option Elab.async false
set_option linter.all false
set_option maxRecDepth 100000
set_option maxHeartbeats 2000000
namespace G
open PySem PySem.Spec L2
open PyProof.Rows (envOfC IsTup args_tuple_getitem entry_tuple_getitem)
/-! ### enumerate of a tuple -/
theorem meets_enumerate_new1 {v : Value} {o : Obj} {H : Heap → Prop} (B : Begins v o H) :
    Meets (Builtin.«enumerate.__new__» ⟨[.type "enumerate", v], []⟩) (fun _ R s => H s.heap ∧
      R (.ok (.ret (.ref (s.heap.push o).objs.size))) { s with heap := (s.heap.push o).push { cls := .type "enumerate", data := .fields #[.none, .bool false, .ref s.heap.objs.size, rawInt 0, .none, .none] } }) :=
  .of_wp fun prog w A R s h => by
    obtain ⟨hp, g, d, tk, os⟩ := s; obtain ⟨h1, h⟩ := h
    have hsub := sub_enumerate
    have q1 : ∀ {A' : Around} {E : Value → Shared → Prop} {Q : Value → Shared → Prop}, Q (.ref hp.objs.size) ⟨hp.push o, g, d, tk, os⟩ → wpAny (model prog w) A' (pyIter v) Q E ⟨hp, g, d, tk, os⟩ :=
      fun q => B.iter prog w _ _ ⟨hp, g, d, tk, os⟩ _ h1 q
    wp_walk using q1
    refine wpAny_stack_any fun st => wpAny_pure ?_
    split
    · rename_i c _ _ _ _ _
      cases (c == Value.type "enumerate")
      · wp_walk using q1
        exact ⟨_, rfl, h⟩
      · wp_walk using q1
        exact ⟨_, rfl, h⟩
    · wp_walk using q1
      exact ⟨_, rfl, h⟩
theorem enum_begins1 {prog : Program} {w : World} {A : Around} {E : Value → Shared → Prop} {s : Shared} {v : Value} {o : Obj} {H : Heap → Prop} {Q : Value → Shared → Prop} (B : Begins v o H) (h1 : H s.heap)
    (h : ∀ h', IsEnum h' (s.heap.objs.size + 1) s.heap.objs.size 0 .none → h'.get? s.heap.objs.size = some o → h'.objs.size = s.heap.objs.size + 2 →
      (∀ b o, s.heap.get? b = some o → h'.get? b = some o) → Q (.ref (s.heap.objs.size + 1)) { s with heap := h' }) :
    wpAny (model prog w) A (call (.type "enumerate") [v]) Q E s := by
  refine callType_new F.called_enumerate (by decide) (F.typeCall_enumerate_1 _) (F.newCall_enumerate_1 _) (fun obj => F.args_object_init_2 obj _) F.entry_enumerate_new
    (meets_enumerate_new1 B) ⟨h1, ?_⟩
  have hz : (s.heap.push o).objs.size = s.heap.objs.size + 1 := Heap.size_push ..
  show _ ∧ _
  rw [hz]
  have he : IsEnum ((s.heap.push o).push { cls := .type "enumerate", data := .fields #[.none, .bool false, .ref s.heap.objs.size, rawInt 0, .none, .none] }) (s.heap.objs.size + 1) s.heap.objs.size 0 .none := by
    have := Heap.get?_push_size (s.heap.push o) (o := { cls := .type "enumerate", data := .fields #[.none, .bool false, .ref s.heap.objs.size, rawInt 0, .none, .none] }) rfl
    rw [hz] at this; exact this
  exact ⟨⟨_, he, rfl⟩, h _ he (Heap.get?_push_of_some _ (Heap.get?_push_size _ B.free)) (by rw [Heap.size_push, hz]) fun b o x => Heap.get?_push_of_some _ (Heap.get?_push_of_some _ x)⟩
/-- the tuple at a, each item in a new pair -/
def IteT (K : PySem.W.Frag) (a : Addr) : It :=
  ⟨fun i H => ∃ (xs : List V) (x : V), SqT K H a xs ∧ xs[i]? = some x, fun i H v H' => ∃ T x, v = .ref T ∧ H T = none ∧ H' = upd H T (.tup [.int (i : Nat), x]) ∧ ∀ xs, SqT K H a xs → xs[i]? = some x, fun i H => ∃ xs : List V, SqT K H a xs ∧ xs.length = i⟩
theorem turn_enumT {P : Program} {w : World} {K : PySem.W.Frag} {elts : List Expr} {kk : Nat} {tpos : Pos} (a e it : Addr) :
    Turn P w K (.Tuple elts kk tpos) (IteT K a) [e, it] e (fun i h => (∃ old, IsEnum h e it ((i : Nat) : Int) old) ∧ h.IsTupleIter it a i ∧ e ≠ it ∧ a ≠ it ∧ a ≠ e) where
  mem := by simp
  obj := fun i h st b hb => by
    obtain ⟨⟨old, he⟩, ⟨o, ho, hc, hd⟩, _⟩ := st
    have e' : b = e ∨ b = it := by simpa using hb
    rcases e' with z | z
    · rw [z]; exact ⟨_, he, fun v q => nomatch q⟩
    · rw [z]; exact ⟨o, ho, fun v q => by rw [hd] at q; cases q⟩
  keep := fun i h h' st k => let ⟨⟨old, he⟩, hi, hne⟩ := st; ⟨⟨old, k e (by simp) _ he⟩, hi.at fun o q => k it (by simp) o q, hne⟩
  item := by
    intro X hP hw hK hc i pins s σ H E I hf st hg
    subst hP hw hK
    obtain ⟨⟨old, he⟩, hit, hne, ha1, ha2⟩ := st
    obtain ⟨xs, x, hq, hx⟩ := hg
    obtain ⟨its, rv, p, hz⟩ := I.tuple hq
    obtain ⟨u, hu, ru⟩ := rv.get hx
    have hel : e < s.heap.objs.size := Heap.lt_size he
    have hil : it < s.heap.objs.size := by obtain ⟨_, q, _⟩ := hit; exact Heap.lt_size q
    have D := Draws.tuple (prog := X.prog) (w := X.w) (A := X.A.in1) (I.ok.hd hc) it a ha1 its.toArray
    have hi : i < its.toArray.size := by
      rw [List.size_toArray]
      exact (List.getElem?_eq_some_iff.mp hu).1
    refine wpAny_pyNext_enum_itemC D he ⟨hit, p⟩ hi hne (by simp [hne, Ne.symm ha2]) fun x' h' tk hx' ho st' hT hsz hk => ?_
    have ex : x' = u := by
      have h1 : its.toArray[i]? = some x' := hx'
      have h2 : its.toArray[i]? = some u := by simpa using hu
      rw [h2] at h1
      exact (Option.some.inj h1).symm
    subst ex
    refine ⟨_, rfl, wpAny_letOwnedTupleGo_enum (s := { s with heap := h', toks := tk + 1 }) ho fun h'' he' sb => ?_⟩
    have hT2 : h''.get? s.heap.objs.size = some { cls := .type "tuple", data := .seq #[.int i tk, x'] } := (sb.2 _ (Nat.ne_of_gt hel)).trans hT
    have new : ObjOk X.prog X.w (upd H s.heap.objs.size (.tup [.int (i : Nat), x])) h'' s.heap.objs.size (.tup [.int (i : Nat), x]) :=
      ⟨by show 2 ≤ sizeLine; decide, [.int i tk, x'], .cons ⟨_, rfl⟩ (.cons ru .nil), ⟨_, hT2, rfl, _, rfl⟩⟩
    have I1 : Inv X pins σ (upd H s.heap.objs.size (.tup [.int (i : Nat), x])) { s with heap := h'', toks := tk + 1 } :=
      I.turnedNew (ch := [e, it]) (fun b ob hb q => (sb.2 b (fun z => hb (by simp [z]))).trans (hk b ob (fun z => hb (by simp [z])) (fun z => hb (by simp [z])) q)) hf (Nat.le_refl _) new
    refine ⟨.ref s.heap.objs.size, _, I1, rfl, ⟨_, x, rfl, I.hok.fresh (Nat.le_refl _), rfl, fun ys hy => by rw [I.tuple_inj hy hq]; exact hx⟩, ⟨⟨x', ?_⟩, st'.1.at fun o q => (sb.2 it (Ne.symm hne)).trans q, hne, ha1, ha2⟩, fun b hb => ?_⟩
    · have e1 : ((i + 1 : Nat) : Int) = (i : Int) + 1 := by omega
      rw [e1]; exact he'
    · have hb' : b < s.heap.objs.size := by
        have e' : b = e ∨ b = it := by simpa using hb
        rcases e' with z | z
        · rw [z]; exact hel
        · rw [z]; exact hil
      rw [upd_ne (Nat.ne_of_lt hb')]
      exact (hf b hb).1
  done := by
    intro X hP hw hK hc i pins s σ H E I hf st hg
    subst hP hw hK
    obtain ⟨⟨old, he⟩, hit, hne, ha1, ha2⟩ := st
    obtain ⟨xs, hq, hx⟩ := hg
    obtain ⟨its, rv, p, hz⟩ := I.tuple hq
    obtain ⟨f0, f1, f2, f3, f4, f5⟩ := hf it (by simp)
    have D := Draws.tuple (prog := X.prog) (w := X.w) (A := X.A.in1) (I.ok.hd hc) it a ha1 its.toArray
    have hi : i = its.toArray.size := by
      rw [List.size_toArray, ← rv.length]
      exact hx.symm
    subst hi
    exact wpAny_pyNext_enum_endD D he ⟨hit, p⟩ fun h' eb => ⟨rfl, I.turned (t' := s.toks) (fun b o hb q => eb b o hb q) f0 f1 f3 f4 f5⟩
  self := fun A i s Q E st h => let ⟨⟨_, he⟩, _⟩ := st; wpAny_pyIter_enum he h
def iEnumT (K : PySem.W.Frag) (ta : TA) : TI := fun σ H R => ta σ H fun vs H1 => ∃ a xs, vs = [.ref a] ∧ SqT K H1 a xs ∧ R (IteT K a) H1
theorem pi_enumT {X : Cx} {e : Expr} {ta : TA} {p pos tpos : Pos} {elts : List Expr} {kk : Nat} (hg : Gl X "enumerate") (hm : X.mg "enumerate" = none) (ha : PA X [e] ta) (hs : starEach [e] X.env = [(false, eval e X.env)] := by rfl) :
    PI X (.Tuple elts kk tpos) (.Call (.Name "enumerate" p) [e] [] pos) (iEnumT X.K ta) := by
  refine ⟨fun pins s σ H R I h => ?_⟩
  refine PyProof.Rows.Call_ (ld_blt I hg hm PyProof.Rows.boot_enumerate (PyProof.Rows.callWith_type1 (thn (ha.run pos pins s σ H _ I h) fun us s1 ⟨vs, H1, I1, r1, q1⟩ => ?_) hs rfl))
  obtain ⟨a, xs, ex, hq, q⟩ := q1
  subst ex
  cases r1 with
  | cons r rr =>
    cases rr
    cases r
    obtain ⟨its, rv, p', hz⟩ := I1.tuple hq
    have hal : a < s1.heap.objs.size := by
      obtain ⟨o1, ho1, _⟩ := id p'
      exact Heap.lt_size ho1
    refine enum_begins1 (begins_tuple a its.toArray) p' fun h' he hit hsz hk => wpAny_pyIter_enum he ?_
    have I2 : Inv X pins σ H1 { s1 with heap := h' } := I1.kept (t' := s1.toks) hk
    refine ⟨s1.heap.objs.size + 1, [s1.heap.objs.size + 1, s1.heap.objs.size], _, _, H1, rfl, I2, turn_enumT a (s1.heap.objs.size + 1) s1.heap.objs.size, ⟨⟨.none, he⟩, ⟨_, hit, rfl, rfl⟩, Nat.succ_ne_self _, Nat.ne_of_lt hal, Nat.ne_of_lt (Nat.lt_succ_of_lt hal)⟩, fun b hb => ?_, q⟩
    have e' : b = s1.heap.objs.size + 1 ∨ b = s1.heap.objs.size := by simpa using hb
    have hle : s1.heap.objs.size ≤ b := by
      rcases e' with z | z
      · rw [z]; exact Nat.le_add_right _ _
      · rw [z]; exact Nat.le_refl _
    exact I1.fpOk hle (I1.hok.fresh hle)
section
variable {X : Cx} {Γ : List Sl} {tg e : Expr} {d : PyData} {ds : List PyData} {p pos tpos : Pos}
/-- the pairs of enumerate -/
def enumD (ds : List PyData) : List PyData := (List.range ds.length).zipWith (fun (i : Nat) d => pair2 (.int (i : Int)) d) ds
theorem enumD_len : (enumD ds).length = ds.length := by simp [enumD]
theorem enumD_get {i : Nat} (h : (enumD ds)[i]? = some d) : ∃ d', ds[i]? = some d' ∧ d = pair2 (.int (i : Int)) d' := by
  unfold enumD at h
  rw [List.getElem?_zipWith] at h
  cases h1 : ds[i]? with
  | none =>
    rw [h1] at h
    cases h2 : (List.range ds.length)[i]? <;> rw [h2] at h <;> cases h
  | some d' =>
    have hi := (List.getElem?_eq_some_iff.mp h1).1
    rw [h1, List.getElem?_range hi] at h
    exact ⟨d', rfl, (Option.some.inj h).symm⟩
theorem walks_enumL {K : PySem.W.Frag} {R : Hp} {a : Addr} {xs : List V} (h : SqL K R a xs) (x : DaAll K R xs ds) : Walks K (Ite K a) R (enumD ds) where
  go := fun i R2 H hi r s => by
    rw [enumD_len] at hi
    have hx : i < xs.length := by rw [x.length]; exact hi
    exact ⟨xs, xs[i], ex_l (r.trans s) h, by simp [hx]⟩
  yld := fun i d R2 H v H' hd r s y => by
    obtain ⟨d', hd', rfl⟩ := enumD_get hd
    obtain ⟨T, x', rfl, hT, rfl, f⟩ := y
    obtain ⟨u, h1, h2⟩ := x.get hd'
    have h3 := f xs (ex_l (r.trans s) h)
    rw [h1] at h3
    cases h3
    exact pair_new s hT (.int _) (h2.mono r)
  stop := fun R2 H r s => ⟨xs, ex_l (r.trans s) h, by rw [enumD_len, x.length]; exact Nat.le_refl _⟩
theorem walks_enumT {K : PySem.W.Frag} {R : Hp} {a : Addr} {xs : List V} (h : R a = some (.tup xs)) (x : DaAll K R xs ds) : Walks K (IteT K a) R (enumD ds) where
  go := fun i R2 H hi r s => by
    rw [enumD_len] at hi
    have hx : i < xs.length := by rw [x.length]; exact hi
    exact ⟨xs, xs[i], ex_t (r.trans s) h, by simp [hx]⟩
  yld := fun i d R2 H v H' hd r s y => by
    obtain ⟨d', hd', rfl⟩ := enumD_get hd
    obtain ⟨T, x', rfl, hT, rfl, f⟩ := y
    obtain ⟨u, h1, h2⟩ := x.get hd'
    have h3 := f xs (ex_t (r.trans s) h)
    rw [h1] at h3
    cases h3
    exact pair_new s hT (.int _) (h2.mono r)
  stop := fun R2 H r s => ⟨xs, ex_t (r.trans s) h, by rw [enumD_len, x.length]⟩
theorem gi_enum {ts : List Expr} {n : Nat} (hm : X.mg "enumerate" = none) (h : GP X Γ e d) (hq : IsSeq d ds) (hg : Gl X "enumerate" := by rfl) (hs : starEach [e] X.env = [(false, eval e X.env)] := by rfl) : GIP X Γ (.Tuple ts n tpos) (.Call (.Name "enumerate" p) [e] [] pos) (enumD ds) := ⟨fun σ R H s k => by
  cases hq with
  | l => exact (pi_enum hg hm pa_re hs).re (((gpa_cons h gpa_nil hs).run σ R H s k).mono fun v H1 ⟨R1, g1, x1⟩ => by
      cases x1 with
      | cons x1 a1 =>
        cases a1
        cases x1 with
        | lst q1 w1 => exact ⟨_, _, rfl, ex_l g1.sub q1, R1, g1, walks_enumL q1 w1⟩)
  | t => exact (pi_enumT hg hm pa_re hs).re (((gpa_cons h gpa_nil hs).run σ R H s k).mono fun v H1 ⟨R1, g1, x1⟩ => by
      cases x1 with
      | cons x1 a1 =>
        cases a1
        cases x1 with
        | tup q1 w1 => exact ⟨_, _, rfl, ex_t g1.sub q1, R1, g1, walks_enumT q1 w1⟩)⟩
end

/-! ### t[::-1] of a tuple -/
theorem rev_getItem {prog : Program} {w : World} {A : Around} {E : Value → Shared → Prop} {s : Shared} {t sl : Addr} {items : Array Value} {vl vu vs : Value} {Q : Value → Shared → Prop} (ht : IsTup s.heap t items) (hs : s.heap.IsSliceOf sl vl vu vs) (pl : IsPart vl none) (pu : IsPart vu none) (ps : IsPart vs (some (-1)))
    (h : Q (.ref s.heap.objs.size) { s with heap := s.heap.push { cls := .type "tuple", data := .seq items.toList.reverse.toArray } }) (hsz : items.size ≤ sizeLine) : wpAny (model prog w) A (getItem (.ref t) (.ref sl)) Q E s := by
  have htake : sizeOk (.seq items.toList.reverse.toArray) := by
    show (items.toList.reverse.toArray).size ≤ sizeLine
    rw [List.size_toArray, List.length_reverse, Array.length_toList]
    exact hsz
  obtain ⟨os, hos, hcs, hds⟩ := id hs
  have hTs : s.TypeIs (.ref sl) "slice" := ⟨os, hos, hcs⟩
  unfold getItem
  try with_reducible refine wpAny_holding ?_
  first | refine wpAny_bind (wpAny_pure ?_) | skip
  refine wpAny_bind (wpAny_sequenceKey ht.typeIs (by decide) ?_)
  refine wpAny_bind (wpAny_callSpecial?_slot (name := Str.ofString "__getitem__") ht.typeIs PyProof.Rows.slot_tuple_getitem
    (wpAny_call_entry PyProof.Rows.slot_tuple_getitem ht.typeIs entry_tuple_getitem ?_ (args_tuple_getitem _ _)))
  show wpAny _ _ (Builtin.Tuple.tupleItemsOf (.ref t) >>= _) _ _ s
  refine wpAny_bind (PyProof.Rows.tupleItemsOf_ ht ?_)
  refine wpAny_bind (wpAny_typeOf hTs ?_)
  rw [if_pos (by decide)]
  have happ : ∀ {A : Around} {E : Value → Shared → Prop} {Q' : Int × Int × Nat → Shared → Prop}, Q' ((items.size : Int) - 1, -1, items.size) s → wpAny (model prog w) A (Builtin.Slice.sliceApplied (.ref sl) (pure (items.size : Int))) Q' E s := fun {A E Q'} h => by
    unfold Builtin.Slice.sliceApplied Builtin.Slice.sliceFields
    refine wpAny_bind (wpAny_bind (wpAny_field hos hds (x := vl) rfl (wpAny_bind (wpAny_field hos hds (x := vu) rfl (wpAny_bind (wpAny_field hos hds (x := vs) rfl (wpAny_pure ?_)))))))
    refine wpAny_bind (HT.slicePart_ ps ?_)
    show wpAny _ _ (if ((-1 : Int) == 0) = true then _ else _) _ _ s
    rw [if_neg (by decide)]
    refine wpAny_bind (HT.slicePart_ pl (wpAny_bind (HT.slicePart_ pu (wpAny_bind (wpAny_pure ?_)))))
    show wpAny _ _ (match Builtin.Slice.sliceAdjust none none (-1) (items.size : Int) with | (lo, hi) => pure (lo, (-1 : Int), Builtin.Slice.slicePlaces lo hi (-1))) _ _ s
    have e1 : Builtin.Slice.sliceAdjust none none (-1) (items.size : Int) = ((items.size : Int) - 1, -1) := rfl
    have e2 : Builtin.Slice.slicePlaces ((items.size : Int) - 1) (-1) (-1) = items.size := by
      unfold Builtin.Slice.slicePlaces
      rw [if_neg (by decide)]
      split
      · rw [show (- -1 : Int) = 1 by decide, Int.ediv_one]
        omega
      · omega
    rw [e1]
    show wpAny _ _ (pure ((items.size : Int) - 1, (-1 : Int), Builtin.Slice.slicePlaces ((items.size : Int) - 1) (-1) (-1))) _ _ s
    rw [e2]
    exact wpAny_pure h
  refine wpAny_bind (happ ?_)
  have hno : ¬ ((((items.size : Int) - 1) == 0 && (-1 : Int) == 1 && items.size == items.size) = true) := by
    simp
  show wpAny _ _ (if (((items.size : Int) - 1) == 0 && (-1 : Int) == 1 && items.size == items.size) = true then _ else _) _ _ s
  have hpick : ((List.range items.size).filterMap fun (m : Nat) => items[((items.size : Int) - 1 + (m : Int) * (-1)).toNat]?).toArray = items.toList.reverse.toArray := by
    congr 1
    apply List.ext_getElem?
    intro i
    have e : ∀ n, n ≤ items.size → (List.range n).filterMap (fun (m : Nat) => items[((items.size : Int) - 1 + (m : Int) * (-1)).toNat]?) = items.toList.reverse.take n := by
      intro n
      induction n with
      | zero => intro _; rfl
      | succ n ih =>
        intro hn
        have hidx : ((items.size : Int) - 1 + (n : Int) * (-1)).toNat = items.size - 1 - n := by omega
        have hlt : items.size - 1 - n < items.size := by omega
        rw [List.range_succ, List.filterMap_append, ih (by omega), List.take_add_one]
        congr 1
        rw [List.filterMap_cons, hidx, Array.getElem?_eq_getElem hlt, List.getElem?_reverse (by simpa using (show n < items.size by omega))]
        simp [hlt]
    rw [e items.size (Nat.le_refl _), List.take_of_length_le (by simp)]
  rw [if_neg hno, hpick]
  first
    | exact wpAny_bind (m := Builtin.Tuple.tupleExact _) (wpAny_newObj_type (wpAny_pure ⟨_, rfl, wpAny_pure h⟩) htake)
    | exact wpAny_bind (m := Builtin.Tuple.tupleExact _) (wpAny_newObj_type (wpAny_bind (wpAny_pure (wpAny_pure ⟨_, rfl, wpAny_pure h⟩))) htake)
    | exact wpAny_bind (wpAny_bind (m := Builtin.Tuple.tupleExact _) (wpAny_newObj_type (wpAny_pure (wpAny_pure ⟨_, rfl, wpAny_pure h⟩)) htake))
    | exact wpAny_bind (wpAny_bind (m := Builtin.Tuple.tupleExact _) (wpAny_newObj_type (wpAny_pure ⟨_, rfl, wpAny_pure h⟩) htake))
def tRevT (K : PySem.W.Frag) (te : TE) : TE := fun σ H Q => te σ H fun x H1 => ∃ a xs, x = .ref a ∧ SqT K H1 a xs ∧ ∀ p, H1 p = none → Q (.ref p) (upd H1 p (.tup xs.reverse))
theorem pe_revT {X : Cx} {e : Expr} {te : TE} {k : Nat} {p1 p2 p3 pos : Pos} (he : PE X e te) : PE X (.Subscript e (.Slice none none (some (.UnaryOp .USub (.Constant (.int 1) k p1) p2)) p3) pos) (tRevT X.K te) := by
  refine ⟨fun pins s σ H Q I h => ?_⟩
  refine PyProof.Rows.Subscript_ (thn (he.run pins s σ H _ I h) fun v s1 ⟨x, H1, I1, r1, q1⟩ => ?_)
  obtain ⟨a, xs, ex, hx, q⟩ := q1
  subst ex
  cases r1
  have hst : PO X (some (.UnaryOp .USub (.Constant (.int 1) k p1) p2)) (tPart (tUn (rU fun i => .int (-i)) (tC (.int 1)))) := po_some (pe_un un_neg pe_int)
  refine wpAny_Slice (thn (po_none.run pins s1 σ H1 (fun o H2 => o = none ∧ H2 = H1) I1 ⟨rfl, rfl⟩) fun vl s2 ⟨l, H2, I2, pl, el, e2⟩ => ?_)
  subst el e2
  refine thn (po_none.run pins s2 σ H2 (fun o H3 => o = none ∧ H3 = H2) I2 ⟨rfl, rfl⟩) fun vu s3 ⟨u, H3, I3, pu, eu, e3⟩ => ?_
  subst eu e3
  refine thn (hst.run pins s3 σ H3 (fun o H4 => o = some (-1) ∧ H4 = H3) I3 ⟨1, rfl, -1, rfl, rfl, rfl⟩) fun vs s4 ⟨o, H4, I4, ps, eo, e4⟩ => ?_
  subst eo e4
  have I5 : Inv X pins σ H4 { s4 with heap := s4.heap.push { cls := .type "slice", data := .fields #[vl, vu, vs] } } := I4.kept (t' := s4.toks) fun b ob q => Heap.get?_push_of_some _ q
  obtain ⟨its, r, ht, hz⟩ := I5.tuple hx
  have hlen := r.length
  show wpAny (model X.prog X.w) X.A (PyProof.Rows.subscriptTail e (.Slice none none (some (.UnaryOp .USub (.Constant (.int 1) k p1) p2)) p3) (.ref a) (.ref s4.heap.objs.size)) (EP X pins σ Q) X.xe { s4 with heap := s4.heap.push { cls := .type "slice", data := .fields #[vl, vu, vs] } }
  refine PyProof.Rows.tail_any (ops := [.ref a, .ref s4.heap.objs.size]) ht.typeIs PyProof.Rows.slot_tuple_getitem.lookup ?_ (by with_unfolding_all rfl)
  refine rev_getItem ht (Heap.IsSliceOf.new _ vl vu vs) pl pu ps ?_ (by rw [List.size_toArray]; omega)
  refine ⟨.ref _, _, I5.laid (t' := s4.toks) (o := .tup xs.reverse) (fun b ob q => Heap.get?_push_of_some _ q) (Nat.le_refl _) ?_, rfl, q _ (I5.hok.fresh (Nat.le_refl _))⟩
  exact ⟨by rw [List.length_reverse]; exact hz, _, r.reverse, ⟨_, Heap.get?_push_size _ rfl, rfl, _, rfl⟩⟩
theorem gp_revT {X : Cx} {Γ : List Sl} {a : Expr} {ds : List PyData} {k : Nat} {p1 p2 p3 pos : Pos} (ha : GP X Γ a (.tuple ds)) : GP X Γ (.Subscript a (.Slice none none (some (.UnaryOp .USub (.Constant (.int 1) k p1) p2)) p3) pos) (.tuple ds.reverse) := ⟨fun σ R H s k => (pe_revT pe_re).re ((ha.run σ R H s k).mono fun x H1 ⟨R1, g1, x1⟩ => by
  cases x1 with
  | tup h1 a1 => exact ⟨_, _, rfl, ex_t g1.sub h1, fun p hp => ⟨_, g1.trans (Grow.made g1.sub hp), .tup upd_same (a1.reverse.mono (.new (ex_none g1.sub hp)))⟩⟩)⟩
end G

set_option Elab.async false
set_option linter.all false
set_option maxRecDepth 100000
set_option maxHeartbeats 2000000
namespace G
open PySem PySem.Spec L2
/-! ### lists together, whoever holds them -/
section
open PyProof.Rows
theorem add_listsAny {prog : Program} {w : World} {A : Around} {E : Value → Shared → Prop} {s : Shared} {l b : Addr} {vs ws : List Value} {Q : Value → Shared → Prop} (hl : s.heap.IsList l vs.toArray) (hb : s.heap.IsList b ws.toArray)
    (h : Q (.ref s.heap.objs.size) { s with heap := s.heap.push { cls := .type "list", data := .seq (vs ++ ws).toArray } }) (hsz : vs.length + ws.length ≤ sizeLine) : wpAny (model prog w) A (binaryOp .Add (.ref l) (.ref b)) Q E s := by
  obtain ⟨⟨cls, dd, data, sl⟩, ho, hc, n, hd⟩ := id hl
  obtain ⟨⟨cls2, dd2, data2, sl2⟩, ho2, hc2, n2, hd2⟩ := id hb
  simp only at hc hd hc2 hd2
  subst hc hd hc2 hd2
  have e : vs.toArray ++ ws.toArray = (vs ++ ws).toArray := by simp
  refine concat_meets ⟨_, ho, rfl⟩ ⟨_, ho2, rfl⟩ noFill_list_add seq_list_add PySem.F.slot_list_add PySem.F.entry_list_add (PySem.F.args_list_add_2 _ _) (list_addW l b vs.toArray ws.toArray n n2 dd dd2 sl sl2 (by simpa using hsz)) ⟨ho, ho2, ?_⟩
  rw [e]
  exact h
end
def rCatS (K : PySem.W.Frag) : R2 := fun x y H Q => ∃ l b xs zs, x = .ref l ∧ y = .ref b ∧ SqL K H l xs ∧ SqL K H b zs ∧ xs.length + zs.length ≤ sizeLine ∧ ∀ p, H p = none → Q (.ref p) (upd H p (.lst (xs ++ zs)))
theorem op_catS {X : Cx} : OpR X (binaryOp .Add) (rCatS X.K) := by
  intro pins s σ H x y v u Q I rx ry h
  obtain ⟨l, b, xs, zs, rfl, rfl, hH, hB, hz, q⟩ := h
  cases rx
  cases ry
  obtain ⟨its, r, p1, z⟩ := I.list hH
  obtain ⟨its2, r2, p2, z2⟩ := I.list hB
  have l1 := r.length
  have l2 := r2.length
  refine add_listsAny p1.isList p2.isList ?_ (by omega)
  exact ⟨.ref _, _, I.lnew (t' := s.toks) (r.append r2) (by rw [List.length_append]; omega), rfl, q _ I.fresh⟩
section
variable {X : Cx} {Γ : List Sl} {O : Own} {a b e : Expr} {xs ys ds : List PyData} {pos : Pos}
theorem glp_cat (ha : GP X Γ a (.list xs)) (hb : GP X Γ b (.list ys)) (hz : xs.length + ys.length ≤ sizeLine) : GLP X Γ (.BinOp a .Add b pos) (xs ++ ys) := ⟨fun σ R H s k =>
  (pe_op op_catS pe_re pe_re).re ((ha.run σ R H s k).mono fun x H1 ⟨R1, g1, x1⟩ => (hb.run σ R1 H1 g1.sub (slots_mono g1.r k)).mono fun y H2 ⟨R2, g2, y2⟩ => by
    cases x1 with
    | lst h1 a1 =>
      cases y2 with
      | lst h2 a2 => exact ⟨_, _, _, _, rfl, rfl, ex_l (g2.r.trans g2.sub) h1, ex_l g2.sub h2, by rw [a1.length, a2.length]; exact hz, fun p hp => NewL.of (g1.trans g2) hp ((a1.mono g2.r).append a2)⟩)⟩
theorem gl_cat {P : List PyData → Own → Prop} (h : GE X Γ O a fun d1 O1 => GE X Γ O1 b fun d2 O2 => ∃ xs ys, d1 = .list xs ∧ d2 = .list ys ∧ xs.length + ys.length ≤ sizeLine ∧ P (xs ++ ys) O2) : GL X Γ O (.BinOp a .Add b pos) P := ⟨fun B σ R H o =>
  (pe_op op_catS pe_re pe_re).re ((h.run B σ R H o).mono fun x H1 ⟨R1, O1, d1, e1, o1, x1, q1⟩ => (q1.run B σ R1 H1 o1).mono fun y H2 ⟨R2, O2, d2, e2, o2, y2, xs, ys, ex, ey, hz, q⟩ => by
    subst ex ey
    cases x1 with
    | lst h1 a1 =>
      cases y2 with
      | lst h2 a2 =>
        refine ⟨_, _, _, _, rfl, rfl, ex_l (e2.trans o2.sub) h1, ex_l o2.sub h2, by rw [a1.length, a2.length]; exact hz, fun p hp => ?_⟩
        exact ⟨R2, O2, p, _, rfl, e1.trans e2, o2.own1 (Grow.junk o2.sub (.new hp)) (ex_none o2.sub hp) hp upd_same ((a1.mono e2).append a2), q⟩)⟩

/-! ### owned names -/
/-- name = a comprehension -/
theorem s_setLc {α : Type} {enc out : α → PyData} {pr : α → Bool} {own : List (Str × Nat)} {D : Nds} {tg iter elt : Expr} {ifs : List Expr} {scope : Scope} {y : Str} {py spos : Pos} (i : Nat) (xs : List α) (Γt : α → List Sl) {js : List Nat} (hN : X.N.Nodup)
    (hi : GIP X Γ tg iter (xs.map enc)) (ok : BlkOk X.N X.env.scope scope own)
    (hg : ∀ x ∈ xs, InB X scope fun X' => GGP X' (wipeG Γ (own.map (·.2))) tg (enc x) (Γt x) js) (hj : ∀ i ∈ js, i ∈ own.map (·.2))
    (ht : ∀ x ∈ xs, InB X scope fun X' => GTsP X' (Γt x) ifs (pr x)) (he : ∀ x ∈ xs, pr x = true → InB X scope fun X' => GP X' (Γt x) elt (out x))
    (hz : xs.length < sizeLine) (q : ∀ l, D.nx (Γ.set i (.ow l)) (O ++ [(l, .L ((xs.filter pr).map out))])) (hy : X.N[i]? = some y := by rfl) (hyl : X.env.scope.names.lookup y = some .local := by rfl)
    (hsw : swapsWith (.ListComp elt [⟨tg, iter, ifs, 0⟩] scope pos) (some (.Name y py)) spos.line X.env = pure true := by exact sw_true rfl rfl rfl (by decide +kernel))
    (hc : X.calm = true := by rfl) (hs : ∀ x, foldedSetIterable iter X.env x = pure x := by intro _; rfl) : GS X Γ O (.Assign [.Name y py] (.ListComp elt [⟨tg, iter, ifs, 0⟩] scope pos) spos) D := by
  obtain ⟨wi, g, tt, te, h1, h2, h3, h4, h5⟩ := lc_list_ok xs Γt hN hi ok hg hj ht he hz hc hs
  refine ⟨fun B σ R H o => (ps_setLc hc hN hy hyl hsw h1 ok h2 h3 h4 hs).re (h5 σ R H o.sub o.sl _ fun v H' ⟨R', p', vs, g, e1, e2, e3, e4, a⟩ => ?_)⟩
  subst e1
  exact ⟨R', _, _, (o.own1 g e2 e3 e4 a).set (s := .ow p') i rfl, q p'⟩
/-! ### comprehensions that change owned objects -/
structure GTs (X : Cx) (Γ : List Sl) (O : Own) (ifs : List Expr) (P : Bool → Own → Prop) : Prop where
  run : ∀ B σ R H, Ok X.K B Γ O σ R H → RTs X ifs σ H fun b H' => ∃ R' O', Ex R R' ∧ Ok X.K B Γ O' σ R' H' ∧ P b O'
theorem gts_nilE {P : Bool → Own → Prop} (q : P true O) : GTs X Γ O [] P := ⟨fun B σ R H o pins s I => pts_nil.run pins s σ H _ I ⟨R, O, .refl _, o, q⟩⟩
theorem gts_oneE {P : Bool → Own → Prop} {c : Expr} (h : GT X Γ O c P) : GTs X Γ O [c] P := ⟨fun B σ R H o pins s I => (pts_one pt_re).run pins s σ H _ I (h.run B σ R H o)⟩
theorem RTs.mono {ifs : List Expr} {σ : L2.St} {H : Hp} {Q Q' : Bool → Hp → Prop} (h : RTs X ifs σ H Q) (k : ∀ v H', Q v H' → Q' v H') : RTs X ifs σ H Q' := fun pins s I => thn (h pins s I) fun _ _ ⟨H', I', q⟩ => ⟨H', I', k _ _ q⟩
theorem gl_lc {P : List PyData → Own → Prop} {own : List (Str × Nat)} {tg iter elt : Expr} {ifs : List Expr} {scope : Scope} (hN : X.N.Nodup) (ok : BlkOk X.N X.env.scope scope own)
    (h : GI X Γ O tg iter fun ds O1 => ∃ Pv : Nat → List PyData → Own → Prop, Pv 0 [] O1 ∧ ds.length < sizeLine ∧
      (∀ i d acc O2, ds[i]? = some d → acc.length ≤ i → Pv i acc O2 → ∃ Γt js, (InB X scope fun X' => GGP X' (wipeG Γ (own.map (·.2))) tg d Γt js) ∧ (∀ j ∈ js, j ∈ own.map (·.2)) ∧
        InB X scope fun X' => GTs X' Γt O2 ifs fun t O3 => (t = true → InB X scope fun X' => GE X' Γt O3 elt fun y O4 => Pv (i + 1) (acc ++ [y]) O4) ∧ (t = false → Pv (i + 1) acc O3)) ∧
      ∀ acc O2, Pv ds.length acc O2 → P acc O2)
    (hc : X.calm = true := by rfl) (hs : ∀ x, foldedSetIterable iter X.env x = pure x := by intro _; rfl) : GL X Γ O (.ListComp elt [⟨tg, iter, ifs, 0⟩] scope pos) P := ⟨fun B σ R H o => by
  have hg : InB X scope fun X' => PG X' tg fun v σ H Q => InB X scope fun X' => RG X' tg v σ H Q := fun s H C cl fp => ⟨fun pins sh σ H' v u Q I r h => h s H C cl fp pins sh u I r⟩
  have ht : InB X scope fun X' => PTs X' ifs fun σ H Q => InB X scope fun X' => RTs X' ifs σ H Q := fun s H C cl fp => ⟨fun pins sh σ H' Q I h => h s H C cl fp pins sh I⟩
  have he : InB X scope fun X' => PE X' elt fun σ H Q => InB X scope fun X' => RE X' elt σ H Q := fun s H C cl fp => ⟨fun pins sh σ H' Q I h => h s H C cl fp pins sh I⟩
  refine (pe_lc hc hN pi_re ok hg ht he hs).re ((h.run B σ R H o).mono fun J H1 ⟨R1, O1, ds, e1, o1, wk, Pv, p0, hz, step, fin⟩ D hD => ?_)
  -- the new list is owned besides
  have nw := Grow.junk o1.sub (Ex.new (o := .lst []) hD)
  have oD : Ok X.K B Γ (O1 ++ [(D, .L [])]) σ R1 (upd H1 D (.lst [])) := o1.own1 nw (ex_none o1.sub hD) hD upd_same .nil
  refine ⟨fun i m Hc => m = ds.length - i ∧ i ≤ ds.length ∧ ∃ R2 O2 acc, Ex R1 R2 ∧ Ok X.K B Γ (O2 ++ [(D, .L acc)]) σ R2 Hc ∧ acc.length ≤ i ∧ Pv i acc O2, ⟨_, rfl, Nat.zero_le _, R1, O1, [], .refl _, oD, Nat.zero_le _, p0⟩, ?_⟩
  rintro i m Hc ⟨rfl, hle, R2, O2, acc, e2, o2, la, p2⟩
  by_cases hlt : i < ds.length
  · refine .inr ⟨wk.go i R2 Hc hlt e2 o2.sub, fun H' => i + 1 ≤ ds.length ∧ ∃ R2 O2 acc, Ex R1 R2 ∧ Ok X.K B Γ (O2 ++ [(D, .L acc)]) σ R2 H' ∧ acc.length ≤ i + 1 ∧ Pv (i + 1) acc O2, fun H' ⟨h1, h2⟩ => ⟨ds.length - (i + 1), by omega, rfl, h1, h2⟩, fun v H3 y => ?_⟩
    have hget : ds[i]? = some ds[i] := List.getElem?_eq_getElem hlt
    obtain ⟨R3, g3, dv⟩ := wk.yld i _ R2 Hc v H3 hget e2 o2.sub y
    have o3 := o2.grow g3
    obtain ⟨Γt, js, hgg, hj, hts⟩ := step i _ acc O2 hget la p2
    intro s0 H0 C cl fp
    refine ((hgg s0 H0 C cl fp).run _ R3 H3 v o3.sub (wipe_ok o3.sl (own.map (·.2))) dv).mono fun σ4 H4 ⟨e4, k4, l4, f4⟩ => ?_
    subst e4
    refine ⟨wipe_wipe hj l4 f4, fun s0 H0 C cl fp => ?_⟩
    have o4 : Ok X.K B Γt (O2 ++ [(D, .L acc)]) σ4 R3 H4 := o3.sl2 k4
    have b4 := (o4.drop (List.sublist_append_left O2 [(D, .L acc)])).now
    refine ((hts s0 H0 C cl fp).run _ σ4 R3 H4 b4).mono fun t H5 ⟨R5, O5, e5, b5, q5⟩ => ?_
    have o5 : Ok X.K B Γt (O5 ++ [(D, .L acc)]) σ4 R5 H5 := o4.back b5
    cases t with
    | false =>
      rw [if_neg Bool.false_ne_true]
      exact ⟨hlt, R5, O5, acc, e2.trans (g3.r.trans e5), o5.sl2 (slots_mono e5 o3.sl), Nat.le_succ_of_le la, q5.2 rfl⟩
    | true =>
      rw [if_pos rfl]
      intro s0 H0 C cl fp
      have b5' := (o5.drop (List.sublist_append_left O5 [(D, .L acc)])).now
      refine (((q5.1 rfl) s0 H0 C cl fp).run _ σ4 R5 H5 b5').mono fun y6 H6 ⟨R6, O6, d6, e6, b6, x6, q6⟩ => ?_
      have o6 : Ok X.K B Γt (O6 ++ [(D, .L acc)]) σ4 R6 H6 := o5.back b6
      have hidx : (O6 ++ [(D, Cn.L acc)])[O6.length]? = some (D, .L acc) := by simp
      obtain ⟨⟨vs, hl, da⟩, _, _⟩ := o6.own _ (List.mem_of_getElem? hidx)
      have hl : H6 D = some (.lst vs) := hl
      have o7 := o6.put (c' := .L (acc ++ [d6])) (o := .lst (vs ++ [y6])) hidx ⟨_, upd_same, da.append (.cons x6 .nil)⟩
      rw [List.set_append_right _ _ (Nat.le_refl _), Nat.sub_self] at o7
      refine ⟨vs, hl, by rw [da.length]; omega, hlt, R6, O6, acc ++ [d6], e2.trans (g3.r.trans (e5.trans e6)), o7.sl2 (slots_mono (e5.trans e6) o3.sl), by simp; omega, q6⟩
  · have e : i = ds.length := by omega
    subst e
    exact .inl ⟨wk.stop R2 Hc e2 o2.sub, R2, O2, D, acc, rfl, e1.trans e2, o2, fin acc O2 p2⟩⟩

/-! ### what is walked, behind an effect -/
variable {P : List PyData → Own → Prop} {tg : Expr} {p : Pos}
theorem gi_listE (h : GE X Γ O e fun d O1 => ∃ ds, d = .list ds ∧ P ds O1) : GI X Γ O tg e P := ⟨fun B σ R H o => (pi_list pe_re).re ((h.run B σ R H o).mono fun v H1 ⟨R1, O1, d, e1, o1, x1, ds, ed, q⟩ => by
  subst ed
  cases x1 with
  | lst h1 a1 => exact ⟨_, rfl, ⟨_, ex_l o1.sub h1⟩, R1, O1, ds, e1, o1, walks_list h1 a1, q⟩)⟩
theorem gi_range1E {a : Expr} (hm : X.mg "range" = none) (h : GE X Γ O a fun d O1 => ∃ n, d = .int n ∧ (-(2 ^ 62) ≤ n ∧ n < 2 ^ 62) ∧ P ((rng 0 n.toNat).map .int) O1) (hg : Gl X "range" := by rfl) (hs : starEach [a] X.env = [(false, eval a X.env)] := by rfl) : GI X Γ O tg (.Call (.Name "range" p) [a] [] pos) P := ⟨fun B σ R H o =>
  (pi_range1 hg hm pa_re hs).re (((ga_cons (es := []) (P := fun as O1 => ∃ d, as = [.sh d] ∧ ∃ n, d = .int n ∧ (-(2 ^ 62) ≤ n ∧ n < 2 ^ 62) ∧ P ((rng 0 n.toNat).map .int) O1) (h.imp fun d O1 q => ga_nil ⟨d, rfl, q⟩) hs).run B σ R H o).mono fun v H1 ⟨R1, O1, as, e1, o1, x1, d, ea, n, ed, hn, q⟩ => by
    subst ea ed
    cases x1 with
    | cons h1 a1 =>
      cases a1
      cases h1
      exact ⟨n, rfl, hn.1, hn.2, R1, O1, _, e1, o1, walks_rng, q⟩)⟩
/-! ### displays, built-ins, behind an effect -/
variable {es : List Expr} {PD : PyData → Own → Prop} {x : Str}
theorem paired_sh {K : PySem.W.Frag} {R : Hp} : ∀ {ds : List PyData} {vs : List V}, Paired (VlOk K R) (ds.map .sh) vs → DaAll K R vs ds
  | [], _, .nil => .nil
  | _ :: _, _, .cons h t => .cons h (paired_sh t)
theorem gl_lstE (h : GA X Γ O es fun as O1 => ∃ ds, as = ds.map .sh ∧ ds.length ≤ sizeLine ∧ P ds O1) : GL X Γ O (.List es pos) P := ⟨fun B σ R H o => (pe_lst pa_re).re ((h.run B σ R H o).mono fun vs H1 ⟨R1, O1, as, e1, o1, x1, ds, ea, hz, q⟩ => by
  subst ea
  have x2 := paired_sh x1
  exact ⟨by rw [x2.length]; exact hz, fun p hp => ⟨R1, O1, p, ds, rfl, e1, o1.own1 (Grow.junk o1.sub (.new hp)) (ex_none o1.sub hp) hp upd_same x2, q⟩⟩)⟩
theorem ge_tupE {n : Nat} (h : GA X Γ O es fun as O1 => ∃ ds, as = ds.map .sh ∧ ds.length ≤ sizeLine ∧ PD (.tuple ds) O1) : GE X Γ O (.Tuple es n pos) PD := ⟨fun B σ R H o => (pe_tup pa_re).re ((h.run B σ R H o).mono fun vs H1 ⟨R1, O1, as, e1, o1, x1, ds, ea, hz, q⟩ => by
  subst ea
  have x2 := paired_sh x1
  exact ⟨by rw [x2.length]; exact hz, fun p hp => ⟨_, O1, .tuple ds, e1.trans (.new (ex_none o1.sub hp)), o1.grow (Grow.made o1.sub hp), .tup upd_same (x2.mono (.new (ex_none o1.sub hp))), q⟩⟩)⟩
theorem ge_callTE {id : String} {r : List V → Hp → VK → Prop} (hc : CallR X (.type id) r) (hm : X.mg x = none) (hv : bootBuiltins x = some (.type id)) (h : GE X Γ O e fun d O1 => ∃ d2, CallP X.K r [d] d2 ∧ PD d2 O1) (hg : Gl X x := by rfl) (hn : x ≠ "__name__" := by decide) (hdb : (x == ("__debug__" : Str)) = false := by decide)
    (he : starEach [e] X.env = (false, eval e X.env) :: starEach [] X.env := by rfl) : GE X Γ O (.Call (.Name x p) [e] [] pos) PD := ⟨fun B σ R H o =>
  (pe_callTy hc hg hm hv (pa_cons pe_re pa_nil he) hn hdb he rfl).re ((h.run B σ R H o).mono fun v H1 ⟨R1, O1, d, e1, o1, x1, d2, hr, q⟩ => hr R1 H1 [v] o1.sub (.cons x1 .nil) _ fun u R2 H2 g2 x2 => ⟨R2, O1, d2, e1.trans g2.r, o1.grow g2, x2, q⟩)⟩
theorem ge_callBE {id : String} {r : List V → Hp → VK → Prop} (hc : CallR X (.builtin id) r) (hm : X.mg x = none) (hv : bootBuiltins x = some (.builtin id)) (h : GE X Γ O e fun d O1 => ∃ d2, CallP X.K r [d] d2 ∧ PD d2 O1) (hg : Gl X x := by rfl) (hn : x ≠ "__name__" := by decide) (hdb : (x == ("__debug__" : Str)) = false := by decide)
    (he : starEach [e] X.env = (false, eval e X.env) :: starEach [] X.env := by rfl) : GE X Γ O (.Call (.Name x p) [e] [] pos) PD := ⟨fun B σ R H o =>
  (pe_callB hc hg hm hv (pa_cons pe_re pa_nil he) hn hdb he rfl).re ((h.run B σ R H o).mono fun v H1 ⟨R1, O1, d, e1, o1, x1, d2, hr, q⟩ => hr R1 H1 [v] o1.sub (.cons x1 .nil) _ fun u R2 H2 g2 x2 => ⟨R2, O1, d2, e1.trans g2.r, o1.grow g2, x2, q⟩)⟩
theorem callP_tuple {K : PySem.W.Frag} {d : PyData} {ds : List PyData} (hs : IsSeq d ds) : CallP K (fun xs H Q => ∃ p ys, xs = [.ref p] ∧ ((SqL K H p ys ∧ ∀ l, H l = none → Q (.ref l) (upd H l (.tup ys))) ∨ (SqT K H p ys ∧ Q (.ref p) H))) [d] (.tuple ds) := fun R H vs s a Q q => by
  cases a with
  | cons h1 a =>
    cases a
    cases hs with
    | l =>
      cases h1 with
      | lst h1 a1 => exact ⟨_, _, rfl, .inl ⟨ex_l s h1, fun l hl => q _ _ _ (Grow.made s hl) (.tup upd_same (a1.mono (.new (ex_none s hl))))⟩⟩
    | t =>
      cases h1 with
      | tup h1 a1 => exact ⟨_, _, rfl, .inr ⟨ex_t s h1, q _ R H (Grow.refl s) (.tup h1 a1)⟩⟩
theorem ge_tupleE (hm : X.mg "tuple" = none) (h : GE X Γ O e fun d O1 => ∃ ds, IsSeq d ds ∧ PD (.tuple ds) O1) (hg : Gl X "tuple" := by rfl) (he : starEach [e] X.env = (false, eval e X.env) :: starEach [] X.env := by rfl) : GE X Γ O (.Call (.Name "tuple" p) [e] [] pos) PD :=
  ge_callTE call_tuple_of hm PyProof.Rows.boot_tuple (h.imp fun d O1 ⟨ds, hs, q⟩ => ⟨_, callP_tuple hs, q⟩) hg (by decide) (by decide) he
theorem ge_ixLE {b : Expr} (h : GE X Γ O a fun d1 O1 => GE X Γ O1 b fun d2 O2 => ∃ ds i d, d1 = .list ds ∧ d2 = .int i ∧ atI ds i = some d ∧ PD d O2) (hp : PlainIx b := by exact fun _ _ => rfl) : GE X Γ O (.Subscript a b pos) PD :=
  ge_two (fun ha hb => pe_ix ix_list ha hb hp) (h.imp fun d1 O1 h => h.imp fun d2 O2 ⟨ds, i, d, e1, e2, hi, q⟩ => by
    subst e1 e2
    refine ⟨d, fun R H x y s hx hy Q q => ?_, q⟩
    cases hx with
    | lst h1 a1 =>
      cases hy
      obtain ⟨v, h2, h3⟩ := atD a1 hi
      exact ⟨_, _, i, v, rfl, rfl, ex_l s h1, h2, q v R H (Grow.refl s) h3⟩)

/-! ### sorted -/
/-- a new list that a builtin makes, not told by a function -/
theorem gl_callBE {id : String} {r : List V → Hp → VK → Prop} (hc : CallR X (.builtin id) r) (hm : X.mg x = none) (hv : bootBuiltins x = some (.builtin id)) (h : GE X Γ O e fun d O1 => ∃ S : List PyData → Prop, (∀ R H v, Ex R H → Da X.K R v d → ∀ Q : VK, (∀ p us es, H p = none → S es → DaAll X.K R us es → Q (.ref p) (upd H p (.lst us))) → r [v] H Q) ∧ ∀ es, S es → P es O1) (hg : Gl X x := by rfl) (hn : x ≠ "__name__" := by decide) (hdb : (x == ("__debug__" : Str)) = false := by decide)
    (he : starEach [e] X.env = (false, eval e X.env) :: starEach [] X.env := by rfl) : GL X Γ O (.Call (.Name x p) [e] [] pos) P := ⟨fun B σ R H o =>
  (pe_callB hc hg hm hv (pa_cons pe_re pa_nil he) hn hdb he rfl).re ((h.run B σ R H o).mono fun v H1 ⟨R1, O1, d, e1, o1, x1, S, hr, q⟩ => hr R1 H1 v o1.sub x1 _ fun l us es hl hS hu =>
    ⟨R1, O1, l, es, rfl, e1, o1.own1 (Grow.junk o1.sub (.new hl)) (ex_none o1.sub hl) hl upd_same hu, q es hS⟩)⟩
/-- whole numbers -/
theorem gl_sortedI (hm : X.mg "sorted" = none) (h : GE X Γ O e fun d O1 => ∃ ns : List Int, d = .list (ns.map .int) ∧ ∀ ns' : List Int, ns'.Perm ns → ns'.Pairwise (· ≤ ·) → P (ns'.map .int) O1) (hg : Gl X "sorted" := by rfl) (he : starEach [e] X.env = (false, eval e X.env) :: starEach [] X.env := by rfl) : GL X Γ O (.Call (.Name "sorted" p) [e] [] pos) P :=
  gl_callBE cr_sortedI hm PyProof.Rows.boot_sorted (h.imp fun d O1 ⟨ns, ed, q⟩ => ⟨fun es => ∃ ns' : List Int, es = ns'.map .int ∧ ns'.Perm ns ∧ ns'.Pairwise (· ≤ ·), fun R H v s x1 Q k => by
    subst ed
    cases x1 with
    | lst h1 a1 =>
      have e2 := a1.ints
      subst e2
      exact ⟨_, ns, rfl, ex_l s h1, fun ns' p hp hs hl => k p _ _ hl ⟨ns', rfl, hp, hs⟩ (DaAll.of_ints _ _ ns')⟩, fun es ⟨ns', e3, hp, hs⟩ => by
    subst e3
    exact q ns' hp hs⟩) hg (by decide) (by decide) he
end
end G

set_option Elab.async false
set_option linter.all false
set_option maxRecDepth 100000
set_option maxHeartbeats 2000000
namespace G
open PySem PySem.Spec L2
open PyProof.Rows (room_in_shaped)
/-! ### pairs -/
def eP (p : Int × Int) : PyData := .tuple [.int p.1, .int p.2]
abbrev ePs (l : List (Int × Int)) : List PyData := l.map eP
def eLot (l : List (Int × Int)) : PyData := .tuple (ePs l)
theorem canLay_ints (ns : List Int) : PyData.canLayAll0 (ns.map .int) = true := by
  induction ns with
  | nil => simp [PyData.canLayAll0]
  | cons n ns ih => simp [PyData.canLayAll0, PyData.canLay0, ih]
theorem depth_ints (ns : List Int) : PyData.depthAll (ns.map .int) ≤ 1 := by
  induction ns with
  | nil => simp [PyData.depthAll]
  | cons n ns ih =>
    simp only [List.map_cons, PyData.depthAll, PyData.depth]
    omega
theorem canLay_P (p : Int × Int) : (eP p).canLay0 = true := by simp [eP, PyData.canLay0, PyData.canLayAll0]
theorem depth_P (p : Int × Int) : (eP p).depth ≤ 2 := by simp [eP, PyData.depth, PyData.depthAll]
theorem canLay_Ps (l : List (Int × Int)) : PyData.canLayAll0 (ePs l) = true := by
  induction l with
  | nil => simp [PyData.canLayAll0]
  | cons p l ih =>
    show PyData.canLayAll0 (eP p :: ePs l) = true
    simp [PyData.canLayAll0, canLay_P, ih]
theorem depth_Ps (l : List (Int × Int)) : PyData.depthAll (ePs l) ≤ 2 := by
  induction l with
  | nil => simp [PyData.depthAll]
  | cons p l ih =>
    show PyData.depthAll (eP p :: ePs l) ≤ 2
    have := depth_P p
    simp only [PyData.depthAll]
    omega
theorem shaped_of {d : PyData} (h1 : d.canLay0 = true) (h2 : d.depth ≤ 64) : SeqAt.shaped d = true := by
  show (d.canLay0 && decide (d.depth ≤ 64)) = true
  rw [h1, decide_eq_true h2]
  rfl
theorem shaped_P (p : Int × Int) : SeqAt.shaped (eP p) = true := shaped_of (canLay_P p) (Nat.le_trans (depth_P p) (by decide))
theorem shaped_lot (l : List (Int × Int)) : SeqAt.shaped (eLot l) = true := shaped_of (by show PyData.canLay0 (.tuple (ePs l)) = true; simp only [PyData.canLay0]; exact canLay_Ps l) (by show PyData.depth (.tuple (ePs l)) ≤ 64; simp only [PyData.depth]; have := depth_Ps l; omega)
theorem shaped_ps (l : List (Int × Int)) : SeqAt.shaped (.list (ePs l)) = true := shaped_of (by simp only [PyData.canLay0]; exact canLay_Ps l) (by simp only [PyData.depth]; have := depth_Ps l; omega)
theorem shaped_ints (l : List Int) : SeqAt.shaped (.list (l.map .int)) = true := shaped_of (by simp only [PyData.canLay0]; exact canLay_ints l) (by simp only [PyData.depth]; have := depth_ints l; omega)
theorem shaped_intsT (l : List Int) : SeqAt.shaped (.tuple (l.map .int)) = true := shaped_of (by simp only [PyData.canLay0]; exact canLay_ints l) (by simp only [PyData.depth]; have := depth_ints l; omega)
theorem shaped_nil : SeqAt.shaped (.list []) = true := by decide
theorem shaped_int (i : Int) : SeqAt.shaped (.int i) = true := shaped_of (by simp [PyData.canLay0]) (by simp [PyData.depth])
theorem shaped_bool (i : Bool) : SeqAt.shaped (.bool i) = true := shaped_of (by simp [PyData.canLay0]) (by simp [PyData.depth])
theorem eqv_int (i j : Int) : PyData.eqv (.int i) (.int j) = decide (i = j) := by
  simp only [PyData.eqv]
  by_cases h : i = j
  · subst h; simp
  · rw [decide_eq_false h]; exact beq_eq_false_iff_ne.mpr h
theorem eqv_P (p q : Int × Int) : PyData.eqv (eP p) (eP q) = decide (p = q) := by
  obtain ⟨a, b⟩ := p
  obtain ⟨c, d⟩ := q
  have e : PyData.eqv (eP (a, b)) (eP (c, d)) = ((a == c) && ((b == d) && true)) := by simp only [eP, PyData.eqv, PyData.eqvAll]
  rw [e]
  by_cases h : (a, b) = (c, d)
  · cases h; simp
  · rw [decide_eq_false h]
    by_cases h1 : a = c
    · have h2 : b ≠ d := fun z => h (by rw [h1, z])
      rw [beq_eq_false_iff_ne.mpr h2, Bool.false_and, Bool.and_false]
    · rw [beq_eq_false_iff_ne.mpr h1, Bool.false_and]
theorem any_P (l : List (Int × Int)) (p : Int × Int) : (ePs l).any (fun z => PyData.eqv z (eP p)) = decide (p ∈ l) := by
  induction l with
  | nil => simp
  | cons q l ih =>
    show (PyData.eqv (eP q) (eP p) || (ePs l).any fun z => PyData.eqv z (eP p)) = _
    rw [ih, eqv_P, ← Bool.decide_or]
    congr 1
    rw [List.mem_cons]
    exact propext ⟨fun h => h.imp (fun e => e.symm) id, fun h => h.imp (fun e => e.symm) id⟩
theorem any_int (l : List Int) (p : Int) : (l.map PyData.int).any (fun z => PyData.eqv z (.int p)) = decide (p ∈ l) := by
  induction l with
  | nil => simp
  | cons q l ih =>
    show (PyData.eqv (.int q) (.int p) || (l.map PyData.int).any fun z => PyData.eqv z (.int p)) = _
    rw [ih, eqv_int, ← Bool.decide_or]
    congr 1
    rw [List.mem_cons]
    exact propext ⟨fun h => h.imp (fun e => e.symm) id, fun h => h.imp (fun e => e.symm) id⟩
theorem eqv_nil {ds : List PyData} : PyData.eqv (.list ds) (.list []) = ds.isEmpty := by
  cases ds <;> simp [PyData.eqv, PyData.eqvAll]
section
variable {X : Cx} {Γ : List Sl} {O : Own} {a b e : Expr} {pos p : Pos} {P : List PyData → Own → Prop} {D : Nds}
/-- pairs, by the first, then by the second -/
theorem gl_sortedP (hm : X.mg "sorted" = none) (h : GE X Γ O e fun d O1 => ∃ ns : List (Int × Int), d = .list (ePs ns) ∧ ∀ ns' : List (Int × Int), ns'.Perm ns → ns'.Pairwise (fun x y => SrtO.lexB y x = false) → P (ePs ns') O1) (hg : Gl X "sorted" := by rfl) (he : starEach [e] X.env = (false, eval e X.env) :: starEach [] X.env := by rfl) : GL X Γ O (.Call (.Name "sorted" p) [e] [] pos) P :=
  gl_callBE cr_sortedPO hm PyProof.Rows.boot_sorted (h.imp fun d O1 ⟨ns, ed, q⟩ => ⟨fun es => ∃ ns' : List (Int × Int), es = ePs ns' ∧ ns'.Perm ns ∧ ns'.Pairwise (fun x y => SrtO.lexB y x = false), fun R H v s x1 Q k => by
    subst ed
    cases x1 with
    | lst h1 a1 =>
      rename_i ad xs
      let key : V → Int × Int := fun v => match v with
        | .ref t => match H t with
          | some (.tup [.int i, .int j]) => (i, j)
          | _ => (0, 0)
        | _ => (0, 0)
      have hx : ∀ {ns : List (Int × Int)} {xs : List V}, DaAll X.K R xs (ePs ns) → ns = xs.map key ∧ ∀ x ∈ xs, (∃ t, x = V.ref t ∧ H t = some (.tup [.int (key x).1, .int (key x).2])) ∧ Da X.K R x (eP (key x)) := by
        intro ns
        induction ns with
        | nil => intro xs a; cases a; exact ⟨rfl, fun x m => by cases m⟩
        | cons n ns ih =>
          intro xs a
          have a : DaAll X.K R xs (eP n :: ePs ns) := a
          cases a with
          | cons h a =>
            obtain ⟨e1, e2⟩ := ih a
            have h' := h
            cases h with
            | tup q w =>
              rename_i ad' vs'
              cases w with
              | cons w1 w =>
                cases w with
                | cons w2 w =>
                  cases w
                  cases w1
                  cases w2
                  have hk : key (.ref ad') = n := by
                    show (match H ad' with | some (.tup [.int i, .int j]) => (i, j) | _ => (0, 0)) = n
                    rw [s _ _ q]
                  refine ⟨by rw [List.map_cons, hk, ← e1], fun x m => ?_⟩
                  rcases List.mem_cons.mp m with rfl | m
                  · rw [hk]
                    exact ⟨⟨_, rfl, s _ _ q⟩, h'⟩
                  · exact e2 x m
      obtain ⟨en, hx2⟩ := hx a1
      refine ⟨_, _, key, rfl, ex_l s h1, fun x m => (hx2 x m).1, fun ys l hs hst hl => k l ys (ePs (ys.map key)) hl ⟨_, rfl, ?_, ?_⟩ ?_⟩
      · rw [en]; exact hst.perm.map key
      · exact List.pairwise_map.mpr hs
      · have all : ∀ y ∈ ys, Da X.K R y (eP (key y)) := fun y m => (hx2 y (hst.perm.subset m)).2
        clear hs hst
        induction ys with
        | nil => exact .nil
        | cons y ys ih => exact .cons (all y List.mem_cons_self) (ih fun z m => all z (List.mem_cons_of_mem _ m)), fun es ⟨ns', e3, hp, hs⟩ => by
    subst e3
    exact q ns' hp hs⟩) hg (by decide) (by decide) he

/-! ### xs.remove(y), y in xs -/
def rRemD (K : PySem.W.Frag) : V → List V → Hp → VK → Prop := fun x xs H Q => ∃ (l : Addr) (vs : List V) (y : V) (d : PyData) (ds : List PyData) (j : Nat) (z : PyData), x = V.ref l ∧ xs = [y] ∧ H l = some (.lst vs) ∧ DpAll K H vs ds ∧ Dp K H y d ∧
  SeqAt.shaped (.list ds) = true ∧ SeqAt.shaped d = true ∧ ds[j]? = some z ∧ PyData.eqv z d = true ∧ (∀ (m : Nat) (z' : PyData), m < j → ds[m]? = some z' → PyData.eqv z' d = false) ∧ Q .non (upd H l (.lst (vs.eraseIdx j)))
theorem mt_removeD (hu : X.A.units + 65 < cLine) : MtR X "list.remove" (rRemD X.K) := by
  intro pins s σ H x xs v us Q I rx rxs h
  obtain ⟨l, vs, y, d, ds, j, z, rfl, rfl, hH, hl, hy, sl, sd, hz, hzj, hno, q⟩ := h
  cases rx
  obtain ⟨uy, rfl, ry⟩ := rxs.one
  obtain ⟨bs, r1⟩ := Dp.reads I d y uy hy ry
  have hxs : PyData.canLayAll0 ds = true := SeqAt.canLay_of_shaped sl
  have hroom : X.A.units + 1 + min (PyData.depthAll ds) d.depth < cLine := room_in_shaped sd hu
  obtain ⟨hzl, its, n, rv, hlen, ho⟩ := I.lstM hH
  obtain ⟨as, h4⟩ := Dp.readsAll I ds _ its hl rv
  have hn : its.length = ds.length := SeqAt.ReadsAll.length ds its as h4
  have hmap : its.map (SeqAt.readOf s.heap) = ds := SeqAt.readsAll_map ds its as hxs h4
  obtain ⟨hjd, _⟩ := List.getElem?_eq_some_iff.mp hz
  have hj : j < its.toArray.size := by rw [List.size_toArray]; omega
  have at_ : ∀ (m : Nat) (hm : m < its.toArray.size) (z' : PyData), ds[m]? = some z' → SeqAt.readOf s.heap its.toArray[m] = z' := by
    intro m hm z' hz'
    have hml : m < its.length := by simpa using hm
    rw [← hmap, List.getElem?_map, List.getElem?_eq_getElem hml] at hz'
    have e1 : SeqAt.readOf s.heap its[m] = z' := Option.some.inj (show some (SeqAt.readOf s.heap its[m]) = some z' from hz')
    simpa using e1
  refine call_meets PySem.F.slot_list_remove ⟨_, ho, rfl⟩ PySem.F.entry_list_remove (PySem.F.args_list_remove_2 _ _)
    (SeqAt.list_removeAt l its.toArray n none #[] uy (fun u => PyData.eqv (SeqAt.readOf s.heap u) d) j hj ?_ ?_ (by rw [List.size_toArray]; omega)) ⟨ho, SeqAt.items_eqAt (vs := its.toArray) (show ReadsAll s.heap its.toArray.toList ds as from h4) r1 hxs (SeqAt.canLay_of_shaped sd) hroom, ?_⟩
  · show PyData.eqv (SeqAt.readOf s.heap its.toArray[j]) d = true
    rw [at_ j hj z hz]
    exact hzj
  · intro m hm hmj
    have hmd : m < ds.length := by omega
    have hz' : ds[m]? = some ds[m] := List.getElem?_eq_getElem hmd
    show PyData.eqv (SeqAt.readOf s.heap its.toArray[m]) d = false
    rw [at_ m hm _ hz']
    exact hno m _ hmj hz'
  · have rr := rv.eraseIdx j
    refine ⟨.non, _, I.lset (its' := its.eraseIdx j) (t' := s.toks) hH ho ?_ rr ?_, rfl, q⟩
    · show its.toArray.eraseIdxIfInBounds j = (its.eraseIdx j).toArray
      rw [List.eraseIdxIfInBounds_toArray]
    · have z2 := len_erase vs j
      omega
theorem s_remove (i : Nat) {l : Addr} {x : Str} {apos pos2 p : Pos} (hu : X.A.units + 65 < cLine) (h0 : Γ[i]? = some (.ow l)) (h : GE X Γ O e fun d O1 => ∃ j ds n z, O1[j]? = some (l, .L ds) ∧ SeqAt.shaped (.list ds) = true ∧ SeqAt.shaped d = true ∧ ds[n]? = some z ∧ PyData.eqv z d = true ∧
      (∀ (m : Nat) (z' : PyData), m < n → ds[m]? = some z' → PyData.eqv z' d = false) ∧ D.nx Γ (O1.set j (l, .L (ds.eraseIdx n)))) (hin : ∃ ds, (l, .L ds) ∈ O) (hN : X.N[i]? = some x := by rfl)
    (hv : Vis X.env.scope x := by first | exact Or.inl rfl | exact Or.inr (Or.inl rfl) | exact Or.inr (Or.inr rfl)) (hd : (x == ("__debug__" : Str)) = false := by decide) (hcd : (x == ("__classdict__" : Str)) = false := by decide)
    (hbase : attributeBase (.Name x p) "remove" X.env (eval (.Name x p) X.env) = eval (.Name x p) X.env := by rfl)
    (hfew : ((backTo pos2 (starEach [e] X.env)).all (fun x => !x.1) && (backToKw pos2 (keywordEach [] X.env)).all (fun x => x.1.isSome)
      && decide (([e] : List Expr).length + ([] : List Keyword).length + (if ([] : List Keyword).isEmpty then 0 else 1) < 30)) = true := by rfl)
    (hline : (apos.endLine == pos2.line) = true := by rfl) (hs : starEach [e] X.env = (false, eval e X.env) :: starEach [] X.env := by rfl) (hsw : swapsWith (.Call (.Attribute (.Name x p) "remove" apos) [e] [] pos2) none pos.line X.env = pure false := by rfl) :
    GS X Γ O (.Expr (.Call (.Attribute (.Name x p) "remove" apos) [e] [] pos2) pos) D := ⟨fun B σ R H o => by
  obtain ⟨ds0, hm⟩ := hin
  obtain ⟨⟨vs0, hl0, _⟩, _, _⟩ := o.own _ hm
  have hl0 : H l = some (.lst vs0) := hl0
  refine (ps_expr (pe_bm PySem.F.plainAttrs_list PySem.F.slot_list_remove PySem.F.type_list_remove (mt_removeD hu) (pe_var hN hv hd hcd) (pa_cons pe_re pa_nil hs) hbase hfew hline hs rfl) hsw).re ?_
  refine ⟨.ref l, o.getO h0, .inl ⟨rfl, vs0, .of hl0⟩, (h.run B σ R H o).mono fun v H1 ⟨R1, O1, d, e1, o1, x1, j, ds, n, z, hj, s1, s2, hz, hzd, hno, q⟩ => ?_⟩
  obtain ⟨⟨vs, hl, da⟩, _, _⟩ := o1.own _ (List.mem_of_getElem? hj)
  have hl : H1 l = some (.lst vs) := hl
  exact ⟨l, vs, v, d, ds, n, z, rfl, rfl, hl, da.dp o1.sub (SeqAt.canLay_of_shaped s1), x1.dp o1.sub (SeqAt.canLay_of_shaped s2), s1, s2, hz, hzd, hno, R1, Γ, _, o1.put (c' := .L (ds.eraseIdx n)) hj ⟨_, upd_same, da.eraseIdx n⟩, q⟩⟩
theorem gip_is {tg : Expr} {ds ds' : List PyData} (h : GIP X Γ tg e ds) (q : ds = ds') : GIP X Γ tg e ds' := q ▸ h
theorem glp_is {ds ds' : List PyData} (h : GLP X Γ e ds) (q : ds = ds') : GLP X Γ e ds' := q ▸ h
theorem gp_is {d d' : PyData} (h : GP X Γ e d) (q : d = d') : GP X Γ e d' := q ▸ h
theorem gt_is {d d' : Bool} (h : GTP X Γ e d) (q : d = d') : GTP X Γ e d' := q ▸ h
theorem filt_true {α : Type} (l : List α) : l.filter (fun _ => true) = l := List.filter_eq_self.mpr fun _ _ => rfl
/-- a slice [k:] -/
theorem cutD_from (ds : List PyData) (k : Nat) : cutD ds (some (k : Int)) none = ds.drop k := by
  unfold cutD
  rw [HT.sIx_nat, HT.sIx_none]
  by_cases h : k ≤ ds.length
  · rw [Nat.min_eq_left h, List.take_of_length_le (by rw [List.length_drop]; exact Nat.le_refl _)]
  · rw [Nat.min_eq_right (by omega), Nat.sub_self, List.take_zero, List.drop_eq_nil_of_le (by omega)]
theorem cutD_to (ds : List PyData) (k : Nat) : cutD ds none (some (k : Int)) = ds.take k := by
  unfold cutD
  rw [HT.sIx_nat, HT.sIx_none, List.drop_zero, Nat.sub_zero]
  by_cases h : k ≤ ds.length
  · rw [Nat.min_eq_left h]
  · rw [Nat.min_eq_right (by omega), List.take_length, List.take_of_length_le (by omega)]
theorem cutD_1 (ds : List PyData) : cutD ds (some 1) none = ds.drop 1 := cutD_from ds 1
theorem cutD_t1 (ds : List PyData) : cutD ds none (some 1) = ds.take 1 := cutD_to ds 1
/-- name = a comprehension, shared at once -/
theorem s_setLcS {α : Type} {enc out : α → PyData} {pr : α → Bool} {own : List (Str × Nat)} {tg iter elt : Expr} {ifs : List Expr} {scope : Scope} {y : Str} {py spos : Pos} (i : Nat) (xs : List α) (Γt : α → List Sl) {js : List Nat} (hN : X.N.Nodup)
    (hi : GIP X Γ tg iter (xs.map enc)) (ok : BlkOk X.N X.env.scope scope own)
    (hg : ∀ x ∈ xs, InB X scope fun X' => GGP X' (wipeG Γ (own.map (·.2))) tg (enc x) (Γt x) js) (hj : ∀ i ∈ js, i ∈ own.map (·.2))
    (ht : ∀ x ∈ xs, InB X scope fun X' => GTsP X' (Γt x) ifs (pr x)) (he : ∀ x ∈ xs, pr x = true → InB X scope fun X' => GP X' (Γt x) elt (out x))
    (hz : xs.length < sizeLine) (q : D.nx (Γ.set i (.sh (.list ((xs.filter pr).map out)))) O) (hy : X.N[i]? = some y := by rfl) (hyl : X.env.scope.names.lookup y = some .local := by rfl)
    (hsw : swapsWith (.ListComp elt [⟨tg, iter, ifs, 0⟩] scope pos) (some (.Name y py)) spos.line X.env = pure true := by exact sw_true rfl rfl rfl (by decide +kernel))
    (hc : X.calm = true := by rfl) (hs : ∀ x, foldedSetIterable iter X.env x = pure x := by intro _; rfl) : GS X Γ O (.Assign [.Name y py] (.ListComp elt [⟨tg, iter, ifs, 0⟩] scope pos) spos) D := by
  obtain ⟨wi, g, tt, te, h1, h2, h3, h4, h5⟩ := lc_list_ok xs Γt hN hi ok hg hj ht he hz hc hs
  refine ⟨fun B σ R H o => (ps_setLc hc hN hy hyl hsw h1 ok h2 h3 h4 hs).re (h5 σ R H o.sub o.sl _ fun v H' ⟨R', p', vs, g, e1, e2, e3, e4, a⟩ => ?_)⟩
  subst e1
  obtain ⟨R2, x2, y2, z2⟩ := (o.own1 g e2 e3 e4 a).freeze
  exact ⟨R2, _, _, y2.set (s := .sh (.list ((xs.filter pr).map out))) i z2, q⟩
theorem len_flatMap {α β : Type} {f : α → List β} {k : Nat} : ∀ {l : List α}, (∀ x ∈ l, (f x).length ≤ k) → (l.flatMap f).length ≤ k * l.length
  | [], _ => by simp
  | x :: l, h => by
    rw [List.flatMap_cons, List.length_append, List.length_cons, Nat.mul_succ]
    have h1 := h x List.mem_cons_self
    have h2 := len_flatMap (l := l) fun y m => h y (List.mem_cons_of_mem _ m)
    omega
theorem take_snoc {α : Type} {l : List α} {i : Nat} {x : α} (h : l[i]? = some x) : l.take (i + 1) = l.take i ++ [x] := by
  rw [List.take_add_one, h]
  rfl
end
end G

set_option Elab.async false
set_option linter.all false
set_option maxRecDepth 100000
set_option maxHeartbeats 2000000
namespace G
open PySem PySem.Spec L2
/-! ### dicts of numbers, of pairs -/
section
variable {κ : Type} [DecidableEq κ]
def dget (kvs : List (κ × Int)) (k : κ) : Option Int := (kvs.find? fun kv => decide (kv.1 = k)).map (·.2)
def dput (kvs : List (κ × Int)) (k : κ) (v : Int) : List (κ × Int) := if (kvs.any fun kv => decide (kv.1 = k)) = true then kvs.map (fun kv => if kv.1 = k then (kv.1, v) else kv) else kvs ++ [(k, v)]
theorem find_map {μ : Type} [DecidableEq μ] (f : κ → μ) (hf : ∀ a b, f a = f b → a = b) (kvs : List (κ × Int)) (k : κ) : valV (kvs.map fun p => (f p.1, V.int p.2)) (f k) = (dget kvs k).map V.int := by
  unfold valV dget
  induction kvs with
  | nil => rfl
  | cons p kvs ih =>
    rw [List.map_cons, List.find?_cons, List.find?_cons]
    by_cases e : p.1 = k
    · have e2 : f p.1 = f k := by rw [e]
      rw [decide_eq_true e, decide_eq_true e2]
      rfl
    · have e2 : ¬ f p.1 = f k := fun q => e (hf _ _ q)
      rw [decide_eq_false e, decide_eq_false e2]
      exact ih
theorem put_map {μ : Type} [DecidableEq μ] (f : κ → μ) (hf : ∀ a b, f a = f b → a = b) (kvs : List (κ × Int)) (k : κ) (v : Int) : putK (kvs.map fun p => (f p.1, V.int p.2)) (f k) (.int v) = (dput kvs k v).map fun p => (f p.1, V.int p.2) := by
  have e : ∀ a : κ, decide (f a = f k) = decide (a = k) := fun a => decide_eq_decide.mpr ⟨hf _ _, fun q => by rw [q]⟩
  unfold putK dput
  have e1 : ((kvs.map fun p => (f p.1, V.int p.2)).any fun kv => decide (kv.1 = f k)) = kvs.any fun kv => decide (kv.1 = k) := by
    rw [List.any_map]
    congr 1
    funext p
    exact e p.1
  rw [e1]
  split
  · rw [List.map_map, List.map_map]
    apply List.map_congr_left
    intro p _
    show (if f p.1 = f k then (f p.1, V.int v) else (f p.1, V.int p.2)) = _
    by_cases z : p.1 = k
    · rw [if_pos (by rw [z])]
      show _ = (f (if p.1 = k then (p.1, v) else p).1, V.int (if p.1 = k then (p.1, v) else p).2)
      rw [if_pos z]
    · rw [if_neg fun q => z (hf _ _ q)]
      show _ = (f (if p.1 = k then (p.1, v) else p).1, V.int (if p.1 = k then (p.1, v) else p).2)
      rw [if_neg z]
  · rw [List.map_append]
    rfl
theorem dput_len (kvs : List (κ × Int)) (k : κ) (v : Int) : (dput kvs k v).length ≤ kvs.length + 1 := by
  unfold dput
  split
  · rw [List.length_map]; omega
  · rw [List.length_append]; exact Nat.le_refl _
end
abbrev kI (i : Int) : Key := Sum.inl i
abbrev kT (p : Int × Int) : List Key := [Sum.inl p.1, Sum.inl p.2]
theorem kI_inj (a b : Int) (h : kI a = kI b) : a = b := Sum.inl.inj h
theorem kT_inj (a b : Int × Int) (h : kT a = kT b) : a = b := by
  cases a; cases b
  simp [kT] at h
  rw [h.1, h.2]
theorem getIK (kvs : List (Int × Int)) (k : Int) : valV (IK kvs) (kI k) = (dget kvs k).map V.int := find_map kI kI_inj kvs k
theorem getTK (kvs : List ((Int × Int) × Int)) (k : Int × Int) : valV (TK kvs) (kT k) = (dget kvs k).map V.int := find_map kT kT_inj kvs k
theorem putIK (kvs : List (Int × Int)) (k v : Int) : putK (IK kvs) (kI k) (.int v) = IK (dput kvs k v) := put_map kI kI_inj kvs k v
theorem putTK (kvs : List ((Int × Int) × Int)) (k : Int × Int) (v : Int) : putK (TK kvs) (kT k) (.int v) = TK (dput kvs k v) := put_map kT kT_inj kvs k v
section
variable {K : PySem.W.Frag} {B : Base} {Γ Γ' : List Sl} {O O' : Own} {σ σ' : L2.St} {R H R' H' : Hp}
theorem Ok.own1C {l : Addr} {cn : Cn} (k : Ok K B Γ O σ R H) (g : Grow R H R' H') (rl : R' l = none) (hl : H l = none) (c : CnOk K R' H' l cn) : Ok K B Γ (O ++ [(l, cn)]) σ R' H' := by
  have k2 := k.grow g
  refine ⟨k2.sub, k2.r0, k2.fr, k2.keep, k2.len, k2.sl, fun p hp => ?_, ?_⟩
  · rcases List.mem_append.mp hp with hp | hp
    · exact k2.own p hp
    · have e : p = (l, cn) := by simpa using hp
      subst e
      refine ⟨c, rl, ?_⟩
      by_cases z : l ∈ B.lent
      · exact .inl z
      · refine .inr ?_
        cases q : B.H0 l with
        | none => rfl
        | some u =>
          have w := k.keep l u q z
          rw [hl] at w; cases w
  · rw [List.map_append, List.nodup_append]
    refine ⟨k.nd, by simp, fun b hb c hc e => ?_⟩
    have hc : c = l := by simpa using hc
    obtain ⟨p, hp, rfl⟩ := List.mem_map.mp hb
    obtain ⟨o, ho⟩ := (k.own p hp).1.some
    rw [e, hc, hl] at ho; cases ho
theorem Ok.freezeI {l : Addr} {kvs : List (Int × Int)} (k : Ok K B Γ (O ++ [(l, .I kvs)]) σ R H) : ∃ R', Ex R R' ∧ Ok K B Γ O σ R' H ∧ Da K R' (.ref l) (dI kvs) := by
  obtain ⟨hl, rl, ll⟩ := k.own (l, .I kvs) (List.mem_append_right _ List.mem_cons_self)
  have hl : H l = some (.dK (IK kvs)) := hl
  have rl : R l = none := rl
  have e : Ex R (upd R l (.dK (IK kvs))) := .new rl
  have nd := k.nd
  rw [List.map_append, List.nodup_append] at nd
  refine ⟨_, e, ⟨fun a o q => ?_, k.r0.trans e, fun a o q => ?_, k.keep, k.len, slots_mono e k.sl, fun p hp => ?_, nd.1⟩, .dic (.of upd_same)⟩
  · by_cases z : a = l
    · subst z; rw [upd_same] at q; rw [hl]; exact q
    · rw [upd_ne z] at q; exact k.sub a o q
  · by_cases z : a = l
    · subst z; exact .inr (ll.symm)
    · rw [upd_ne z] at q; exact k.fr a o q
  · obtain ⟨c, r, q⟩ := k.own p (List.mem_append_left _ hp)
    have n : p.1 ≠ l := fun z => nd.2.2 _ (List.mem_map.mpr ⟨p, hp, rfl⟩) _ (by simp) z
    exact ⟨c.mono e rfl, by rw [upd_ne n]; exact r, q⟩
/-! ### a locked dict -/
structure Sm (R R' : Hp) : Prop where
  tup : ∀ a xs, R a = some (.tup xs) → R' a = some (.tup xs)
  rd : ∀ a u, (∀ o v, u ≠ .frz o v) → Rd R a u → Rd R' a u
mutual
theorem Da.sm (e : Sm R R') : ∀ {v : V} {d : PyData}, Da K R v d → Da K R' v d
  | _, _, .non => .non
  | _, _, .bl b => .bl b
  | _, _, .int i => .int i
  | _, _, .str x => .str x
  | _, _, .lst h a => .lst (h.imp (e.rd _ _ fun _ _ q => by cases q) id) (DaAll.sm e a)
  | _, _, .tup h a => .tup (e.tup _ _ h) (DaAll.sm e a)
  | _, _, .dic h => .dic (e.rd _ _ (fun _ _ q => by cases q) h)
theorem DaAll.sm (e : Sm R R') : ∀ {vs : List V} {ds : List PyData}, DaAll K R vs ds → DaAll K R' vs ds
  | _, _, .nil => .nil
  | _, _, .cons h a => .cons (Da.sm e h) (DaAll.sm e a)
end
theorem VlOk.sm (e : Sm R R') {s : Sl} {v : V} (h : VlOk K R s v) : VlOk K R' s v := by
  cases s with
  | no => trivial
  | sh d => exact Da.sm e h
  | ow l => exact h
theorem SlOk.sm (e : Sm R R') {s : Sl} {v : Option V} (h : SlOk K R s v) : SlOk K R' s v := by
  cases s with
  | no => trivial
  | sh d => cases v with
    | none => exact h
    | some v => exact Da.sm e h
  | ow l => cases v with
    | none => exact h
    | some v => exact h
theorem CnOk.sm (e : Sm R R') {l : Addr} {c : Cn} (h : CnOk K R H l c) (q : H' l = H l) : CnOk K R' H' l c := by
  cases c with
  | L ds => obtain ⟨vs, h, a⟩ := h; exact ⟨vs, q.trans h, a.sm e⟩
  | T kvs => exact q.trans h
  | I kvs => exact q.trans h
  | E o vs ds => exact ⟨q.trans h.1, h.2.sm e⟩
theorem sm_lock {d : Addr} {u : HO} {od : Obj} (h : R d = some u) (hu : ∀ xs, u ≠ .tup xs) (hz : ∀ o v, u ≠ .frz o v) : Sm R (upd R d (.frz od u)) where
  tup := fun a xs e => by
    by_cases z : a = d
    · subst z; rw [h] at e; cases e; exact absurd rfl (hu xs)
    · rw [upd_ne z]; exact e
  rd := fun a v nz r => by
    by_cases z : a = d
    · subst z
      rcases r with r | ⟨o, r⟩
      · rw [h] at r; cases r; exact .inr ⟨od, upd_same⟩
      · rw [h] at r; cases r; exact absurd rfl (hz _ _)
    · rcases r with r | ⟨o, r⟩
      · exact .inl (by rw [upd_ne z]; exact r)
      · exact .inr ⟨o, by rw [upd_ne z]; exact r⟩
theorem sm_unlock {d : Addr} {u : HO} {od : Obj} (h : R d = some (.frz od u)) : Sm R (upd R d u) where
  tup := fun a xs e => by
    by_cases z : a = d
    · subst z; rw [h] at e; cases e
    · rw [upd_ne z]; exact e
  rd := fun a v nz r => by
    by_cases z : a = d
    · subst z
      rcases r with r | ⟨o, r⟩
      · rw [h] at r
        cases r
        exact absurd rfl (nz _ _)
      · rw [h] at r; cases r; exact .inl upd_same
    · rcases r with r | ⟨o, r⟩
      · exact .inl (by rw [upd_ne z]; exact r)
      · exact .inr ⟨o, by rw [upd_ne z]; exact r⟩
theorem Ok.lock {d : Addr} {u : List (Key × V)} {od : Obj} (o : Ok K B Γ O σ R H) (hd : R d = some (.dK u)) : Ok K (G.now (upd R d (.frz od (.dK u))) (upd H d (.frz od (.dK u))) O) Γ O σ (upd R d (.frz od (.dK u))) (upd H d (.frz od (.dK u))) := by
  have sm : Sm R (upd R d (.frz od (.dK u))) := sm_lock hd (fun _ q => by cases q) (fun _ _ q => by cases q)
  have ne : ∀ p ∈ O, p.1 ≠ d := fun p hp e => by
    have := (o.own p hp).2.1
    rw [e, hd] at this
    cases this
  refine ⟨fun a x e => ?_, .refl _, fun a x e => .inl e, fun a x e _ => e, fun a l q => ?_, Paired.mapP o.sl fun _ _ h => h.sm sm, fun p hp => ?_, o.nd⟩
  · by_cases z : a = d
    · subst z; rw [upd_same] at e; rw [upd_same]; exact e
    · rw [upd_ne z] at e; rw [upd_ne z]; exact o.sub a x e
  · obtain ⟨p, hp, rfl⟩ := List.mem_map.mp l
    obtain ⟨x, hx⟩ := (o.own p hp).1.some
    have q : upd H d (.frz od (.dK u)) p.1 = none := q
    rw [upd_ne (ne p hp), hx] at q
    cases q
  · obtain ⟨c, r, _⟩ := o.own p hp
    exact ⟨c.sm sm (upd_ne (ne p hp)), by rw [upd_ne (ne p hp)]; exact r, .inl (List.mem_map.mpr ⟨p, hp, rfl⟩)⟩
theorem Ok.unlock {d : Addr} {u : List (Key × V)} {od : Obj} {Γ2 : List Sl} {O2 : Own} {σ2 : L2.St} {R2 H2 : Hp} (o : Ok K B Γ O σ R H) (hd : R d = some (.dK u))
    (o2 : Ok K (G.now (upd R d (.frz od (.dK u))) (upd H d (.frz od (.dK u))) O) Γ2 O2 σ2 R2 H2) : R2 d = some (.frz od (.dK u)) ∧ H2 d = some (.frz od (.dK u)) ∧ Ok K B Γ2 O2 σ2 (upd R2 d (.dK u)) (upd H2 d (.dK u)) := by
  have r2 : R2 d = some (.frz od (.dK u)) := o2.r0 _ _ upd_same
  have h2 : H2 d = some (.frz od (.dK u)) := o2.sub _ _ r2
  have sm : Sm R2 (upd R2 d (.dK u)) := sm_unlock r2
  have ne : ∀ p ∈ O, p.1 ≠ d := fun p hp e => by
    have := (o.own p hp).2.1
    rw [e, hd] at this
    cases this
  have ne2 : ∀ p ∈ O2, p.1 ≠ d := fun p hp e => by
    have := (o2.own p hp).2.1
    rw [e, r2] at this
    cases this
  have free : ∀ a, H a = none → a ∈ B.lent ∨ B.H0 a = none := fun a z => by
    cases y : B.H0 a with
    | none => exact .inr rfl
    | some u =>
      by_cases l : a ∈ B.lent
      · exact .inl l
      · rw [o.keep a u y l] at z; cases z
  have lentO : ∀ a, a ∈ O.map (·.1) → a ∈ B.lent ∨ B.H0 a = none := fun a h => by
    obtain ⟨p, hp, rfl⟩ := List.mem_map.mp h
    exact (o.own p hp).2.2
  have hN : ∀ a, upd H d (.frz od (.dK u)) a = none → H a = none := fun a z => by
    by_cases y : a = d
    · subst y; rw [upd_same] at z; cases z
    · rwa [upd_ne y] at z
  refine ⟨r2, h2, fun a x e => ?_, fun a x e => ?_, fun a x e => ?_, fun a x e n => ?_, fun a l q => ?_, Paired.mapP o2.sl fun _ _ h => h.sm sm, fun p hp => ?_, o2.nd⟩
  · by_cases z : a = d
    · subst z; rw [upd_same] at e; rw [upd_same]; exact e
    · rw [upd_ne z] at e; rw [upd_ne z]; exact o2.sub a x e
  · have e1 := o.r0 a x e
    by_cases z : a = d
    · subst z; rw [upd_same, ← e1, hd]
    · rw [upd_ne z]
      exact o2.r0 a x (by show upd R d (.frz od (.dK u)) a = some x; rw [upd_ne z]; exact e1)
  · by_cases z : a = d
    · subst z
      rw [upd_same] at e
      cases e
      exact o.fr a _ hd
    · rw [upd_ne z] at e
      rcases o2.fr a x e with q | q | q
      · have q : upd R d (.frz od (.dK u)) a = some x := q
        rw [upd_ne z] at q
        exact o.fr a x q
      · rcases free a (hN a q) with y | y
        · exact .inr (.inr y)
        · exact .inr (.inl y)
      · rcases lentO a q with y | y
        · exact .inr (.inr y)
        · exact .inr (.inl y)
  · have e1 := o.keep a x e n
    by_cases z : a = d
    · subst z
      have e3 := o.sub _ _ hd
      rw [upd_same, ← e1, e3]
    · rw [upd_ne z]
      refine o2.keep a x (by show upd H d (.frz od (.dK u)) a = some x; rw [upd_ne z]; exact e1) fun m => ?_
      rcases lentO a m with y | y
      · exact n y
      · rw [e] at y; cases y
  · by_cases z : a = d
    · subst z; rw [upd_same] at q; cases q
    · rw [upd_ne z] at q
      cases w : H a with
      | none => exact o.len a l w
      | some x =>
        by_cases m : a ∈ O.map (·.1)
        · exact o2.len a m q
        · rw [o2.keep a x (by show upd H d (.frz od (.dK u)) a = some x; rw [upd_ne z]; exact w) m] at q
          cases q
  · obtain ⟨c, r, q⟩ := o2.own p hp
    refine ⟨c.sm sm (upd_ne (ne2 p hp)), by rw [upd_ne (ne2 p hp)]; exact r, ?_⟩
    rcases q with q | q
    · exact lentO _ q
    · exact free _ (hN _ q)
end
section
variable {X : Cx} {Γ : List Sl} {O : Own} {rest : List Stmt} {D : Nds} {e ei k : Expr} {es : List Expr} {pos : Pos} {x : Str} {kvs : List (Int × Int)}
theorem gs_freezeI (i j : Nat) {l : Addr} (h0 : Γ[i]? = some (.ow l)) (hj : O[j]? = some (l, .I kvs)) (h : GSs X (Γ.set i (.sh (dI kvs))) (O.eraseIdx j) rest D) : GSs X Γ O rest D := ⟨fun B σ R H o => by
  have pm : O.Perm (O.eraseIdx j ++ [(l, .I kvs)]) := by
    have hlt := (List.getElem?_eq_some_iff.mp hj).1
    have hg := (List.getElem?_eq_some_iff.mp hj).2
    have h1 : O = O.take j ++ (l, .I kvs) :: O.drop (j + 1) := by rw [← hg, List.getElem_cons_drop, List.take_append_drop]
    rw [List.eraseIdx_eq_take_drop_succ]
    refine (List.Perm.of_eq h1).trans ?_
    exact List.perm_middle.trans ((List.perm_append_comm (l₁ := [(l, Cn.I kvs)]) (l₂ := O.take j ++ O.drop (j + 1))))
  obtain ⟨R', e, o', dl⟩ := (o.perm pm).freezeI
  have hσ := o.getO h0
  have hi : i < σ.length := (List.getElem?_eq_some_iff.mp hσ).1
  have es : σ.set i (some (.ref l)) = σ := by
    have := (List.getElem?_eq_some_iff.mp hσ).2
    rw [← this]
    exact List.set_getElem_self hi
  have o2 := o'.set (s := .sh (dI kvs)) i dl
  rw [es] at o2
  exact h.run B σ R' H o2⟩
/-- name = {} -/
theorem s_newI (i : Nat) {pos' dpos : Pos} (hN : X.N.Nodup) (q : ∀ l, D.nx (Γ.set i (.ow l)) (O ++ [(l, .I [])])) (hi : X.N[i]? = some x := by rfl) (hx : Loc X.env.scope x := by first | exact .inl rfl | exact .inr rfl) (hs : swapsWith (.Dict [] [] dpos) (some (.Name x pos')) pos.line X.env = pure false := by rfl)
    (hf : X.fn x = true ∨ X.env.scope.names.lookup x = some .local := by first | exact .inl rfl | exact .inr rfl) : GS X Γ O (.Assign [.Name x pos'] (.Dict [] [] dpos) pos) D := ⟨fun B σ R H o => (ps_set hN hi hx pe_dnewK hs hf).re fun p hp =>
  ⟨R, _, _, (o.own1C (cn := .I []) (Grow.junk o.sub (.new hp)) (ex_none o.sub hp) hp upd_same).set (s := .ow p) i rfl, q p⟩⟩
theorem s_newT (i : Nat) {pos' dpos : Pos} (hN : X.N.Nodup) (q : ∀ l, D.nx (Γ.set i (.ow l)) (O ++ [(l, .T [])])) (hi : X.N[i]? = some x := by rfl) (hx : Loc X.env.scope x := by first | exact .inl rfl | exact .inr rfl) (hs : swapsWith (.Dict [] [] dpos) (some (.Name x pos')) pos.line X.env = pure false := by rfl)
    (hf : X.fn x = true ∨ X.env.scope.names.lookup x = some .local := by first | exact .inl rfl | exact .inr rfl) : GS X Γ O (.Assign [.Name x pos'] (.Dict [] [] dpos) pos) D := ⟨fun B σ R H o => (ps_set hN hi hx pe_dnewT hs hf).re fun p hp =>
  ⟨R, _, _, (o.own1C (cn := .T []) (Grow.junk o.sub (.new hp)) (ex_none o.sub hp) hp upd_same).set (s := .ow p) i rfl, q p⟩⟩
/-- {} handed on -/
theorem ga_newT {P : List Sl → Own → Prop} {dpos : Pos} (h : ∀ l, GA X Γ (O ++ [(l, .T [])]) es fun as O2 => P (.ow l :: as) O2) (hs : starEach (.Dict [] [] dpos :: es) X.env = (false, eval (.Dict [] [] dpos) X.env) :: starEach es X.env := by rfl) : GA X Γ O (.Dict [] [] dpos :: es) P := ⟨fun B σ R H o =>
  (pa_cons pe_dnewT pa_re hs).re fun p hp => ((h p).run B σ R _ (o.own1C (cn := .T []) (Grow.junk o.sub (.new hp)) (ex_none o.sub hp) hp upd_same)).mono fun vs H2 ⟨R2, O2, as, e2, o2, x2, q2⟩ => ⟨R2, O2, .ow p :: as, e2, o2, .cons rfl x2, q2⟩⟩
/-- d[k] = v, ints -/
theorem s_putI (i : Nat) {l : Addr} {p1 p2 : Pos} (hu : X.A.units + 1 < cLine) (h0 : Γ[i]? = some (.ow l)) (h : GE X Γ O e fun d O1 => GE X Γ O1 ei fun d2 O2 => ∃ v j kvs k, d = .int v ∧ d2 = .int k ∧ O2[j]? = some (l, .I kvs) ∧ kvs.length < sizeLine ∧ D.nx Γ (O2.set j (l, .I (dput kvs k v)))) (hN : X.N[i]? = some x := by rfl)
    (hv : Vis X.env.scope x := by first | exact Or.inl rfl | exact Or.inr (Or.inl rfl) | exact Or.inr (Or.inr rfl)) (hd : (x == ("__debug__" : Str)) = false := by decide) (hcd : (x == ("__classdict__" : Str)) = false := by decide)
    (hs : swapsWith e (some (.Subscript (.Name x p1) ei p2)) pos.line X.env = pure false := by rfl) : GS X Γ O (.Assign [.Subscript (.Name x p1) ei p2] e pos) D := ⟨fun B σ R H o =>
  (ps_dput hu (pe_var hN hv hd hcd) pe_re pe_re hs).re ((h.run B σ R H o).mono fun y H1 ⟨R1, O1, d, e1, o1, x1, q1⟩ => ⟨.ref l, o1.getO h0, (q1.run B σ R1 H1 o1).mono fun z H2 ⟨R2, O2, d2, e2, o2, x2, v, j, kvs, k, ev, ek, hj, hz, q⟩ => by
    subst ev ek
    cases x1
    cases x2
    obtain ⟨hl, _, _⟩ := o2.own _ (List.mem_of_getElem? hj)
    have hl : H2 l = some (.dK (IK kvs)) := hl
    exact ⟨l, _, rfl, .inl ⟨IK kvs, kI k, hl, rfl, by rw [List.length_map]; exact hz, rfl⟩, R2, Γ, _, o2.put (c' := .I (dput kvs k v)) hj (by rw [putIK]; exact upd_same), q⟩⟩)⟩
/-- d[a, b] = v -/
theorem s_putT (i : Nat) {l : Addr} {p1 p2 : Pos} (hu : X.A.units + 1 < cLine) (h0 : Γ[i]? = some (.ow l)) (h : GE X Γ O e fun d O1 => GE X Γ O1 ei fun d2 O2 => ∃ v j kvs k, d = .int v ∧ d2 = eP k ∧ O2[j]? = some (l, .T kvs) ∧ kvs.length < sizeLine ∧ D.nx Γ (O2.set j (l, .T (dput kvs k v)))) (hN : X.N[i]? = some x := by rfl)
    (hv : Vis X.env.scope x := by first | exact Or.inl rfl | exact Or.inr (Or.inl rfl) | exact Or.inr (Or.inr rfl)) (hd : (x == ("__debug__" : Str)) = false := by decide) (hcd : (x == ("__classdict__" : Str)) = false := by decide)
    (hs : swapsWith e (some (.Subscript (.Name x p1) ei p2)) pos.line X.env = pure false := by rfl) : GS X Γ O (.Assign [.Subscript (.Name x p1) ei p2] e pos) D := ⟨fun B σ R H o =>
  (ps_dput hu (pe_var hN hv hd hcd) pe_re pe_re hs).re ((h.run B σ R H o).mono fun y H1 ⟨R1, O1, d, e1, o1, x1, q1⟩ => ⟨.ref l, o1.getO h0, (q1.run B σ R1 H1 o1).mono fun z H2 ⟨R2, O2, d2, e2, o2, x2, v, j, kvs, k, ev, ek, hj, hz, q⟩ => by
    subst ev ek
    cases x1
    obtain ⟨hl, _, _⟩ := o2.own _ (List.mem_of_getElem? hj)
    have hl : H2 l = some (.dT (TK kvs)) := hl
    cases x2 with
    | tup hb a =>
      cases a with
      | cons a1 a =>
        cases a with
        | cons a2 a =>
          cases a1
          cases a2
          cases a
          exact ⟨l, _, rfl, .inr ⟨TK kvs, kT k, _, hl, rfl, o2.sub _ _ hb, by rw [List.length_map]; exact hz, rfl⟩, R2, Γ, _, o2.put (c' := .T (dput kvs k v)) hj (by rw [putTK]; exact upd_same), q⟩⟩)⟩
theorem dI_inj {a b : List (Int × Int)} (h : dI a = dI b) : a = b := by
  have h : a.map (fun p => (PyData.int p.1, PyData.int p.2)) = b.map fun p => (PyData.int p.1, PyData.int p.2) := PyData.dict.inj h
  induction a generalizing b with
  | nil => cases b with
    | nil => rfl
    | cons => cases h
  | cons p a ih => cases b with
    | nil => cases h
    | cons q b =>
      rw [List.map_cons, List.map_cons] at h
      have h1 := (List.cons.inj h).1
      have h2 := (List.cons.inj h).2
      cases p; cases q
      cases h1
      rw [ih (congrArg PyData.dict h2) h2]
theorem Da.dicI {K : PySem.W.Frag} {R : Hp} {v : V} (h : Da K R v (dI kvs)) : ∃ a, v = .ref a ∧ Rd R a (.dK (IK kvs)) := by
  generalize e : dI kvs = d at h
  cases h with
  | dic h => exact ⟨_, rfl, by rw [dI_inj e]; exact h⟩
  | _ => cases e
/-- k in d, d[k]: a shared dict -/
theorem gt_inI {d k : Expr} {i : Int} (hu : X.A.units + 1 < cLine) (hk : GP X Γ k (.int i)) (hd : GP X Γ d (dI kvs)) (hm : behindInMarks .In d = false := by first | exact nobehind _ (by decide) (by decide) | rfl) : GTP X Γ (.Compare k [.In] [d] pos) (dget kvs i).isSome := ⟨fun σ R H s q =>
  (pt_cmp (pc_din hu pe_re pe_re) hm).re ((hk.run σ R H s q).mono fun y H1 ⟨R1, g1, y1⟩ => (hd.run σ R1 H1 g1.sub (slots_mono g1.r q)).mono fun z H2 ⟨R2, g2, z2⟩ => by
    cases y1
    obtain ⟨a, rfl, h⟩ := z2.dicI
    exact ⟨a, _, rfl, .inl ⟨IK kvs, kI i, ex_rd g2.sub h, rfl, rfl⟩, _, rfl, R2, g1.trans g2, by rw [getIK, Option.isSome_map]⟩)⟩
theorem gp_getI {d k : Expr} {i v : Int} (hu : X.A.units + 1 < cLine) (hd : GP X Γ d (dI kvs)) (hk : GP X Γ k (.int i)) (hv : dget kvs i = some v) (hs : NoSl k := by exact fun _ _ => rfl) : GP X Γ (.Subscript d k pos) (.int v) := ⟨fun σ R H s q =>
  (pe_dget hu pe_re pe_re hs).re ((hd.run σ R H s q).mono fun z H1 ⟨R1, g1, z1⟩ => (hk.run σ R1 H1 g1.sub (slots_mono g1.r q)).mono fun y H2 ⟨R2, g2, y2⟩ => by
    cases y2
    obtain ⟨a, rfl, h⟩ := z1.dicI
    exact ⟨a, .int v, rfl, .inl ⟨IK kvs, kI i, ex_rd g2.sub (ex_rd g2.r h), rfl, by rw [getIK, hv]; rfl⟩, R2, g1.trans g2, .int v⟩)⟩
/-- an owned dict of pairs -/
theorem gt_ninT {P : Bool → Own → Prop} (i : Nat) {l : Addr} {k : Expr} {p1 : Pos} {ks : List ((Int × Int) × Int)} {p : Int × Int} (hu : X.A.units + 1 < cLine) (h0 : Γ[i]? = some (.ow l)) (hl : (l, .T ks) ∈ O) (hk : GP X Γ k (eP p)) (q : P (!(dget ks p).isSome) O) (hN : X.N[i]? = some x := by rfl)
    (hv : Vis X.env.scope x := by first | exact Or.inl rfl | exact Or.inr (Or.inl rfl) | exact Or.inr (Or.inr rfl)) (hd : (x == ("__debug__" : Str)) = false := by decide) (hcd : (x == ("__classdict__" : Str)) = false := by decide) (hm : behindInMarks .NotIn (.Name x p1) = false := by first | exact nobehind _ (by decide) (by decide) | rfl) : GT X Γ O (.Compare k [.NotIn] [.Name x p1] pos) P := ⟨fun B σ R H o =>
  (pt_cmp (pc_dnotin hu pe_re (pe_var hN hv hd hcd)) hm).re ((hk.run σ R H o.sub o.sl).mono fun y H1 ⟨R1, g1, y1⟩ => ⟨.ref l, o.getO h0, by
    have o1 := o.grow g1
    obtain ⟨hh, _, _⟩ := o1.own _ hl
    have hh : H1 l = some (.dT (TK ks)) := hh
    cases y1 with
    | tup hb a =>
      cases a with
      | cons a1 a =>
        cases a with
        | cons a2 a =>
          cases a1
          cases a2
          cases a
          exact ⟨l, _, rfl, .inr ⟨TK ks, kT p, _, .of hh, rfl, g1.sub _ _ hb, rfl⟩, _, rfl, R1, O, g1.r, o1, by rw [getTK, Option.isSome_map]; exact q⟩⟩)⟩
theorem ge_getT {P : PyData → Own → Prop} (i : Nat) {l : Addr} {k : Expr} {p1 : Pos} {ks : List ((Int × Int) × Int)} {p : Int × Int} {v : Int} (hu : X.A.units + 1 < cLine) (h0 : Γ[i]? = some (.ow l)) (hl : (l, .T ks) ∈ O) (hk : GP X Γ k (eP p)) (hg : dget ks p = some v) (q : P (.int v) O) (hN : X.N[i]? = some x := by rfl)
    (hv : Vis X.env.scope x := by first | exact Or.inl rfl | exact Or.inr (Or.inl rfl) | exact Or.inr (Or.inr rfl)) (hd : (x == ("__debug__" : Str)) = false := by decide) (hcd : (x == ("__classdict__" : Str)) = false := by decide) (hs : NoSl k := by exact fun _ _ => rfl) : GE X Γ O (.Subscript (.Name x p1) k pos) P := ⟨fun B σ R H o =>
  (pe_dget hu (pe_var hN hv hd hcd) pe_re hs).re ⟨.ref l, o.getO h0, (hk.run σ R H o.sub o.sl).mono fun y H1 ⟨R1, g1, y1⟩ => by
    have o1 := o.grow g1
    obtain ⟨hh, _, _⟩ := o1.own _ hl
    have hh : H1 l = some (.dT (TK ks)) := hh
    cases y1 with
    | tup hb a =>
      cases a with
      | cons a1 a =>
        cases a with
        | cons a2 a =>
          cases a1
          cases a2
          cases a
          exact ⟨l, .int v, rfl, .inr ⟨TK ks, kT p, _, .of hh, rfl, g1.sub _ _ hb, by rw [getTK, hg]; rfl⟩, R1, O, _, g1.r, o1, .int v, q⟩⟩⟩
/-- a fresh list, so many times -/
theorem glp_rep {a b : Expr} {ds : List PyData} {n : Int} (ha : GLP X Γ a ds) (hb : GP X Γ b (.int n)) (hn : -(2 ^ 63) ≤ n ∧ n < 2 ^ 63) (hz : ds.length * n.toNat ≤ sizeLine) : GLP X Γ (.BinOp a .Mult b pos) (List.replicate n.toNat ds).flatten := ⟨fun σ R H s k =>
  (pe_op op_rep pe_re pe_re).re ((ha.run σ R H s k).mono fun v H1 ⟨R1, p, vs, g1, e1, e2, e3, e4, x1⟩ => (hb.run σ R1 H1 g1.sub (slots_mono g1.r k)).mono fun y H2 ⟨R2, g2, y2⟩ => by
    subst e1
    cases y2
    have h2 : H2 p = some (.lst vs) := g2.h _ _ e4
    refine ⟨p, n, vs, rfl, rfl, h2, hn.1, hn.2, by rw [x1.length]; exact hz, fun q hq => ?_⟩
    exact ⟨R2, q, _, (g1.trans g2).trans (Grow.junk g2.sub (.new hq)), rfl, ex_none g2.sub hq, (by
      cases z : H q with
      | none => rfl
      | some o => rw [g2.h _ _ (g1.h _ _ z)] at hq; cases hq), upd_same, (x1.mono g2.r).rep _⟩)⟩
/-- xs[k] += e -/
def rGetN : R2 := fun x y H Q => ∃ p xs k v, x = .ref p ∧ y = .int ((k : Nat) : Int) ∧ H p = some (.lst xs) ∧ xs[k]? = some v ∧ Q v H
theorem get_list : PGet X rGetN := by
  intro pins s σ H o i ov iv Q I ro ri h
  obtain ⟨p, xs, k, v, rfl, rfl, hp, hk, q⟩ := h
  cases ro
  obtain ⟨t, rfl⟩ := ri
  obtain ⟨its, n, r, ho, hz⟩ := I.lst hp
  obtain ⟨w, ew, rw'⟩ := r.get hk
  have hn := line63
  have hl : k < xs.length := (List.getElem?_eq_some_iff.mp hk).1
  exact wpAny_getItem_list ⟨_, ho, rfl, n, rfl⟩ (by omega) (by omega) (by simpa using ew) ⟨v, H, I, rw', q⟩
theorem s_augIx (i : Nat) {l : Addr} {p1 p2 : Pos} (h0 : Γ[i]? = some (.ow l)) (h : GE X Γ O ei fun d2 O2 => ∃ (k : Nat) (a : Int) (ds : List PyData), d2 = .int (k : Int) ∧ (l, .L ds) ∈ O2 ∧ ds[k]? = some (.int a) ∧ GE X Γ O2 e fun d3 O3 => ∃ b j, d3 = .int b ∧ O3[j]? = some (l, .L ds) ∧ D.nx Γ (O3.set j (l, .L (ds.set k (.int (a + b)))))) (hN : X.N[i]? = some x := by rfl)
    (hv : Vis X.env.scope x := by first | exact Or.inl rfl | exact Or.inr (Or.inl rfl) | exact Or.inr (Or.inr rfl)) (hd : (x == ("__debug__" : Str)) = false := by decide) (hcd : (x == ("__classdict__" : Str)) = false := by decide)
    (ha : ∀ ov iv new, augStore ei ov iv new = (do holding [new, ov, iv] (setItem ov iv new); release [new, ov, iv] []; pure .next) := by intros; rfl) : GS X Γ O (.AugAssign (.Subscript (.Name x p1) ei p2) .Add e pos) D := ⟨fun B σ R H o =>
  (ps_augS (pe_var hN hv hd hcd) pe_re get_list pe_re ip_add set_list ha).re ⟨.ref l, o.getO h0, (h.run B σ R H o).mono fun u H2 ⟨R2, O2, d2, e2, o2, x2, k, a, ds, ek, hm, hk, q2⟩ => by
    subst ek
    cases x2
    obtain ⟨⟨vs, hl, da⟩, _, _⟩ := o2.own _ hm
    have hl : H2 l = some (.lst vs) := hl
    obtain ⟨v, hv, dv⟩ := da.get hk
    cases dv
    refine ⟨l, vs, k, _, rfl, rfl, hl, hv, (q2.run B σ R2 H2 o2).mono fun y H3 ⟨R3, O3, d3, e3, o3, x3, b, j, eb, hj, q⟩ => ?_⟩
    subst eb
    cases x3
    obtain ⟨⟨vs3, hl3, da3⟩, _, _⟩ := o3.own _ (List.mem_of_getElem? hj)
    have hl3 : H3 l = some (.lst vs3) := hl3
    have hk3 : k < vs3.length := by rw [da3.length]; exact (List.getElem?_eq_some_iff.mp hk).1
    refine ⟨a, b, rfl, rfl, l, vs3, (k : Int), k, rfl, rfl, hl3, ?_, R3, Γ, _, o3.put (c' := .L (ds.set k (.int (a + b)))) hj ⟨_, upd_same, da3.set (.int (a + b)) k⟩, q⟩
    unfold ixN
    rw [if_pos (by omega), if_pos (by omega)]
    rfl⟩⟩
/-- xs.index(e), ints -/
theorem gp_index {ns : List Int} {n : Int} {o : Expr} {apos pos2 : Pos} (hu : X.A.units + 65 < cLine) (ho : GP X Γ o (.list (ns.map .int))) (he : GP X Γ e (.int n)) (hm : n ∈ ns)
    (hbase : attributeBase o "index" X.env (eval o X.env) = eval o X.env := by rfl)
    (hfew : ((backTo pos2 (starEach [e] X.env)).all (fun x => !x.1) && (backToKw pos2 (keywordEach [] X.env)).all (fun x => x.1.isSome)
      && decide (([e] : List Expr).length + ([] : List Keyword).length + (if ([] : List Keyword).isEmpty then 0 else 1) < 30)) = true := by rfl)
    (hline : (apos.endLine == pos2.line) = true := by rfl) (hs : starEach [e] X.env = (false, eval e X.env) :: starEach [] X.env := by rfl) : GP X Γ (.Call (.Attribute o "index" apos) [e] [] pos2) (.int ((ns.idxOf n : Nat) : Int)) := ⟨fun σ R H s k => by
  refine (pe_bm PySem.F.plainAttrs_list PySem.F.slot_list_index PySem.F.type_list_index (mt_indexD hu) pe_re (pa_cons pe_re pa_nil hs) hbase hfew hline hs rfl).re ?_
  refine (ho.run σ R H s k).mono fun v H1 ⟨R1, g1, x1⟩ => ?_
  obtain ⟨a, xs, rfl, hl, da⟩ : ∃ a xs, v = .ref a ∧ SqL X.K R1 a xs ∧ DaAll X.K R1 xs (ns.map .int) := by
    cases x1 with
    | lst h a => exact ⟨_, _, rfl, h, a⟩
  refine ⟨.inl ⟨rfl, xs, ex_l g1.sub hl⟩, (he.run σ R1 H1 g1.sub (slots_mono g1.r k)).mono fun y H2 ⟨R2, g2, y2⟩ => ?_⟩
  have hi : ns.idxOf n < ns.length := List.idxOf_lt_length_of_mem hm
  refine ⟨a, y, .int n, ns.map .int, ns.idxOf n, .int n, rfl, rfl, .lst (ex_l (g2.r.trans g2.sub) hl) (da.dp (g2.r.trans g2.sub) (canLay_ints ns)), y2.dp g2.sub (by simp [PyData.canLay0]), shaped_ints ns, shaped_int n, ?_, by rw [eqv_int]; simp, fun m z' hmn hz' => ?_, R2, g1.trans g2, .int _⟩
  · rw [List.getElem?_map, List.getElem?_eq_getElem hi, List.getElem_idxOf]
    rfl
  · rw [List.getElem?_map] at hz'
    cases e : ns[m]? with
    | none => rw [e] at hz'; cases hz'
    | some z =>
      rw [e] at hz'
      cases hz'
      rw [eqv_int]
      refine decide_eq_false fun e2 => ?_
      subst e2
      obtain ⟨hk2, e3⟩ := List.getElem?_eq_some_iff.mp e
      have e4 := List.not_of_lt_findIdx (p := (· == z)) hmn
      rw [e3, beq_self_eq_true] at e4
      cases e4⟩
/-! ### for over a shared dict -/
theorem for_at {B : Base} {σ : L2.St} {R H : Hp} {tg iter : Expr} {body : List Stmt} (h : RI X tg iter σ H fun J H' => ∃ R' O' ds, Ex R R' ∧ Ok X.K B Γ O' σ R' H' ∧ Walks X.K J R' ds ∧ ∃ Pv : Nat → List Sl → Own → Prop, Pv 0 Γ O' ∧
      (∀ i d Γ2 O2, ds[i]? = some d → Pv i Γ2 O2 → ∃ Γ3 js, GGP X Γ2 tg d Γ3 js ∧ GSs X Γ3 O2 body { D with nx := Pv (i + 1), ct := Pv (i + 1), bk := D.nx }) ∧ ∀ Γ2 O2, Pv ds.length Γ2 O2 → D.nx Γ2 O2)
    (hp : PassesOwn (model X.prog X.w) X.A X.env X.xe := by exact PassesOwn.never) (hc : X.calm = true := by rfl) (hfs : ∀ x, foldedSetIterable iter X.env x = pure x := by intro _; rfl) : RS X (.For tg iter body [] pos) (ends X.K B D) σ H :=
  (ps_for hp hc pi_re pg_re pss_re hfs).re (h.mono fun J H1 ⟨R1, O1, ds, e1, o1, wk, Pv, p0, hs, hd⟩ => by
    have lift := ends_back o1
    refine ⟨fun i m σ2 H2 => m = ds.length - i ∧ i ≤ ds.length ∧ ∃ R2 Γ2 O2, Ok X.K (now R1 H1 O1) Γ2 O2 σ2 R2 H2 ∧ Pv i Γ2 O2, ⟨_, rfl, Nat.zero_le _, R1, Γ, O1, o1.now, p0⟩, ?_⟩
    rintro i m σ2 H2 ⟨rfl, hle, R2, Γ2, O2, o2, p2⟩
    by_cases hlt : i < ds.length
    · refine .inr ⟨wk.go i R2 H2 hlt o2.r0 o2.sub, fun σ' H' => i + 1 ≤ ds.length ∧ ∃ R2 Γ2 O2, Ok X.K (now R1 H1 O1) Γ2 O2 σ' R2 H' ∧ Pv (i + 1) Γ2 O2, fun σ' H' ⟨h1, h2⟩ => ⟨ds.length - (i + 1), by omega, rfl, h1, h2⟩, fun v H3 y => ?_⟩
      have hget : ds[i]? = some ds[i] := List.getElem?_eq_getElem hlt
      obtain ⟨R3, g3, dv⟩ := wk.yld i _ R2 H2 v H3 hget o2.r0 o2.sub y
      have o3 := o2.grow g3
      obtain ⟨Γ3, js, hg, hb⟩ := hs i _ Γ2 O2 hget p2
      refine (hg.run σ2 R3 H3 v o3.sub o3.sl dv).mono fun σ4 H4 ⟨e4, k4, _, _⟩ => ?_
      subst e4
      refine (hb.run _ σ4 R3 H4 (o3.sl2 k4)).mono ⟨fun σ' H' q => ⟨hlt, q⟩, fun v H' q => (lift D).rt v H' q, fun σ' H' ⟨R', Γ', O', o', q⟩ => (lift D).nx σ' H' ⟨R', Γ', O', o', q⟩, fun σ' H' q => ⟨hlt, q⟩⟩
    · have e : i = ds.length := by omega
      subst e
      exact .inl ⟨wk.stop R2 H2 o2.r0 o2.sub, (lift D).nx σ2 H2 ⟨R2, Γ2, O2, o2, hd Γ2 O2 p2⟩⟩)
theorem walks_keys {K : PySem.W.Frag} {R : Hp} {d : Addr} {od : Obj} (h : R d = some (.frz od (.dK (IK kvs)))) : Walks K (Itk d od (IK kvs)) R (kvs.map fun p => .int p.1) where
  go := fun i R2 H hi r s => ⟨s _ _ (r _ _ h), by rw [List.length_map] at hi ⊢; exact hi⟩
  yld := fun i x R2 H v H' hd r s y => by
    obtain ⟨e, k, w, hk, ev⟩ := y
    subst e ev
    rw [List.getElem?_map] at hk hd
    cases e : kvs[i]? with
    | none => rw [e] at hk; cases hk
    | some p =>
      rw [e] at hk hd
      cases hk
      cases hd
      exact ⟨R2, Grow.refl s, .int _⟩
  stop := fun R2 H r s => ⟨s _ _ (r _ _ h), by rw [List.length_map, List.length_map]; exact Nat.le_refl _⟩
theorem s_forD (i : Nat) {tg : Expr} {p1 : Pos} {body : List Stmt} (h0 : Γ[i]? = some (.sh (dI kvs))) (h : ∃ Pv : Nat → List Sl → Own → Prop, Pv 0 Γ O ∧
      (∀ i d Γ2 O2, (kvs.map fun p => PyData.int p.1)[i]? = some d → Pv i Γ2 O2 → ∃ Γ3 js, GGP X Γ2 tg d Γ3 js ∧ GSs X Γ3 O2 body { D with nx := Pv (i + 1), ct := Pv (i + 1), bk := D.nx }) ∧ ∀ Γ2 O2, Pv kvs.length Γ2 O2 → D.nx Γ2 O2) (hN : X.N[i]? = some x := by rfl)
    (hv : Vis X.env.scope x := by first | exact Or.inl rfl | exact Or.inr (Or.inl rfl) | exact Or.inr (Or.inr rfl)) (hd : (x == ("__debug__" : Str)) = false := by decide) (hcd : (x == ("__classdict__" : Str)) = false := by decide)
    (hp : PassesOwn (model X.prog X.w) X.A X.env X.xe := by exact PassesOwn.never) (hc : X.calm = true := by rfl) (hfs : ∀ z, foldedSetIterable (.Name x p1) X.env z = pure z := by intro _; rfl) : GS X Γ O (.For tg (.Name x p1) body [] pos) D := ⟨fun B σ R H o => by
  obtain ⟨v, hσ, dv⟩ := o.get h0
  obtain ⟨d, rfl, hR⟩ := dv.dicI
  obtain ⟨Pv, p0, step, fin⟩ := h
  have fin' : ∀ Γ2 O2, Pv (kvs.map fun p => PyData.int p.1).length Γ2 O2 → D.nx Γ2 O2 := by rw [List.length_map]; exact fin
  have main : ∀ (B : Base) (R H : Hp) (od : Obj), R d = some (.frz od (.dK (IK kvs))) → Ok X.K B Γ O σ R H → RS X (.For tg (.Name x p1) body [] pos) (ends X.K B D) σ H := fun B R H od hz o =>
    for_at ((pi_keys (pe_var hN hv hd hcd)).re ⟨.ref d, hσ, d, od, rfl, .inl ⟨IK kvs, o.sub _ _ hz, R, O, _, .refl _, o, walks_keys hz, Pv, p0, step, fin'⟩⟩) hp hc hfs
  rcases hR with hR | ⟨od, hR⟩
  · refine (ps_lock ps_re).re ⟨d, _, o.sub _ _ hR, trivial, fun od => ?_⟩
    refine (main _ _ _ od upd_same (o.lock (od := od) hR)).mono ⟨fun σ' H' ⟨R', Γ', O', o', q⟩ => ?_, fun v H' ⟨R', O', r, o', hr, q⟩ => ?_, fun σ' H' ⟨R', Γ', O', o', q⟩ => ?_, fun σ' H' ⟨R', Γ', O', o', q⟩ => ?_⟩
    · obtain ⟨_, e2, o2⟩ := o.unlock hR o'
      exact ⟨e2, _, Γ', O', o2, q⟩
    · obtain ⟨e1, e2, o2⟩ := o.unlock hR o'
      exact ⟨e2, _, O', r, o2, hr.sm (sm_unlock e1), q⟩
    · obtain ⟨_, e2, o2⟩ := o.unlock hR o'
      exact ⟨e2, _, Γ', O', o2, q⟩
    · obtain ⟨_, e2, o2⟩ := o.unlock hR o'
      exact ⟨e2, _, Γ', O', o2, q⟩
  · exact main B R H od hR o⟩
end
end G

set_option Elab.async false
set_option linter.all false
set_option maxRecDepth 100000
set_option maxHeartbeats 2000000
namespace G
open PySem PySem.Spec L2
section
variable {X : Cx} {Γ : List Sl} {O : Own} {st : Stmt} {rest : List Stmt} {D : Nds} {b : Expr} {pos : Pos} {x : Str}
theorem gs_cut (I : List Sl → Own → Prop) (h1 : GS X Γ O st { D with nx := I }) (h2 : ∀ Γ' O', I Γ' O' → GSs X Γ' O' rest D) : GSs X Γ O (st :: rest) D := gs_cons ⟨fun B σ R H o => (h1.run B σ R H o).mono
  ⟨fun σ' H' ⟨R', Γ', O', o', q⟩ => ⟨R', Γ', O', o', h2 Γ' O' q⟩, fun _ _ q => q, fun _ _ q => q, fun _ _ q => q⟩⟩
/-- an owned list and a list together: a new list -/
theorem gl_catO {P : List PyData → Own → Prop} (i : Nat) {l : Addr} {p1 : Pos} (h0 : Γ[i]? = some (.ow l)) (h : GE X Γ O b fun d2 O2 => ∃ xs ys, (l, .L xs) ∈ O2 ∧ d2 = .list ys ∧ xs.length + ys.length ≤ sizeLine ∧ P (xs ++ ys) O2) (hN : X.N[i]? = some x := by rfl)
    (hv : Vis X.env.scope x := by first | exact Or.inl rfl | exact Or.inr (Or.inl rfl) | exact Or.inr (Or.inr rfl)) (hd : (x == ("__debug__" : Str)) = false := by decide) (hcd : (x == ("__classdict__" : Str)) = false := by decide) : GL X Γ O (.BinOp (.Name x p1) .Add b pos) P := ⟨fun B σ R H o =>
  (pe_op op_catS (pe_var hN hv hd hcd) pe_re).re ⟨.ref l, o.getO h0, (h.run B σ R H o).mono fun y H2 ⟨R2, O2, d2, e2, o2, y2, xs, ys, hm, ey, hz, q⟩ => by
    subst ey
    obtain ⟨⟨vs, hl, da⟩, _, _⟩ := o2.own _ hm
    have hl : H2 l = some (.lst vs) := hl
    cases y2 with
    | lst h2 a2 =>
      refine ⟨_, _, _, _, rfl, rfl, .of hl, ex_l o2.sub h2, by rw [da.length, a2.length]; exact hz, fun p hp => ?_⟩
      exact ⟨R2, O2, p, _, rfl, e2, o2.own1 (Grow.junk o2.sub (.new hp)) (ex_none o2.sub hp) hp upd_same (da.append a2), q⟩⟩⟩
end
theorem at_last {α : Type} {xs : List α} (h : xs ≠ []) : ∃ x, x ∈ xs ∧ atI xs (-1) = some x := by
  have hp : 0 < xs.length := List.length_pos_iff.mpr h
  refine ⟨xs[xs.length - 1], List.getElem_mem _, ?_⟩
  unfold atI
  have e : ixN xs.length (-1) = some (xs.length - 1) := by
    unfold ixN
    rw [if_neg (by decide), if_pos (by omega)]
    congr 1
    omega
  rw [e]
  exact List.getElem?_eq_getElem (by omega)
end G

set_option Elab.async false
set_option linter.all false
set_option maxRecDepth 100000
set_option pp.maxSteps 800
set_option maxHeartbeats 2000000
namespace G
open PySem PySem.Spec L2
/-! ### two for -/
section
variable {X : Cx} {Γ : List Sl} {pos : Pos}
theorem glp_lc2 {α β : Type} {enc : α → PyData} {ys : α → List β} {enc1 out : α → β → PyData} {own : List (Str × Nat)} {vs1 : List Nat} {tg iter tg1 iter1 elt : Expr} {scope : Scope} (xs : List α) (Γt : α → List Sl) (Γu : α → β → List Sl) {js ks : List Nat} (hN : X.N.Nodup) (hi : GIP X Γ tg iter (xs.map enc)) (ok : BlkOk X.N X.env.scope scope own)
    (hv : ∀ i ∈ vs1, i ∈ own.map (·.2)) (hg : ∀ x ∈ xs, InB X scope fun X' => GGP X' (wipeG Γ (own.map (·.2))) tg (enc x) (Γt x) js) (hj : ∀ i ∈ js, i ∈ own.map (·.2))
    (hi1 : ∀ x ∈ xs, InB X scope fun X' => GIP X' (Γt x) tg1 iter1 ((ys x).map (enc1 x))) (hg1 : ∀ x ∈ xs, ∀ y ∈ ys x, InB X scope fun X' => GGP X' (wipeG (Γt x) vs1) tg1 (enc1 x y) (Γu x y) ks) (hk : ∀ i ∈ ks, i ∈ vs1)
    (he : ∀ x ∈ xs, ∀ y ∈ ys x, InB X scope fun X' => GP X' (Γu x y) elt (out x y)) (hz : (xs.flatMap fun x => (ys x).map (out x)).length < sizeLine) (hc : X.calm = true := by rfl) (hs : ∀ x, foldedSetIterable iter X.env x = pure x := by intro _; rfl) (hs1 : ∀ env x, foldedSetIterable iter1 env x = pure x := by intro _ _; rfl) :
    GLP X Γ (.ListComp elt [⟨tg, iter, [], 0⟩, ⟨tg1, iter1, [], 0⟩] scope pos) (xs.flatMap fun x => (ys x).map (out x)) := ⟨fun σ R H s k => by
  refine (pe_lc2 (wi := RI X tg iter) (g := fun v σ H Q => InB X scope fun X' => RG X' tg v σ H Q) (tt := fun _ H Q => Q true H) (wi1 := fun σ H Q => InB X scope fun X' => RI X' tg1 iter1 σ H Q) (g1 := fun v σ H Q => InB X scope fun X' => RG X' tg1 v σ H Q) (tt1 := fun _ H Q => Q true H) (te := fun σ H Q => InB X scope fun X' => RE X' elt σ H Q) hc hN pi_re ok hv
    (fun s H C cl fp => ⟨fun pins sh σ H' v u Q I r h => h s H C cl fp pins sh u I r⟩) (fun s H C cl fp => pts_nil) (fun s H C cl fp => ⟨fun pins sh σ H' Q I h => h s H C cl fp pins sh I⟩) (fun s H C cl fp => ⟨fun pins sh σ H' v u Q I r h => h s H C cl fp pins sh u I r⟩) (fun s H C cl fp => pts_nil)
    (fun s H C cl fp => ⟨fun pins sh σ H' Q I h => h s H C cl fp pins sh I⟩) hs hs1).re ?_
  refine (hi.run σ R H s k).mono fun J H1 ⟨R1, g1, wk⟩ D hD => ?_
  refine ⟨fun i m Hc => m = xs.length - i ∧ i ≤ xs.length ∧ ∃ R2 acc, Grow R1 H1 R2 Hc ∧ R2 D = none ∧ Hc D = some (.lst acc) ∧ DaAll X.K R2 acc ((xs.take i).flatMap fun x => (ys x).map (out x)), ⟨_, rfl, Nat.zero_le _, R1, [], Grow.junk g1.sub (.new hD), ex_none g1.sub hD, upd_same, .nil⟩, ?_⟩
  have noD : ∀ {Ra Ha Rb Hb : Hp}, Grow Ra Ha Rb Hb → Ra D = none → (∃ o, Ha D = some o) → Rb D = none := fun {Ra Ha Rb Hb} g n ⟨o, ho⟩ => by
    cases q : Rb D with
    | none => rfl
    | some u =>
      rcases g.new _ _ q with z | z
      · rw [n] at z; cases z
      · rw [ho] at z; cases z
  rintro i m Hc ⟨rfl, hle, R2, acc, g2, nD, cD, dA⟩
  by_cases hlt : i < xs.length
  · refine .inr ⟨wk.go i R2 Hc (by rw [List.length_map]; exact hlt) g2.r g2.sub, fun H' => i + 1 ≤ xs.length ∧ ∃ R2 acc, Grow R1 H1 R2 H' ∧ R2 D = none ∧ H' D = some (.lst acc) ∧ DaAll X.K R2 acc ((xs.take (i + 1)).flatMap fun x => (ys x).map (out x)), fun H' ⟨h1, h2⟩ => ⟨xs.length - (i + 1), by omega, rfl, h1, h2⟩, fun v H3 y => ?_⟩
    have hx : xs[i] ∈ xs := List.getElem_mem hlt
    have hget : (xs.map enc)[i]? = some (enc xs[i]) := by rw [List.getElem?_map, List.getElem?_eq_getElem hlt]; rfl
    have tk : xs.take (i + 1) = xs.take i ++ [xs[i]] := by rw [List.take_add_one, List.getElem?_eq_getElem hlt]; rfl
    have fin : (xs.take (i + 1)).flatMap (fun x => (ys x).map (out x)) = (xs.take i).flatMap (fun x => (ys x).map (out x)) ++ (ys xs[i]).map (out xs[i]) := by
      rw [tk, List.flatMap_append]
      simp
    have lz : ((xs.take i).flatMap fun x => (ys x).map (out x)).length + (ys xs[i]).length ≤ (xs.flatMap fun x => (ys x).map (out x)).length := by
      have e1 : xs.flatMap (fun x => (ys x).map (out x)) = (xs.take (i + 1)).flatMap (fun x => (ys x).map (out x)) ++ (xs.drop (i + 1)).flatMap (fun x => (ys x).map (out x)) := by rw [← List.flatMap_append, List.take_append_drop]
      rw [e1, fin, List.length_append, List.length_append, List.length_map]
      omega
    obtain ⟨R3, g3, dv⟩ := wk.yld i _ R2 Hc v H3 hget g2.r g2.sub y
    generalize xs[i] = x at *
    intro s0 H0 C cl fp
    have hS := wipe_ok (slots_mono (g1.trans (g2.trans g3)).r k) (own.map (·.2))
    refine ((hg _ hx s0 H0 C cl fp).run _ R3 H3 v g3.sub hS dv).mono fun σ4 H4 ⟨e4, k4, l4, f4⟩ => ?_
    subst e4
    refine ⟨wipe_wipe hj l4 f4, ?_⟩
    show if true = true then _ else _
    rw [if_pos rfl]
    intro s0 H0 C cl fp
    have c3 : H4 D = some (.lst acc) := g3.h _ _ cD
    have n3 := noD g3 nD ⟨_, cD⟩
    refine ((hi1 _ hx s0 H0 C cl fp).run σ4 R3 H4 g3.sub k4).mono fun J1 H5 ⟨R5, g5, wk1⟩ => ?_
    have c5 : H5 D = some (.lst acc) := g5.h _ _ c3
    have n5 := noD g5 n3 ⟨_, c3⟩
    have k5 := slots_mono g5.r k4
    refine ⟨fun j m Hd => m = (ys x).length - j ∧ j ≤ (ys x).length ∧ ∃ R6 acc, Ex R5 R6 ∧ Grow R1 H1 R6 Hd ∧ R6 D = none ∧ Hd D = some (.lst acc) ∧ DaAll X.K R6 acc (((xs.take i).flatMap fun x => (ys x).map (out x)) ++ ((ys x).take j).map (out x)), ⟨_, rfl, Nat.zero_le _, R5, acc, .refl _, (g2.trans g3).trans g5, n5, c5, by simpa using dA.mono (g3.trans g5).r⟩, ?_⟩
    rintro j m Hd ⟨rfl, hle2, R6, acc2, e56, g6, n6, c6, dA2⟩
    by_cases hlt2 : j < (ys x).length
    · refine .inr ⟨wk1.go j R6 Hd (by rw [List.length_map]; exact hlt2) e56 g6.sub, fun H' => j + 1 ≤ (ys x).length ∧ ∃ R6 acc, Ex R5 R6 ∧ Grow R1 H1 R6 H' ∧ R6 D = none ∧ H' D = some (.lst acc) ∧ DaAll X.K R6 acc (((xs.take i).flatMap fun x => (ys x).map (out x)) ++ ((ys x).take (j + 1)).map (out x)), fun H' ⟨h1, h2⟩ => ⟨(ys x).length - (j + 1), by omega, rfl, h1, h2⟩, fun v H7 y => ?_⟩
      have hy : (ys x)[j] ∈ ys x := List.getElem_mem hlt2
      have hget2 : ((ys x).map (enc1 x))[j]? = some (enc1 x (ys x)[j]) := by rw [List.getElem?_map, List.getElem?_eq_getElem hlt2]; rfl
      have tk2 : (ys x).take (j + 1) = (ys x).take j ++ [(ys x)[j]] := by rw [List.take_add_one, List.getElem?_eq_getElem hlt2]; rfl
      obtain ⟨R7, g7, dv7⟩ := wk1.yld j _ R6 Hd v H7 hget2 e56 g6.sub y
      intro s0 H0 C cl fp
      have hS2 := wipe_ok (slots_mono (e56.trans g7.r) k5) vs1
      refine ((hg1 _ hx _ hy s0 H0 C cl fp).run _ R7 H7 v g7.sub hS2 dv7).mono fun σ8 H8 ⟨e8, k8, l8, f8⟩ => ?_
      subst e8
      refine ⟨wipe_wipe hk l8 f8, ?_⟩
      show if true = true then _ else _
      rw [if_pos rfl]
      intro s0 H0 C cl fp
      have c7 : H8 D = some (.lst acc2) := g7.h _ _ c6
      have n7 := noD g7 n6 ⟨_, c6⟩
      refine ((he _ hx _ hy s0 H0 C cl fp).run _ R7 H8 g7.sub k8).mono fun y9 H9 ⟨R9, g9, d9⟩ => ?_
      have c9 : H9 D = some (.lst acc2) := g9.h _ _ c7
      have n9 := noD g9 n7 ⟨_, c7⟩
      refine ⟨acc2, c9, ?_, hlt2, R9, acc2 ++ [y9], e56.trans (g7.r.trans g9.r), ((g6.trans g7).trans g9).mut n9 hD, n9, upd_same, ?_⟩
      · rw [dA2.length, List.length_append, List.length_map, List.length_take]
        omega
      · rw [tk2, List.map_append, ← List.append_assoc]
        exact (dA2.mono (g7.r.trans g9.r)).append (.cons d9 .nil)
    · have e : j = (ys x).length := by omega
      subst e
      refine .inl ⟨?_, hlt, R6, acc2, g6, n6, c6, ?_⟩
      · have q := wk1.stop R6 Hd e56 g6.sub
        rw [List.length_map] at q
        exact q
      · rw [fin]
        rw [List.take_length] at dA2
        exact dA2
  · have e : i = xs.length := by omega
    subst e
    refine .inl ⟨?_, R2, D, acc, g1.trans g2, rfl, nD, ex_none g1.h hD, cD, ?_⟩
    · have q := wk.stop R2 Hc g2.r g2.sub
      rw [List.length_map] at q
      exact q
    · rw [List.take_length] at dA
      exact dA⟩
end
end G

set_option Elab.async false
set_option linter.all false
set_option maxRecDepth 100000
set_option pp.maxSteps 800
set_option maxHeartbeats 2000000
namespace G
open PySem PyProof.Rows Srt SrtO
/-! ### sorted of a tuple of pairs -/
section
variable {prog : Program} {w : World} {A : Around} {E : Value → Shared → Prop} {s : Shared}
theorem gather_tup {t : Addr} {vs : List Value} {o : Obj} {n : Nat} {Q : List Value → Shared → Prop} (ho : s.heap.get? t = some o) (hc : o.cls = .type "tuple") (hd : o.data = .seq vs.toArray n)
    (q : Q vs { s with heap := (s.heap.push (seqObj "list" #[] 0)).update s.heap.objs.size (Obj.mapSeq (· ++ vs.toArray)) }) (few : vs.length ≤ sizeLine) : wpAny (model prog w) A (collect (.ref t)) Q E s := by
  have go2 : (s.heap.push (seqObj "list" #[] 0)).get? t = some o := Heap.get?_push_of_some _ ho
  have new0 : (s.heap.push (seqObj "list" #[] 0)).get? s.heap.objs.size = some (seqObj "list" #[] 0) := Heap.get?_push_size _ rfl
  have tup : (Value.type "tuple" == Value.type "tuple") = true := by rfl
  unfold collect; refine wpAny_bind (wpAny_runValue (codeAny_builtin entry_proto_collect' ?_))
  show wpAny _ _ (do again (.builtin "list.__iadd__" ⟨[← newList [], .ref t], []⟩)) _ _ s
  refine wpAny_bind (wpAny_newList (wpAny_pure ⟨Code.quiet_builtin _ (by decide +kernel), codeAny_builtin entry_list_iadd' ?_⟩))
  show wpAny _ _ (Builtin.List.listExtendWith (.ref s.heap.objs.size) (.ref t) (.ref s.heap.objs.size)) _ _ { s with heap := s.heap.push (seqObj "list" #[] 0) }
  unfold Builtin.List.listExtendWith; refine wpAny_bind (wpAny_typeOf (T := "tuple") ⟨o, go2, hc⟩ ?_)
  rw [if_pos (by rw [tup, Bool.or_true])]
  refine wpAny_bind (listItems_at go2 hd (wpAny_bind (listItems_at (xs := #[]) (n := 0) new0 rfl ?_)))
  rw [if_neg (by simp)]
  refine wpAny_bind (listUpdate_at (xs := #[]) (n := 0) new0 rfl (wpAny_pure ?_) (Nat.zero_le _) (by show (#[] ++ vs.toArray).size ≤ sizeLine + 1; rw [Array.size_append, List.size_toArray]; show 0 + vs.length ≤ _; omega))
  refine wpAny_bind (wpAny_load (get?_update_seq new0 _) ?_)
  show wpAny _ _ (pure ((#[] : Array Value) ++ vs.toArray).toList) Q E _
  exact wpAny_pure (by rw [show ((#[] : Array Value) ++ vs.toArray).toList = vs by simp]; exact q)
theorem sorted_tup {t : Addr} {vs : List Value} {o : Obj} {n : Nat} {lt : Value → Value → Bool} {Q : Value → Shared → Prop} (O : Swo lt) (ho : s.heap.get? t = some o) (hc : o.cls = .type "tuple") (hd : o.data = .seq vs.toArray n) (few : vs.length ≤ sizeLine)
    (hS : 2 ≤ vs.length → ∀ (h₁ : Heap) (a : Addr), h₁.get? a = some (seqObj "list" vs.toArray 0) → (∀ b o, s.heap.get? b = some o → b ≠ a ∧ h₁.get? b = some o) → SortableO prog w A.in1.in1 { s with heap := h₁ } a vs lt)
    (q : ∀ out : List Value, Srtd lt out → Stb lt out vs → Q (.ref (s.heap.objs.size + 1)) { s with heap := sortedAll s.heap vs out.toArray }) : wpAny (model prog w) A (call (.builtin "sorted") [.ref t]) Q E s := by
  refine Calls.call_function_entry kind_sorted plain_sorted entry_sorted (args_sorted1 _) ?_
  unfold Builtin.«sorted»; refine wpAny_bind (m := checkCount "sorted" 1 1 _) (wpAny_pure (wpAny_bind (gather_tup ho hc hd (wpAny_bind (wpAny_newList ?_ few)) few)))
  generalize hX : (s.heap.push (seqObj "list" #[] 0)).update s.heap.objs.size (Obj.mapSeq (· ++ vs.toArray)) = X
  have sz : X.objs.size = s.heap.objs.size + 1 := by rw [← hX, Heap.size_update, size_push']
  have top : (X.push (seqObj "list" vs.toArray 0)).get? (s.heap.objs.size + 1) = some (seqObj "list" vs.toArray 0) := by rw [← sz]; exact Heap.get?_push_size _ rfl
  have old : ∀ b u, s.heap.get? b = some u → b ≠ s.heap.objs.size + 1 ∧ (X.push (seqObj "list" vs.toArray 0)).get? b = some u := fun b u e => by
    have below := Heap.lt_size e
    refine ⟨Nat.ne_of_lt (Nat.lt_succ_of_lt below), Heap.get?_push_of_some _ ?_⟩
    rw [← hX, Heap.get?_update_ne _ _ _ _ (Nat.ne_of_lt below)]; exact Heap.get?_push_of_some _ e
  show wpAny _ _ _ _ _ { s with heap := X.push (seqObj "list" vs.toArray 0) }
  rw [sz]
  refine wpAny_bind (wpAny_holding (wpAny_call_entry slot_list_sort ⟨_, top, rfl⟩ entry_list_sort (list_sort_ord O top few (fun h2 => hS h2 _ _ top old) fun out hs hb => ⟨_, rfl, wpAny_pure ⟨_, rfl, ?_⟩⟩) (args_list_sort _)))
  subst hX
  exact q out hs hb
end
end G
namespace G
open PySem PySem.Spec L2 PyProof.Rows
def rSortedPT (K : PySem.W.Frag) : List V → Hp → VK → Prop := fun vs H Q => ∃ (a : Addr) (xs : List V) (k : V → Int × Int), vs = [V.ref a] ∧ SqT K H a xs ∧ (∀ x ∈ xs, ∃ t, x = V.ref t ∧ H t = some (.tup [.int (k x).1, .int (k x).2])) ∧ ∀ ys p, SrtO.Srtd (ltP k) ys → SrtO.Stb (ltP k) ys xs → H p = none → Q (.ref p) (upd H p (.lst ys))
theorem cr_sortedPT {X : Cx} : CallR X (.builtin "sorted") (rSortedPT X.K) := by
  intro pins s σ H vs us Q I r ⟨a, xs, k, ev, hs, hx, q⟩
  subst ev
  obtain ⟨its, rv, hl, hz⟩ := I.tuple hs
  obtain ⟨u, eu, ru⟩ := vals1 r
  subst eu
  obtain rfl : u = Value.ref a := ru
  obtain ⟨e1, e2⟩ := refs_back rv fun x m => let ⟨t, e, _⟩ := hx x m; ⟨t, e⟩
  obtain ⟨o, ho, hc, n, hd⟩ := hl
  have few : its.length ≤ sizeLine := by rw [← rv.length]; exact hz
  have prs : ∀ v ∈ its, Srt.IsPair s.heap v (k (backV v)).1 (k (backV v)).2 := fun v hv => by
    obtain ⟨t, rfl⟩ := e2 v hv
    have hm : V.ref t ∈ xs := by rw [e1]; exact List.mem_map.mpr ⟨_, hv, rfl⟩
    obtain ⟨t', e, ht⟩ := hx _ hm
    cases e
    obtain ⟨_, its2, r2, o2, ho2, hc2, n2, hd2⟩ := I.hok _ _ ht
    obtain ⟨u1, u2, eq, ⟨t1, ri⟩, ⟨t2, rj⟩⟩ := vals2 r2
    subst eq ri rj
    exact ⟨t, o2, t1, t2, n2, rfl, ho2, hc2, hd2⟩
  refine sorted_tup (lt := fun v u => SrtO.lexB (k (backV v)) (k (backV u))) (SrtO.swo_lex fun u => k (backV u)) ho hc hd few (fun h2 h₁ c hcc kk => ?_) fun out h1 h2 => ?_
  · refine SrtO.pairs_sortableO (k := fun u => k (backV u)) (s := { s with heap := h₁ }) (by omega) (fun v hv => (prs v hv).keeps fun b o e _ => (kk b o e).2) fun o3 e3 => ?_
    have e4 : some o3 = some (seqObj "list" its.toArray 0) := e3.symm.trans hcc
    cases e4
    exact fun c => absurd (Value.type.inj c) (by decide)
  · have h3 : ∀ u ∈ out, ∃ a, u = Value.ref a := fun u hu => e2 u (h2.perm.mem_iff.mp hu)
    obtain ⟨n3, hn3⟩ := sortedAll_at s.heap its out.toArray
    have hb : SrtO.Stb (ltP k) (out.map backV) xs := e1 ▸ SrtO.Stb.map (ltP_swo k) backV h2
    refine ⟨.ref (s.heap.objs.size + 1), upd H _ (.lst (out.map backV)), I.laid (t' := s.toks) (fun b o e => sortedAll_old e) (Nat.le_succ _) ⟨by rw [hb.len]; exact hz, out, n3, vals_back h3, hn3⟩, rfl, q _ _ (SrtO.srtd_map h1) hb (I.hok.fresh (Nat.le_succ _))⟩
section
variable {X : Cx} {Γ : List Sl} {O : Own} {e : Expr} {pos p : Pos} {P : List PyData → Own → Prop}
theorem gl_sortedPT (hm : X.mg "sorted" = none) (h : GE X Γ O e fun d O1 => ∃ ns : List (Int × Int), d = eLot ns ∧ ∀ ns' : List (Int × Int), ns'.Perm ns → ns'.Pairwise (fun x y => SrtO.lexB y x = false) → P (ePs ns') O1) (hg : Gl X "sorted" := by rfl) (he : starEach [e] X.env = (false, eval e X.env) :: starEach [] X.env := by rfl) : GL X Γ O (.Call (.Name "sorted" p) [e] [] pos) P :=
  gl_callBE cr_sortedPT hm PyProof.Rows.boot_sorted (h.imp fun d O1 ⟨ns, ed, q⟩ => ⟨fun es => ∃ ns' : List (Int × Int), es = ePs ns' ∧ ns'.Perm ns ∧ ns'.Pairwise (fun x y => SrtO.lexB y x = false), fun R H v s x1 Q k => by
    subst ed
    cases x1 with
    | tup h1 a1 =>
      rename_i ad xs
      let key : V → Int × Int := fun v => match v with
        | .ref t => match H t with
          | some (.tup [.int i, .int j]) => (i, j)
          | _ => (0, 0)
        | _ => (0, 0)
      have hx : ∀ {ns : List (Int × Int)} {xs : List V}, DaAll X.K R xs (ePs ns) → ns = xs.map key ∧ ∀ x ∈ xs, (∃ t, x = V.ref t ∧ H t = some (.tup [.int (key x).1, .int (key x).2])) ∧ Da X.K R x (eP (key x)) := by
        intro ns
        induction ns with
        | nil => intro xs a; cases a; exact ⟨rfl, fun x m => by cases m⟩
        | cons n ns ih =>
          intro xs a
          have a : DaAll X.K R xs (eP n :: ePs ns) := a
          cases a with
          | cons h a =>
            obtain ⟨e1, e2⟩ := ih a
            have h' := h
            cases h with
            | tup q w =>
              rename_i ad' vs'
              cases w with
              | cons w1 w =>
                cases w with
                | cons w2 w =>
                  cases w
                  cases w1
                  cases w2
                  have hk : key (.ref ad') = n := by
                    show (match H ad' with | some (.tup [.int i, .int j]) => (i, j) | _ => (0, 0)) = n
                    rw [s _ _ q]
                  refine ⟨by rw [List.map_cons, hk, ← e1], fun x m => ?_⟩
                  rcases List.mem_cons.mp m with rfl | m
                  · rw [hk]
                    exact ⟨⟨_, rfl, s _ _ q⟩, h'⟩
                  · exact e2 x m
      obtain ⟨en, hx2⟩ := hx a1
      refine ⟨_, _, key, rfl, ex_t s h1, fun x m => (hx2 x m).1, fun ys l hs hst hl => k l ys (ePs (ys.map key)) hl ⟨_, rfl, ?_, ?_⟩ ?_⟩
      · rw [en]; exact hst.perm.map key
      · exact List.pairwise_map.mpr hs
      · have all : ∀ y ∈ ys, Da X.K R y (eP (key y)) := fun y m => (hx2 y (hst.perm.subset m)).2
        clear hs hst
        induction ys with
        | nil => exact .nil
        | cons y ys ih => exact .cons (all y List.mem_cons_self) (ih fun z m => all z (List.mem_cons_of_mem _ m)), fun es ⟨ns', e3, hp, hs⟩ => by
    subst e3
    exact q ns' hp hs⟩) hg (by decide) (by decide) he
end
end G

set_option Elab.async false
set_option linter.all false
set_option maxRecDepth 100000
set_option pp.maxSteps 800
set_option maxHeartbeats 2000000
namespace G
open PySem PySem.Spec L2 PyProof.Rows
/-! ### sorted of a tuple of ints -/
def rSortedIT (K : PySem.W.Frag) : List V → Hp → VK → Prop := fun vs H Q => ∃ (a : Addr) (ns : List Int), vs = [V.ref a] ∧ SqT K H a (ns.map V.int) ∧ ∀ (ms : List Int) (p : Addr), ms.Perm ns → ms.Pairwise (· ≤ ·) → H p = none → Q (.ref p) (upd H p (.lst (ms.map V.int)))
theorem cr_sortedIT {X : Cx} : CallR X (.builtin "sorted") (rSortedIT X.K) := by
  intro pins s σ H vs us Q I r ⟨a, ns, ev, hs, q⟩
  subst ev
  obtain ⟨its, rv, ⟨o, ho, hc, n, hd⟩, hz⟩ := I.tuple hs
  rw [Vals.ref1 r]
  have hi := rv.ints
  have few : its.length ≤ sizeLine := by rw [← rv.length]; exact hz
  refine sorted_tup SrtO.swo_int ho hc hd few (fun h2 h₁ a' _ _ => SrtO.ints_sortable hi h2) fun out h1 h2 => ?_
  obtain ⟨k1, k2, k3⟩ := SrtO.ints_out hi h1 h2
  obtain ⟨ep, he'⟩ := PyProof.Rows.sortedAll_at s.heap its out.toArray
  have hl : ((out.map SrtO.iv).map V.int).length ≤ sizeLine := by rw [List.length_map, k2.length_eq]; rwa [List.length_map] at hz
  exact ⟨.ref _, upd H (s.heap.objs.size + 1) (.lst ((out.map SrtO.iv).map V.int)), I.laid (t' := s.toks) (fun b u e => PyProof.Rows.sortedAll_old e) (Nat.le_succ _) ⟨hl, out, ep, vals_of_ints k1, he'⟩, rfl, q _ _ k2 k3 (I.hok.fresh (Nat.le_succ _))⟩
section
variable {X : Cx} {Γ : List Sl} {O : Own} {e : Expr} {pos p : Pos} {P : List PyData → Own → Prop}
theorem gl_sortedIT (hm : X.mg "sorted" = none) (h : GE X Γ O e fun d O1 => ∃ ns : List Int, d = .tuple (ns.map .int) ∧ ∀ ns' : List Int, ns'.Perm ns → ns'.Pairwise (· ≤ ·) → P (ns'.map .int) O1) (hg : Gl X "sorted" := by rfl) (he : starEach [e] X.env = (false, eval e X.env) :: starEach [] X.env := by rfl) : GL X Γ O (.Call (.Name "sorted" p) [e] [] pos) P :=
  gl_callBE cr_sortedIT hm PyProof.Rows.boot_sorted (h.imp fun d O1 ⟨ns, ed, q⟩ => ⟨fun es => ∃ ns' : List Int, es = ns'.map .int ∧ ns'.Perm ns ∧ ns'.Pairwise (· ≤ ·), fun R H v s x1 Q k => by
    subst ed
    cases x1 with
    | tup h1 a1 =>
      have e2 := a1.ints
      subst e2
      exact ⟨_, ns, rfl, ex_t s h1, fun ns' p hp hs hl => k p _ _ hl ⟨ns', rfl, hp, hs⟩ (DaAll.of_ints _ _ ns')⟩, fun es ⟨ns', e3, hp, hs⟩ => by
    subst e3
    exact q ns' hp hs⟩) hg (by decide) (by decide) he
end
end G

set_option Elab.async false
set_option linter.all false
set_option maxRecDepth 100000
set_option pp.maxSteps 800
set_option maxHeartbeats 2000000
namespace G
open PySem PySem.Spec L2
def insI (p : Int) : List Int → List Int
  | [] => [p]
  | q :: l => if q < p then q :: insI p l else p :: q :: l
def sortI : List Int → List Int
  | [] => []
  | p :: l => insI p (sortI l)
theorem insI_perm (p : Int) : ∀ l, (insI p l).Perm (p :: l)
  | [] => .refl _
  | q :: l => by
    unfold insI
    split
    · exact ((insI_perm p l).cons q).trans (.swap p q l)
    · exact .refl _
theorem sortI_perm : ∀ l, (sortI l).Perm l
  | [] => .refl _
  | p :: l => (insI_perm p (sortI l)).trans ((sortI_perm l).cons p)
theorem insI_sorted (p : Int) : ∀ l, l.Pairwise (· ≤ ·) → (insI p l).Pairwise (· ≤ ·)
  | [], _ => List.pairwise_singleton _ _
  | q :: l, h => by
    unfold insI
    have h1 := List.pairwise_cons.mp h
    split
    · refine List.pairwise_cons.mpr ⟨fun x hx => ?_, insI_sorted p l h1.2⟩
      rcases List.mem_cons.mp ((insI_perm p l).subset hx) with rfl | hx
      · omega
      · exact h1.1 x hx
    · refine List.pairwise_cons.mpr ⟨fun x hx => ?_, h⟩
      rcases List.mem_cons.mp hx with rfl | hx
      · omega
      · have := h1.1 x hx
        omega
theorem sortI_sorted : ∀ l, (sortI l).Pairwise (· ≤ ·)
  | [] => .nil
  | p :: l => insI_sorted p _ (sortI_sorted l)
theorem sortI_unique : ∀ {l m : List Int}, l.Perm m → l.Pairwise (· ≤ ·) → m.Pairwise (· ≤ ·) → l = m
  | [], m, p, _, _ => (List.Perm.eq_nil p.symm).symm
  | a :: l, [], p, _, _ => by cases List.Perm.eq_nil p
  | a :: l, b :: m, p, h1, h2 => by
    have c1 := List.pairwise_cons.mp h1
    have c2 := List.pairwise_cons.mp h2
    have e : a = b := by
      rcases List.mem_cons.mp (p.subset List.mem_cons_self) with h | h
      · exact h
      · rcases List.mem_cons.mp (p.symm.subset List.mem_cons_self) with h' | h'
        · exact h'.symm
        · have := c2.1 a h
          have := c1.1 b h'
          omega
    subst e
    rw [sortI_unique (List.Perm.cons_inv p) c1.2 c2.2]
section
variable {X : Cx} {Γ : List Sl} {e : Expr} {pos p : Pos}
theorem glp_sortedIT {ns : List Int} (hm : X.mg "sorted" = none) (ha : GP X Γ e (.tuple (ns.map .int))) (hz : ns.length ≤ sizeLine) (hg : Gl X "sorted" := by rfl) (he : starEach [e] X.env = (false, eval e X.env) :: starEach [] X.env := by rfl) : GLP X Γ (.Call (.Name "sorted" p) [e] [] pos) ((sortI ns).map .int) :=
  glp_callB cr_sortedIT hm PyProof.Rows.boot_sorted (gpa_cons ha gpa_nil he) (fun R H vs s a Q q => by
    cases a with
    | cons h1 a =>
      cases a
      cases h1 with
      | tup h1 a1 =>
        have e2 := a1.ints
        subst e2
        refine ⟨_, ns, rfl, ex_t s h1, fun ms l hp hs hl => ?_⟩
        have e3 : ms = sortI ns := sortI_unique (hp.trans (sortI_perm ns).symm) hs (sortI_sorted ns)
        subst e3
        exact q l _ hl (DaAll.of_ints _ _ _) (by rw [List.length_map, (sortI_perm ns).length_eq]; exact hz)) hg (by decide) (by decide) he
end
end G

set_option Elab.async false
set_option linter.all false
set_option maxRecDepth 100000
set_option pp.maxSteps 600
set_option maxHeartbeats 4000000
/-! dicts whose keys are tuples of pairs, whose values are lists -/
namespace G
open PySem PySem.Spec PyProof.Rows L2
abbrev Lt := List (Int × Int)
def nkP (p : Int × Int) : NestedKey := .tup [.num p.1, .num p.2]
def nk (l : Lt) : NestedKey := .tup (l.map nkP)
theorem nkP_inj {p q : Int × Int} (h : nkP p = nkP q) : p = q := by
  unfold nkP at h
  injection h with h
  injection h with h1 h
  injection h with h2 _
  injection h1 with h1
  injection h2 with h2
  exact Prod.ext h1 h2
theorem nk_inj {l m : Lt} (h : nk l = nk m) : l = m := by
  unfold nk at h
  injection h with h
  exact (List.map_inj_right fun _ _ => nkP_inj).mp h
theorem nk_depth (l : Lt) : (nk l).depth ≤ 8 := by
  have h : ∀ l : Lt, NestedKey.depthAll (l.map nkP) ≤ 1 := fun l => by
    induction l with
    | nil => simp [NestedKey.depthAll]
    | cons p l ih =>
      rw [List.map_cons, NestedKey.depthAll]
      have : (nkP p).depth = 1 := by simp [nkP, NestedKey.depth, NestedKey.depthAll]
      omega
  have := h l
  unfold nk
  rw [NestedKey.depth]
  omega
/-- at b stands the tuple of the pairs l -/
def KeyL (H : Hp) (b : Addr) (l : Lt) : Prop := ∃ bs : List Addr, H b = some (.tup (bs.map V.ref)) ∧ Paired (fun c (p : Int × Int) => H c = some (.tup [.int p.1, .int p.2])) bs l
theorem KeyL.mono {H H' : Hp} {b : Addr} {l : Lt} (k : KeyL H b l) (e : Ex H H') : KeyL H' b l := by
  obtain ⟨bs, h, p⟩ := k
  exact ⟨bs, e _ _ h, Paired.mapP p fun _ _ q => e _ _ q⟩
theorem keys_refs : ∀ {bs : List Addr} {us : List Value}, Vals (bs.map V.ref) us → us = bs.map Value.ref
  | [], us, r => by cases r; rfl
  | b :: bs, us, r => by
    rw [List.map_cons] at r
    cases r with
    | cons h t =>
      rw [keys_refs t]
      rw [show _ = Value.ref b from h]
      rfl
section
variable {P : Program} {w : World} {H : Hp} {h : Heap}
theorem pair_is (ok : HOk P w H h) {c : Addr} {p : Int × Int} (e : H c = some (.tup [.int p.1, .int p.2])) : NestedIs h (nkP p) (.ref c) := by
  obtain ⟨_, its, r, o, h1, h2, n, h3⟩ := (show ObjOk P w H h c (.tup [.int p.1, .int p.2]) from ok c _ e)
  cases r with
  | cons r1 r => cases r with
    | cons r2 r =>
      cases r
      obtain ⟨t1, rfl⟩ := (show ∃ t, _ = Value.int p.1 t from r1)
      obtain ⟨t2, rfl⟩ := (show ∃ t, _ = Value.int p.2 t from r2)
      exact .tup h1 h2 h3 (.cons (.int _ _) (.cons (.int _ _) .nil))
theorem pairs_is (ok : HOk P w H h) : ∀ {bs : List Addr} {l : Lt}, Paired (fun c (p : Int × Int) => H c = some (.tup [.int p.1, .int p.2])) bs l → NestedAll h (l.map nkP) (bs.map Value.ref)
  | _, _, .nil => .nil
  | _, _, .cons q t => .cons (pair_is ok q) (pairs_is ok t)
theorem KeyL.is (ok : HOk P w H h) {b : Addr} {l : Lt} (k : KeyL H b l) : (nestedKind P w).is h (nk l) b := by
  obtain ⟨bs, e, p⟩ := k
  obtain ⟨_, its, r, o, h1, h2, n, h3⟩ := (show ObjOk P w H h b (.tup (bs.map V.ref)) from ok b _ e)
  refine ⟨.tup h1 h2 h3 ?_, nk_depth l⟩
  rw [keys_refs r]
  simpa using pairs_is ok p
end
/-! ### the object -/
abbrev BX := List (Lt × Addr × Addr)
def rawX (xs : BX) : List (NestedKey × Addr × Value) := xs.map fun x => (nk x.1, x.2.1, Value.ref x.2.2)
def BLp (P : Program) (w : World) (a : Addr) (xs : BX) (h : Heap) : Prop := xs.length < sizeLine ∧ (a == sysModules) = false ∧ ∃ o es ep, h.get? a = some o ∧ o.ExactDict ∧ o.data = .dict es ep ∧ es.toList = (rawX xs).map (entryOfKey (nestedKind P w)) ∧ (xs.map (·.1)).Nodup
def BLO (P : Program) (w : World) (a : Addr) (xs : BX) : HO := .ext (BLp P w a xs)
theorem blo_ok {P : Program} {w : World} {H : Hp} {h : Heap} {a : Addr} {xs : BX} (q : BLp P w a xs h) : ObjOk P w H h a (BLO P w a xs) := by
  refine ⟨q, ?_, fun h1 h2 q1 k => ?_⟩
  · obtain ⟨_, _, o, _, _, e, _⟩ := q
    exact ⟨o, e⟩
  · obtain ⟨z, y, o, es, ep, e, r⟩ := q1
    exact ⟨z, y, o, es, ep, k o e, r⟩
theorem raw_nodup {xs : BX} (h : (xs.map (·.1)).Nodup) : ((rawX xs).map (·.1)).Nodup := by
  have e : (rawX xs).map (·.1) = (xs.map (·.1)).map nk := by unfold rawX; rw [List.map_map, List.map_map]; rfl
  rw [e, List.nodup_iff_pairwise_ne, List.pairwise_map]
  exact (List.nodup_iff_pairwise_ne.mp h).imp fun hne e => hne (nk_inj e)
theorem blo_get {X : Cx} {pins : List (Addr × Obj)} {σ : L2.St} {H : Hp} {s : Shared} {a : Addr} {xs : BX} (I : Inv X pins σ H s) (e : H a = some (BLO X.prog X.w a xs)) (hk : ∀ x ∈ xs, KeyL H x.2.1 x.1) : xs.length < sizeLine ∧ (a == sysModules) = false ∧ s.heap.DictOfH (nestedKind X.prog X.w) a (rawX xs) := by
  obtain ⟨z, y, o, es, ep, h1, h2, h3, h4, h5⟩ := (show ObjOk X.prog X.w H s.heap a (BLO X.prog X.w a xs) from I.hok a _ e).1
  refine ⟨z, y, o, es, ep, h1, h2, h3, h4, fun x hx => ?_, raw_nodup h5⟩
  obtain ⟨x', hx', rfl⟩ := List.mem_map.mp hx
  exact (hk x' hx').is I.hok
theorem blo_typeIs {X : Cx} {pins : List (Addr × Obj)} {σ : L2.St} {H : Hp} {s : Shared} {a : Addr} {xs : BX} (I : Inv X pins σ H s) (e : H a = some (BLO X.prog X.w a xs)) : s.TypeIs (.ref a) "dict" ∧ ∀ b, Value.ref a = .ref b → ∃ ob, s.heap.get? b = some ob ∧ ob.dict = none := by
  obtain ⟨z, y, o, es, ep, h1, h2, h3, h4, h5⟩ := (show ObjOk X.prog X.w H s.heap a (BLO X.prog X.w a xs) from I.hok a _ e).1
  refine ⟨⟨o, h1, h2.1⟩, fun b q => ?_⟩
  cases q
  exact ⟨o, h1, h2.2.1⟩
/-! ### what is found, what is stored -/
def bget (xs : BX) (l : Lt) : Option Addr := (xs.find? fun x => decide (x.1 = l)).map (·.2.2)
def bput (xs : BX) (l : Lt) (b v : Addr) : BX := if (bget xs l).isSome = true then xs.map (fun x => if x.1 = l then (x.1, x.2.1, v) else x) else xs ++ [(l, b, v)]
theorem raw_find (xs : BX) (l : Lt) : atKey (rawX xs) (nk l) = (xs.find? fun x => decide (x.1 = l)).map fun x => (x.2.1, Value.ref x.2.2) := by
  unfold atKey rawX
  induction xs with
  | nil => rfl
  | cons x xs ih =>
    rw [List.map_cons, List.find?_cons, List.find?_cons]
    by_cases c : x.1 = l
    · rw [decide_eq_true c, decide_eq_true (show nk x.1 = nk l by rw [c])]
      rfl
    · rw [decide_eq_false c, decide_eq_false (show ¬ nk x.1 = nk l from fun z => c (nk_inj z))]
      exact ih
theorem raw_val (xs : BX) (l : Lt) : (atKey (rawX xs) (nk l)).map (·.2) = (bget xs l).map Value.ref := by
  rw [raw_find]
  unfold bget
  cases xs.find? fun x => decide (x.1 = l) <;> rfl
theorem raw_put (xs : BX) (l : Lt) (b v : Addr) : storedH (rawX xs) (nk l) b (.ref v) = rawX (bput xs l b v) := by
  unfold storedH bput
  have e : (atKey (rawX xs) (nk l)).isSome = (bget xs l).isSome := by
    rw [raw_find]
    unfold bget
    cases xs.find? fun x => decide (x.1 = l) <;> rfl
  rw [e]
  split
  · unfold rawX
    rw [List.map_map, List.map_map]
    apply List.map_congr_left
    intro x _
    show putAt (nk l) (Value.ref v) (nk x.1, x.2.1, Value.ref x.2.2) = (nk (if x.1 = l then (x.1, x.2.1, v) else x).1, (if x.1 = l then (x.1, x.2.1, v) else x).2.1, Value.ref (if x.1 = l then (x.1, x.2.1, v) else x).2.2)
    unfold putAt
    by_cases c : x.1 = l
    · rw [if_pos c, if_pos (show nk x.1 = nk l by rw [c])]
    · rw [if_neg c, if_neg fun z => c (nk_inj z)]
  · unfold rawX
    rw [List.map_append]
    rfl
theorem bput_len (xs : BX) (l : Lt) (b v : Addr) : (bput xs l b v).length ≤ xs.length + 1 := by
  unfold bput
  split
  · rw [List.length_map]; omega
  · rw [List.length_append, List.length_singleton]; exact Nat.le_refl _
theorem bput_keys (xs : BX) (l : Lt) (b v : Addr) : (bput xs l b v).map (·.1) = if (bget xs l).isSome = true then xs.map (·.1) else xs.map (·.1) ++ [l] := by
  unfold bput
  split
  · rw [List.map_map]
    apply List.map_congr_left
    intro x _
    show (if x.1 = l then (x.1, x.2.1, v) else x).1 = x.1
    split <;> rfl
  · rw [List.map_append]; rfl
theorem bput_nodup {xs : BX} {l : Lt} {b v : Addr} (h : (xs.map (·.1)).Nodup) : ((bput xs l b v).map (·.1)).Nodup := by
  rw [bput_keys]
  split
  · exact h
  · rename_i c
    refine List.nodup_append.mpr ⟨h, by simp, fun x hx y hy e => ?_⟩
    rw [List.mem_singleton.mp hy] at e
    subst e
    obtain ⟨z, hz, ez⟩ := List.mem_map.mp hx
    apply c
    unfold bget
    cases q : xs.find? fun y => decide (y.1 = x) with
    | some z => rfl
    | none => exact absurd (decide_eq_true ez) (List.find?_eq_none.mp q z hz)
/-! ### rules -/
section
variable {X : Cx} {pos : Pos}
theorem pe_bnew : PE X (.Dict [] [] pos) (fun _ H Q => ∀ p, H p = none → Q (.ref p) (upd H p (BLO X.prog X.w p []))) := ⟨fun pins s σ H Q I h =>
  wpAny_Dict_empty ⟨.ref s.heap.objs.size, _, I.laid (a := s.heap.objs.size) (o := BLO X.prog X.w s.heap.objs.size []) (t' := s.toks) (fun _ _ q => Heap.get?_push_of_some _ q) (Nat.le_refl _)
    (blo_ok ⟨by decide, beq_eq_false_iff_ne.mpr (Ne.symm (Nat.ne_of_lt I.big)), _, #[], 0, Heap.get?_push_size _ rfl, ⟨rfl, rfl, rfl⟩, rfl, rfl, List.nodup_nil⟩), rfl, h _ (I.hok.fresh (Nat.le_refl _))⟩⟩
variable {o e f i value : Expr} {apos cpos pos' : Pos} {td ty tx tv : TE}
/-- d.get(k, x) -/
def tBGet (P : Program) (w : World) (td ty tx : TE) : TE := fun σ H Q => td σ H fun x H1 => ∃ a xs0, x = .ref a ∧ H1 a = some (BLO P w a xs0) ∧ ty σ H1 fun y H2 => tx σ H2 fun z H3 => ∃ xs b l, H3 a = some (BLO P w a xs) ∧ (∀ x ∈ xs, KeyL H3 x.2.1 x.1) ∧ y = .ref b ∧ KeyL H3 b l ∧ Q (((bget xs l).map V.ref).getD z) H3
theorem pe_bget2 (hu : X.A.units + 64 < cLine) (ho : PE X o td) (he : PE X e ty) (hf : PE X f tx) (m : M2 X o "get" apos e f cpos) : PE X (.Call (.Attribute o "get" apos) [e, f] [] cpos) (tBGet X.prog X.w td ty tx) := by
  refine ⟨fun pins s σ H Q I h => ?_⟩
  refine wpAny_Call_method m.base m.few m.line PySem.F.plainAttrs_dict PySem.F.slot_dict_get PySem.F.type_dict_get (thn (ho.run pins s σ H _ I h) fun u s1 ⟨x, H1, I1, rx, a, xs0, ex, d, q1⟩ => ?_)
  subst ex
  obtain rfl : u = Value.ref a := rx
  obtain ⟨t1, t2⟩ := blo_typeIs I1 d
  refine ⟨t1, t2, ?_⟩
  rw [m.trees]
  refine Calls.callWith_builtin rfl (Calls.evalArgs_plain (Calls.spliced_cons (thn (he.run pins s1 σ H1 _ I1 q1) fun iv s2 ⟨y, H2, I2, ry, q2⟩ => Calls.spliced_cons (thn (hf.run pins s2 σ H2 _ I2 q2) fun fv s3 ⟨z, H3, I3, rz, xs, b, l, g, hk, ey, kl, q3⟩ => Calls.spliced_nil ?_))))
  subst ey
  cases (show iv = Value.ref b from ry)
  obtain ⟨few, hd, dd⟩ := blo_get I3 g hk
  refine call_meetsIn PySem.F.slot_dict_get dd.typeIs PySem.F.entry_dict_get (PySem.F.args_dict_get_3 _ _ _) (meetsH_dict_get_default (nestedKind X.prog X.w) a b hd fv) ⟨by show X.A.units + 1 + 8 < cLine; omega, nk l, rawX xs, kl.is I3.hok, dd, _, H3, I3.tok _, ?_, q3⟩
  rw [raw_val]
  cases bget xs l with
  | none => exact rz
  | some v => exact rfl
/-- d[k] -/
theorem pe_bitem (hu : X.A.units + 64 < cLine) (ho : PE X o td) (hi : PE X i ty) (hs : NoSl i) : PE X (.Subscript o i pos) (fun σ H Q => td σ H fun x H1 => ty σ H1 fun y H2 => ∃ a xs b l v, x = .ref a ∧ H2 a = some (BLO X.prog X.w a xs) ∧ (∀ x ∈ xs, KeyL H2 x.2.1 x.1) ∧ y = .ref b ∧ KeyL H2 b l ∧ bget xs l = some v ∧ Q (.ref v) H2) := by
  refine ⟨fun pins s σ H Q I h => ?_⟩
  refine subD_of PySem.F.slot_dict_getitem.lookup hs (thn (ho.run pins s σ H _ I h) fun u s1 ⟨x, H1, I1, rx, q1⟩ => thn (hi.run pins s1 σ H1 _ I1 q1) fun iv s2 ⟨y, H2, I2, ry, a, xs, b, l, v, ex, g, hk, ey, kl, hv, q2⟩ => ?_)
  subst ex ey
  obtain rfl : u = Value.ref a := rx
  cases (show iv = Value.ref b from ry)
  obtain ⟨few, hd, dd⟩ := blo_get I2 g hk
  refine ⟨(blo_typeIs I2 g).1, ?_⟩
  have hp := raw_val xs l
  rw [hv] at hp
  obtain ⟨p, hp, hp2⟩ := Option.map_eq_some_iff.mp hp
  refine wpAny_getItem_heap (by show X.A.units + 1 + 8 < cLine; omega) (kl.is I2.hok) dd hp ?_
  rw [hp2]
  exact ⟨.ref v, H2, I2.tok _, rfl, q2⟩
/-- d[k] = v -/
theorem ps_bput (hu : X.A.units + 64 < cLine) (ho : PE X o td) (hi : PE X i ty) (hv : PE X value tv) (hs : swapsWith value (some (.Subscript o i pos')) pos.line X.env = pure false) :
    PS X (.Assign [.Subscript o i pos'] value pos) (fun D σ H => tv σ H fun v H1 => td σ H1 fun x H2 => ty σ H2 fun y H3 => ∃ a xs b l c, x = .ref a ∧ H3 a = some (BLO X.prog X.w a xs) ∧ (∀ x ∈ xs, KeyL H3 x.2.1 x.1) ∧ xs.length + 1 < sizeLine ∧ y = .ref b ∧ KeyL H3 b l ∧ v = .ref c ∧ D.nx σ (upd H3 a (BLO X.prog X.w a (bput xs l b c)))) := by
  refine ⟨fun pins s σ H D I h => ?_⟩
  refine wpAny_Assign_Subscript (thn (hv.run pins s σ H _ I h) fun r s1 ⟨v, H1, I1, rv, q1⟩ => thn (ho.run pins s1 σ H1 _ I1 q1) fun u s2 ⟨x, H2, I2, rx, q2⟩ => thn (hi.run pins s2 σ H2 _ I2 q2) fun iv s3 ⟨y, H3, I3, ry, a, xs, b, l, c, ex, g, hk, hz, ey, kl, ec, q3⟩ => ?_) hs
  subst ex ey ec
  obtain rfl : u = Value.ref a := rx
  cases (show iv = Value.ref b from ry)
  cases (show r = Value.ref c from rv)
  obtain ⟨few, hd, dd⟩ := blo_get I3 g hk
  have hnd : (xs.map (·.1)).Nodup := by
    obtain ⟨_, _, _, _, _, _, _, _, _, h5⟩ := (show ObjOk X.prog X.w H3 s3.heap a (BLO X.prog X.w a xs) from I3.hok a _ g).1
    exact h5
  have hl := bput_len xs l b c
  refine wpAny_setItem_heap (hsz := by unfold rawX; rw [List.length_map]; omega) (by show X.A.units + 1 + 8 < cLine; omega) (kl.is I3.hok) dd fun h' dd' sb => ?_
  rw [raw_put] at dd'
  obtain ⟨q, es, ep, hq, h2, h3, h4, _, h5⟩ := dd'
  exact ⟨σ, _, d_write I3 (by rw [g]; exact True.intro) sb ⟨q, hq⟩ (blo_ok ⟨by omega, hd, q, es, ep, hq, h2, h3, h4, bput_nodup hnd⟩), q3⟩
end
end G

set_option Elab.async false
set_option linter.all false
set_option maxRecDepth 100000
set_option pp.maxSteps 900
set_option maxHeartbeats 4000000
namespace G
open PySem PyProof.Rows Srt SrtO
section
variable {prog : Program} {w : World} {A : Around} {E : Value → Shared → Prop} {s : Shared}
theorem gather_dict {d : Addr} {o : Obj} {es : Array DictEntry} {ep : Nat} {Q : List Value → Shared → Prop} (hh : A.handled = none) (lo : (d == sysModules) = false) (ho : s.heap.get? d = some o) (hx : o.ExactDict) (hd : o.data = .dict es ep) (few : es.size ≤ sizeLine)
    (q : ∀ h' tk, s.heap.objs.size < h'.objs.size → (∀ b u, s.heap.get? b = some u → h'.get? b = some u) → Q (es.toList.map (·.key)) { s with heap := h', toks := tk }) : wpAny (model prog w) A (collect (.ref d)) Q E s := by
  have go2 : (s.heap.push (seqObj "list" #[] 0)).get? d = some o := Heap.get?_push_of_some _ ho
  have new0 : (s.heap.push (seqObj "list" #[] 0)).get? s.heap.objs.size = some (seqObj "list" #[] 0) := Heap.get?_push_size _ rfl
  have ne : s.heap.objs.size ≠ d := fun e => Nat.lt_irrefl _ (e ▸ Heap.lt_size ho)
  unfold collect; refine wpAny_bind (wpAny_runValue (codeAny_builtin entry_proto_collect' ?_))
  show wpAny _ _ (do again (.builtin "list.__iadd__" ⟨[← newList [], .ref d], []⟩)) _ _ s
  refine wpAny_bind (wpAny_newList (wpAny_pure ⟨Code.quiet_builtin _ (by decide +kernel), codeAny_builtin entry_list_iadd' ?_⟩))
  rw [Around.under_plainId F.plain_list_iadd _]
  show wpAny _ A.in1 (Builtin.List.listExtendWith (.ref s.heap.objs.size) (.ref d) (.ref s.heap.objs.size)) _ _ _
  have fin : ∀ (r : Result) (s' : Shared), (∃ h' tk acc' c', r = .ok (.ret (.ref s.heap.objs.size)) ∧ s' = { s with heap := h', toks := tk } ∧ (∀ b o, b ≠ s.heap.objs.size → (s.heap.push (seqObj "list" #[] 0)).get? b = some o → h'.get? b = some o) ∧ h'.get? s.heap.objs.size = some { cls := .type "list", dict := none, data := .seq acc' c', slots := #[] } ∧ ItemsOf (fun i v => ∃ en : DictEntry, es[i]? = some en ∧ v = en.key) acc' es.size) →
      ∃ h' tk c', r = .ok (.ret (.ref s.heap.objs.size)) ∧ s' = { s with heap := h', toks := tk } ∧ h'.get? s.heap.objs.size = some { cls := .type "list", dict := none, data := .seq (es.toList.map (·.key)).toArray c', slots := #[] } ∧ ∀ b u, s.heap.get? b = some u → h'.get? b = some u := by
    rintro r s' ⟨h', tk, acc', c', er, es', keep, hS, acc⟩
    have ea : acc'.toList = es.toList.map (·.key) := by
      apply List.ext_getElem?
      intro j
      rw [List.getElem?_map]
      cases hj : acc'.toList[j]? with
      | none =>
        have h1 := List.getElem?_eq_none_iff.mp hj
        rw [Array.length_toList, acc.1] at h1
        rw [List.getElem?_eq_none (by rw [Array.length_toList]; exact h1)]
        rfl
      | some v =>
        obtain ⟨en, hen, hv⟩ := acc.2 j v (by rw [← Array.getElem?_toList]; exact hj)
        rw [Array.getElem?_toList, hen, hv]
        rfl
    refine ⟨h', tk, c', er, es', ?_, fun b u e => keep b u (fun z => Nat.lt_irrefl _ (z ▸ Heap.lt_size e)) (Heap.get?_push_of_some _ e)⟩
    rw [← ea, Array.toArray_toList]
    exact hS
  refine wpAny_mono (PySem.W.kdl_extend (s := { s with heap := s.heap.push (seqObj "list" #[] 0) }) (R := fun r s' => ∃ h' tk acc' c', r = .ok (.ret (.ref s.heap.objs.size)) ∧ s' = { s with heap := h', toks := tk } ∧ (∀ b o, b ≠ s.heap.objs.size → (s.heap.push (seqObj "list" #[] 0)).get? b = some o → h'.get? b = some o) ∧ h'.get? s.heap.objs.size = some { cls := .type "list", dict := none, data := .seq acc' c', slots := #[] } ∧ ItemsOf (fun i v => ∃ en : DictEntry, es[i]? = some en ∧ v = en.key) acc' es.size)
    (L2.kdl_raw lo hx hd) ?hh go2 s.heap.objs.size ne ne (.ref s.heap.objs.size) 0 new0 (fun h' tk acc' c' keep hS acc => ⟨h', tk, acc', c', rfl, rfl, keep, hS, acc⟩) few) ?_ ?_
  case hh => exact hh
  · have last : ∀ (r : Result) (s' : Shared), _ → (match r with
          | .ok (.ret v) => wpAny (model prog w) A (match v with
            | .ref a => do
              match (← load a).data with
              | .seq xs _ => pure xs.toList
              | _ => unsupported "internal:collect"
            | _ => unsupported "internal:collect") Q E s'
          | .ok _ => False
          | .error e => E e s') := fun r s' h => by
      obtain ⟨h', tk, c', rfl, rfl, hS, keep⟩ := fin r s' h
      refine wpAny_bind (wpAny_load hS ?_)
      show wpAny _ _ (pure (es.toList.map (·.key)).toArray.toList) Q E _
      exact wpAny_pure (by simpa using q h' tk (Heap.lt_size hS) keep)
    intro f s' h
    cases f with
    | done f => exact last _ _ h
    | again c' => exact ⟨h.1, codeAny_mono h.2 fun r s2 h2 => last r s2 h2⟩
  · intro e s' h
    obtain ⟨_, _, _, z, _⟩ := fin _ _ h
    cases z
theorem lot_alike (l m : Lt) : PySem.W.alike (eLot l) (eLot m) = true := PySem.W.DatumOrd.alike (PySem.W.Tup.mk l : PySem.W.Tup (Int × Int)) (PySem.W.Tup.mk m)
/-- sorted(d): its keys, in some order -/
theorem sorted_dict {R : Value → Lt → Prop} {bs : List Lt} {d : Addr} {o : Obj} {es : Array DictEntry} {ep : Nat} {Q : Value → Shared → Prop} (hh : A.handled = none) (lo : (d == sysModules) = false) (ho : s.heap.get? d = some o) (hx : o.ExactDict) (hd : o.data = .dict es ep) (few : es.size ≤ sizeLine)
    (e : PySem.W.EachIs R (es.toList.map (·.key)) bs) (er : PySem.W.EachIs (fun v b => Reads s.heap v (eLot b) []) (es.toList.map (·.key)) bs) (ne : ∀ b ∈ bs, b ≠ []) (hu : A.units + 70 < cLine)
    (q : ∀ h' tk p out c, (∀ b u, s.heap.get? b = some u → h'.get? b = some u) → s.heap.objs.size ≤ p → h'.get? p = some (seqObj "list" (List.toArray out) c) → out.length = bs.length → PySem.W.EachIs R out (bs.mergeSort (PySem.W.dataLe false eLot)) → Q (.ref p) { s with heap := h', toks := tk }) : wpAny (model prog w) A (call (.builtin "sorted") [.ref d]) Q E s := by
  refine Calls.call_function_entry kind_sorted plain_sorted entry_sorted (args_sorted1 _) ?_
  have lv : (es.toList.map (·.key)).length ≤ sizeLine := by rw [List.length_map, Array.length_toList]; exact few
  unfold Builtin.«sorted»
  refine wpAny_bind (m := checkCount "sorted" 1 1 _) (wpAny_pure (wpAny_bind (gather_dict ?hh lo ho hx hd few fun h' tk big keep => wpAny_bind (wpAny_newList ?_ lv))))
  case hh => exact hh
  generalize hv : es.toList.map (·.key) = vs at *
  have top : (h'.push (seqObj "list" vs.toArray 0)).get? h'.objs.size = some (seqObj "list" vs.toArray 0) := Heap.get?_push_size _ rfl
  have old : ∀ b u, s.heap.get? b = some u → (h'.push (seqObj "list" vs.toArray 0)).get? b = some u := fun b u z => Heap.get?_push_of_some _ (keep b u z)
  have er2 : PySem.W.EachIs (fun v b => ∃ as, Reads (h'.push (seqObj "list" vs.toArray 0)) v (eLot b) as ∧ h'.objs.size ∉ as) vs bs := er.mono fun _ _ r => ⟨[], PyProof.Rows.Reads.keeps old r, by simp⟩
  refine wpAny_bind (wpAny_holding (PySem.W.list_sort_data top e er2 (PySem.W.AllAlike.of lot_alike) (.inl fun d hd => ?_) ?_ ?_ fun out hl hr => ?_))
  · obtain ⟨b, hb, rfl⟩ := List.mem_map.mp hd
    cases b with
    | nil => exact absurd rfl (ne _ hb)
    | cons p l => exact ⟨_, _, rfl⟩
  · rw [← e.length]; exact lv
  · intro b hb
    have h1 : (eLot b).depth ≤ 3 := by
      show PyData.depth (.tuple (ePs b)) ≤ 3
      simp only [PyData.depth]
      have := depth_Ps b
      omega
    show A.units + 1 + 1 + (eLot b).depth < cLine
    omega
  · obtain ⟨c, hc⟩ := sortedHeap_at (out := out.toArray) top
    refine wpAny_pure ⟨_, rfl, q _ tk h'.objs.size out c (fun b u z => ?_) ?_ hc hl hr⟩
    · have hb := Heap.lt_size (keep b u z)
      rw [sortedHeap_old (Nat.ne_of_lt hb) (by rw [Heap.size_push]; exact Nat.lt_succ_of_lt hb)]
      exact old b u z
    · exact Nat.le_of_lt big
end
end G

set_option Elab.async false
set_option linter.all false
set_option maxRecDepth 100000
set_option pp.maxSteps 600
set_option maxHeartbeats 4000000
namespace G
open PySem PySem.Spec L2 PyProof.Rows
theorem reads_two {h : Heap} {a b : Int} : ∀ {L : List Value} {as : List Addr}, ReadsAll h L [.int a, .int b] as → as = []
  | _, _, r => by
    cases r with
    | cons r1 r => cases r with
      | cons r2 r => cases r; cases r1; cases r2; rfl
theorem reads_flat {h : Heap} {v : Value} {p : Int × Int} {as : List Addr} (r : Reads h v (eP p) as) : as = [] := by
  cases r with
  | tuple _ _ _ r => exact reads_two r
theorem reads_all {h : Heap} : ∀ {l : Lt} {vs : List Value} {as : List Addr}, ReadsAll h vs (ePs l) as → as = []
  | [], _, _, r => by cases r; rfl
  | p :: l, _, _, r => by
    have r : ReadsAll h _ (eP p :: ePs l) _ := r
    cases r with
    | cons r1 r2 => rw [reads_flat r1, reads_all r2]; rfl
theorem reads_lot {h : Heap} {v : Value} {l : Lt} {as : List Addr} (r : Reads h v (eLot l) as) : as = [] := by
  cases r with
  | tuple _ _ _ r => exact reads_all r
def rSortedB (K : PySem.W.Frag) (P : Program) (w : World) : List V → Hp → VK → Prop := fun vs H Q => ∃ (a : Addr) (xs : BX), vs = [V.ref a] ∧ H a = some (BLO P w a xs) ∧ (∀ x ∈ xs, Dp K H (.ref x.2.1) (eLot x.1)) ∧ (∀ x ∈ xs, x.1 ≠ []) ∧
  ∀ (ys : List Addr) (ls : List Lt) (p : Addr), H p = none → Paired (fun y l => ∃ x ∈ xs, x.1 = l ∧ x.2.1 = y) ys ls → ls.Perm (xs.map (·.1)) → Q (.ref p) (upd H p (.lst (ys.map V.ref)))
theorem each_refs {xs : BX} : ∀ {out : List Value} {ls : List Lt}, PySem.W.EachIs (fun v l => ∃ x ∈ xs, x.1 = l ∧ v = Value.ref x.2.1) out ls → ∃ ys : List Addr, out = ys.map Value.ref ∧ Paired (fun y l => ∃ x ∈ xs, x.1 = l ∧ x.2.1 = y) ys ls
  | _, _, .nil => ⟨[], rfl, .nil⟩
  | _, _, .cons ⟨x, hx, e1, e2⟩ t => by
    obtain ⟨ys, e3, p⟩ := each_refs t
    exact ⟨x.2.1 :: ys, by rw [e2, e3]; rfl, .cons ⟨x, hx, e1, rfl⟩ p⟩
theorem vals_of_refs2 : ∀ ys : List Addr, Vals (ys.map V.ref) (ys.map Value.ref)
  | [] => .nil
  | _ :: ys => .cons rfl (vals_of_refs2 ys)
theorem each_of {α β γ : Type} {R : β → γ → Prop} {f : α → β} {g : α → γ} : ∀ {l : List α}, (∀ x ∈ l, R (f x) (g x)) → PySem.W.EachIs R (l.map f) (l.map g)
  | [], _ => .nil
  | x :: l, h => .cons (h x List.mem_cons_self) (each_of fun y hy => h y (List.mem_cons_of_mem _ hy))
theorem cr_sortedB {X : Cx} (hc : X.calm = true) (hu : X.A.units + 70 < cLine) : CallR X (.builtin "sorted") (rSortedB X.K X.prog X.w) := by
  intro pins s σ H vs us Q I r h
  obtain ⟨a, xs, rfl, ha, hk, hne, q⟩ := h
  rw [Vals.ref1 r]
  obtain ⟨z, lo, o, es, ep, h1, h2, h3, h4, h5⟩ := (show ObjOk X.prog X.w H s.heap a (BLO X.prog X.w a xs) from I.hok a _ ha).1
  have ek : es.toList.map (·.key) = xs.map fun x => Value.ref x.2.1 := by
    rw [h4]
    unfold rawX
    rw [List.map_map, List.map_map]
    rfl
  have few : es.size ≤ sizeLine := by
    have := congrArg List.length ek
    rw [List.length_map, List.length_map, Array.length_toList] at this
    omega
  refine sorted_dict (R := fun v l => ∃ x ∈ xs, x.1 = l ∧ v = Value.ref x.2.1) (bs := xs.map (·.1)) (I.ok.hd hc) lo h1 h2 h3 few ?_ ?_ ?_ hu fun h' tk p out c keep hge hg hl hr => ?_
  · rw [ek]
    exact each_of fun x hx => ⟨x, hx, rfl, rfl⟩
  · rw [ek]
    refine each_of fun x hx => ?_
    obtain ⟨as, r⟩ := Dp.reads I (eLot x.1) (.ref x.2.1) (.ref x.2.1) (hk x hx) rfl
    rw [reads_lot r] at r
    exact r
  · intro b hb
    obtain ⟨x, hx, rfl⟩ := List.mem_map.mp hb
    exact hne x hx
  · obtain ⟨ys, eo, pr⟩ := each_refs hr
    have hz : (ys.map V.ref).length ≤ sizeLine := by
      rw [List.length_map]
      have e1 := congrArg List.length eo
      rw [List.length_map] at e1
      rw [List.length_map] at hl
      omega
    refine ⟨.ref p, upd H p (.lst (ys.map V.ref)), I.laid (t' := tk) (o := .lst (ys.map V.ref)) keep hge ⟨hz, out, c, by rw [eo]; exact vals_of_refs2 ys, hg⟩, rfl, q ys _ p (I.hok.fresh hge) pr (List.mergeSort_perm _ _)⟩
end G

set_option Elab.async false
set_option linter.all false
set_option maxRecDepth 100000
set_option pp.maxSteps 600
set_option maxHeartbeats 4000000
namespace G
open PySem PySem.Spec L2
/-! ### the owned dict by lots, as data -/
abbrev BK := List (Lt × List PyData)
def bvals (xs : BX) : List V := xs.flatMap fun x => [V.ref x.2.1, V.ref x.2.2]
def bdata (kvs : BK) : List PyData := kvs.flatMap fun p => [eLot p.1, .list p.2]
def IsB (P : Program) (w : World) (l : Addr) (c : Cn) (kvs : BK) : Prop := ∃ xs : BX, c = .E (BLO P w l xs) (bvals xs) (bdata kvs) ∧ xs.map (·.1) = kvs.map (·.1)
def gget (kvs : BK) (l : Lt) : Option (List PyData) := (kvs.find? fun p => decide (p.1 = l)).map (·.2)
def gput (kvs : BK) (l : Lt) (ds : List PyData) : BK := if (gget kvs l).isSome = true then kvs.map (fun p => if p.1 = l then (p.1, ds) else p) else kvs ++ [(l, ds)]
abbrev BR (K : PySem.W.Frag) (R : Hp) : BX → BK → Prop := Paired fun x p => x.1 = p.1 ∧ Da K R (.ref x.2.1) (eLot p.1) ∧ Da K R (.ref x.2.2) (.list p.2)
theorem br_of {K : PySem.W.Frag} {R : Hp} : ∀ {xs : BX} {kvs : BK}, xs.map (·.1) = kvs.map (·.1) → DaAll K R (bvals xs) (bdata kvs) → BR K R xs kvs
  | [], [], _, _ => .nil
  | [], _ :: _, e, _ => by cases e
  | _ :: _, [], e, _ => by cases e
  | x :: xs, p :: kvs, e, a => by
    rw [List.map_cons, List.map_cons] at e
    injection e with e1 e2
    have a : DaAll K R (V.ref x.2.1 :: V.ref x.2.2 :: bvals xs) (eLot p.1 :: .list p.2 :: bdata kvs) := a
    cases a with
    | cons h1 a => cases a with
      | cons h2 a => exact .cons ⟨e1, h1, h2⟩ (br_of e2 a)
theorem br_all {K : PySem.W.Frag} {R : Hp} : ∀ {xs : BX} {kvs : BK}, BR K R xs kvs → xs.map (·.1) = kvs.map (·.1) ∧ DaAll K R (bvals xs) (bdata kvs)
  | _, _, .nil => ⟨rfl, .nil⟩
  | x :: xs, p :: kvs, .cons ⟨e1, h1, h2⟩ t => by
    obtain ⟨e, a⟩ := br_all t
    exact ⟨by rw [List.map_cons, List.map_cons, e1, e], .cons h1 (.cons h2 a)⟩
theorem br_key {K : PySem.W.Frag} {R : Hp} : ∀ {xs : BX} {kvs : BK}, BR K R xs kvs → ∀ x ∈ xs, Da K R (.ref x.2.1) (eLot x.1)
  | _, _, .nil, x, hx => by cases hx
  | y :: xs, p :: kvs, .cons ⟨e1, h1, h2⟩ t, x, hx => by
    rcases List.mem_cons.mp hx with rfl | hx
    · rw [e1]; exact h1
    · exact br_key t x hx
theorem br_find {K : PySem.W.Frag} {R : Hp} {l : Lt} : ∀ {xs : BX} {kvs : BK}, BR K R xs kvs → (bget xs l = none ∧ gget kvs l = none) ∨ ∃ v ds, bget xs l = some v ∧ gget kvs l = some ds ∧ Da K R (.ref v) (.list ds)
  | _, _, .nil => .inl ⟨rfl, rfl⟩
  | x :: xs, p :: kvs, .cons ⟨e1, h1, h2⟩ t => by
    unfold bget gget
    rw [List.find?_cons, List.find?_cons]
    by_cases c : x.1 = l
    · rw [decide_eq_true c, decide_eq_true (show p.1 = l by rw [← e1]; exact c)]
      exact .inr ⟨_, _, rfl, rfl, h2⟩
    · rw [decide_eq_false c, decide_eq_false (show ¬ p.1 = l by rw [← e1]; exact c)]
      exact br_find t
theorem br_map {K : PySem.W.Frag} {R : Hp} {l : Lt} {v : Addr} {ds : List PyData} (hv : Da K R (.ref v) (.list ds)) : ∀ {xs : BX} {kvs : BK}, BR K R xs kvs → BR K R (xs.map fun x => if x.1 = l then (x.1, x.2.1, v) else x) (kvs.map fun p => if p.1 = l then (p.1, ds) else p)
  | _, _, .nil => .nil
  | x :: xs, p :: kvs, .cons ⟨e1, h1, h2⟩ t => by
    refine .cons ?_ (br_map hv t)
    simp only
    by_cases c : x.1 = l
    · rw [if_pos c, if_pos (show p.1 = l by rw [← e1]; exact c)]
      exact ⟨e1, h1, hv⟩
    · rw [if_neg c, if_neg (show ¬ p.1 = l by rw [← e1]; exact c)]
      exact ⟨e1, h1, h2⟩
theorem br_snoc {K : PySem.W.Frag} {R : Hp} {x : Lt × Addr × Addr} {p : Lt × List PyData} (h : x.1 = p.1 ∧ Da K R (.ref x.2.1) (eLot p.1) ∧ Da K R (.ref x.2.2) (.list p.2)) : ∀ {xs : BX} {kvs : BK}, BR K R xs kvs → BR K R (xs ++ [x]) (kvs ++ [p])
  | _, _, .nil => .cons h .nil
  | _, _, .cons q t => .cons q (br_snoc h t)
theorem br_put {K : PySem.W.Frag} {R : Hp} {xs : BX} {kvs : BK} {l : Lt} {b v : Addr} {ds : List PyData} (h : BR K R xs kvs) (hb : Da K R (.ref b) (eLot l)) (hv : Da K R (.ref v) (.list ds)) : BR K R (bput xs l b v) (gput kvs l ds) := by
  unfold bput gput
  rcases br_find (l := l) h with ⟨e1, e2⟩ | ⟨_, _, e1, e2, _⟩
  · rw [e1, e2]
    exact br_snoc ⟨rfl, hb, hv⟩ h
  · rw [e1, e2]
    exact br_map hv h
theorem pairs_keys {K : PySem.W.Frag} {R : Hp} : ∀ {l : Lt} {vs : List V}, DaAll K R vs (ePs l) → ∃ bs : List Addr, vs = bs.map V.ref ∧ Paired (fun c (p : Int × Int) => R c = some (.tup [.int p.1, .int p.2])) bs l
  | [], _, a => by cases a; exact ⟨[], rfl, .nil⟩
  | p :: l, _, a => by
    have a : DaAll K R _ (eP p :: ePs l) := a
    cases a with
    | cons h a =>
      obtain ⟨bs, e, q⟩ := pairs_keys a
      cases h with
      | tup h1 w =>
        cases w with
        | cons w1 w => cases w with
          | cons w2 w =>
            cases w
            cases w1
            cases w2
            exact ⟨_ :: bs, by rw [e]; rfl, .cons h1 q⟩
theorem da_keyL {K : PySem.W.Frag} {R H : Hp} {b : Addr} {l : Lt} (s : Ex R H) (h : Da K R (.ref b) (eLot l)) : KeyL H b l := by
  have h' : Da K R (.ref b) (.tuple (ePs l)) := h
  cases h' with
  | tup h1 a =>
    obtain ⟨bs, e, q⟩ := pairs_keys a
    subst e
    exact ⟨bs, s _ _ h1, Paired.mapP q fun _ _ z => s _ _ z⟩
theorem da_lot_ref {K : PySem.W.Frag} {R : Hp} {v : V} {l : Lt} (h : Da K R v (eLot l)) : ∃ b, v = .ref b := by
  have h' : Da K R v (.tuple (ePs l)) := h
  cases h'
  exact ⟨_, rfl⟩
theorem da_list_ref {K : PySem.W.Frag} {R : Hp} {v : V} {ds : List PyData} (h : Da K R v (.list ds)) : ∃ b, v = .ref b := by
  cases h
  exact ⟨_, rfl⟩
section
variable {X : Cx} {Γ : List Sl} {O : Own} {D : Nds} {e ei f : Expr} {pos : Pos} {x : Str}
/-- name = {} -/
theorem s_newB (i : Nat) {pos' dpos : Pos} (hN : X.N.Nodup) (q : ∀ l c, IsB X.prog X.w l c [] → D.nx (Γ.set i (.ow l)) (O ++ [(l, c)])) (hi : X.N[i]? = some x := by rfl) (hx : Loc X.env.scope x := by first | exact .inl rfl | exact .inr rfl) (hs : swapsWith (.Dict [] [] dpos) (some (.Name x pos')) pos.line X.env = pure false := by rfl)
    (hf : X.fn x = true ∨ X.env.scope.names.lookup x = some .local := by first | exact .inl rfl | exact .inr rfl) : GS X Γ O (.Assign [.Name x pos'] (.Dict [] [] dpos) pos) D := ⟨fun B σ R H o => (ps_set hN hi hx pe_bnew hs hf).re fun p hp =>
  ⟨R, _, _, (o.own1C (cn := .E (BLO X.prog X.w p []) (bvals []) (bdata [])) (Grow.junk o.sub (.new hp)) (ex_none o.sub hp) hp ⟨upd_same, .nil⟩).set (s := .ow p) i rfl, q p _ ⟨[], rfl, rfl⟩⟩⟩
/-- d.get(k, x) -/
theorem ge_getB {P : PyData → Own → Prop} (i : Nat) {lf : Addr} {c : Cn} {kvs : BK} {l : Lt} {ds0 : List PyData} {p1 apos cpos : Pos} (hu : X.A.units + 64 < cLine) (h0 : Γ[i]? = some (.ow lf)) (hO : (lf, c) ∈ O) (hB : IsB X.prog X.w lf c kvs) (hk : GP X Γ e (eLot l)) (hf : GP X Γ f (.list ds0))
    (q : P (.list ((gget kvs l).getD ds0)) O) (m : M2 X (.Name x p1) "get" apos e f cpos) (hN : X.N[i]? = some x := by rfl) (hv : Vis X.env.scope x := by first | exact Or.inl rfl | exact Or.inr (Or.inl rfl) | exact Or.inr (Or.inr rfl)) (hd : (x == ("__debug__" : Str)) = false := by decide) (hcd : (x == ("__classdict__" : Str)) = false := by decide) :
    GE X Γ O (.Call (.Attribute (.Name x p1) "get" apos) [e, f] [] cpos) P := ⟨fun B σ R H o => by
  obtain ⟨xs, ec, ek⟩ := hB
  subst ec
  refine (pe_bget2 hu (pe_var hN hv hd hcd) pe_re pe_re m).re ⟨.ref lf, o.getO h0, lf, xs, rfl, (o.own _ hO).1.1, (hk.run σ R H o.sub o.sl).mono fun y H1 ⟨R1, g1, y1⟩ => ?_⟩
  have o1 := o.grow g1
  refine (hf.run σ R1 H1 o1.sub o1.sl).mono fun z H2 ⟨R2, g2, z2⟩ => ?_
  have o2 := o1.grow g2
  obtain ⟨⟨hh, ha⟩, _, _⟩ := o2.own _ hO
  have br := br_of ek ha
  have y2 := y1.mono g2.r
  obtain ⟨b, rfl⟩ := da_lot_ref y2
  refine ⟨xs, b, l, hh, fun x hx => da_keyL o2.sub (br_key br x hx), rfl, da_keyL o2.sub y2, R2, O, _, g1.r.trans g2.r, o2, ?_, q⟩
  rcases br_find (l := l) br with ⟨e1, e2⟩ | ⟨v, ds, e1, e2, hv⟩
  · rw [e1, e2]; exact z2
  · rw [e1, e2]; exact hv⟩
/-- d[k] -/
theorem ge_itemB {P : PyData → Own → Prop} (i : Nat) {lf : Addr} {c : Cn} {kvs : BK} {l : Lt} {ds : List PyData} {p1 : Pos} (hu : X.A.units + 64 < cLine) (h0 : Γ[i]? = some (.ow lf)) (hO : (lf, c) ∈ O) (hB : IsB X.prog X.w lf c kvs) (hk : GP X Γ e (eLot l)) (hg : gget kvs l = some ds)
    (q : P (.list ds) O) (hN : X.N[i]? = some x := by rfl) (hv : Vis X.env.scope x := by first | exact Or.inl rfl | exact Or.inr (Or.inl rfl) | exact Or.inr (Or.inr rfl)) (hd : (x == ("__debug__" : Str)) = false := by decide) (hcd : (x == ("__classdict__" : Str)) = false := by decide) (hs : NoSl e := by exact fun _ _ => rfl) :
    GE X Γ O (.Subscript (.Name x p1) e pos) P := ⟨fun B σ R H o => by
  obtain ⟨xs, ec, ek⟩ := hB
  subst ec
  refine (pe_bitem hu (pe_var hN hv hd hcd) pe_re hs).re ⟨.ref lf, o.getO h0, (hk.run σ R H o.sub o.sl).mono fun y H1 ⟨R1, g1, y1⟩ => ?_⟩
  have o1 := o.grow g1
  obtain ⟨⟨hh, ha⟩, _, _⟩ := o1.own _ hO
  have br := br_of ek ha
  obtain ⟨b, rfl⟩ := da_lot_ref y1
  rcases br_find (l := l) br with ⟨e1, e2⟩ | ⟨v, ds', e1, e2, hv⟩
  · rw [hg] at e2; cases e2
  · rw [hg] at e2
    cases e2
    exact ⟨lf, xs, b, l, v, rfl, hh, fun x hx => da_keyL o1.sub (br_key br x hx), rfl, da_keyL o1.sub y1, e1, R1, O, _, g1.r, o1, hv, q⟩⟩
/-- d[k] = v -/
theorem s_putB (i : Nat) {lf : Addr} {p1 p2 : Pos} (hu : X.A.units + 64 < cLine) (h0 : Γ[i]? = some (.ow lf)) (h : GE X Γ O e fun d O1 => GE X Γ O1 ei fun d2 O2 => ∃ ds l kvs j c, d = .list ds ∧ d2 = eLot l ∧ O2[j]? = some (lf, c) ∧ IsB X.prog X.w lf c kvs ∧ kvs.length + 1 < sizeLine ∧ ∀ c', IsB X.prog X.w lf c' (gput kvs l ds) → D.nx Γ (O2.set j (lf, c'))) (hN : X.N[i]? = some x := by rfl)
    (hv : Vis X.env.scope x := by first | exact Or.inl rfl | exact Or.inr (Or.inl rfl) | exact Or.inr (Or.inr rfl)) (hd : (x == ("__debug__" : Str)) = false := by decide) (hcd : (x == ("__classdict__" : Str)) = false := by decide)
    (hs : swapsWith e (some (.Subscript (.Name x p1) ei p2)) pos.line X.env = pure false := by rfl) : GS X Γ O (.Assign [.Subscript (.Name x p1) ei p2] e pos) D := ⟨fun B σ R H o =>
  (ps_bput hu (pe_var hN hv hd hcd) pe_re pe_re hs).re ((h.run B σ R H o).mono fun y H1 ⟨R1, O1, d, e1, o1, x1, q1⟩ => ⟨.ref lf, o1.getO h0, (q1.run B σ R1 H1 o1).mono fun z H2 ⟨R2, O2, d2, e2, o2, x2, ds, l, kvs, j, c, ev, ek, hj, hB, hz, q⟩ => by
    subst ev ek
    obtain ⟨xs, ec, eks⟩ := hB
    subst ec
    obtain ⟨⟨hl, ha⟩, _, _⟩ := o2.own _ (List.mem_of_getElem? hj)
    have br := br_of eks ha
    have x1 := x1.mono e2
    obtain ⟨v, rfl⟩ := da_list_ref x1
    obtain ⟨b, rfl⟩ := da_lot_ref x2
    have br2 := br_put br x2 x1
    obtain ⟨ek2, ha2⟩ := br_all br2
    have lx : xs.length = kvs.length := by have := congrArg List.length eks; rwa [List.length_map, List.length_map] at this
    exact ⟨lf, xs, b, l, v, rfl, hl, fun x hx => da_keyL o2.sub (br_key br x hx), by omega, rfl, da_keyL o2.sub x2, rfl, R2, Γ, _, o2.put (c' := .E (BLO X.prog X.w lf (bput xs l b v)) (bvals (bput xs l b v)) (bdata (gput kvs l ds))) hj ⟨upd_same, ha2⟩, q _ ⟨_, rfl, ek2⟩⟩⟩)⟩
theorem paired_lots {K : PySem.W.Frag} {R : Hp} {xs : BX} (h : ∀ x ∈ xs, Da K R (.ref x.2.1) (eLot x.1)) : ∀ {ys : List Addr} {ls : List Lt}, Paired (fun y l => ∃ x ∈ xs, x.1 = l ∧ x.2.1 = y) ys ls → DaAll K R (ys.map V.ref) (ls.map eLot)
  | _, _, .nil => .nil
  | _, _, .cons ⟨x, hx, e1, e2⟩ t => by
    subst e1 e2
    exact .cons (h x hx) (paired_lots h t)
/-- sorted(d) -/
theorem gl_sortedB {P : List PyData → Own → Prop} (i : Nat) {lf : Addr} {c : Cn} {kvs : BK} {p p1 : Pos} (hu : X.A.units + 70 < cLine) (hm : X.mg "sorted" = none) (h0 : Γ[i]? = some (.ow lf)) (hO : (lf, c) ∈ O) (hB : IsB X.prog X.w lf c kvs) (hne : ∀ p ∈ kvs, p.1 ≠ [])
    (q : ∀ ls : List Lt, ls.Perm (kvs.map (·.1)) → P (ls.map eLot) O) (hc : X.calm = true := by rfl) (hN : X.N[i]? = some x := by rfl) (hv : Vis X.env.scope x := by first | exact Or.inl rfl | exact Or.inr (Or.inl rfl) | exact Or.inr (Or.inr rfl)) (hd : (x == ("__debug__" : Str)) = false := by decide) (hcd : (x == ("__classdict__" : Str)) = false := by decide)
    (hg : Gl X "sorted" := by rfl) (he : starEach [.Name x p1] X.env = (false, eval (.Name x p1) X.env) :: starEach [] X.env := by rfl) : GL X Γ O (.Call (.Name "sorted" p) [.Name x p1] [] pos) P := ⟨fun B σ R H o => by
  obtain ⟨xs, ec, ek⟩ := hB
  subst ec
  obtain ⟨⟨hh, ha⟩, _, _⟩ := o.own _ hO
  have br := br_of ek ha
  refine (pe_callB (cr_sortedB hc hu) hg hm PyProof.Rows.boot_sorted (pa_cons (pe_var hN hv hd hcd) pa_nil he) (by decide) (by decide) he).re ⟨.ref lf, o.getO h0, lf, xs, rfl, hh, fun x hx => (br_key br x hx).dp o.sub (SeqAt.canLay_of_shaped (shaped_lot _)), fun x hx => ?_, fun ys ls p hp pr hperm => ?_⟩
  · have hx1 : x.1 ∈ xs.map (·.1) := List.mem_map.mpr ⟨x, hx, rfl⟩
    rw [ek] at hx1
    obtain ⟨z, hz, ez⟩ := List.mem_map.mp hx1
    rw [← ez]
    exact hne z hz
  · rw [ek] at hperm
    exact ⟨R, O, p, ls.map eLot, rfl, .refl _, o.own1 (Grow.junk o.sub (.new hp)) (ex_none o.sub hp) hp upd_same (paired_lots (br_key br) pr), q ls hperm⟩⟩
/-- an owned thing handed back -/
theorem s_retO (i : Nat) {l : Addr} {p1 : Pos} (h0 : Γ[i]? = some (.ow l)) (q : D.rt (.ow l) O) (hN : X.N[i]? = some x := by rfl) (hv : Vis X.env.scope x := by first | exact Or.inl rfl | exact Or.inr (Or.inl rfl) | exact Or.inr (Or.inr rfl)) (hd : (x == ("__debug__" : Str)) = false := by decide) (hcd : (x == ("__classdict__" : Str)) = false := by decide) :
    GS X Γ O (.Return (some (.Name x p1)) pos) D := ⟨fun B σ R H o => (ps_ret (pe_var hN hv hd hcd)).re ⟨.ref l, o.getO h0, R, O, .ow l, okNil o, rfl, q⟩⟩
/-- name = f(..), an owned thing handed back -/
theorem s_callO {g : Str} {k : Nat} {C : Ctr} {es : List Expr} {ds : List PyData} {p cpos : Pos} (i : Nat) {pos' : Pos} (hN : X.N.Nodup) (Df : Def X.prog X.w X.K X.mg X.base g k C) (hr : Room k X.A) (ha : GPA X Γ (e :: es) ds) (hC : C (ds.map .sh) [] fun r L' => ∃ l c, r = .ow l ∧ L' = [(l, c)] ∧ D.nx (Γ.set i (.ow l)) (O ++ [(l, c)]))
    (hi : X.N[i]? = some x := by rfl) (hx : Loc X.env.scope x := by first | exact .inl rfl | exact .inr rfl) (hs : swapsWith (.Call (.Name g p) (e :: es) [] cpos) (some (.Name x pos')) pos.line X.env = pure false := by rfl)
    (hf : X.fn x = true ∨ X.env.scope.names.lookup x = some .local := by first | exact .inl rfl | exact .inr rfl) (hg : Gl X g := by rfl) (hdb : (g == ("__debug__" : Str)) = false := by decide)
    (he : starEach (e :: es) X.env = (false, eval e X.env) :: starEach es X.env := by rfl) (hpl : (backTo cpos (starEach es X.env)).any (·.1) = false := by rfl) : GS X Γ O (.Assign [.Name x pos'] (.Call (.Name g p) (e :: es) [] cpos) pos) D := by
  obtain ⟨f, fd, ps, F, hm, hk, hb⟩ := Df
  refine ⟨fun B σ R H o => (ps_set hN hi hx (pe_call F hr hg hm hk hb .nil pass0 pa_re hdb he hpl) hs hf).re ((ha.run σ R H o.sub o.sl).mono fun vs H1 ⟨R1, g1, x1⟩ => ?_)⟩
  rw [List.append_nil]
  refine run_call (L := []) (F := O) (o.grow g1) (.refl _) x1.sh hC fun r L' v R' H' ⟨l, c, er, eL, q⟩ r1 o' hv => ?_
  subst er eL
  exact ⟨R', _, _, (o'.perm (List.perm_append_comm (l₁ := [(l, c)]) (l₂ := O))).set (s := .ow l) i hv, q⟩
end
end G

set_option Elab.async false
set_option linter.all false
set_option maxRecDepth 100000
set_option maxHeartbeats 4000000
namespace G
open PySem PySem.Spec L2
/-! the defs of the row by their places; each def's names by slots -/
def topS (i : Nat) : Stmt := PySem.Challenge.pw_roofsights_k05_whole_who_is_surely_highe.main.body.getD i (.Pass ⟨0, 0, 0, 0⟩)
abbrev s_is_from : Stmt := topS 7
abbrev N_is_from : List Str := ["thing", "low", "high"]
theorem sc_is_from : FnScope N_is_from ["thing", "low", "high"] (defScope s_is_from) := ⟨rfl, rfl, rfl, by decide +kernel, rfl, by decide +kernel, by decide +kernel⟩
abbrev s_is_rising : Stmt := topS 8
abbrev N_is_rising : List Str := ["things", "one", "other"]
theorem sc_is_rising : FnScope N_is_rising ["things"] (defScope s_is_rising) := ⟨rfl, rfl, rfl, by decide +kernel, rfl, by decide +kernel, by decide +kernel⟩
abbrev s_is_lot : Stmt := topS 9
abbrev N_is_lot : List Str := ["many", "thing", "pair"]
theorem sc_is_lot : FnScope N_is_lot ["many", "thing"] (defScope s_is_lot) := ⟨rfl, rfl, rfl, by decide +kernel, rfl, by decide +kernel, by decide +kernel⟩
abbrev s_need_many : Stmt := topS 10
abbrev N_need_many : List Str := ["many"]
theorem sc_need_many : FnScope N_need_many ["many"] (defScope s_need_many) := ⟨rfl, rfl, rfl, by decide +kernel, rfl, by decide +kernel, by decide +kernel⟩
abbrev s_need_lot : Stmt := topS 11
abbrev N_need_lot : List Str := ["many", "lot"]
theorem sc_need_lot : FnScope N_need_lot ["many", "lot"] (defScope s_need_lot) := ⟨rfl, rfl, rfl, by decide +kernel, rfl, by decide +kernel, by decide +kernel⟩
abbrev s_all_bars : Stmt := topS 12
abbrev N_all_bars : List Str := ["many", "lot", "found", "one", "other", "third", "fourth", "between", "place"]
theorem sc_all_bars : FnScope N_all_bars ["many", "lot"] (defScope s_all_bars) := ⟨rfl, rfl, rfl, by decide +kernel, rfl, by decide +kernel, by decide +kernel⟩
abbrev s_is_sound : Stmt := topS 13
abbrev N_is_sound : List Str := ["many", "lot"]
theorem sc_is_sound : FnScope N_is_sound ["many", "lot"] (defScope s_is_sound) := ⟨rfl, rfl, rfl, by decide +kernel, rfl, by decide +kernel, by decide +kernel⟩
abbrev s_amid : Stmt := topS 15
abbrev N_amid : List Str := ["lot", "low", "high", "some", "place"]
theorem sc_amid : FnScope N_amid ["lot", "low", "high"] (defScope s_amid) := ⟨rfl, rfl, rfl, by decide +kernel, rfl, by decide +kernel, by decide +kernel⟩
abbrev s_outer : Stmt := topS 16
abbrev N_outer : List Str := ["many", "lot", "found", "place", "one", "other"]
theorem sc_outer : FnScope N_outer ["many", "lot"] (defScope s_outer) := ⟨rfl, rfl, rfl, by decide +kernel, rfl, by decide +kernel, by decide +kernel⟩
abbrev s_under : Stmt := topS 17
abbrev N_under : List Str := ["lot", "low", "high", "above", "found", "place"]
theorem sc_under : FnScope N_under ["lot", "low", "high", "above", "found"] (defScope s_under) := ⟨rfl, rfl, rfl, by decide +kernel, rfl, by decide +kernel, by decide +kernel⟩
abbrev s_tree_of : Stmt := topS 18
abbrev N_tree_of : List Str := ["many", "lot", "top", "row", "at", "found", "spot"]
theorem sc_tree_of : FnScope N_tree_of ["many", "lot", "top"] (defScope s_tree_of) := ⟨rfl, rfl, rfl, by decide +kernel, rfl, by decide +kernel, by decide +kernel⟩
abbrev s_above_all : Stmt := topS 19
abbrev N_above_all : List Str := ["tree", "house", "found"]
theorem sc_above_all : FnScope N_above_all ["tree", "house"] (defScope s_above_all) := ⟨rfl, rfl, rfl, by decide +kernel, rfl, by decide +kernel, by decide +kernel⟩
abbrev s_orders_by : Stmt := topS 20
abbrev N_orders_by : List Str := ["many", "tree", "sizes", "house", "higher_one", "found", "number", "size"]
theorem sc_orders_by : FnScope N_orders_by ["many", "tree"] (defScope s_orders_by) := ⟨rfl, rfl, rfl, by decide +kernel, rfl, by decide +kernel, by decide +kernel⟩
abbrev s_tops : Stmt := topS 21
abbrev N_tops : List Str := ["many", "lot", "top"]
theorem sc_tops : FnScope N_tops ["many", "lot"] (defScope s_tops) := ⟨rfl, rfl, rfl, by decide +kernel, rfl, by decide +kernel, by decide +kernel⟩
abbrev s_need_sound : Stmt := topS 22
abbrev N_need_sound : List Str := ["many", "lot"]
theorem sc_need_sound : FnScope N_need_sound ["many", "lot"] (defScope s_need_sound) := ⟨rfl, rfl, rfl, by decide +kernel, rfl, by decide +kernel, by decide +kernel⟩
abbrev s_higher : Stmt := topS 23
abbrev N_higher : List Str := ["many", "lot", "one", "other", "trees", "top", "tree"]
theorem sc_higher : FnScope N_higher ["many", "lot", "one", "other"] (defScope s_higher) := ⟨rfl, rfl, rfl, by decide +kernel, rfl, by decide +kernel, by decide +kernel⟩
abbrev s_from_ends : Stmt := topS 24
abbrev N_from_ends : List Str := ["many", "lot", "row", "found", "at", "top", "tree"]
theorem sc_from_ends : FnScope N_from_ends ["many", "lot"] (defScope s_from_ends) := ⟨rfl, rfl, rfl, by decide +kernel, rfl, by decide +kernel, by decide +kernel⟩
abbrev s_law_deck : Stmt := topS 26
abbrev N_law_deck : List Str := ["cell", "turn"]
theorem sc_law_deck : FnScope N_law_deck ["cell", "turn"] (defScope s_law_deck) := ⟨rfl, rfl, rfl, by decide +kernel, rfl, by decide +kernel, by decide +kernel⟩
abbrev s_law_pick : Stmt := topS 27
abbrev N_law_pick : List Str := ["deck", "size", "found", "number"]
theorem sc_law_pick : FnScope N_law_pick ["deck", "size"] (defScope s_law_pick) := ⟨rfl, rfl, rfl, by decide +kernel, rfl, by decide +kernel, by decide +kernel⟩
abbrev s_law_one : Stmt := topS 28
abbrev N_law_one : List Str := ["deck", "some"]
theorem sc_law_one : FnScope N_law_one ["deck", "some"] (defScope s_law_one) := ⟨rfl, rfl, rfl, by decide +kernel, rfl, by decide +kernel, by decide +kernel⟩
abbrev s_law_sort : Stmt := topS 29
abbrev N_law_sort : List Str := ["thing"]
theorem sc_law_sort : FnScope N_law_sort ["thing"] (defScope s_law_sort) := ⟨rfl, rfl, rfl, by decide +kernel, rfl, by decide +kernel, by decide +kernel⟩
abbrev s_law_same : Stmt := topS 30
abbrev N_law_same : List Str := ["told", "due", "k", "part"]
theorem sc_law_same : FnScope N_law_same ["told", "due"] (defScope s_law_same) := ⟨rfl, rfl, rfl, by decide +kernel, rfl, by decide +kernel, by decide +kernel⟩
abbrev s_law_seen : Stmt := topS 31
abbrev N_law_seen : List Str := ["heights_so", "found", "one", "other", "low", "height"]
theorem sc_law_seen : FnScope N_law_seen ["heights_so"] (defScope s_law_seen) := ⟨rfl, rfl, rfl, by decide +kernel, rfl, by decide +kernel, by decide +kernel⟩
abbrev s_law_pairs : Stmt := topS 32
abbrev N_law_pairs : List Str := ["many", "found", "one", "other"]
theorem sc_law_pairs : FnScope N_law_pairs ["many"] (defScope s_law_pairs) := ⟨rfl, rfl, rfl, by decide +kernel, rfl, by decide +kernel, by decide +kernel⟩
abbrev s_law_orders : Stmt := topS 33
abbrev N_law_orders : List Str := ["many", "found", "turn", "more", "row", "number"]
theorem sc_law_orders : FnScope N_law_orders ["many"] (defScope s_law_orders) := ⟨rfl, rfl, rfl, by decide +kernel, rfl, by decide +kernel, by decide +kernel⟩
abbrev s_law_by_lots : Stmt := topS 34
abbrev N_law_by_lots : List Str := ["many", "found", "order", "lot"]
theorem sc_law_by_lots : FnScope N_law_by_lots ["many"] (defScope s_law_by_lots) := ⟨rfl, rfl, rfl, by decide +kernel, rfl, by decide +kernel, by decide +kernel⟩
abbrev s_law_rises : Stmt := topS 35
abbrev N_law_rises : List Str := ["heights_so", "found", "top", "place", "height"]
theorem sc_law_rises : FnScope N_law_rises ["heights_so"] (defScope s_law_rises) := ⟨rfl, rfl, rfl, by decide +kernel, rfl, by decide +kernel, by decide +kernel⟩
abbrev s_law_ends : Stmt := topS 36
abbrev N_law_ends : List Str := ["heights_so", "last", "right", "place"]
theorem sc_law_ends : FnScope N_law_ends ["heights_so"] (defScope s_law_ends) := ⟨rfl, rfl, rfl, by decide +kernel, rfl, by decide +kernel, by decide +kernel⟩
abbrev s_law : Stmt := topS 37
abbrev N_law : List Str := ["script", "cell", "deck", "many", "by_lots", "lot", "every", "one", "other", "more", "due", "back", "top", "some", "ends", "k", "order"]
theorem sc_law : FnScope N_law ["script"] (defScope s_law) := ⟨rfl, rfl, rfl, by decide +kernel, rfl, by decide +kernel, by decide +kernel⟩
end G

set_option Elab.async false
set_option linter.all false
set_option maxRecDepth 100000
set_option pp.maxSteps 600
set_option maxHeartbeats 4000000
namespace G
open PySem PySem.Spec L2
/-! ### lots that can be, counted from within (plain) -/
theorem rng_mem {lo x : Int} {n : Nat} : x ∈ rng lo n ↔ lo ≤ x ∧ x < lo + n := by
  unfold rng
  rw [List.mem_map]
  constructor
  · rintro ⟨i, hi, rfl⟩
    rw [List.mem_range] at hi
    omega
  · intro h
    exact ⟨(x - lo).toNat, by rw [List.mem_range]; omega, by omega⟩
theorem rng_snoc (lo : Int) (i : Nat) : rng lo (i + 1) = rng lo i ++ [lo + (i : Int)] := by
  unfold rng
  rw [List.range_succ, List.map_append]
  rfl
theorem rng_take (lo : Int) {n i : Nat} (h : i ≤ n) : (rng lo n).take i = rng lo i := by
  unfold rng
  rw [← List.map_take, List.take_range, Nat.min_eq_left h]
theorem rng_shift (lo c : Int) (n : Nat) : rng (lo + c) n = (rng lo n).map (· + c) := by
  unfold rng
  rw [List.map_map]
  apply List.map_congr_left
  intro x _
  show lo + c + (x : Int) = lo + (x : Int) + c
  omega
def getI (row : List Int) (i : Nat) : Int := row.getD i 0
def cutP (a x b : Int) (p : Int × Int) : Bool := (decide (a ≤ p.1) && (decide (p.1 < x) && (decide (x < p.2) && decide (p.2 ≤ b)))) && !decide (p = (a, b))
def cutB (s : List (Int × Int)) (a x b : Int) : Bool := s.any (cutP a x b)
def overB (s : List (Int × Int)) (x : Int) : Bool := s.any fun p => decide (p.1 < x) && decide (x < p.2)
def overW (s : List (Int × Int)) (x b : Int) : Bool := s.any fun p => decide (p.1 < x) && (decide (x < p.2) && decide (p.2 ≤ b))
def chooseI (m k : Int) : Int := (rng 0 k.toNat).foldl (fun f i => f * (m - i) / (i + 1)) 1
def wt (w : Bool) (a b x : Int) : Int := if w = true then chooseI (b - a - 2) (x - a - 1) else 1
def inner (a b : Int) : List Int := rng (a + 1) (b - (a + 1)).toNat
def withinF (s u : List (Int × Int)) (w : Bool) : Nat → Int → Int → Int
  | 0, _, _ => 0
  | k + 1, a, b => if (a, b) ∈ u then 0 else if b = a + 1 then 1 else ((inner a b).map fun x => if cutB s a x b = true then 0 else withinF s u w k a x * withinF s u w k x b * wt w a b x).sum
def W (s u : List (Int × Int)) (w : Bool) (a b : Int) : Int := withinF s u w (b - a).toNat a b
theorem inner_mem {a b x : Int} : x ∈ inner a b ↔ a < x ∧ x < b := by
  unfold inner
  rw [rng_mem]
  omega
section
variable {s u : List (Int × Int)} {w : Bool}
theorem withinF_fuel : ∀ (k k' : Nat) (a b : Int), a < b → (b - a).toNat ≤ k → (b - a).toNat ≤ k' → withinF s u w k a b = withinF s u w k' a b
  | 0, _, a, b, h, h1, _ => by omega
  | k + 1, 0, a, b, h, _, h2 => by omega
  | k + 1, k' + 1, a, b, h, h1, h2 => by
    unfold withinF
    split
    · rfl
    · split
      · rfl
      · congr 1
        apply List.map_congr_left
        intro x hx
        have hx := inner_mem.mp hx
        rw [withinF_fuel k k' a x hx.1 (by omega) (by omega), withinF_fuel k k' x b hx.2 (by omega) (by omega)]
theorem W_un {a b : Int} (h : a < b) (hu : (a, b) ∈ u) : W s u w a b = 0 := by
  unfold W
  obtain ⟨k, e⟩ : ∃ k, (b - a).toNat = k + 1 := ⟨(b - a).toNat - 1, by omega⟩
  rw [e, withinF, if_pos hu]
theorem W_one {a : Int} (hu : (a, a + 1) ∉ u) : W s u w a (a + 1) = 1 := by
  unfold W
  obtain ⟨k, e⟩ : ∃ k, (a + 1 - a).toNat = k + 1 := ⟨0, by omega⟩
  rw [e, withinF, if_neg hu, if_pos rfl]
theorem W_eq {a b : Int} (h : a + 1 < b) (hu : (a, b) ∉ u) : W s u w a b = ((inner a b).map fun x => if cutB s a x b = true then 0 else W s u w a x * W s u w x b * wt w a b x).sum := by
  unfold W
  obtain ⟨k, e⟩ : ∃ k, (b - a).toNat = k + 1 := ⟨(b - a).toNat - 1, by omega⟩
  rw [e, withinF, if_neg hu, if_neg (by omega)]
  congr 1
  apply List.map_congr_left
  intro x hx
  have hx := inner_mem.mp hx
  rw [withinF_fuel k (x - a).toNat a x hx.1 (by omega) (by omega), withinF_fuel k (b - x).toNat x b hx.2 (by omega) (by omega)]
/-- by intervals -/
theorem W_ind {P : Int → Int → Prop} (h : ∀ a b, a < b → (∀ x y, a ≤ x → y ≤ b → x < y → y - x < b - a → P x y) → P a b) : ∀ a b, a < b → P a b := by
  have key : ∀ (k : Nat) (a b : Int), a < b → (b - a).toNat ≤ k → P a b := by
    intro k
    induction k with
    | zero => intro a b h1 h2; omega
    | succ k ih => exact fun a b h1 h2 => h a b h1 fun x y e1 e2 e3 e4 => ih x y e3 (by omega)
  exact fun a b hab => key _ a b hab (Nat.le_refl _)
theorem sum_nonneg {l : List Int} (h : ∀ x ∈ l, 0 ≤ x) : 0 ≤ l.sum := by
  induction l with
  | nil => simp
  | cons x l ih =>
    rw [List.sum_cons]
    have := h x List.mem_cons_self
    have := ih fun y hy => h y (List.mem_cons_of_mem _ hy)
    omega
theorem sum_le {α : Type} {l : List α} {f g : α → Int} (h : ∀ x ∈ l, f x ≤ g x) : (l.map f).sum ≤ (l.map g).sum := by
  induction l with
  | nil => simp
  | cons x l ih =>
    rw [List.map_cons, List.map_cons, List.sum_cons, List.sum_cons]
    have := h x List.mem_cons_self
    have := ih fun y hy => h y (List.mem_cons_of_mem _ hy)
    omega
end
/-! ### bounds -/
def facN : Nat → Int
  | 0 => 1
  | n + 1 => (n + 1 : Int) * facN n
theorem choose_ok : ∀ m ∈ List.range 13, ∀ k ∈ List.range 13, 0 ≤ chooseI (m : Int) (k : Int) ∧ chooseI (m : Int) (k : Int) ≤ 1000 := by decide +kernel
theorem choose_pos : ∀ m ∈ List.range 13, ∀ k ∈ List.range 13, k ≤ m → 1 ≤ chooseI (m : Int) (k : Int) := by decide +kernel
theorem choose_le {m k : Int} (hm : 0 ≤ m ∧ m ≤ 12) (hk : 0 ≤ k ∧ k ≤ 12) : 0 ≤ chooseI m k ∧ chooseI m k ≤ 1000 := by
  have := choose_ok m.toNat (List.mem_range.mpr (by omega)) k.toNat (List.mem_range.mpr (by omega))
  rwa [Int.toNat_of_nonneg hm.1, Int.toNat_of_nonneg hk.1] at this
theorem choose_ge {m k : Int} (hm : 0 ≤ m ∧ m ≤ 12) (hk : 0 ≤ k ∧ k ≤ m) : 1 ≤ chooseI m k := by
  have := choose_pos m.toNat (List.mem_range.mpr (by omega)) k.toNat (List.mem_range.mpr (by omega)) (by omega)
  rwa [Int.toNat_of_nonneg hm.1, Int.toNat_of_nonneg hk.1] at this
theorem fac_sums : ∀ m ∈ List.range 12, 2 ≤ m → ((rng 1 (m - 1)).map fun j => facN (j - 1).toNat * facN ((m : Int) - j - 1).toNat * chooseI ((m : Int) - 2) (j - 1)).sum ≤ facN (m - 1) := by decide +kernel
theorem fac_pos : ∀ n, 1 ≤ facN n
  | 0 => by decide
  | n + 1 => by
    have := fac_pos n
    unfold facN
    have h : (1 : Int) ≤ (n + 1 : Int) := by omega
    exact Int.le_trans (by omega) (Int.mul_le_mul h this (by decide) (by omega))
theorem wt_ok (w : Bool) {a b x : Int} (h : 0 ≤ a ∧ b ≤ 11 ∧ a < x ∧ x < b) : 1 ≤ wt w a b x ∧ wt w a b x ≤ chooseI (b - a - 2) (x - a - 1) := by
  have h1 := choose_ge (m := b - a - 2) (k := x - a - 1) (by omega) (by omega)
  unfold wt
  split
  · exact ⟨h1, Int.le_refl _⟩
  · exact ⟨Int.le_refl _, h1⟩
theorem W_le (s u : List (Int × Int)) (w : Bool) {a b : Int} (ha : 0 ≤ a) (hb : b ≤ 11) (hab : a < b) : 0 ≤ W s u w a b ∧ W s u w a b ≤ facN (b - a - 1).toNat := by
  revert ha hb
  refine W_ind (P := fun a b => 0 ≤ a → b ≤ 11 → 0 ≤ W s u w a b ∧ W s u w a b ≤ facN (b - a - 1).toNat) (fun a b hab ih ha hb => ?_) a b hab
  by_cases hu : (a, b) ∈ u
  · rw [W_un hab hu]
    exact ⟨Int.le_refl _, Int.le_trans (by decide) (fac_pos _)⟩
  · by_cases h1 : b = a + 1
    · subst h1
      rw [W_one hu]
      exact ⟨by decide, fac_pos _⟩
    · rw [W_eq (by omega) hu]
      have t : ∀ x ∈ inner a b, 0 ≤ (if cutB s a x b = true then 0 else W s u w a x * W s u w x b * wt w a b x) ∧ (if cutB s a x b = true then 0 else W s u w a x * W s u w x b * wt w a b x) ≤ facN (x - a - 1).toNat * facN (b - x - 1).toNat * chooseI (b - a - 2) (x - a - 1) := by
        intro x hx
        have hx := inner_mem.mp hx
        have i1 := ih a x (by omega) (by omega) hx.1 (by omega) ha (by omega)
        have i2 := ih x b (by omega) (by omega) hx.2 (by omega) (by omega) hb
        have i3 := wt_ok w (a := a) (b := b) (x := x) ⟨ha, hb, hx.1, hx.2⟩
        have f1 := fac_pos (x - a - 1).toNat
        have f2 := fac_pos (b - x - 1).toNat
        have p1 := Int.mul_nonneg i1.1 i2.1
        have q1 : W s u w a x * W s u w x b ≤ facN (x - a - 1).toNat * facN (b - x - 1).toNat := Int.mul_le_mul i1.2 i2.2 i2.1 (by omega)
        have p2 := Int.mul_nonneg p1 (show 0 ≤ wt w a b x by omega)
        have q2 : W s u w a x * W s u w x b * wt w a b x ≤ facN (x - a - 1).toNat * facN (b - x - 1).toNat * chooseI (b - a - 2) (x - a - 1) := Int.mul_le_mul q1 i3.2 (by omega) (Int.mul_nonneg (by omega) (by omega))
        split
        · exact ⟨Int.le_refl _, Int.le_trans p2 q2⟩
        · exact ⟨p2, q2⟩
      refine ⟨sum_nonneg fun y hy => ?_, Int.le_trans (sum_le fun x hx => (t x hx).2) ?_⟩
      · obtain ⟨x, hx, rfl⟩ := List.mem_map.mp hy
        exact (t x hx).1
      · have e := fac_sums (b - a).toNat (List.mem_range.mpr (by omega)) (by omega)
        have e1 : inner a b = (rng 1 ((b - a).toNat - 1)).map (· + a) := by
          unfold inner
          rw [show a + 1 = 1 + a by omega, rng_shift]
          congr 2
          omega
        rw [e1, List.map_map]
        have e2 : ((b - a - 1).toNat) = (b - a).toNat - 1 := by omega
        rw [e2]
        refine Int.le_trans (Int.le_of_eq ?_) e
        congr 1
        apply List.map_congr_left
        intro j _
        show facN (j + a - a - 1).toNat * facN (b - (j + a) - 1).toNat * chooseI (b - a - 2) (j + a - a - 1) = _
        rw [Int.toNat_of_nonneg (by omega : 0 ≤ b - a), show j + a - a - 1 = j - 1 by omega, show b - (j + a) - 1 = b - a - j - 1 by omega]
theorem fac_small : ∀ n ∈ List.range 13, facN n ≤ 1000000000 := by decide +kernel
theorem W_small (s u : List (Int × Int)) (w : Bool) {a b : Int} (ha : 0 ≤ a) (hb : b ≤ 11) (hab : a < b) : 0 ≤ W s u w a b ∧ W s u w a b ≤ 1000000000 := by
  have h := W_le s u w ha hb hab
  have := fac_small (b - a - 1).toNat (List.mem_range.mpr (by omega))
  exact ⟨h.1, Int.le_trans h.2 this⟩
end G

set_option Elab.async false
set_option linter.all false
set_option maxRecDepth 100000
set_option maxHeartbeats 4000000
namespace G
open PySem PySem.Spec L2
structure Bl (mg : Str → Option Value) : Prop where
  isi : mg "isinstance" = none
  int : mg "int" = none
  bool : mg "bool" = none
  str : mg "str" = none
  tuple : mg "tuple" = none
  list : mg "list" = none
  all : mg "all" = none
  any : mg "any" = none
  len : mg "len" = none
  range : mg "range" = none
  zip : mg "zip" = none
  enum : mg "enumerate" = none
  min : mg "min" = none
  max : mg "max" = none
  sorted : mg "sorted" = none
  sum : mg "sum" = none
  set : mg "set" = none
section
variable {P : Program} {w : World} {K : PySem.W.Frag} {mg : Str → Option Value} {base : Heap}
/-- whether a thing is a whole number within bounds -/
def isFrom : PyData → Int → Int → Bool
  | .int i, lo, hi => decide (lo ≤ i) && decide (i ≤ hi)
  | _, _, _ => false
def C_is_from : Ctr := fun as O q => ∃ d lo hi, noDict d = true ∧ as = [.sh d, .sh (.int lo), .sh (.int hi)] ∧ O = [] ∧ q (.sh (.bool (isFrom d lo hi))) []
theorem ok_is_from {f : Addr} {fd : FuncData} (F : Fun K "is_from" "is_from" s_is_from f fd) (T : Bl mg) : FnOk P w K mg base CX0 1 f fd ["thing", "low", "high"] (spG K C_is_from) := by
  refine fn_ok F sc_is_from (fun as O q h => ?_) fun cdv A outer s H E hr as O q h => ?_
  · obtain ⟨d, lo, hi, _, rfl, rfl, _⟩ := h
    rfl
  · obtain ⟨d, lo, hi, hnd, rfl, rfl, hq⟩ := h
    refine gs_cons (s_ret (ge_p ((gp_and (gp_isi T.isi T.int PyProof.Rows.boot_int (gp_name 0 rfl) kb_int (nd := hnd)) fun h1 => gp_and (gp_not (gp_isi T.isi T.bool PyProof.Rows.boot_bool (gp_name 0 rfl) kb_bool (nd := hnd))) fun h2 =>
      gp_one (d := .bool (isFrom d lo hi)) ?_).is ?_) hq))
    · cases d with
      | int i => exact gp_chain (gp_name 1 rfl) (gch_link (gp_name 0 rfl) cmp_le (gch_last (gp_name 2 rfl) cmp_le))
      | bool b => cases h2
      | _ => cases h1
    · cases d <;> rfl
/-- a lot in order -/
def riseP (l : List (Int × Int)) : Bool := (l.zip (l.drop 1)).all fun x => HT.lexLt [x.1.1, x.1.2] [x.2.1, x.2.2]
theorem zipWith_pairs (l m : List (Int × Int)) : List.zipWith pair2 (ePs l) (ePs m) = (l.zip m).map fun x => pair2 (eP x.1) (eP x.2) := by
  rw [ePs, ePs, List.zipWith_map, List.zip, List.map_zipWith]
def C_is_rising : Ctr := fun as O q => ∃ l, l.length < 1000 ∧ as = [.sh (eLot l)] ∧ O = [] ∧ q (.sh (.bool (riseP l))) []
theorem ok_is_rising {f : Addr} {fd : FuncData} (F : Fun K "is_rising" "is_rising" s_is_rising f fd) (T : Bl mg) : FnOk P w K mg base CX0 1 f fd ["things"] (spG K C_is_rising) := by
  refine fn_ok F sc_is_rising (fun as O q h => ?_) fun cdv A outer s H E hr as O q h => ?_
  · obtain ⟨l, _, rfl, rfl, _⟩ := h
    rfl
  · obtain ⟨l, hl, rfl, rfl, hq⟩ := h
    refine gs_cons (s_ret (ge_p ((gp_all (bs := (l.zip (l.drop 1)).map fun x => HT.lexLt [x.1.1, x.1.2] [x.2.1, x.2.2]) T.all ((gp_of_glp (glp_lc (own := [("one", 1), ("other", 2)]) (xs := l.zip (l.drop 1)) (enc := fun x => pair2 (eP x.1) (eP x.2)) (out := fun x => .bool (HT.lexLt [x.1.1, x.1.2] [x.2.1, x.2.2])) (p := fun _ => true)
      (fun x => [.sh (eLot l), .sh (eP x.1), .sh (eP x.2)]) sc_is_rising.nd ?hi (blkOk_by (N := N_is_rising) (sc := defScope s_is_rising) (by decide +kernel)) (fun x _ s H C cl fp => gg_tup (ggs_cons (gg_name 1 sc_is_rising.nd) (ggs_cons (gg_name 2 sc_is_rising.nd) ggs_nil))) (by decide)
      (fun x _ s H C cl fp => gts_nil) (fun x _ _ s H C cl fp => gp_cmp (gp_name 1 rfl) (gp_name 2 rfl) (cmp_ltT hr.units0 (ns := [x.1.1, x.1.2]) (ms := [x.2.1, x.2.2]))) ?hz)).is ?eq)).is ?eq2) hq))
    case hi =>
      refine gip_is (gi_zip T.zip (gp_name 0 rfl) (gp_slT (gp_name 0 rfl) (gpo_some gp_int) gpo_none) (.inr ⟨rfl, rfl⟩)) ?_
      rw [cutD_1, ePs, ← List.map_drop, zipWith_pairs]
    case hz =>
      have := List.length_zip (l₁ := l) (l₂ := l.drop 1)
      exact Nat.lt_of_lt_of_le (show _ < 1000 by omega) (by decide)
    case eq => rw [filt_true, List.map_map]; rfl
    case eq2 => rw [riseP, List.all_map]; rfl
/-- a lot of so many houses -/
structure IsLot (n : Int) (l : List (Int × Int)) : Prop where
  mem : ∀ p ∈ l, (0 ≤ p.1 ∧ p.1 ≤ n - 2) ∧ p.1 + 1 ≤ p.2 ∧ p.2 ≤ n - 1
  rise : riseP l = true
  few : l.length < 1000
def C_is_lot : Ctr := fun as O q => ∃ n l, IsLot n l ∧ as = [.sh (.int n), .sh (eLot l)] ∧ O = [] ∧ q (.sh (.bool true)) []
theorem get_lot {l : List (Int × Int)} {i : Nat} {d : PyData} (h : (ePs l)[i]? = some d) : ∃ p ∈ l, l[i]? = some p ∧ d = eP p := by
  rw [ePs, List.getElem?_map] at h
  cases e : l[i]? with
  | none => rw [e] at h; cases h
  | some p =>
    rw [e] at h
    exact ⟨p, List.mem_of_getElem? e, rfl, (Option.some.inj h).symm⟩
theorem isFrom_yes {a lo hi : Int} (h1 : lo ≤ a) (h2 : a ≤ hi) : isFrom (.int a) lo hi = true := by
  show (decide (lo ≤ a) && decide (a ≤ hi)) = true
  rw [decide_eq_true h1, decide_eq_true h2]
  rfl
theorem ok_is_lot {f : Addr} {fd : FuncData} (F : Fun K "is_lot" "is_lot" s_is_lot f fd) (T : Bl mg) (D1 : Def P w K mg base "is_from" 1 C_is_from) (D2 : Def P w K mg base "is_rising" 1 C_is_rising) : FnOk P w K mg base CX0 2 f fd ["many", "thing"] (spG K C_is_lot) := by
  refine fn_ok F sc_is_lot (fun as O q h => ?_) fun cdv A outer s H E hr as O q h => ?_
  · obtain ⟨n, l, _, rfl, rfl, _⟩ := h
    rfl
  · obtain ⟨n, l, hl, rfl, rfl, hq⟩ := h
    have nd := sc_is_lot.nd
    refine gs_cons (s_if (gt_p (gt_not (gt_val (gp_isi T.isi T.tuple PyProof.Rows.boot_tuple (gp_name 1 rfl) kb_tuple))) ⟨(fun h => by cases h), fun _ => gs_nil ?_⟩))
    refine gs_cons (s_for (gi_p (gi_tup (gp_name 1 rfl)) ?_))
    refine ⟨fun _ Γ O => ∃ y, Γ = [.sh (.int n), .sh (eLot l), y] ∧ O = [], ⟨_, rfl, rfl⟩, fun i d Γ2 O2 hd ⟨y, e1, e2⟩ => ?_, fun Γ2 O2 ⟨y, e1, e2⟩ => ?_⟩
    · subst e1 e2
      obtain ⟨p, hp, _, rfl⟩ := get_lot hd
      obtain ⟨⟨m1, m2⟩, m3, m4⟩ := hl.mem p hp
      refine ⟨_, _, gg_name 2 nd, ?_⟩
      refine gs_cons (s_if (gt_p (t := false) (gt_is (gt_w (gw_or (gt_not (gt_val (gp_isi T.isi T.tuple PyProof.Rows.boot_tuple (gp_name 2 rfl) kb_tuple))) fun _ => gw_or (gt_cmp (gp_lenT T.len (gp_name 2 rfl)) gp_int cmp_neI) fun _ => gw_or1 (gt_not (t := true) ?b))) rfl) ⟨(fun h => by cases h), fun _ => gs_nil ?c⟩))
      case b =>
        refine gt_val (gp_is (gp_call D1 (hr.mono (by decide)) (gpa_cons (gp_ixT (gp_name 2 rfl) gp_int rfl) (gpa_cons gp_int (gpa_cons (gp_sub (gp_name 0 rfl) gp_int) gpa_nil))) ⟨_, _, _, rfl, rfl, rfl, rfl, rfl⟩) ?_)
        rw [isFrom_yes (by omega) (by omega)]
      case c =>
        refine gs_cons (s_if (gt_p (gt_not (t := true) (gt_val (gp_is (gp_call D1 (hr.mono (by decide)) (gpa_cons (gp_ixT (gp_name 2 rfl) gp_int rfl) (gpa_cons (gp_add (gp_ixT (gp_name 2 rfl) gp_int rfl) gp_int) (gpa_cons (gp_sub (gp_name 0 rfl) gp_int) gpa_nil))) ⟨_, _, _, rfl, rfl, rfl, rfl, rfl⟩) ?_))) ⟨(fun h => by cases h), fun _ => gs_nil (gs_nil ⟨_, rfl, rfl⟩)⟩))
        rw [isFrom_yes (by omega) (by omega)]
    · subst e1 e2
      exact gs_cons (s_ret (ge_p (gp_is (gp_call D2 (hr.mono (by decide)) (gpa_cons (gp_name 1 rfl) gpa_nil) ⟨_, hl.few, rfl, rfl, rfl, rfl⟩) (by rw [hl.rise])) hq))
end
end G

set_option Elab.async false
set_option linter.all false
set_option maxRecDepth 100000
set_option maxHeartbeats 4000000
namespace G
open PySem PySem.Spec L2
theorem u65 {k : Nat} {A : Around} (r : Room k A) : A.units + 65 < cLine := by have := r.un; omega
theorem u64 {k : Nat} {A : Around} (r : Room k A) : A.units + 64 < cLine := by have := r.un; omega
/-! ### what bars a lot -/
inductive Bar where
  | apart (a : Int)
  | cross (a b c d : Int)
  | alone (a b : Int)
  deriving DecidableEq
def eB : Bar → PyData
  | .apart a => .tuple [.str "apart", .int a, .int (a + 1)]
  | .cross a b c d => .tuple [.str "cross", .int a, .int b, .int c, .int d]
  | .alone a b => .tuple [.str "alone", .int a, .int b]
def crs (p q : Int × Int) : Bool := decide (p.1 < q.1) && (decide (q.1 < p.2) && decide (p.2 < q.2))
def crossOf (l : List (Int × Int)) (p : Int × Int) : List Bar := (l.filter (crs p)).map fun q => Bar.cross p.1 p.2 q.1 q.2
/-- the houses between two that both see -/
def amidOf (l : List (Int × Int)) (a b : Int) : List Int := (rng (a + 1) (b - (a + 1)).toNat).filter fun x => decide ((a, x) ∈ l) && decide ((x, b) ∈ l)
def lone (l : List (Int × Int)) (p : Int × Int) : Bool := decide (p.1 + 1 < p.2) && (amidOf l p.1 p.2).isEmpty
def apartOf (n : Int) (l : List (Int × Int)) : List Bar := ((rng 0 (n - 1).toNat).filter fun a => !decide ((a, a + 1) ∈ l)).map .apart
def barsOf (n : Int) (l : List (Int × Int)) : List Bar := apartOf n l ++ l.flatMap (crossOf l) ++ (l.filter (lone l)).map fun p => Bar.alone p.1 p.2
theorem apart_len (n : Int) (l : List (Int × Int)) (h : n ≤ 1000) : (apartOf n l).length ≤ 1000 := by
  unfold apartOf
  rw [List.length_map]
  have h1 := List.length_filter_le (fun a => !decide ((a, a + 1) ∈ l)) (rng 0 (n - 1).toNat)
  rw [rng_len] at h1
  omega
theorem cross_len (l m : List (Int × Int)) (h : l.length < 1000) (h2 : m.length < 1000) : (m.flatMap (crossOf l)).length ≤ 1000000 := by
  have h1 := len_flatMap (f := crossOf l) (k := 1000) (l := m) fun p _ => by
    unfold crossOf
    rw [List.length_map]
    have := List.length_filter_le (crs p) l
    omega
  omega
section
variable {P : Program} {w : World} {K : PySem.W.Frag} {mg : Str → Option Value} {base : Heap}
def C_need_many : Ctr := fun as O q => ∃ n, (1 ≤ n ∧ n ≤ 12) ∧ as = [.sh (.int n)] ∧ O = [] ∧ q (.sh .none) []
theorem ok_need_many {f : Addr} {fd : FuncData} {u : Value} (F : Fun K "need_many" "need_many" s_need_many f fd) (T : Bl mg) (mM : mg "MOST_HOUSES" = some u) (rM : RelV (.int 12) u) (D1 : Def P w K mg base "is_from" 1 C_is_from) : FnOk P w K mg base CX0 2 f fd ["many"] (spG K C_need_many) := by
  refine fn_ok F sc_need_many (fun as O q h => ?_) fun cdv A outer s H E hr as O q h => ?_
  · obtain ⟨n, _, rfl, rfl, _⟩ := h
    rfl
  · obtain ⟨n, hn, rfl, rfl, hq⟩ := h
    refine gs_cons (s_if (gt_p (gt_not (t := true) (gt_val (gp_is (gp_call D1 (hr.mono (by decide)) (gpa_cons (gp_name 0 rfl) (gpa_cons gp_int (gpa_cons (gp_glob rfl mM rM) gpa_nil))) ⟨_, _, _, rfl, rfl, rfl, rfl, rfl⟩) ?_))) ⟨(fun h => by cases h), fun _ => gs_nil (gs_nil hq)⟩))
    rw [isFrom_yes (by omega) (by omega)]
def C_need_lot : Ctr := fun as O q => ∃ n l, (1 ≤ n ∧ n ≤ 12) ∧ IsLot n l ∧ as = [.sh (.int n), .sh (eLot l)] ∧ O = [] ∧ q (.sh .none) []
theorem ok_need_lot {f : Addr} {fd : FuncData} (F : Fun K "need_lot" "need_lot" s_need_lot f fd) (T : Bl mg) (D1 : Def P w K mg base "need_many" 2 C_need_many) (D2 : Def P w K mg base "is_lot" 2 C_is_lot) : FnOk P w K mg base CX0 3 f fd ["many", "lot"] (spG K C_need_lot) := by
  refine fn_ok F sc_need_lot (fun as O q h => ?_) fun cdv A outer s H E hr as O q h => ?_
  · obtain ⟨n, l, _, _, rfl, rfl, _⟩ := h
    rfl
  · obtain ⟨n, l, hn, hl, rfl, rfl, hq⟩ := h
    refine gs_cons (s_expr (ge_p (gp_call D1 (hr.mono (by decide)) (gpa_cons (gp_name 0 rfl) gpa_nil) ⟨_, hn, rfl, rfl, rfl, rfl⟩) ?_))
    refine gs_cons (s_if (gt_p (gt_not (gt_val (gp_call D2 (hr.mono (by decide)) (gpa_cons (gp_name 0 rfl) (gpa_cons (gp_name 1 rfl) gpa_nil)) ⟨_, _, hl, rfl, rfl, rfl, rfl⟩))) ⟨(fun h => by cases h), fun _ => gs_nil (gs_nil hq)⟩))
def C_all_bars : Ctr := fun as O q => ∃ n l, (1 ≤ n ∧ n ≤ 12) ∧ IsLot n l ∧ as = [.sh (.int n), .sh (eLot l)] ∧ O = [] ∧ q (.sh (.list ((barsOf n l).map eB))) []
theorem ok_all_bars {f : Addr} {fd : FuncData} (F : Fun K "all_bars" "all_bars" s_all_bars f fd) (T : Bl mg) : FnOk P w K mg base CX0 1 f fd ["many", "lot"] (spG K C_all_bars) := by
  refine fn_ok F sc_all_bars (fun as O q h => ?_) fun cdv A outer s H E hr as O q h => ?_
  · obtain ⟨n, l, _, _, rfl, rfl, _⟩ := h
    rfl
  · obtain ⟨n, l, hn, hl, rfl, rfl, hq⟩ := h
    have nd := sc_all_bars.nd
    have hu := u65 hr
    have few := hl.few
    have big : (1003000 : Nat) < sizeLine := by decide
    refine gs_cons (s_setLc (own := [("one", 3)]) (enc := .int) (out := fun a => eB (.apart a)) (pr := fun a => !decide ((a, a + 1) ∈ l)) 2 (rng 0 (n - 1).toNat) (fun a => [.sh (.int n), .sh (eLot l), .no, .sh (.int a), .no, .no, .no, .no, .no]) nd
      (gi_range1 T.range (gp_sub (gp_name 0 rfl) gp_int) (by omega)) (blkOk_by (N := N_all_bars) (sc := defScope s_all_bars) (by decide +kernel)) (fun a _ s H C cl fp => gg_name 3 nd) (by decide)
      (fun a _ s H C cl fp => gts_one (gt_is (gt_cmp (gp_tup (gpa_cons (gp_name 3 rfl) (gpa_cons (gp_add (gp_name 3 rfl) gp_int) gpa_nil))) (gp_name 1 rfl) (cmp_niT (by exact hu) (shaped_P (a, a + 1)) (shaped_lot l))) ?t))
      (fun a _ _ s H C cl fp => gp_tup (gpa_cons gp_str (gpa_cons (gp_name 3 rfl) (gpa_cons (gp_add (gp_name 3 rfl) gp_int) gpa_nil)))) ?z fun l1 => ?_)
    case t => exact congrArg not (any_P l (a, a + 1))
    case z => rw [rng_len]; omega
    have eA : ((rng 0 (n - 1).toNat).filter fun a => !decide ((a, a + 1) ∈ l)).map (fun a => eB (.apart a)) = (apartOf n l).map eB := by
      rw [apartOf, List.map_map]; rfl
    rw [eA]
    have lA := apart_len n l (by omega)
    -- crossing sights
    refine gs_cons (s_for (gi_p (gi_tup (gp_name 1 rfl)) ?_))
    refine ⟨fun i Γ O => ∃ y3 y4 y5 y6 y7 y8, Γ = [.sh (.int n), .sh (eLot l), .ow l1, y3, y4, y5, y6, y7, y8] ∧ O = [(l1, .L ((apartOf n l ++ (l.take i).flatMap (crossOf l)).map eB))], ⟨_, _, _, _, _, _, rfl, by simp⟩, ?_, ?_⟩
    · rintro i d Γ2 O2 hd ⟨y3, y4, y5, y6, y7, y8, rfl, rfl⟩
      obtain ⟨p, hp, hi, rfl⟩ := get_lot hd
      have ht := take_snoc hi
      have lC := cross_len l (l.take i) few (by rw [List.length_take]; omega)
      refine ⟨_, _, gg_tup (ggs_cons (gg_name 3 nd) (ggs_cons (gg_name 4 nd) ggs_nil)), ?_⟩
      refine gs_cons (s_for (gi_p (gi_tup (gp_name 1 rfl)) ?_))
      refine ⟨fun j Γ O => ∃ y5 y6, Γ = [.sh (.int n), .sh (eLot l), .ow l1, .sh (.int p.1), .sh (.int p.2), y5, y6, y7, y8] ∧ O = [(l1, .L ((apartOf n l ++ (l.take i).flatMap (crossOf l) ++ ((l.take j).filter (crs p)).map fun q => Bar.cross p.1 p.2 q.1 q.2).map eB))], ⟨_, _, rfl, by simp⟩, ?_, ?_⟩
      · rintro j d2 Γ3 O3 hd2 ⟨y5, y6, rfl, rfl⟩
        obtain ⟨q', hq', hj, rfl⟩ := get_lot hd2
        have ht2 := take_snoc hj
        refine ⟨_, _, gg_tup (ggs_cons (gg_name 5 nd) (ggs_cons (gg_name 6 nd) ggs_nil)), ?_⟩
        refine gs_cons (s_if (gt_p (t := crs p q') (gt_chain (gp_name 3 rfl) (gch_link (gp_name 5 rfl) cmp_lt (gch_link (gp_name 4 rfl) cmp_lt (gch_last (gp_name 6 rfl) cmp_lt)))) ⟨fun h => ?_, fun h => gs_nil ?_⟩))
        · refine gs_cons (s_app 2 rfl (ge_p (gp_tup (gpa_cons gp_str (gpa_cons (gp_name 3 rfl) (gpa_cons (gp_name 4 rfl) (gpa_cons (gp_name 5 rfl) (gpa_cons (gp_name 6 rfl) gpa_nil)))))) ⟨0, _, rfl, ?_, gs_nil (gs_nil ⟨_, _, rfl, ?_⟩)⟩) ⟨_, List.mem_cons_self⟩)
          · have h1 := List.length_filter_le (crs p) (l.take j)
            have h2 : (l.take j).length ≤ l.length := by rw [List.length_take]; omega
            simp only [List.length_map, List.length_append]
            omega
          · rw [ht2, List.filter_append, List.filter_cons, if_pos h, List.filter_nil]
            simp [eB]
        · refine gs_nil ⟨_, _, rfl, ?_⟩
          rw [ht2, List.filter_append, List.filter_cons, if_neg (by rw [h]; exact Bool.false_ne_true), List.filter_nil]
          simp
      · rintro Γ3 O3 ⟨y5, y6, rfl, rfl⟩
        refine gs_nil ⟨_, _, _, _, _, _, rfl, ?_⟩
        rw [ht, ePs, List.length_map, List.take_length]
        simp [crossOf]
    · rintro Γ2 O2 ⟨y3, y4, y5, y6, y7, y8, rfl, rfl⟩
      rw [ePs, List.length_map, List.take_length]
      have lC := cross_len l l few few
      -- lone ones
      refine gs_cons (s_for (gi_p (gi_tup (gp_name 1 rfl)) ?_))
      refine ⟨fun i Γ O => ∃ y3 y4 y5 y6 y7 y8, Γ = [.sh (.int n), .sh (eLot l), .ow l1, y3, y4, y5, y6, y7, y8] ∧ O = [(l1, .L ((apartOf n l ++ l.flatMap (crossOf l) ++ ((l.take i).filter (lone l)).map fun p => Bar.alone p.1 p.2).map eB))], ⟨_, _, _, _, _, _, rfl, by simp⟩, ?_, ?_⟩
      · rintro i d Γ2 O2 hd ⟨y3, y4, y5, y6, y7, y8, rfl, rfl⟩
        obtain ⟨p, hp, hi, rfl⟩ := get_lot hd
        obtain ⟨⟨m1, m2⟩, m3, m4⟩ := hl.mem p hp
        have ht := take_snoc hi
        refine ⟨_, _, gg_tup (ggs_cons (gg_name 3 nd) (ggs_cons (gg_name 4 nd) ggs_nil)), ?_⟩
        refine gs_cons (s_setLcS (own := [("place", 8)]) (enc := .int) (out := .int) (pr := fun x => decide ((p.1, x) ∈ l) && decide ((x, p.2) ∈ l)) 7 (rng (p.1 + 1) (p.2 - (p.1 + 1)).toNat) (fun x => [.sh (.int n), .sh (eLot l), .ow l1, .sh (.int p.1), .sh (.int p.2), y5, y6, y7, .sh (.int x)]) nd
          (gi_range2 T.range (gp_add (gp_name 3 rfl) gp_int) (gp_name 4 rfl) (by omega)) (blkOk_by (N := N_all_bars) (sc := defScope s_all_bars) (by decide +kernel)) (fun a _ s H C cl fp => gg_name 8 nd) (by decide)
          (fun x _ s H C cl fp => gts_one (gt_is (gt_w (gw_and (gt_cmp (gp_tup (gpa_cons (gp_name 3 rfl) (gpa_cons (gp_name 8 rfl) gpa_nil))) (gp_name 1 rfl) (cmp_inT (by exact hu) (shaped_P (p.1, x)) (shaped_lot l))) fun _ =>
            gw_and1 (gt_cmp (gp_tup (gpa_cons (gp_name 8 rfl) (gpa_cons (gp_name 4 rfl) gpa_nil))) (gp_name 1 rfl) (cmp_inT (by exact hu) (shaped_P (x, p.2)) (shaped_lot l))))) ?t2))
          (fun x _ _ s H C cl fp => gp_name 8 rfl) ?z2 ?_)
        case t2 => exact congr (congrArg and (any_P l (p.1, x))) (any_P l (x, p.2))
        case z2 => rw [rng_len]; omega
        refine gs_cons (s_if (gt_p (t := lone l p) (gt_is (gt_w (gw_and (gt_cmp (gp_name 4 rfl) (gp_add (gp_name 3 rfl) gp_int) cmp_gt) fun _ => gw_and1 (gt_cmp (gp_name 7 rfl) (gp_of_glp (glp_lst gpa_nil)) (cmp_eqD (u64 hr) (shaped_ints _) shaped_nil)))) ?t3) ⟨fun h => ?_, fun h => gs_nil ?_⟩))
        case t3 =>
          rw [eqv_nil, List.isEmpty_map]
          rfl
        · refine gs_cons (s_app 2 rfl (ge_p (gp_tup (gpa_cons gp_str (gpa_cons (gp_name 3 rfl) (gpa_cons (gp_name 4 rfl) gpa_nil)))) ⟨0, _, rfl, ?_, gs_nil (gs_nil ⟨_, _, _, _, _, _, rfl, ?_⟩)⟩) ⟨_, List.mem_cons_self⟩)
          · have h1 := List.length_filter_le (lone l) (l.take i)
            have h2 : (l.take i).length ≤ l.length := by rw [List.length_take]; omega
            simp only [List.length_map, List.length_append]
            omega
          · rw [ht, List.filter_append, List.filter_cons, if_pos h, List.filter_nil]
            simp [eB]
        · refine gs_nil ⟨_, _, _, _, _, _, rfl, ?_⟩
          rw [ht, List.filter_append, List.filter_cons, if_neg (by rw [h]; exact Bool.false_ne_true), List.filter_nil]
          simp
      · rintro Γ3 O3 ⟨y3, y4, y5, y6, y7, y8, rfl, rfl⟩
        rw [ePs, List.length_map, List.take_length]
        exact gs_freeze 2 0 rfl rfl (gs_cons (s_ret (ge_p (gp_name 2 rfl) hq)))
end
end G

set_option Elab.async false
set_option linter.all false
set_option maxRecDepth 100000
set_option maxHeartbeats 4000000
namespace G
open PySem PySem.Spec L2
/-! ### draws -/
def DeckOk (m : Int) (dk : List PyData) : Prop := ∃ a b c : Int, dk = [.int a, .int b, .int c] ∧ 0 ≤ a ∧ (0 ≤ b ∧ b < 2 ^ 31) ∧ 0 ≤ c ∧ c ≤ m
theorem DeckOk.mono {m m' : Int} {dk : List PyData} (h : DeckOk m dk) (l : m ≤ m') : DeckOk m' dk := by
  obtain ⟨a, b, c, e, h1, h2, h3, h4⟩ := h
  exact ⟨a, b, c, e, h1, h2, h3, by omega⟩
theorem bor1 {O : Own} {a : Addr} {ds : List PyData} {m : List Sl} (h : (a, .L ds) ∈ O) : Bor O (.ow a :: m) (.sh (.list ds) :: m) := .own h (by
  induction m with
  | nil => exact .nil
  | cons s m ih => exact .same ih)
section
variable {P : Program} {w : World} {K : PySem.W.Frag} {mg : Str → Option Value} {base : Heap}
def C_law_deck : Ctr := fun as O q => ∃ cell turn, (0 ≤ turn ∧ turn ≤ 100) ∧ as = [.sh (.int cell), .sh (.int turn)] ∧ O = [] ∧ ∀ l dk, DeckOk 100 dk → q (.ow l) [(l, .L dk)]
theorem ok_law_deck {f : Addr} {fd : FuncData} (F : Fun K "_law_deck" "_law_deck" s_law_deck f fd) (T : Bl mg) : FnOk P w K mg base CX0 1 f fd ["cell", "turn"] (spG K C_law_deck) := by
  refine fn_ok F sc_law_deck (fun as O q h => ?_) fun cdv A outer s H E hr as O q h => ?_
  · obtain ⟨n, l, _, rfl, rfl, _⟩ := h
    rfl
  · obtain ⟨cell, turn, ht, rfl, rfl, hq⟩ := h
    have c18 : CPow 10 18 := ⟨by decide, by decide, by decide⟩
    have hm : (0 ≤ cell % 2147483579 ∧ cell % 2147483579 < 2 ^ 31) := by omega
    refine gs_cons (s_if (gt_p (gt_cmp (gp_name 0 rfl) (gp_pow gp_int gp_int c18) cmp_ge) ⟨fun h => ?_, fun h => gs_nil ?_⟩))
    · have h := of_decide_eq_true h
      exact gs_cons (s_retL (gl_p (glp_lst (gpa_cons (gp_sub (gp_name 0 rfl) (gp_pow gp_int gp_int c18)) (gpa_cons (gp_mod (gp_name 0 rfl) gp_int (by decide)) (gpa_cons (gp_name 1 rfl) gpa_nil)))) fun l => hq l _ ⟨_, _, _, rfl, by omega, hm, by omega, by omega⟩))
    · exact gs_cons (s_retL (gl_p (glp_lst (gpa_cons gp_int (gpa_cons (gp_mod (gp_name 0 rfl) gp_int (by decide)) (gpa_cons (gp_name 1 rfl) gpa_nil)))) fun l => hq l _ ⟨_, _, _, rfl, by omega, hm, by omega, by omega⟩))
def C_law_pick : Ctr := fun as O q => ∃ l dk m size, DeckOk m dk ∧ m ≤ 1000000000 ∧ (1 ≤ size ∧ size < 1073741824) ∧ as = [.ow l, .sh (.int size)] ∧ O = [(l, .L dk)] ∧ ∀ r dk', 0 ≤ r → r < size → DeckOk (m + 1) dk' → q (.sh (.int r)) [(l, .L dk')]
theorem ok_law_pick {f : Addr} {fd : FuncData} (F : Fun K "_law_pick" "_law_pick" s_law_pick f fd) (T : Bl mg) : FnOk P w K mg base CX0 1 f fd ["deck", "size"] (spG K C_law_pick) := by
  refine fn_ok F sc_law_pick (fun as O q h => ?_) fun cdv A outer s H E hr as O q h => ?_
  · obtain ⟨l, dk, m, size, _, _, _, rfl, rfl, _⟩ := h
    rfl
  · obtain ⟨l, dk, m, size, ⟨a, b, c, rfl, ha, hb, hc0, hcm⟩, hm, hs, rfl, rfl, hq⟩ := h
    have nd := sc_law_pick.nd
    have M : ∀ {ds : List PyData}, (l, Cn.L ds) ∈ [(l, Cn.L ds)] := List.mem_cons_self
    refine gs_cons (s_if (gt_b (bor1 M) (gt_cmp (gp_ixL (gp_name 0 rfl) gp_int rfl) gp_int cmp_gt) ⟨fun h => ?_, fun h => gs_nil ?_⟩))
    · refine gs_cons (s_set 2 nd (ge_b (bor1 M) (gp_mod (gp_ixL (gp_name 0 rfl) gp_int rfl) (gp_name 1 rfl) (by omega)) rfl ?_))
      refine gs_cons (s_setIx 0 rfl (ge_b (bor1 M) (gp_fdiv (gp_ixL (gp_name 0 rfl) gp_int rfl) (gp_name 1 rfl) ⟨by omega, by omega⟩) rfl (ge_p gp_int ⟨0, _, 0, 0, rfl, rfl, rfl, ?_⟩)))
      exact gs_cons (s_ret (ge_p (gp_name 2 rfl) (hq _ _ (Int.emod_nonneg _ (by omega)) (Int.emod_lt_of_pos _ (by omega)) ⟨_, _, _, rfl, Int.ediv_nonneg ha (by omega), hb, hc0, by omega⟩)))
    · refine gs_cons (s_setIx 0 rfl (ge_b (bor1 M) (gp_add (gp_ixL (gp_name 0 rfl) gp_int rfl) gp_int) rfl (ge_p gp_int ⟨0, _, 2, 2, rfl, rfl, rfl, ?_⟩)))
      refine gs_cons (s_set 3 nd (ge_b (bor1 M) (gp_mod (gp_pow (gp_add (gp_ixL (gp_name 0 rfl) gp_int rfl) (gp_mul gp_int (gp_ixL (gp_name 0 rfl) gp_int rfl) (.inl (by decide)))) gp_int ⟨by decide, by decide, ?_⟩) gp_int (by decide)) rfl ?_))
      · have : (b + 15485867 * (c + 1)).natAbs < 2 ^ 64 := by omega
        exact this
      have hx : 0 ≤ (b + 15485867 * (c + 1)) ^ (5 : Int).toNat % 2147483647 ∧ (b + 15485867 * (c + 1)) ^ (5 : Int).toNat % 2147483647 < 2147483647 := ⟨Int.emod_nonneg _ (by decide), Int.emod_lt_of_pos _ (by decide)⟩
      revert hx
      generalize (b + 15485867 * (c + 1)) ^ (5 : Int).toNat % 2147483647 = x
      intro hx
      refine gs_cons (s_set 2 nd (ge_b (bor1 M) (gp_fdiv (gp_mod (gp_pow (gp_add (gp_name 3 rfl) (gp_mul gp_int (gp_ixL (gp_name 0 rfl) gp_int rfl) (.inl (by decide)))) gp_int ⟨by decide, by decide, ?_⟩) gp_int (by decide)) gp_int ⟨by decide, by decide⟩) rfl ?_))
      · have : (x + 7919 * (c + 1)).natAbs < 2 ^ 64 := by omega
        exact this
      exact gs_cons (s_ret (ge_p (gp_mod (gp_name 2 rfl) (gp_name 1 rfl) (by omega)) (hq _ _ (Int.emod_nonneg _ (by omega)) (Int.emod_lt_of_pos _ (by omega)) ⟨_, _, _, rfl, ha, hb, by omega, by omega⟩)))
/-- one of a list, drawn -/
def C_law_one : Ctr := fun as O q => ∃ l dk m ds, DeckOk m dk ∧ m ≤ 1000000000 ∧ (1 ≤ ds.length ∧ ds.length < 1000000) ∧ as = [.ow l, .sh (.list ds)] ∧ O = [(l, .L dk)] ∧ ∀ d dk', d ∈ ds → DeckOk (m + 1) dk' → q (.sh d) [(l, .L dk')]
theorem ok_law_one {f : Addr} {fd : FuncData} (F : Fun K "_law_one" "_law_one" s_law_one f fd) (T : Bl mg) (D1 : Def P w K mg base "_law_pick" 1 C_law_pick) : FnOk P w K mg base CX0 2 f fd ["deck", "some"] (spG K C_law_one) := by
  refine fn_ok F sc_law_one (fun as O q h => ?_) fun cdv A outer s H E hr as O q h => ?_
  · obtain ⟨l, dk, m, size, _, _, _, rfl, rfl, _⟩ := h
    rfl
  · obtain ⟨l, dk, m, ds, hdk, hm, hs, rfl, rfl, hq⟩ := h
    refine gs_cons (s_ret (ge_ixLE (ge_p (gp_name 1 rfl) (ge_call D1 (hr.mono (by decide)) (ga_own 0 rfl (ga_p (gpa_cons (gp_lenL T.len (gp_name 1 rfl)) gpa_nil) ⟨_, [], .refl _, l, dk, m, ds.length, hdk, hm, by omega, rfl, rfl, fun r dk' h0 h1 hd => ⟨_, _, rfl, .refl _, ?_⟩⟩))))))
    have hr2 : r.toNat < ds.length := by omega
    refine ⟨ds, r, ds[r.toNat], rfl, rfl, ?_, hq _ _ (List.getElem_mem hr2) hd⟩
    have := atI_nat (xs := ds) (j := r.toNat) (List.getElem?_eq_getElem hr2)
    rw [show ((r.toNat : Nat) : Int) = r by omega] at this
    exact this
end
section
variable {X : Cx} {Γ : List Sl} {O F : Own} {e : Expr} {p1 p2 pos : Pos} {PD : PyData → Own → Prop}
/-- a draw; the deck is the first of the owned objects -/
theorem ge_pickE (i : Nat) {l : Addr} {dk : List PyData} {m size : Int} (D1 : Def X.prog X.w X.K X.mg X.base "_law_pick" 1 C_law_pick) (hr : Room 1 X.A) (h0 : Γ[i]? = some (.ow l)) (hdk : DeckOk m dk) (hm : m ≤ 1000000000) (h : GE X Γ ((l, .L dk) :: F) e fun d O1 => d = .int size ∧ O1 = (l, .L dk) :: F) (hs : 1 ≤ size ∧ size < 1073741824)
    (k : ∀ r dk', 0 ≤ r → r < size → DeckOk (m + 1) dk' → PD (.int r) ((l, .L dk') :: F)) (hN : X.N[i]? = some "deck" := by rfl) (hv : Vis X.env.scope "deck" := by first | exact Or.inl rfl | exact Or.inr (Or.inl rfl) | exact Or.inr (Or.inr rfl)) (hg : Gl X "_law_pick" := by rfl)
    (hs1 : starEach [.Name "deck" p2, e] X.env = (false, eval (.Name "deck" p2) X.env) :: starEach [e] X.env := by rfl) (hs2 : starEach [e] X.env = (false, eval e X.env) :: starEach [] X.env := by rfl) (hpl : (backTo pos (starEach [e] X.env)).any (·.1) = false := by rfl) :
    GE X Γ ((l, .L dk) :: F) (.Call (.Name "_law_pick" p1) [.Name "deck" p2, e] [] pos) PD :=
  ge_call D1 hr (ga_own i h0 (ga_cons (h.imp fun d O1 ⟨e1, e2⟩ => by
    subst e1 e2
    exact ga_nil ⟨[(l, .L dk)], F, .refl _, l, dk, m, size, hdk, hm, hs, rfl, rfl, fun r dk' h0 h1 hd => ⟨_, _, rfl, .refl _, k r dk' h0 h1 hd⟩⟩) hs2) hN hv (by decide) (by decide) hs1) hg (by decide) hs1 hpl
theorem ge_pick (i : Nat) {l : Addr} {dk : List PyData} {m size : Int} (D1 : Def X.prog X.w X.K X.mg X.base "_law_pick" 1 C_law_pick) (hr : Room 1 X.A) (h0 : Γ[i]? = some (.ow l)) (hdk : DeckOk m dk) (hm : m ≤ 1000000000) (h : GP X Γ e (.int size)) (hs : 1 ≤ size ∧ size < 1073741824)
    (k : ∀ r dk', 0 ≤ r → r < size → DeckOk (m + 1) dk' → PD (.int r) ((l, .L dk') :: F)) (hN : X.N[i]? = some "deck" := by rfl) (hv : Vis X.env.scope "deck" := by first | exact Or.inl rfl | exact Or.inr (Or.inl rfl) | exact Or.inr (Or.inr rfl)) (hg : Gl X "_law_pick" := by rfl)
    (hs1 : starEach [.Name "deck" p2, e] X.env = (false, eval (.Name "deck" p2) X.env) :: starEach [e] X.env := by rfl) (hs2 : starEach [e] X.env = (false, eval e X.env) :: starEach [] X.env := by rfl) (hpl : (backTo pos (starEach [e] X.env)).any (·.1) = false := by rfl) :
    GE X Γ ((l, .L dk) :: F) (.Call (.Name "_law_pick" p1) [.Name "deck" p2, e] [] pos) PD := ge_pickE i D1 hr h0 hdk hm (ge_p h ⟨rfl, rfl⟩) hs k hN hv hg hs1 hs2 hpl
theorem ge_one (i : Nat) {l : Addr} {dk : List PyData} {m : Int} {ds : List PyData} (D1 : Def X.prog X.w X.K X.mg X.base "_law_one" 2 C_law_one) (hr : Room 2 X.A) (h0 : Γ[i]? = some (.ow l)) (hdk : DeckOk m dk) (hm : m ≤ 1000000000) (h : GP X Γ e (.list ds)) (hs : 1 ≤ ds.length ∧ ds.length < 1000000)
    (k : ∀ d dk', d ∈ ds → DeckOk (m + 1) dk' → PD d ((l, .L dk') :: F)) (hN : X.N[i]? = some "deck" := by rfl) (hv : Vis X.env.scope "deck" := by first | exact Or.inl rfl | exact Or.inr (Or.inl rfl) | exact Or.inr (Or.inr rfl)) (hg : Gl X "_law_one" := by rfl)
    (hs1 : starEach [.Name "deck" p2, e] X.env = (false, eval (.Name "deck" p2) X.env) :: starEach [e] X.env := by rfl) (hs2 : starEach [e] X.env = (false, eval e X.env) :: starEach [] X.env := by rfl) (hpl : (backTo pos (starEach [e] X.env)).any (·.1) = false := by rfl) :
    GE X Γ ((l, .L dk) :: F) (.Call (.Name "_law_one" p1) [.Name "deck" p2, e] [] pos) PD :=
  ge_call D1 hr (ga_own i h0 (ga_p (gpa_cons h gpa_nil hs2) ⟨[(l, .L dk)], F, .refl _, l, dk, m, ds, hdk, hm, hs, rfl, rfl, fun d dk' hd hk => ⟨_, _, rfl, .refl _, k d dk' hd hk⟩⟩) hN hv (by decide) (by decide) hs1) hg (by decide) hs1 hpl
end
end G

set_option Elab.async false
set_option linter.all false
namespace G
open PySem PySem.Spec L2
abbrev eIs (hs : List Int) : PyData := .tuple (hs.map .int)
end G

set_option Elab.async false
set_option linter.all false
set_option maxRecDepth 100000
set_option maxHeartbeats 4000000
namespace G
open PySem PySem.Spec L2
/-! ### the orders' functions: what they tell -/
def optI : Option Int → PyData
  | none => .none
  | some i => .int i
def outerOf (n : Int) (l : List (Int × Int)) : List Int := (rng 0 n.toNat).filter fun x => !(l.any fun p => decide (p.1 < x) && decide (x < p.2))
def underF (l : List (Int × Int)) : Nat → Int → Int → Int → List (Int × Int) → List (Int × Int)
  | 0, _, _, _, kvs => kvs
  | k + 1, a, b, ab, kvs => match (amidOf l a b).head? with
    | none => kvs
    | some m => underF l k m b m (underF l k a m m (dput kvs m ab))
def leftF (l : List (Int × Int)) (row : List Int) : Nat → List (Int × Int)
  | 0 => []
  | i + 1 => underF l 12 (getI row i) (getI row (i + 1)) (getI row i) (dput (leftF l row i) (getI row i) (getI row (i + 1)))
def rightF (l : List (Int × Int)) (row : List Int) (at0 : Nat) (kvs : List (Int × Int)) : Nat → List (Int × Int)
  | 0 => kvs
  | i + 1 => underF l 12 (getI row (at0 + i)) (getI row (at0 + i + 1)) (getI row (at0 + i + 1)) (dput (rightF l row at0 kvs i) (getI row (at0 + i + 1)) (getI row (at0 + i)))
def treeOf (n : Int) (l : List (Int × Int)) (top : Int) : List (Int × Int) :=
  rightF l (outerOf n l) ((outerOf n l).idxOf top) (leftF l (outerOf n l) ((outerOf n l).idxOf top)) ((outerOf n l).length - 1 - (outerOf n l).idxOf top)
def aboveF (kvs : List (Int × Int)) : Nat → Int → List Int
  | 0, _ => []
  | k + 1, h => match dget kvs h with
    | none => []
    | some p => p :: aboveF kvs k p
def endsF (kvs : List (Int × Int)) : Nat → Int → Bool
  | 0, _ => false
  | k + 1, h => match dget kvs h with
    | none => true
    | some p => endsF kvs k p
theorem underF_len (l : List (Int × Int)) : ∀ (k : Nat) (a b ab : Int) (kvs : List (Int × Int)), (underF l k a b ab kvs).length + 1 ≤ kvs.length + 2 ^ k
  | 0, a, b, ab, kvs => by simp [underF]
  | k + 1, a, b, ab, kvs => by
    unfold underF
    split
    · have : 1 ≤ 2 ^ (k + 1) := Nat.one_le_two_pow
      omega
    · rename_i m _
      have h1 := underF_len l k a m m (dput kvs m ab)
      have h2 := underF_len l k m b m (underF l k a m m (dput kvs m ab))
      have h3 := dput_len kvs m ab
      rw [Nat.pow_succ]
      omega
theorem amid_mem {l : List (Int × Int)} {a b m : Int} (h : (amidOf l a b).head? = some m) : a < m ∧ m < b := by
  have hm := List.mem_of_head? h
  unfold amidOf at hm
  have := rng_mem.mp (List.mem_filter.mp hm).1
  omega
section
variable {P : Program} {w : World} {K : PySem.W.Frag} {mg : Str → Option Value} {base : Heap}
def C_amid : Ctr := fun as O q => ∃ l a b, l.length < 1000 ∧ ((0 ≤ a ∧ a ≤ 100) ∧ (0 ≤ b ∧ b ≤ 100)) ∧ as = [.sh (eLot l), .sh (.int a), .sh (.int b)] ∧ O = [] ∧ q (.sh (optI (amidOf l a b).head?)) []
theorem ok_amid {f : Addr} {fd : FuncData} (F : Fun K "amid" "amid" s_amid f fd) (T : Bl mg) : FnOk P w K mg base CX0 1 f fd ["lot", "low", "high"] (spG K C_amid) := by
  refine fn_ok F sc_amid (fun as O q h => ?_) fun cdv A outer s H E hr as O q h => ?_
  · obtain ⟨l, a, b, _, _, rfl, rfl, _⟩ := h
    rfl
  · obtain ⟨l, a, b, few, hab, rfl, rfl, hq⟩ := h
    have nd := sc_amid.nd
    have hu := u65 hr
    have big : (1003000 : Nat) < sizeLine := by decide
    refine gs_cons (s_setLcS (own := [("place", 4)]) (enc := .int) (out := .int) (pr := fun x => decide ((a, x) ∈ l) && decide ((x, b) ∈ l)) 3 (rng (a + 1) (b - (a + 1)).toNat) (fun x => [.sh (eLot l), .sh (.int a), .sh (.int b), .no, .sh (.int x)]) nd
      (gi_range2 T.range (gp_add (gp_name 1 rfl) gp_int) (gp_name 2 rfl) (by omega)) (blkOk_by (N := N_amid) (sc := defScope s_amid) (by decide +kernel)) (fun a _ s H C cl fp => gg_name 4 nd) (by decide)
      (fun x _ s H C cl fp => gts_one (gt_is (gt_w (gw_and (gt_cmp (gp_tup (gpa_cons (gp_name 1 rfl) (gpa_cons (gp_name 4 rfl) gpa_nil))) (gp_name 0 rfl) (cmp_inT (by exact hu) (shaped_P (a, x)) (shaped_lot l))) fun _ =>
        gw_and1 (gt_cmp (gp_tup (gpa_cons (gp_name 4 rfl) (gpa_cons (gp_name 2 rfl) gpa_nil))) (gp_name 0 rfl) (cmp_inT (by exact hu) (shaped_P (x, b)) (shaped_lot l))))) ?t2))
      (fun x _ _ s H C cl fp => gp_name 4 rfl) ?z2 ?_)
    case t2 => exact congr (congrArg and (any_P l (a, x))) (any_P l (x, b))
    case z2 => rw [rng_len]; omega
    have eA : ((rng (a + 1) (b - (a + 1)).toNat).filter fun x => decide ((a, x) ∈ l) && decide ((x, b) ∈ l)) = amidOf l a b := rfl
    rw [eA]
    refine gs_cons (s_ret (ge_p (gp_if (gt_cmp (gp_name 3 rfl) (gp_of_glp (glp_lst gpa_nil)) (cmp_neD (u64 hr) (shaped_ints _) shaped_nil)) (fun h => ?_) fun h => ?_) hq))
    · rw [eqv_nil, List.isEmpty_map] at h
      cases e : amidOf l a b with
      | nil => rw [e] at h; cases h
      | cons x xs => exact gp_ixL (gp_name 3 rfl) gp_int (atI_nat (j := 0) rfl)
    · rw [eqv_nil, List.isEmpty_map] at h
      cases e : amidOf l a b with
      | nil => exact gp_non
      | cons x xs => rw [e] at h; cases h
def C_outer : Ctr := fun as O q => ∃ n l, (0 ≤ n ∧ n ≤ 12) ∧ l.length < 1000 ∧ as = [.sh (.int n), .sh (eLot l)] ∧ O = [] ∧ q (.sh (.list ((outerOf n l).map .int))) []
theorem ok_outer {f : Addr} {fd : FuncData} (F : Fun K "outer" "outer" s_outer f fd) (T : Bl mg) : FnOk P w K mg base CX0 1 f fd ["many", "lot"] (spG K C_outer) := by
  refine fn_ok F sc_outer (fun as O q h => ?_) fun cdv A outer s H E hr as O q h => ?_
  · obtain ⟨n, l, _, _, rfl, rfl, _⟩ := h
    rfl
  · obtain ⟨n, l, hn, few, rfl, rfl, hq⟩ := h
    have nd := sc_outer.nd
    have big : (1003000 : Nat) < sizeLine := by decide
    refine gs_cons (s_setL 2 nd (gl_p (glp_lst gpa_nil) fun lf => ?_))
    refine gs_cons (s_for (gi_p (gi_range1 T.range (gp_name 0 rfl) (by omega)) ?_))
    refine ⟨fun i Γ O => ∃ y3 y4 y5, Γ = [.sh (.int n), .sh (eLot l), .ow lf, y3, y4, y5] ∧ O = [(lf, .L (((rng 0 i).filter fun x => !(l.any fun p => decide (p.1 < x) && decide (x < p.2))).map .int))], ⟨_, _, _, rfl, rfl⟩, ?_, ?_⟩
    · rintro i d Γ2 O2 hd ⟨y3, y4, y5, rfl, rfl⟩
      obtain ⟨hi, rfl⟩ := rng_get hd
      have hs : rng 0 (i + 1) = rng 0 i ++ [0 + (i : Int)] := by unfold rng; rw [List.range_succ, List.map_append]; rfl
      refine ⟨_, _, gg_name 3 nd, ?_⟩
      generalize hx : 0 + (i : Int) = x
      refine gs_cons (s_if (gt_p (t := !(l.any fun p => decide (p.1 < x) && decide (x < p.2))) (gt_not (gt_val (gp_is (gp_any (bs := l.map fun p => decide (p.1 < x) && decide (x < p.2)) T.any (gp_is (gp_of_glp (glp_lc (own := [("one", 4), ("other", 5)]) (enc := eP) (out := fun p => .bool (decide (p.1 < x) && decide (x < p.2))) (p := fun _ => true) l
        (fun p => [.sh (.int n), .sh (eLot l), .ow lf, .sh (.int x), .sh (.int p.1), .sh (.int p.2)]) nd (gi_tup (gp_name 1 rfl)) (blkOk_by (N := N_outer) (sc := defScope s_outer) (by decide +kernel))
        (fun p _ s H C cl fp => gg_tup (ggs_cons (gg_name 4 nd) (ggs_cons (gg_name 5 nd) ggs_nil))) (by decide) (fun x _ s H C cl fp => gts_nil)
        (fun p _ _ s H C cl fp => gp_chain (gp_name 4 rfl) (gch_link (gp_name 3 rfl) cmp_lt (gch_last (gp_name 5 rfl) cmp_lt))) (by omega))) ?ge)) ?gf))) ⟨fun h => ?_, fun h => gs_nil ?_⟩))
      case ge => rw [filt_true, List.map_map]; rfl
      case gf => rw [List.any_map]; rfl
      · refine gs_cons (s_app 2 rfl (ge_p (gp_name 3 rfl) ⟨0, _, rfl, ?_, gs_nil (gs_nil ⟨_, _, _, rfl, ?_⟩)⟩) ⟨_, List.mem_cons_self⟩)
        · have h1 := List.length_filter_le (fun x => !(l.any fun p => decide (p.1 < x) && decide (x < p.2))) (rng 0 i)
          rw [rng_len] at h1
          rw [List.length_map]
          omega
        · rw [hs, List.filter_append, hx, List.filter_cons, if_pos h, List.filter_nil, List.map_append]
          rfl
      · refine gs_nil ⟨_, _, _, rfl, ?_⟩
        rw [hs, List.filter_append, hx, List.filter_cons, if_neg (by rw [h]; exact Bool.false_ne_true), List.filter_nil, List.append_nil]
    · rintro Γ2 O2 ⟨y3, y4, y5, rfl, rfl⟩
      rw [List.length_map, rng_len]
      exact gs_freeze 2 0 rfl rfl (gs_cons (s_ret (ge_p (gp_name 2 rfl) hq)))
def C_under (k : Nat) : Ctr := fun as O q => ∃ l f a b ab kvs, l.length < 1000 ∧ ((0 ≤ a ∧ a ≤ 100) ∧ (0 ≤ b ∧ b ≤ 100)) ∧ b - a ≤ (k : Int) ∧ kvs.length + 2 ^ k ≤ 1000000 ∧ as = [.sh (eLot l), .sh (.int a), .sh (.int b), .sh (.int ab), .ow f] ∧ O = [(f, .I kvs)] ∧ q (.sh .none) [(f, .I (underF l k a b ab kvs))]
theorem ok_under {f : Addr} {fd : FuncData} (F : Fun K "under" "under" s_under f fd) (T : Bl mg) (hmg : mg "under" = some (.ref f)) (hb : Binds K fd ["lot", "low", "high", "above", "found"] []) (D1 : Def P w K mg base "amid" 1 C_amid) : ∀ k, FnOk P w K mg base CX0 (k + 2) f fd ["lot", "low", "high", "above", "found"] (spG K (C_under k)) := by
  intro k
  induction k with
  | zero =>
    refine fn_ok F sc_under (fun as O q h => ?_) fun cdv A outer s H E hr as O q h => ?_
    · obtain ⟨l, fo, a, b, ab, kvs, _, _, _, _, rfl, rfl, _⟩ := h
      rfl
    · obtain ⟨l, fo, a, b, ab, kvs, few, hab, hk, hz, rfl, rfl, hq⟩ := h
      have nd := sc_under.nd
      have e0 : (amidOf l a b).head? = none := by
        cases e : (amidOf l a b).head? with
        | none => rfl
        | some m => have := amid_mem e; omega
      refine gs_cons (s_set 5 nd (ge_p (gp_is (d' := .none) (gp_call D1 (hr.mono (by decide)) (gpa_cons (gp_name 0 rfl) (gpa_cons (gp_name 1 rfl) (gpa_cons (gp_name 2 rfl) gpa_nil))) ⟨_, _, _, few, hab, rfl, rfl, rfl, rfl⟩) (by rw [e0]; rfl)) ?_))
      exact gs_cons (s_if (gt_p (gt_cmp (gp_name 5 rfl) gp_non cmp_notN) ⟨(fun h => by cases h), fun _ => gs_nil (gs_nil hq)⟩))
  | succ k ih =>
    have D2 : Def P w K mg base "under" (k + 2) (C_under k) := ⟨f, fd, _, ih, hmg, F.kp, hb⟩
    refine fn_ok F sc_under (fun as O q h => ?_) fun cdv A outer s H E hr as O q h => ?_
    · obtain ⟨l, fo, a, b, ab, kvs, _, _, _, _, rfl, rfl, _⟩ := h
      rfl
    · obtain ⟨l, fo, a, b, ab, kvs, few, hab, hk, hz, rfl, rfl, hq⟩ := h
      have nd := sc_under.nd
      have big : (1003000 : Nat) < sizeLine := by decide
      have one : 1 ≤ 2 ^ k := Nat.one_le_two_pow
      rw [Nat.pow_succ] at hz
      cases e0 : (amidOf l a b).head? with
      | none =>
        refine gs_cons (s_set 5 nd (ge_p (gp_is (d' := .none) (gp_call D1 (hr.mono (by omega)) (gpa_cons (gp_name 0 rfl) (gpa_cons (gp_name 1 rfl) (gpa_cons (gp_name 2 rfl) gpa_nil))) ⟨_, _, _, few, hab, rfl, rfl, rfl, rfl⟩) (by rw [e0]; rfl)) ?_))
        refine gs_cons (s_if (gt_p (gt_cmp (gp_name 5 rfl) gp_non cmp_notN) ⟨(fun h => by cases h), fun _ => gs_nil (gs_nil ?_)⟩))
        have : underF l (k + 1) a b ab kvs = kvs := by unfold underF; rw [e0]
        rw [this] at hq
        exact hq
      | some m =>
        have hm := amid_mem e0
        have eU : underF l (k + 1) a b ab kvs = underF l k m b m (underF l k a m m (dput kvs m ab)) := by rw [underF, e0]
        rw [eU] at hq
        have h1 := underF_len l k a m m (dput kvs m ab)
        have h3 := dput_len kvs m ab
        refine gs_cons (s_set 5 nd (ge_p (gp_is (d' := .int m) (gp_call D1 (hr.mono (by omega)) (gpa_cons (gp_name 0 rfl) (gpa_cons (gp_name 1 rfl) (gpa_cons (gp_name 2 rfl) gpa_nil))) ⟨_, _, _, few, hab, rfl, rfl, rfl, rfl⟩) (by rw [e0]; rfl)) ?_))
        refine gs_cons (s_if (gt_p (gt_cmp (gp_name 5 rfl) gp_non cmp_notN) ⟨fun _ => ?_, (fun h => by cases h)⟩))
        refine gs_cons (s_putI 4 (Nat.lt_of_le_of_lt (Nat.add_le_add_left (by decide : 1 ≤ 64) _) (u64 hr)) rfl (ge_p (gp_name 3 rfl) (ge_p (gp_name 5 rfl) ⟨ab, 0, kvs, m, rfl, rfl, rfl, by omega, ?_⟩)))
        refine gs_cons (s_expr (ge_call D2 (hr.mono (by omega)) (ga_cons (ge_p (gp_name 0 rfl) (ga_cons (ge_p (gp_name 1 rfl) (ga_cons (ge_p (gp_name 5 rfl) (ga_cons (ge_p (gp_name 5 rfl) (ga_own 4 rfl (ga_nil ⟨_, [], .refl _, l, fo, a, m, m, dput kvs m ab, few, by omega, by omega, by omega, rfl, rfl, ⟨_, _, rfl, .refl _, ?_⟩⟩))))))))))))
        refine gs_cons (s_expr (ge_call D2 (hr.mono (by omega)) (ga_cons (ge_p (gp_name 0 rfl) (ga_cons (ge_p (gp_name 5 rfl) (ga_cons (ge_p (gp_name 2 rfl) (ga_cons (ge_p (gp_name 5 rfl) (ga_own 4 rfl (ga_nil ⟨_, [], .refl _, l, fo, m, b, m, underF l k a m m (dput kvs m ab), few, by omega, by omega, by omega, rfl, rfl, ⟨_, _, rfl, .refl _, ?_⟩⟩))))))))))))
        exact gs_nil (gs_nil hq)
end
end G

set_option Elab.async false
set_option linter.all false
set_option maxRecDepth 100000
set_option maxHeartbeats 4000000
namespace G
open PySem PySem.Spec L2
theorem outer_mem {n x : Int} {l : List (Int × Int)} (h : x ∈ outerOf n l) : 0 ≤ x ∧ x < n := by
  unfold outerOf at h
  have := rng_mem.mp (List.mem_filter.mp h).1
  omega
theorem outer_len (n : Int) (l : List (Int × Int)) (h : n ≤ 12) : (outerOf n l).length ≤ 12 := by
  unfold outerOf
  have := List.length_filter_le (fun x => !(l.any fun p => decide (p.1 < x) && decide (x < p.2))) (rng 0 n.toNat)
  rw [rng_len] at this
  omega
theorem at_row {row : List Int} {i : Nat} {j : Int} (hi : i < row.length) (hj : j = (i : Int)) : atI (row.map PyData.int) j = some (.int (getI row i)) := by
  subst hj
  refine atI_nat ?_
  rw [List.getElem?_map, getI, List.getD_eq_getElem?_getD, List.getElem?_eq_getElem hi]
  rfl
theorem getI_mem {row : List Int} {i : Nat} (hi : i < row.length) : getI row i ∈ row := by
  rw [getI, List.getD_eq_getElem?_getD, List.getElem?_eq_getElem hi]
  exact List.getElem_mem hi
theorem leftF_len (l : List (Int × Int)) (row : List Int) : ∀ i, (leftF l row i).length ≤ 4097 * i
  | 0 => by simp [leftF]
  | i + 1 => by
    have h1 := leftF_len l row i
    have h2 := underF_len l 12 (getI row i) (getI row (i + 1)) (getI row i) (dput (leftF l row i) (getI row i) (getI row (i + 1)))
    have h3 := dput_len (leftF l row i) (getI row i) (getI row (i + 1))
    rw [leftF]
    omega
theorem rightF_len (l : List (Int × Int)) (row : List Int) (at0 : Nat) (kvs : List (Int × Int)) : ∀ i, (rightF l row at0 kvs i).length ≤ kvs.length + 4097 * i
  | 0 => by simp [rightF]
  | i + 1 => by
    have h1 := rightF_len l row at0 kvs i
    have h2 := underF_len l 12 (getI row (at0 + i)) (getI row (at0 + i + 1)) (getI row (at0 + i + 1)) (dput (rightF l row at0 kvs i) (getI row (at0 + i + 1)) (getI row (at0 + i)))
    have h3 := dput_len (rightF l row at0 kvs i) (getI row (at0 + i + 1)) (getI row (at0 + i))
    rw [rightF]
    omega
theorem treeOf_len (n : Int) (l : List (Int × Int)) (top : Int) (h : n ≤ 12) : (treeOf n l top).length ≤ 100000 := by
  have h0 := outer_len n l h
  have h1 := leftF_len l (outerOf n l) ((outerOf n l).idxOf top)
  have h2 := rightF_len l (outerOf n l) ((outerOf n l).idxOf top) (leftF l (outerOf n l) ((outerOf n l).idxOf top)) ((outerOf n l).length - 1 - (outerOf n l).idxOf top)
  have h3 : (outerOf n l).idxOf top ≤ (outerOf n l).length := List.idxOf_le_length
  unfold treeOf
  omega
section
variable {P : Program} {w : World} {K : PySem.W.Frag} {mg : Str → Option Value} {base : Heap}
theorem u1 {k : Nat} {A : Around} (r : Room k A) : A.units + 1 < cLine := Nat.lt_of_le_of_lt (Nat.add_le_add_left (by decide : 1 ≤ 64) _) (u64 r)
def C_tree_of : Ctr := fun as O q => ∃ n l top, (0 ≤ n ∧ n ≤ 12) ∧ l.length < 1000 ∧ top ∈ outerOf n l ∧ as = [.sh (.int n), .sh (eLot l), .sh (.int top)] ∧ O = [] ∧ q (.sh (dI (treeOf n l top))) []
theorem ok_tree_of {f : Addr} {fd : FuncData} (F : Fun K "tree_of" "tree_of" s_tree_of f fd) (T : Bl mg) (D1 : Def P w K mg base "outer" 1 C_outer) (D2 : Def P w K mg base "under" 14 (C_under 12)) : FnOk P w K mg base CX0 15 f fd ["many", "lot", "top"] (spG K C_tree_of) := by
  refine fn_ok F sc_tree_of (fun as O q h => ?_) fun cdv A outer s H E hr as O q h => ?_
  · obtain ⟨n, l, top, _, _, _, rfl, rfl, _⟩ := h
    rfl
  · obtain ⟨n, l, top, hn, few, ht, rfl, rfl, hq⟩ := h
    have nd := sc_tree_of.nd
    have big : (1003000 : Nat) < sizeLine := by decide
    refine gs_cons (s_set 3 nd (ge_p (gp_call D1 (hr.mono (by decide)) (gpa_cons (gp_name 0 rfl) (gpa_cons (gp_name 1 rfl) gpa_nil)) ⟨_, _, hn, few, rfl, rfl, rfl, rfl⟩) ?_))
    have hlen := outer_len n l hn.2
    have hmem : ∀ i, i < (outerOf n l).length → (0 ≤ getI (outerOf n l) i ∧ getI (outerOf n l) i ≤ 100) ∧ getI (outerOf n l) i < n := fun i hi => by
      have := outer_mem (getI_mem hi)
      omega
    have hix : (outerOf n l).idxOf top < (outerOf n l).length := List.idxOf_lt_length_of_mem ht
    have eT : treeOf n l top = rightF l (outerOf n l) ((outerOf n l).idxOf top) (leftF l (outerOf n l) ((outerOf n l).idxOf top)) ((outerOf n l).length - 1 - (outerOf n l).idxOf top) := rfl
    rw [eT] at hq
    refine gs_cons (s_set 4 nd (ge_p (gp_index (u65 hr) (gp_name 3 rfl) (gp_name 2 rfl) ht) ?_))
    revert hlen hmem hix hq
    generalize (outerOf n l).idxOf top = at0
    generalize outerOf n l = row
    intro hq hlen hmem hix
    refine gs_cons (s_newI 5 nd fun lf => ?_)
    refine gs_cons (s_for (gi_p (gi_range1 T.range (gp_name 4 rfl) (by omega)) ?_))
    refine ⟨fun i Γ O => ∃ y6, Γ = [.sh (.int n), .sh (eLot l), .sh (.int top), .sh (.list (row.map .int)), .sh (.int (at0 : Int)), .ow lf, y6] ∧ O = [(lf, .I (leftF l row i))], ⟨_, rfl, rfl⟩, ?_, ?_⟩
    · rintro i d Γ2 O2 hd ⟨y6, rfl, rfl⟩
      obtain ⟨hi, rfl⟩ := rng_get hd
      have hi : i < at0 := by omega
      have m1 := hmem i (by omega)
      have m2 := hmem (i + 1) (by omega)
      have ll := leftF_len l row i
      have dl := dput_len (leftF l row i) (getI row i) (getI row (i + 1))
      refine ⟨_, _, gg_name 6 nd, ?_⟩
      refine gs_cons (s_putI 5 (u1 hr) rfl (ge_p (gp_ixL (gp_name 3 rfl) (gp_add (gp_name 6 rfl) gp_int) (at_row (i := i + 1) (by omega) (by omega))) (ge_p (gp_ixL (gp_name 3 rfl) (gp_name 6 rfl) (at_row (i := i) (by omega) (by omega))) ⟨_, 0, _, _, rfl, rfl, rfl, by omega, ?_⟩)))
      refine gs_cons (s_expr (ge_call D2 (hr.mono (by decide)) (ga_cons (ge_p (gp_name 1 rfl) (ga_cons (ge_p (gp_ixL (gp_name 3 rfl) (gp_name 6 rfl) (at_row (i := i) (by omega) (by omega))) (ga_cons (ge_p (gp_ixL (gp_name 3 rfl) (gp_add (gp_name 6 rfl) gp_int) (at_row (i := i + 1) (by omega) (by omega)))
        (ga_cons (ge_p (gp_ixL (gp_name 3 rfl) (gp_name 6 rfl) (at_row (i := i) (by omega) (by omega))) (ga_own 5 rfl (ga_nil ⟨_, [], .refl _, l, lf, _, _, _, _, few, ⟨m1.1, m2.1⟩, by omega, by omega, rfl, rfl, ⟨_, _, rfl, .refl _, ?_⟩⟩))))))))))))
      exact gs_nil ⟨_, rfl, rfl⟩
    · rintro Γ2 O2 ⟨y6, rfl, rfl⟩
      rw [List.length_map, rng_len]
      have e0 : ((at0 : Int)).toNat = at0 := by omega
      rw [e0]
      have ll := leftF_len l row at0
      refine gs_cons (s_for (gi_p (gi_range2 T.range (gp_name 4 rfl) (gp_sub (gp_lenL T.len (gp_name 3 rfl)) gp_int) (by rw [List.length_map]; omega)) ?_))
      refine ⟨fun i Γ O => ∃ y6, Γ = [.sh (.int n), .sh (eLot l), .sh (.int top), .sh (.list (row.map .int)), .sh (.int (at0 : Int)), .ow lf, y6] ∧ O = [(lf, .I (rightF l row at0 (leftF l row at0) i))], ⟨_, rfl, rfl⟩, ?_, ?_⟩
      · rintro i d Γ2 O2 hd ⟨y6, rfl, rfl⟩
        obtain ⟨hi, rfl⟩ := rng_get hd
        rw [List.length_map] at hi
        have m1 := hmem (at0 + i) (by omega)
        have m2 := hmem (at0 + i + 1) (by omega)
        have rl := rightF_len l row at0 (leftF l row at0) i
        have dl := dput_len (rightF l row at0 (leftF l row at0) i) (getI row (at0 + i + 1)) (getI row (at0 + i))
        refine ⟨_, _, gg_name 6 nd, ?_⟩
        refine gs_cons (s_putI 5 (u1 hr) rfl (ge_p (gp_ixL (gp_name 3 rfl) (gp_name 6 rfl) (at_row (i := at0 + i) (by omega) (by omega))) (ge_p (gp_ixL (gp_name 3 rfl) (gp_add (gp_name 6 rfl) gp_int) (at_row (i := at0 + i + 1) (by omega) (by omega))) ⟨_, 0, _, _, rfl, rfl, rfl, by omega, ?_⟩)))
        refine gs_cons (s_expr (ge_call D2 (hr.mono (by decide)) (ga_cons (ge_p (gp_name 1 rfl) (ga_cons (ge_p (gp_ixL (gp_name 3 rfl) (gp_name 6 rfl) (at_row (i := at0 + i) (by omega) (by omega))) (ga_cons (ge_p (gp_ixL (gp_name 3 rfl) (gp_add (gp_name 6 rfl) gp_int) (at_row (i := at0 + i + 1) (by omega) (by omega)))
          (ga_cons (ge_p (gp_ixL (gp_name 3 rfl) (gp_add (gp_name 6 rfl) gp_int) (at_row (i := at0 + i + 1) (by omega) (by omega))) (ga_own 5 rfl (ga_nil ⟨_, [], .refl _, l, lf, _, _, _, _, few, ⟨m1.1, m2.1⟩, by omega, by omega, rfl, rfl, ⟨_, _, rfl, .refl _, ?_⟩⟩))))))))))))
        exact gs_nil ⟨_, rfl, rfl⟩
      · rintro Γ2 O2 ⟨y6, rfl, rfl⟩
        rw [List.length_map, rng_len, List.length_map]
        have e1 : (((row.length : Nat) : Int) - 1 - (at0 : Int)).toNat = row.length - 1 - at0 := by omega
        rw [e1]
        exact gs_freezeI 5 0 rfl rfl (gs_cons (s_ret (ge_p (gp_name 5 rfl) hq)))
def C_above_all : Ctr := fun as O q => ∃ kvs h k, endsF kvs k h = true ∧ k ≤ 1000 ∧ as = [.sh (dI kvs), .sh (.int h)] ∧ O = [] ∧ q (.sh (.list ((aboveF kvs k h).map .int))) []
theorem ok_above_all {f : Addr} {fd : FuncData} (F : Fun K "above_all" "above_all" s_above_all f fd) (T : Bl mg) : FnOk P w K mg base CX0 1 f fd ["tree", "house"] (spG K C_above_all) := by
  refine fn_ok F sc_above_all (fun as O q h => ?_) fun cdv A outer s H E hr as O q h => ?_
  · obtain ⟨kvs, h, k, _, _, rfl, rfl, _⟩ := h
    rfl
  · obtain ⟨kvs, h, k, he, hk, rfl, rfl, hq⟩ := h
    have nd := sc_above_all.nd
    have big : (1003000 : Nat) < sizeLine := by decide
    refine gs_cons (s_setL 2 nd (gl_p (glp_lst gpa_nil) fun lf => ?_))
    refine gs_cons (s_while (fun m Γ O => ∃ h' dn, endsF kvs m h' = true ∧ dn ++ aboveF kvs m h' = aboveF kvs k h ∧ dn.length + m = k ∧ Γ = [.sh (dI kvs), .sh (.int h'), .ow lf] ∧ O = [(lf, .L (dn.map .int))]) k ⟨h, [], he, rfl, by simp, rfl, rfl⟩ ?_)
    rintro m Γ2 O2 ⟨h', dn, he2, e1, e2, rfl, rfl⟩
    cases m with
    | zero => simp [endsF] at he2
    | succ m =>
      rw [endsF] at he2
      rw [aboveF] at e1
      cases hg : dget kvs h' with
      | none =>
        rw [hg] at e1
        rw [List.append_nil] at e1
        refine gt_p (t := false) (gt_is (gt_inI (u1 hr) (gp_name 1 rfl) (gp_name 0 rfl)) (by rw [hg]; rfl)) ⟨(fun h => by cases h), fun _ => ?_⟩
        rw [e1]
        exact gs_freeze 2 0 rfl rfl (gs_cons (s_ret (ge_p (gp_name 2 rfl) hq)))
      | some p =>
        rw [hg] at e1 he2
        refine gt_p (t := true) (gt_is (gt_inI (u1 hr) (gp_name 1 rfl) (gp_name 0 rfl)) (by rw [hg]; rfl)) ⟨fun _ => ?_, (fun h => by cases h)⟩
        refine gs_cons (s_set 1 nd (ge_p (gp_getI (u1 hr) (gp_name 0 rfl) (gp_name 1 rfl) hg) ?_))
        refine gs_cons (s_app 2 rfl (ge_p (gp_name 1 rfl) ⟨0, _, rfl, by rw [List.length_map]; omega, gs_nil ⟨m, by omega, p, dn ++ [p], he2, by rw [← e1]; simp, by rw [List.length_append, List.length_singleton]; omega, rfl, by simp⟩⟩) ⟨_, List.mem_cons_self⟩)
end
end G

set_option Elab.async false
set_option linter.all false
set_option maxRecDepth 100000
set_option pp.maxSteps 600
set_option maxHeartbeats 4000000
namespace G
open PySem PySem.Spec L2
/-! ### how many orders -/
def bump (s : List Int) (h : Int) : List Int := s.set h.toNat (s.getD h.toNat 0 + 1)
def bumps (kvs : List (Int × Int)) (s : List Int) (p : Int × Int) : List Int := (aboveF kvs 13 p.1).foldl bump s
def sizesOf (n : Int) (kvs : List (Int × Int)) : List Int := kvs.foldl (bumps kvs) (List.replicate n.toNat 1)
def factI (n : Int) : Int := (rng 2 (n + 1 - 2).toNat).foldl (· * ·) 1
def ordersOf (n : Int) (kvs : List (Int × Int)) : Int := (sizesOf n kvs).foldl (· / ·) (factI n)
structure TreeOk (n : Int) (kvs : List (Int × Int)) : Prop where
  ends : ∀ h, 0 ≤ h → h < n → endsF kvs 13 h = true
  inn : ∀ h, 0 ≤ h → h < n → ∀ x ∈ aboveF kvs 13 h, 0 ≤ x ∧ x < n
  keys : ∀ p ∈ kvs, 0 ≤ p.1 ∧ p.1 < n
  few : kvs.length ≤ 100000
theorem aboveF_len (kvs : List (Int × Int)) : ∀ k h, (aboveF kvs k h).length ≤ k
  | 0, h => by simp [aboveF]
  | k + 1, h => by
    rw [aboveF]
    cases e : dget kvs h with
    | none => simp
    | some p =>
      have := aboveF_len kvs k p
      rw [List.length_cons]
      omega
/-- sizes, so far -/
structure SzOk (n : Int) (b : Int) (s : List Int) : Prop where
  len : (s.length : Int) = n
  pos : ∀ x ∈ s, 1 ≤ x ∧ x ≤ b
theorem SzOk.mono {n b b' : Int} {s : List Int} (h : SzOk n b s) (l : b ≤ b') : SzOk n b' s := ⟨h.len, fun x hx => ⟨(h.pos x hx).1, by have := (h.pos x hx).2; omega⟩⟩
theorem SzOk.get {n b x : Int} {s : List Int} (h : SzOk n b s) (h0 : 0 ≤ x) (h1 : x < n) : s[x.toNat]? = some (s.getD x.toNat 0) ∧ s.getD x.toNat 0 ∈ s := by
  have hl := h.len
  have : x.toNat < s.length := by omega
  rw [List.getD_eq_getElem?_getD, List.getElem?_eq_getElem this]
  exact ⟨rfl, List.getElem_mem this⟩
theorem SzOk.bump {n b x : Int} {s : List Int} (h : SzOk n b s) (h0 : 0 ≤ x) (h1 : x < n) : SzOk n (b + 1) (bump s x) := by
  refine ⟨by unfold G.bump; rw [List.length_set]; exact h.len, fun y hy => ?_⟩
  unfold G.bump at hy
  rcases List.mem_or_eq_of_mem_set hy with hy | rfl
  · have := h.pos y hy
    omega
  · have := h.pos _ (h.get h0 h1).2
    omega
theorem foldl_snoc {α β : Type} (f : β → α → β) (b : β) (l : List α) (x : α) : (l ++ [x]).foldl f b = f (l.foldl f b) x := by
  rw [List.foldl_append]; rfl
section
variable {P : Program} {w : World} {K : PySem.W.Frag} {mg : Str → Option Value} {base : Heap}
def C_orders_by : Ctr := fun as O q => ∃ n kvs, (0 ≤ n ∧ n ≤ 12) ∧ TreeOk n kvs ∧ as = [.sh (.int n), .sh (dI kvs)] ∧ O = [] ∧ q (.sh (.int (ordersOf n kvs))) []
theorem ok_orders_by {f : Addr} {fd : FuncData} (F : Fun K "orders_by" "orders_by" s_orders_by f fd) (T : Bl mg) (D1 : Def P w K mg base "above_all" 1 C_above_all) : FnOk P w K mg base CX0 2 f fd ["many", "tree"] (spG K C_orders_by) := by
  refine fn_ok F sc_orders_by (fun as O q h => ?_) fun cdv A outer s H E hr as O q h => ?_
  · obtain ⟨n, kvs, _, _, rfl, rfl, _⟩ := h
    rfl
  · obtain ⟨n, kvs, hn, ht, rfl, rfl, hq⟩ := h
    have nd := sc_orders_by.nd
    have big : (1003000 : Nat) < sizeLine := by decide
    have few := ht.few
    refine gs_cons (s_setL 2 nd (gl_p (glp_rep (glp_lst (gpa_cons gp_int gpa_nil)) (gp_name 0 rfl) (by omega) (by simp; omega)) fun lf => ?_))
    have e0 : (List.replicate n.toNat [PyData.int 1]).flatten = (List.replicate n.toNat (1 : Int)).map .int := by
      generalize n.toNat = m
      induction m with
      | zero => rfl
      | succ m ih => rw [List.replicate_succ, List.flatten_cons, ih, List.replicate_succ]; rfl
    rw [e0]
    have s0 : SzOk n 1 (List.replicate n.toNat (1 : Int)) := ⟨by rw [List.length_replicate]; omega, fun x hx => by rw [List.eq_of_mem_replicate hx]; omega⟩
    refine gs_cons (s_forD 1 rfl ⟨fun i Γ O => ∃ y3 y4 y5 y6 y7, Γ = [.sh (.int n), .sh (dI kvs), .ow lf, y3, y4, y5, y6, y7] ∧ O = [(lf, .L (((kvs.take i).foldl (bumps kvs) (List.replicate n.toNat 1)).map .int))] ∧ SzOk n (1 + 13 * i) ((kvs.take i).foldl (bumps kvs) (List.replicate n.toNat 1)), ⟨_, _, _, _, _, rfl, rfl, by simpa using s0⟩, ?_, ?_⟩)
    · rintro i d Γ2 O2 hd ⟨y3, y4, y5, y6, y7, rfl, rfl, hs⟩
      rw [List.getElem?_map] at hd
      cases hp : kvs[i]? with
      | none => rw [hp] at hd; cases hd
      | some p =>
        rw [hp] at hd
        cases hd
        have hpm := List.mem_of_getElem? hp
        have hk := ht.keys p hpm
        have hT := take_snoc hp
        have hil : i < kvs.length := (List.getElem?_eq_some_iff.mp hp).1
        have inn := ht.inn p.1 hk.1 hk.2
        have al := aboveF_len kvs 13 p.1
        refine ⟨_, _, gg_name 3 nd, ?_⟩
        have eN : (kvs.take (i + 1)).foldl (bumps kvs) (List.replicate n.toNat 1) = (aboveF kvs 13 p.1).foldl bump ((kvs.take i).foldl (bumps kvs) (List.replicate n.toNat 1)) := by rw [hT, foldl_snoc]; rfl
        generalize (kvs.take i).foldl (bumps kvs) (List.replicate n.toNat 1) = st at hs eN ⊢
        refine gs_cons (s_for (gi_p (gi_list (gp_call D1 (hr.mono (by decide)) (gpa_cons (gp_name 1 rfl) (gpa_cons (gp_name 3 rfl) gpa_nil)) ⟨kvs, p.1, 13, ht.ends p.1 hk.1 hk.2, by decide, rfl, rfl, rfl, rfl⟩)) ?_))
        refine ⟨fun j Γ O => ∃ y4, Γ = [.sh (.int n), .sh (dI kvs), .ow lf, .sh (.int p.1), y4, y5, y6, y7] ∧ O = [(lf, .L ((((aboveF kvs 13 p.1).take j).foldl bump st).map .int))] ∧ SzOk n (1 + 13 * i + j) (((aboveF kvs 13 p.1).take j).foldl bump st), ⟨_, rfl, rfl, by simpa using hs⟩, ?_, ?_⟩
        · rintro j d Γ3 O3 hd2 ⟨y4, rfl, rfl, hs2⟩
          rw [List.getElem?_map] at hd2
          cases hx : (aboveF kvs 13 p.1)[j]? with
          | none => rw [hx] at hd2; cases hd2
          | some x =>
            rw [hx] at hd2
            cases hd2
            have hxm := inn x (List.mem_of_getElem? hx)
            have hT2 := take_snoc hx
            refine ⟨_, _, gg_name 4 nd, ?_⟩
            have eN2 : ((aboveF kvs 13 p.1).take (j + 1)).foldl bump st = bump (((aboveF kvs 13 p.1).take j).foldl bump st) x := by rw [hT2, foldl_snoc]
            generalize ((aboveF kvs 13 p.1).take j).foldl bump st = su at hs2 eN2 ⊢
            have hg := hs2.get hxm.1 hxm.2
            refine gs_cons (s_augIx 2 rfl (ge_p (gp_name 4 rfl) ⟨x.toNat, _, _, by rw [Int.toNat_of_nonneg hxm.1], List.mem_cons_self, by rw [List.getElem?_map, hg.1]; rfl, ge_p gp_int ⟨1, 0, rfl, rfl, ?_⟩⟩))
            refine gs_nil ⟨_, rfl, ?_, by rw [eN2]; exact (hs2.bump hxm.1 hxm.2).mono (by omega)⟩
            rw [eN2]
            unfold bump
            rw [List.map_set]
            rfl
        · rintro Γ3 O3 ⟨y4, rfl, rfl, hs2⟩
          rw [List.length_map, List.take_length] at hs2
          rw [List.length_map, List.take_length]
          exact gs_nil ⟨_, _, _, _, _, rfl, by rw [eN], by rw [eN]; exact hs2.mono (by omega)⟩
    · rintro Γ2 O2 ⟨y3, y4, y5, y6, y7, rfl, rfl, hs⟩
      rw [List.take_length] at hs ⊢
      have eS : kvs.foldl (bumps kvs) (List.replicate n.toNat 1) = sizesOf n kvs := rfl
      rw [eS] at hs ⊢
      refine gs_cons (s_set 5 nd (ge_p gp_int ?_))
      refine gs_cons (s_for (gi_p (gi_range2 T.range gp_int (gp_add (gp_name 0 rfl) gp_int) (by omega)) ?_))
      refine ⟨fun i Γ O => ∃ y6, Γ = [.sh (.int n), .sh (dI kvs), .ow lf, y3, y4, .sh (.int ((rng 2 i).foldl (· * ·) 1)), y6, y7] ∧ O = [(lf, .L ((sizesOf n kvs).map .int))], ⟨_, rfl, rfl⟩, ?_, ?_⟩
      · rintro i d Γ3 O3 hd ⟨y6, rfl, rfl⟩
        obtain ⟨hi, rfl⟩ := rng_get hd
        have hsn : rng 2 (i + 1) = rng 2 i ++ [2 + (i : Int)] := by unfold rng; rw [List.range_succ, List.map_append]; rfl
        refine ⟨_, _, gg_name 6 nd, ?_⟩
        have eN : (rng 2 (i + 1)).foldl (· * ·) 1 = ((rng 2 i).foldl (· * ·) 1) * (2 + (i : Int)) := by rw [hsn, foldl_snoc]
        refine gs_cons (s_aug 5 nd iop_mul rfl (ge_p (gp_name 6 rfl) ⟨_, opP_I (C := CMul) (g := fun i j => i * j) (.inr (by omega)), gs_nil ⟨.sh (.int (2 + (i : Int))), by rw [eN]; rfl, rfl⟩⟩))
      · rintro Γ3 O3 ⟨y6, rfl, rfl⟩
        rw [List.length_map, rng_len]
        refine gs_freeze 2 0 rfl rfl ?_
        refine gs_cons (s_for (gi_p (gi_list (gp_name 2 rfl)) ?_))
        refine ⟨fun i Γ O => ∃ y7, Γ = [.sh (.int n), .sh (dI kvs), .sh (.list ((sizesOf n kvs).map .int)), y3, y4, .sh (.int (((sizesOf n kvs).take i).foldl (· / ·) (factI n))), y6, y7] ∧ O = [], ⟨_, rfl, rfl⟩, ?_, ?_⟩
        · rintro i d Γ4 O4 hd ⟨y7, rfl, rfl⟩
          rw [List.getElem?_map] at hd
          cases hx : (sizesOf n kvs)[i]? with
          | none => rw [hx] at hd; cases hd
          | some x =>
            rw [hx] at hd
            cases hd
            have hxm := hs.pos x (List.mem_of_getElem? hx)
            have hT2 := take_snoc hx
            refine ⟨_, _, gg_name 7 nd, ?_⟩
            have eN : ((sizesOf n kvs).take (i + 1)).foldl (· / ·) (factI n) = (((sizesOf n kvs).take i).foldl (· / ·) (factI n)) / x := by rw [hT2, foldl_snoc]
            refine gs_cons (s_aug 5 nd iop_fdiv rfl (ge_p (gp_name 7 rfl) ⟨_, opP_I (C := CDiv) (g := fun i j => i / j) ⟨by omega, by omega⟩, gs_nil ⟨.sh (.int x), by rw [eN]; rfl, rfl⟩⟩))
        · rintro Γ4 O4 ⟨y7, rfl, rfl⟩
          rw [List.length_map, List.take_length]
          exact gs_cons (s_ret (ge_p (gp_name 5 rfl) hq))
/-! ### tops, sound lots -/
def eTop (n : Int) (l : List (Int × Int)) (t : Int) : PyData := .tuple [.int t, dI (treeOf n l t)]
def C_tops : Ctr := fun as O q => ∃ n l, (0 ≤ n ∧ n ≤ 12) ∧ l.length < 1000 ∧ as = [.sh (.int n), .sh (eLot l)] ∧ O = [] ∧ q (.sh (.list ((outerOf n l).map (eTop n l)))) []
theorem ok_tops {f : Addr} {fd : FuncData} (F : Fun K "tops" "tops" s_tops f fd) (T : Bl mg) (D1 : Def P w K mg base "outer" 1 C_outer) (D2 : Def P w K mg base "tree_of" 15 C_tree_of) : FnOk P w K mg base CX0 16 f fd ["many", "lot"] (spG K C_tops) := by
  refine fn_ok F sc_tops (fun as O q h => ?_) fun cdv A outer s H E hr as O q h => ?_
  · obtain ⟨n, l, _, _, rfl, rfl, _⟩ := h
    rfl
  · obtain ⟨n, l, hn, few, rfl, rfl, hq⟩ := h
    have nd := sc_tops.nd
    have big : (1003000 : Nat) < sizeLine := by decide
    have hl := outer_len n l hn.2
    refine gs_cons (s_ret (ge_p (gp_is (gp_of_glp (glp_lc (own := [("top", 2)]) (enc := .int) (out := eTop n l) (p := fun _ => true) (outerOf n l) (fun x => [.sh (.int n), .sh (eLot l), .sh (.int x)]) nd
      (gi_list (gp_call D1 (hr.mono (by decide)) (gpa_cons (gp_name 0 rfl) (gpa_cons (gp_name 1 rfl) gpa_nil)) ⟨_, _, hn, few, rfl, rfl, rfl, rfl⟩)) (blkOk_by (N := N_tops) (sc := defScope s_tops) (by decide +kernel)) (fun a _ s H C cl fp => gg_name 2 nd) (by decide)
      (fun x _ s H C cl fp => gts_nil) (fun x hx _ s H C cl fp => gp_tup (gpa_cons (gp_name 2 rfl) (gpa_cons (gp_call D2 (hr.mono (by decide)) (gpa_cons (gp_name 0 rfl) (gpa_cons (gp_name 1 rfl) (gpa_cons (gp_name 2 rfl) gpa_nil))) ⟨_, _, _, hn, few, hx, rfl, rfl, rfl, rfl⟩) gpa_nil))) (by omega))) ?_) hq))
    rw [filt_true]
def C_is_sound : Ctr := fun as O q => ∃ n l, (1 ≤ n ∧ n ≤ 12) ∧ IsLot n l ∧ as = [.sh (.int n), .sh (eLot l)] ∧ O = [] ∧ q (.sh (.bool (barsOf n l).isEmpty)) []
def Good (n : Int) (l : List (Int × Int)) : Prop := barsOf n l = [] ∧ ∀ t ∈ outerOf n l, TreeOk n (treeOf n l t)
theorem bars_shaped0 (bs : List Bar) : SeqAt.shaped (.list (bs.map eB)) = true := by
  have h1 : ∀ b, (eB b).canLay0 = true ∧ (eB b).depth ≤ 1 := fun b => by
    cases b <;> exact ⟨by simp [eB, PyData.canLay0, PyData.canLayAll0, PyData.strOk]; try decide, by simp [eB, PyData.depth, PyData.depthAll]⟩
  have h : PyData.canLayAll0 (bs.map eB) = true ∧ PyData.depthAll (bs.map eB) ≤ 1 := by
    induction bs with
    | nil => simp [PyData.canLayAll0, PyData.depthAll]
    | cons b bs ih =>
      have f := h1 b
      rw [List.map_cons]
      refine ⟨by rw [PyData.canLayAll0, f.1, ih.1]; rfl, ?_⟩
      have e1 := f.2
      have e2 := ih.2
      simp only [PyData.depthAll]
      omega
  refine shaped_of (by simp only [PyData.canLay0]; exact h.1) ?_
  have e := h.2
  simp only [PyData.depth]
  omega
theorem ok_is_sound {f : Addr} {fd : FuncData} (F : Fun K "is_sound" "is_sound" s_is_sound f fd) (T : Bl mg) (D1 : Def P w K mg base "all_bars" 1 C_all_bars) : FnOk P w K mg base CX0 2 f fd ["many", "lot"] (spG K C_is_sound) := by
  refine fn_ok F sc_is_sound (fun as O q h => ?_) fun cdv A outer s H E hr as O q h => ?_
  · obtain ⟨n, l, _, _, rfl, rfl, _⟩ := h
    rfl
  · obtain ⟨n, l, hn, hl, rfl, rfl, hq⟩ := h
    exact gs_cons (s_ret (ge_p (gp_is (gp_cmp (gp_call D1 (hr.mono (by decide)) (gpa_cons (gp_name 0 rfl) (gpa_cons (gp_name 1 rfl) gpa_nil)) ⟨_, _, hn, hl, rfl, rfl, rfl, rfl⟩) (gp_of_glp (glp_lst gpa_nil)) (cmp_eqD (u64 hr) (bars_shaped0 _) shaped_nil)) (by rw [eqv_nil, List.isEmpty_map])) hq))
end
end G

set_option Elab.async false
set_option linter.all false
set_option maxRecDepth 100000
set_option pp.maxSteps 600
set_option maxHeartbeats 4000000
namespace G
open PySem PySem.Spec L2
def higherOf (n : Int) (l : List (Int × Int)) (a b : Int) : String :=
  if (outerOf n l).all (fun t => decide (a ∈ aboveF (treeOf n l t) 13 b)) then "higher" else if (outerOf n l).all (fun t => decide (b ∈ aboveF (treeOf n l t) 13 a)) then "lower" else "either"
def eEnd (n : Int) (l : List (Int × Int)) (i : Nat) : PyData := .tuple [.tuple (((outerOf n l).take (i + 1)).map .int), .tuple (((outerOf n l).drop i).map .int), .int (ordersOf n (treeOf n l (getI (outerOf n l) i)))]
def endsOf (n : Int) (l : List (Int × Int)) : List PyData := (List.range (outerOf n l).length).map (eEnd n l)
def topOf (n : Int) (l : List (Int × Int)) : List (Int × Int) := (outerOf n l).map fun t => (t, ordersOf n (treeOf n l t))
theorem rows_get {n : Int} {l : List (Int × Int)} {i : Nat} {d : PyData} (h : ((outerOf n l).map (eTop n l))[i]? = some d) : i < (outerOf n l).length ∧ getI (outerOf n l) i ∈ outerOf n l ∧ d = eTop n l (getI (outerOf n l) i) := by
  rw [List.getElem?_map] at h
  cases e : (outerOf n l)[i]? with
  | none => rw [e] at h; cases h
  | some t =>
    rw [e] at h
    have hi := (List.getElem?_eq_some_iff.mp e).1
    have eg : getI (outerOf n l) i = t := by
      rw [getI, List.getD_eq_getElem?_getD, e]
      rfl
    rw [eg]
    exact ⟨hi, List.mem_of_getElem? e, (Option.some.inj h).symm⟩
section
variable {P : Program} {w : World} {K : PySem.W.Frag} {mg : Str → Option Value} {base : Heap}
def C_need_sound : Ctr := fun as O q => ∃ n l, (1 ≤ n ∧ n ≤ 12) ∧ IsLot n l ∧ barsOf n l = [] ∧ as = [.sh (.int n), .sh (eLot l)] ∧ O = [] ∧ q (.sh .none) []
theorem ok_need_sound {f : Addr} {fd : FuncData} (F : Fun K "need_sound" "need_sound" s_need_sound f fd) (T : Bl mg) (D1 : Def P w K mg base "need_lot" 3 C_need_lot) (D2 : Def P w K mg base "is_sound" 2 C_is_sound) : FnOk P w K mg base CX0 4 f fd ["many", "lot"] (spG K C_need_sound) := by
  refine fn_ok F sc_need_sound (fun as O q h => ?_) fun cdv A outer s H E hr as O q h => ?_
  · obtain ⟨n, l, _, _, _, rfl, rfl, _⟩ := h
    rfl
  · obtain ⟨n, l, hn, hl, hg, rfl, rfl, hq⟩ := h
    refine gs_cons (s_expr (ge_p (gp_call D1 (hr.mono (by decide)) (gpa_cons (gp_name 0 rfl) (gpa_cons (gp_name 1 rfl) gpa_nil)) ⟨_, _, hn, hl, rfl, rfl, rfl, rfl⟩) ?_))
    exact gs_cons (s_if (gt_p (gt_not (t := true) (gt_val (gp_is (gp_call D2 (hr.mono (by decide)) (gpa_cons (gp_name 0 rfl) (gpa_cons (gp_name 1 rfl) gpa_nil)) ⟨_, _, hn, hl, rfl, rfl, rfl, rfl⟩) (by rw [hg]; rfl)))) ⟨(fun h => by cases h), fun _ => gs_nil (gs_nil hq)⟩))
def C_higher : Ctr := fun as O q => ∃ n l a b, (1 ≤ n ∧ n ≤ 12) ∧ IsLot n l ∧ Good n l ∧ ((0 ≤ a ∧ a < n) ∧ (0 ≤ b ∧ b < n) ∧ a ≠ b) ∧ as = [.sh (.int n), .sh (eLot l), .sh (.int a), .sh (.int b)] ∧ O = [] ∧ q (.sh (.str (Str.ofString (higherOf n l a b)))) []
theorem ok_higher {f : Addr} {fd : FuncData} (F : Fun K "higher" "higher" s_higher f fd) (T : Bl mg) (D1 : Def P w K mg base "need_sound" 4 C_need_sound) (D2 : Def P w K mg base "is_from" 1 C_is_from) (D3 : Def P w K mg base "tops" 16 C_tops) (D4 : Def P w K mg base "above_all" 1 C_above_all) : FnOk P w K mg base CX0 17 f fd ["many", "lot", "one", "other"] (spG K C_higher) := by
  refine fn_ok F sc_higher (fun as O q h => ?_) fun cdv A outer s H E hr as O q h => ?_
  · obtain ⟨n, l, a, b, _, _, _, _, rfl, rfl, _⟩ := h
    rfl
  · obtain ⟨n, l, a, b, hn, hl, hg, hab, rfl, rfl, hq⟩ := h
    have nd := sc_higher.nd
    have hu := u65 hr
    have big : (1003000 : Nat) < sizeLine := by decide
    have ol := outer_len n l hn.2
    refine gs_cons (s_expr (ge_p (gp_call D1 (hr.mono (by decide)) (gpa_cons (gp_name 0 rfl) (gpa_cons (gp_name 1 rfl) gpa_nil)) ⟨_, _, hn, hl, hg.1, rfl, rfl, rfl, rfl⟩) ?_))
    refine gs_cons (s_if (gt_p (t := false) (gt_is (gt_w (gw_or (gt_not (t := true) (gt_val (gp_is (gp_call D2 (hr.mono (by decide)) (gpa_cons (gp_name 2 rfl) (gpa_cons gp_int (gpa_cons (gp_sub (gp_name 0 rfl) gp_int) gpa_nil))) ⟨_, _, _, rfl, rfl, rfl, rfl, rfl⟩) (by rw [isFrom_yes (by omega) (by omega)]))))
      fun _ => gw_or (gt_not (t := true) (gt_val (gp_is (gp_call D2 (hr.mono (by decide)) (gpa_cons (gp_name 3 rfl) (gpa_cons gp_int (gpa_cons (gp_sub (gp_name 0 rfl) gp_int) gpa_nil))) ⟨_, _, _, rfl, rfl, rfl, rfl, rfl⟩) (by rw [isFrom_yes (by omega) (by omega)])))) fun _ => gw_or1 (gt_cmp (gp_name 2 rfl) (gp_name 3 rfl) cmp_eqI))) ?ga) ⟨(fun h => by cases h), fun _ => gs_nil ?_⟩))
    case ga =>
      rw [decide_eq_false hab.2.2]
      rfl
    refine gs_cons (s_setLcS (own := [("top", 5), ("tree", 6)]) (enc := eTop n l) (out := fun t => dI (treeOf n l t)) (pr := fun _ => true) 4 (outerOf n l) (fun t => [.sh (.int n), .sh (eLot l), .sh (.int a), .sh (.int b), .no, .sh (.int t), .sh (dI (treeOf n l t))]) nd
      (gi_list (gp_call D3 (hr.mono (by decide)) (gpa_cons (gp_name 0 rfl) (gpa_cons (gp_name 1 rfl) gpa_nil)) ⟨_, _, by omega, hl.few, rfl, rfl, rfl, rfl⟩)) (blkOk_by (N := N_higher) (sc := defScope s_higher) (by decide +kernel)) (fun t _ s H C cl fp => gg_tup (ggs_cons (gg_name 5 nd) (ggs_cons (gg_name 6 nd) ggs_nil))) (by decide)
      (fun x _ s H C cl fp => gts_nil) (fun t ht _ s H C cl fp => gp_name 6 rfl) (by omega) ?_)
    rw [filt_true]
    refine gs_cons (s_if (gt_p (t := (outerOf n l).all fun t => decide (a ∈ aboveF (treeOf n l t) 13 b)) (gt_val (gp_is (gp_all (bs := (outerOf n l).map fun t => decide (a ∈ aboveF (treeOf n l t) 13 b)) T.all (gp_is (gp_of_glp (glp_lc (own := [("tree", 6)]) (enc := fun t => dI (treeOf n l t)) (out := fun t => .bool (decide (a ∈ aboveF (treeOf n l t) 13 b))) (p := fun _ => true) (outerOf n l)
      (fun t => [.sh (.int n), .sh (eLot l), .sh (.int a), .sh (.int b), .sh (.list ((outerOf n l).map fun t => dI (treeOf n l t))), .no, .sh (dI (treeOf n l t))]) nd (gi_list (gp_name 4 rfl)) (blkOk_by (N := N_higher) (sc := defScope s_higher) (by decide +kernel)) (fun t _ s H C cl fp => gg_name 6 nd) (by decide)
      (fun x _ s H C cl fp => gts_nil) (fun t ht _ s H C cl fp => gp_is (gp_cmp (gp_name 2 rfl) (gp_call D4 (hr.mono (by decide)) (gpa_cons (gp_name 6 rfl) (gpa_cons (gp_name 3 rfl) gpa_nil)) ⟨_, _, 13, (hg.2 t ht).ends b hab.2.1.1 hab.2.1.2, by decide, rfl, rfl, rfl, rfl⟩) (cmp_inL (by exact hu) (shaped_int a) (shaped_ints _))) (congrArg PyData.bool (any_int _ a))) (by omega))) ?gb)) ?gc)) ⟨fun h1 => ?_, fun h1 => gs_nil ?_⟩))
    case gb => rw [filt_true, List.map_map]; rfl
    case gc => rw [List.all_map]; rfl
    · refine gs_cons (s_ret (ge_p (gp_is gp_str ?_) hq))
      rw [higherOf, if_pos h1]
    · refine gs_cons (s_ret (ge_p (gp_if (t := (outerOf n l).all fun t => decide (b ∈ aboveF (treeOf n l t) 13 a)) (gt_val (gp_is (gp_all (bs := (outerOf n l).map fun t => decide (b ∈ aboveF (treeOf n l t) 13 a)) T.all (gp_is (gp_of_glp (glp_lc (own := [("tree", 6)]) (enc := fun t => dI (treeOf n l t)) (out := fun t => .bool (decide (b ∈ aboveF (treeOf n l t) 13 a))) (p := fun _ => true) (outerOf n l)
        (fun t => [.sh (.int n), .sh (eLot l), .sh (.int a), .sh (.int b), .sh (.list ((outerOf n l).map fun t => dI (treeOf n l t))), .no, .sh (dI (treeOf n l t))]) nd (gi_list (gp_name 4 rfl)) (blkOk_by (N := N_higher) (sc := defScope s_higher) (by decide +kernel)) (fun t _ s H C cl fp => gg_name 6 nd) (by decide)
        (fun x _ s H C cl fp => gts_nil) (fun t ht _ s H C cl fp => gp_is (gp_cmp (gp_name 3 rfl) (gp_call D4 (hr.mono (by decide)) (gpa_cons (gp_name 6 rfl) (gpa_cons (gp_name 2 rfl) gpa_nil)) ⟨_, _, 13, (hg.2 t ht).ends a hab.1.1 hab.1.2, by decide, rfl, rfl, rfl, rfl⟩) (cmp_inL (by exact hu) (shaped_int b) (shaped_ints _))) (congrArg PyData.bool (any_int _ b))) (by omega))) ?gd)) ?ge)) (fun h2 => gp_is gp_str ?_) (fun h2 => gp_is gp_str ?_)) hq))
      case gd => rw [filt_true, List.map_map]; rfl
      case ge => rw [List.all_map]; rfl
      · rw [higherOf, if_neg (by rw [h1]; exact Bool.false_ne_true), if_pos h2]
      · rw [higherOf, if_neg (by rw [h1]; exact Bool.false_ne_true), if_neg (by rw [h2]; exact Bool.false_ne_true)]
def C_from_ends : Ctr := fun as O q => ∃ n l, (1 ≤ n ∧ n ≤ 12) ∧ IsLot n l ∧ Good n l ∧ as = [.sh (.int n), .sh (eLot l)] ∧ O = [] ∧ q (.sh (.list (endsOf n l))) []
theorem ok_from_ends {f : Addr} {fd : FuncData} (F : Fun K "from_ends" "from_ends" s_from_ends f fd) (T : Bl mg) (D1 : Def P w K mg base "need_sound" 4 C_need_sound) (D2 : Def P w K mg base "outer" 1 C_outer) (D3 : Def P w K mg base "tops" 16 C_tops) (D4 : Def P w K mg base "orders_by" 2 C_orders_by) : FnOk P w K mg base CX0 17 f fd ["many", "lot"] (spG K C_from_ends) := by
  refine fn_ok F sc_from_ends (fun as O q h => ?_) fun cdv A outer s H E hr as O q h => ?_
  · obtain ⟨n, l, _, _, _, rfl, rfl, _⟩ := h
    rfl
  · obtain ⟨n, l, hn, hl, hg, rfl, rfl, hq⟩ := h
    have nd := sc_from_ends.nd
    have big : (1003000 : Nat) < sizeLine := by decide
    have ol := outer_len n l hn.2
    refine gs_cons (s_expr (ge_p (gp_call D1 (hr.mono (by decide)) (gpa_cons (gp_name 0 rfl) (gpa_cons (gp_name 1 rfl) gpa_nil)) ⟨_, _, hn, hl, hg.1, rfl, rfl, rfl, rfl⟩) ?_))
    refine gs_cons (s_set 2 nd (ge_p (gp_call D2 (hr.mono (by decide)) (gpa_cons (gp_name 0 rfl) (gpa_cons (gp_name 1 rfl) gpa_nil)) ⟨_, _, by omega, hl.few, rfl, rfl, rfl, rfl⟩) ?_))
    refine gs_cons (s_setL 3 nd (gl_p (glp_lst gpa_nil) fun lf => ?_))
    refine gs_cons (s_for (gi_p (gi_enum T.enum (gp_call D3 (hr.mono (by decide)) (gpa_cons (gp_name 0 rfl) (gpa_cons (gp_name 1 rfl) gpa_nil)) ⟨_, _, by omega, hl.few, rfl, rfl, rfl, rfl⟩) (.l _)) ?_))
    refine ⟨fun i Γ O => ∃ y4 y5 y6, Γ = [.sh (.int n), .sh (eLot l), .sh (.list ((outerOf n l).map .int)), .ow lf, y4, y5, y6] ∧ O = [(lf, .L ((List.range i).map (eEnd n l)))], ⟨_, _, _, rfl, rfl⟩, ?_, ?_⟩
    · rintro i d Γ2 O2 hd ⟨y4, y5, y6, rfl, rfl⟩
      obtain ⟨d', hd', rfl⟩ := enumD_get hd
      obtain ⟨hi, ht, rfl⟩ := rows_get hd'
      have hR : (List.range (i + 1)).map (eEnd n l) = (List.range i).map (eEnd n l) ++ [eEnd n l i] := by rw [List.range_succ, List.map_append]; rfl
      refine ⟨_, _, gg_tup (ggs_cons (gg_name 4 nd) (ggs_cons (gg_tup (ggs_cons (gg_name 5 nd) (ggs_cons (gg_name 6 nd) ggs_nil))) ggs_nil)), ?_⟩
      refine gs_cons (s_app 3 rfl (ge_p (d := eEnd n l i) (gp_tup (gpa_cons (gp_is (gp_tupleT T.tuple (gp_of_glp (glp_slL (gp_name 2 rfl) gpo_none (gpo_some (gp_add (gp_name 4 rfl) gp_int)))) (.l _)) ?ga) (gpa_cons (gp_is (gp_tupleT T.tuple (gp_of_glp (glp_slL (gp_name 2 rfl) (gpo_some (gp_name 4 rfl)) gpo_none)) (.l _)) ?gb)
        (gpa_cons (gp_call D4 (hr.mono (by decide)) (gpa_cons (gp_name 0 rfl) (gpa_cons (gp_name 6 rfl) gpa_nil)) ⟨_, _, by omega, hg.2 _ ht, rfl, rfl, rfl, rfl⟩) gpa_nil)))) ⟨0, _, rfl, by rw [List.length_map, List.length_range]; omega, gs_nil ⟨_, _, _, rfl, ?_⟩⟩) ⟨_, List.mem_cons_self⟩)
      case ga => rw [show ((i : Int) + 1) = ((i + 1 : Nat) : Int) by omega, cutD_to, List.map_take]
      case gb => rw [cutD_from, List.map_drop]
      rw [hR]
      rfl
    · rintro Γ2 O2 ⟨y4, y5, y6, rfl, rfl⟩
      rw [enumD_len, List.length_map]
      exact gs_freeze 3 0 rfl rfl (gs_cons (s_ret (ge_p (gp_name 3 rfl) hq)))
end
end G

set_option Elab.async false
set_option linter.all false
set_option maxRecDepth 100000
set_option pp.maxSteps 600
set_option maxHeartbeats 4000000
namespace G
open PySem PySem.Spec L2
theorem not_t {b : Bool} (h : (!b) = true) : b = false := by cases b with
  | false => rfl
  | true => cases h
theorem not_f {b : Bool} (h : (!b) = false) : b = true := by cases b with
  | true => rfl
  | false => cases h
theorem at_zero {α : Type} {x : α} {xs : List α} : atI (x :: xs) 0 = some x := atI_nat (j := 0) rfl
/-! ### data of small depth -/
mutual
def small : PyData → Bool
  | .list xs => decide (xs.length < 1000) && smallL xs
  | .tuple xs => decide (xs.length < 1000) && smallL xs
  | _ => true
def smallL : List PyData → Bool
  | [] => true
  | x :: xs => small x && smallL xs
end
def Fine (k : Nat) (d : PyData) : Prop := d.canLay0 = true ∧ d.depth ≤ k ∧ small d = true
theorem Fine.shaped {k : Nat} {d : PyData} (h : Fine k d) (l : k ≤ 64) : SeqAt.shaped d = true := shaped_of h.1 (Nat.le_trans h.2.1 l)
theorem Fine.mono {k j : Nat} {d : PyData} (h : Fine k d) (l : k ≤ j) : Fine j d := ⟨h.1, Nat.le_trans h.2.1 l, h.2.2⟩
theorem fine_all {k : Nat} : ∀ {ds : List PyData}, (∀ x ∈ ds, Fine k x) → PyData.canLayAll0 ds = true ∧ PyData.depthAll ds ≤ k ∧ smallL ds = true
  | [], _ => by simp [PyData.canLayAll0, PyData.depthAll, smallL]
  | x :: ds, h => by
    have h1 := h x List.mem_cons_self
    have h2 := fine_all (ds := ds) fun y m => h y (List.mem_cons_of_mem _ m)
    refine ⟨by rw [PyData.canLayAll0, h1.1, h2.1]; rfl, ?_, by rw [smallL, h1.2.2, h2.2.2]; rfl⟩
    have e1 := h1.2.1
    have e2 := h2.2.1
    simp only [PyData.depthAll]
    omega
theorem all_fine {k : Nat} : ∀ {ds : List PyData}, PyData.canLayAll0 ds = true → PyData.depthAll ds ≤ k → smallL ds = true → ∀ x ∈ ds, Fine k x
  | x :: ds, h1, h2, h3, y, m => by
    rw [PyData.canLayAll0, Bool.and_eq_true] at h1
    simp only [PyData.depthAll] at h2
    rw [smallL, Bool.and_eq_true] at h3
    rcases List.mem_cons.mp m with rfl | m
    · exact ⟨h1.1, by omega, h3.1⟩
    · exact all_fine h1.2 (by omega) h3.2 y m
theorem fine_list {k : Nat} {ds : List PyData} (h : ∀ x ∈ ds, Fine k x) (hz : ds.length < 1000 := by decide) : Fine (k + 1) (.list ds) := by
  have := fine_all h
  refine ⟨by simp only [PyData.canLay0]; exact this.1, ?_, by rw [small, decide_eq_true hz, this.2.2]; rfl⟩
  have e := this.2.1
  simp only [PyData.depth]
  omega
theorem fine_tup {k : Nat} {ds : List PyData} (h : ∀ x ∈ ds, Fine k x) (hz : ds.length < 1000 := by (simp only [List.length_cons, List.length_nil]; decide)) : Fine (k + 1) (.tuple ds) := by
  have := fine_all h
  refine ⟨by simp only [PyData.canLay0]; exact this.1, ?_, by rw [small, decide_eq_true hz, this.2.2]; rfl⟩
  have e := this.2.1
  simp only [PyData.depth]
  omega
theorem fine_seq {k : Nat} {d : PyData} {ds : List PyData} (h : Fine (k + 1) d) (s : IsSeq d ds) : ds.length < 1000 ∧ ∀ x ∈ ds, Fine k x := by
  obtain ⟨h1, h2, h3⟩ := h
  cases s with
  | l =>
    simp only [PyData.canLay0] at h1
    simp only [PyData.depth] at h2
    rw [small, Bool.and_eq_true] at h3
    exact ⟨of_decide_eq_true h3.1, all_fine h1 (by omega) h3.2⟩
  | t =>
    simp only [PyData.canLay0] at h1
    simp only [PyData.depth] at h2
    rw [small, Bool.and_eq_true] at h3
    exact ⟨of_decide_eq_true h3.1, all_fine h1 (by omega) h3.2⟩
theorem fine_int (k : Nat) (i : Int) : Fine k (.int i) := ⟨by simp [PyData.canLay0], by simp [PyData.depth], by simp [small]⟩
theorem fine_bool (k : Nat) (i : Bool) : Fine k (.bool i) := ⟨by simp [PyData.canLay0], by simp [PyData.depth], by simp [small]⟩
theorem fine_none (k : Nat) : Fine k .none := ⟨by simp [PyData.canLay0], by simp [PyData.depth], by simp [small]⟩
theorem fine_str (k : Nat) (x : String) : Fine k (.str (Str.ofString x)) := by
  refine ⟨?_, by simp [PyData.depth], by simp [small]⟩
  simp only [PyData.canLay0, PyData.strOk]
  rw [Str.ofString_eq_toList, Array.all_eq_true']
  intro c hc
  have hc : c ∈ x.toList.map Char.toNat := by simpa using hc
  obtain ⟨ch, _, rfl⟩ := List.mem_map.mp hc
  have h := ch.valid
  have h2 : ch.toNat = ch.val.toNat := rfl
  rw [decide_eq_true_eq, h2]
  rcases h with h | h
  · have : ch.val.toNat < 0xd800 := h
    omega
  · exact h.2
/-! ### the same, in kinds too -/
def sortD : PyData → Int
  | .bool _ => 1
  | .int _ => 2
  | .str _ => 3
  | .list _ => 4
  | .tuple _ => 5
  | _ => 6
mutual
def sameD : PyData → PyData → Bool
  | .none, .none => true
  | .bool a, .bool b => a == b
  | .int a, .int b => a == b
  | .str a, .str b => a == b
  | .list xs, .list ys => sameL xs ys
  | .tuple xs, .tuple ys => sameL xs ys
  | _, _ => false
def sameL : List PyData → List PyData → Bool
  | [], [] => true
  | x :: xs, y :: ys => sameD x y && sameL xs ys
  | _, _ => false
end
/-- what the law's comprehension says -/
theorem same_all (xs ys : List PyData) (h : xs.length = ys.length) : (((List.range xs.length).zip xs).filter fun p => !sameD p.2 (ys.getD p.1 .none)).isEmpty = sameL xs ys := by
  have key : ∀ (xs ys zs : List PyData) (k : Nat), xs.length = ys.length → zs.length = k → ((((List.range xs.length).map (fun i => k + i)).zip xs).filter fun p => !sameD p.2 ((zs ++ ys).getD p.1 .none)).isEmpty = sameL xs ys := by
    intro xs
    induction xs with
    | nil =>
      intro ys zs k h hk
      cases ys with
      | nil => simp [sameL]
      | cons y ys => simp at h
    | cons x xs ih =>
      intro ys zs k h hk
      cases ys with
      | nil => simp at h
      | cons y ys =>
        have e1 : (zs ++ y :: ys).getD k .none = y := by
          rw [List.getD_eq_getElem?_getD, List.getElem?_append_right (by omega), hk, Nat.sub_self]
          rfl
        have e2 : (List.range (xs.length + 1)).map (fun i => k + i) = k :: (List.range xs.length).map (fun i => (k + 1) + i) := by
          rw [List.range_succ_eq_map, List.map_cons, List.map_map]
          refine congr (congrArg _ (Nat.add_zero k)) (List.map_congr_left fun a _ => ?_)
          show k + (a + 1) = k + 1 + a
          omega
        have ih := ih ys (zs ++ [y]) (k + 1) (by simpa using h) (by simp [hk])
        rw [List.append_assoc, List.singleton_append] at ih
        rw [List.length_cons, e2, List.zip_cons_cons, List.filter_cons, sameL]
        show List.isEmpty (if (!sameD x ((zs ++ y :: ys).getD k .none)) = true then (_ : List (Nat × PyData)) else _) = _
        rw [e1]
        cases hs : sameD x y with
        | true => exact ih
        | false => rfl
  have := key xs ys [] 0 h rfl
  have e : (List.range xs.length).map (fun i => 0 + i) = List.range xs.length := by
    rw [show (fun i => 0 + i) = id from funext fun i => Nat.zero_add i, List.map_id]
  rw [e] at this
  exact this
theorem enumD_zip (ds : List PyData) : enumD ds = ((List.range ds.length).zip ds).map fun p => pair2 (.int (p.1 : Int)) p.2 := by
  rw [enumD, List.zip, List.map_zipWith]
theorem same_sort {a b : PyData} (h : sameD a b = true) : sortD a = sortD b := by
  cases a <;> cases b <;> first | rfl | (simp [sameD] at h)
section
variable {P : Program} {w : World} {K : PySem.W.Frag} {mg : Str → Option Value} {base : Heap}
def C_law_sort : Ctr := fun as O q => ∃ d, noDict d = true ∧ as = [.sh d] ∧ O = [] ∧ q (.sh (.int (sortD d))) []
theorem ok_law_sort {f : Addr} {fd : FuncData} (F : Fun K "_law_sort" "_law_sort" s_law_sort f fd) (T : Bl mg) : FnOk P w K mg base CX0 1 f fd ["thing"] (spG K C_law_sort) := by
  refine fn_ok F sc_law_sort (fun as O q h => ?_) fun cdv A outer s H E hr as O q h => ?_
  · obtain ⟨d, _, rfl, rfl, _⟩ := h
    rfl
  · obtain ⟨d, hnd, rfl, rfl, hq⟩ := h
    refine gs_cons (s_if (gt_p (gt_val (gp_isi T.isi T.bool PyProof.Rows.boot_bool (gp_name 0 rfl) kb_bool hnd)) ⟨fun h1 => gs_cons (s_ret (ge_p (gp_is gp_int ?_) hq)), fun h1 => gs_nil ?_⟩))
    · cases d <;> first | rfl | (cases h1; done)
    refine gs_cons (s_if (gt_p (gt_val (gp_isi T.isi T.int PyProof.Rows.boot_int (gp_name 0 rfl) kb_int hnd)) ⟨fun h2 => gs_cons (s_ret (ge_p (gp_is gp_int ?_) hq)), fun h2 => gs_nil ?_⟩))
    · cases d <;> first | rfl | (cases h1; done) | (cases h2; done)
    refine gs_cons (s_if (gt_p (gt_val (gp_isi T.isi T.str PyProof.Rows.boot_str (gp_name 0 rfl) kb_str hnd)) ⟨fun h3 => gs_cons (s_ret (ge_p (gp_is gp_int ?_) hq)), fun h3 => gs_nil ?_⟩))
    · cases d <;> first | rfl | (cases h1; done) | (cases h2; done) | (cases h3; done)
    refine gs_cons (s_if (gt_p (gt_val (gp_isi T.isi T.list PyProof.Rows.boot_list (gp_name 0 rfl) kb_list hnd)) ⟨fun h4 => gs_cons (s_ret (ge_p (gp_is gp_int ?_) hq)), fun h4 => gs_nil ?_⟩))
    · cases d <;> first | rfl | (cases h1; done) | (cases h2; done) | (cases h3; done) | (cases h4; done)
    refine gs_cons (s_ret (ge_p (gp_if (gt_val (gp_isi T.isi T.tuple PyProof.Rows.boot_tuple (gp_name 0 rfl) kb_tuple hnd)) (fun h5 => gp_is gp_int ?_) fun h5 => gp_is gp_int ?_) hq))
    · cases d <;> first | rfl | (cases h1; done) | (cases h2; done) | (cases h3; done) | (cases h4; done) | (cases h5; done)
    · cases d <;> first | rfl | (cases h1; done) | (cases h2; done) | (cases h3; done) | (cases h4; done) | (cases h5; done)
def C_law_same (k : Nat) : Ctr := fun as O q => ∃ a b, Fine k a ∧ SeqAt.shaped b = true ∧ as = [.sh a, .sh b] ∧ O = [] ∧ q (.sh (.bool (sameD a b))) []
theorem same_scal {a b : PyData} (ha : sortD a = sortD b) (h4 : ¬ (3 < sortD a ∧ sortD a < 6)) (h1 : a.canLay0 = true) (h2 : b.canLay0 = true) : PyData.eqv a b = sameD a b := by
  cases a <;> cases b <;> first
    | (simp [sortD] at ha; done)
    | (simp [sortD] at h4; done)
    | (simp [PyData.canLay0] at h1; done)
    | (simp [PyData.canLay0] at h2; done)
    | simp [PyData.eqv, sameD]
theorem same_flat {f : Addr} {fd : FuncData} (F : Fun K "_law_same" "_law_same" s_law_same f fd) (T : Bl mg) (D1 : Def P w K mg base "_law_sort" 1 C_law_sort) {cdv : Value} {A : Around} {outer : List Env} {s : Shared} {H : Hp} {E : XK} {a b : PyData} {q : Sl → Own → Prop}
    (hr : Room 1 (A.deeper (PyProof.Rows.envOfC "_law_same" (defScope s_law_same) s.heap.objs.size f cdv))) (ha : a.canLay0 = true) (hb : SeqAt.shaped b = true) (h4 : ¬ (3 < sortD a ∧ sortD a < 6)) (hq : q (.sh (.bool (sameD a b))) []) :
    GSs (bX P w K mg base N_law_same "_law_same" (defScope s_law_same) f cdv A outer s H E) ([.sh a, .sh b] ++ List.replicate (N_law_same.length - ["told", "due"].length) .no) [] (defBody s_law_same) { nx := fun _ O' => q (.sh .none) O', rt := q } := by
  have hsa : SeqAt.shaped a = true := shaped_of ha (by
    cases a <;> simp [sortD] at h4 <;> simp [PyData.depth]
    simp [PyData.canLay0] at ha)
  refine gs_cons (s_if (gt_p (gt_cmp (gp_call D1 (hr.mono (by decide)) (gpa_cons (gp_name 0 rfl) gpa_nil) ⟨_, noDict_lay ha, rfl, rfl, rfl, rfl⟩) (gp_call D1 (hr.mono (by decide)) (gpa_cons (gp_name 1 rfl) gpa_nil) ⟨_, noDict_lay (SeqAt.canLay_of_shaped hb), rfl, rfl, rfl, rfl⟩) cmp_neI) ⟨fun h1 => gs_cons (s_ret (ge_p (gp_is (d' := .bool (sameD a b)) gp_bl ?_) hq)), fun h1 => gs_nil ?_⟩))
  · have h1 := of_decide_eq_false (not_t h1)
    cases hs : sameD a b with
    | false => rfl
    | true => exact absurd (same_sort hs) h1
  have h1 := of_decide_eq_true (not_f h1)
  refine gs_cons (s_if (gt_p (gt_w (gw_and (gt_cmp (gp_call D1 (hr.mono (by decide)) (gpa_cons (gp_name 0 rfl) gpa_nil) ⟨_, noDict_lay ha, rfl, rfl, rfl, rfl⟩) gp_int cmp_gt) fun _ => gw_and1 (gt_cmp (gp_call D1 (hr.mono (by decide)) (gpa_cons (gp_name 0 rfl) gpa_nil) ⟨_, noDict_lay ha, rfl, rfl, rfl, rfl⟩) gp_int cmp_lt))) ⟨fun h2 => ?_, fun h2 => gs_nil ?_⟩))
  · rw [Bool.and_eq_true, decide_eq_true_eq, decide_eq_true_eq] at h2
    exact absurd h2 h4
  · exact gs_cons (s_ret (ge_p (gp_is (d' := .bool (sameD a b)) (gp_cmp (gp_name 0 rfl) (gp_name 1 rfl) (cmp_eqD (u64 hr) hsa hb)) (congrArg PyData.bool (same_scal h1 h4 ha (SeqAt.canLay_of_shaped hb)))) hq))
theorem same_deep {f : Addr} {fd : FuncData} {k : Nat} (F : Fun K "_law_same" "_law_same" s_law_same f fd) (T : Bl mg) (D1 : Def P w K mg base "_law_sort" 1 C_law_sort) (D2 : Def P w K mg base "_law_same" (k + 2) (C_law_same k)) {cdv : Value} {A : Around} {outer : List Env} {s : Shared} {H : Hp} {E : XK} {a b : PyData} {q : Sl → Own → Prop}
    (hr : Room (k + 2) (A.deeper (PyProof.Rows.envOfC "_law_same" (defScope s_law_same) s.heap.objs.size f cdv))) (ha : Fine (k + 1) a) (hb : SeqAt.shaped b = true) (h4 : 3 < sortD a ∧ sortD a < 6) (hq : q (.sh (.bool (sameD a b))) []) :
    GSs (bX P w K mg base N_law_same "_law_same" (defScope s_law_same) f cdv A outer s H E) ([.sh a, .sh b] ++ List.replicate (N_law_same.length - ["told", "due"].length) .no) [] (defBody s_law_same) { nx := fun _ O' => q (.sh .none) O', rt := q } := by
  have r1 : Room 1 (A.deeper (PyProof.Rows.envOfC "_law_same" (defScope s_law_same) s.heap.objs.size f cdv)) := hr.mono (by omega)
  have nd := sc_law_same.nd
  refine gs_cons (s_if (gt_p (gt_cmp (gp_call D1 (by exact r1) (gpa_cons (gp_name 0 rfl) gpa_nil) ⟨_, noDict_lay ha.1, rfl, rfl, rfl, rfl⟩) (gp_call D1 (by exact r1) (gpa_cons (gp_name 1 rfl) gpa_nil) ⟨_, noDict_lay (SeqAt.canLay_of_shaped hb), rfl, rfl, rfl, rfl⟩) cmp_neI) ⟨fun h1 => gs_cons (s_ret (ge_p (gp_is (d' := .bool (sameD a b)) gp_bl ?_) hq)), fun h1 => gs_nil ?_⟩))
  · have h1 := of_decide_eq_false (not_t h1)
    cases hs : sameD a b with
    | false => rfl
    | true => exact absurd (same_sort hs) h1
  have h1 := of_decide_eq_true (not_f h1)
  obtain ⟨xs, ys, hxs, hys, hsm⟩ : ∃ xs ys, IsSeq a xs ∧ IsSeq b ys ∧ sameD a b = sameL xs ys := by
    cases a <;> simp [sortD] at h4 <;> cases b <;> simp [sortD] at h1
    · exact ⟨_, _, .l _, .l _, by simp [sameD]⟩
    · exact ⟨_, _, .t _, .t _, by simp [sameD]⟩
  obtain ⟨few, hfx⟩ := fine_seq ha hxs
  have hfy : PyData.canLayAll0 ys = true ∧ PyData.depthAll ys ≤ 63 := by
    have h1 := SeqAt.canLay_of_shaped hb
    have h2 := SeqAt.depth_of_shaped hb
    cases hys with
    | l => simp only [PyData.canLay0] at h1; simp only [PyData.depth] at h2; exact ⟨h1, by omega⟩
    | t => simp only [PyData.canLay0] at h1; simp only [PyData.depth] at h2; exact ⟨h1, by omega⟩
  have hsy : ∀ y ∈ ys, SeqAt.shaped y = true := by
    obtain ⟨g1, g2⟩ := hfy
    clear hys hsm
    induction ys with
    | nil => intro y m; cases m
    | cons z ys ih =>
      rw [PyData.canLayAll0, Bool.and_eq_true] at g1
      simp only [PyData.depthAll] at g2
      intro y m
      rcases List.mem_cons.mp m with rfl | m
      · exact shaped_of g1.1 (by omega)
      · exact ih g1.2 (by omega) y m
  refine gs_cons (s_if (gt_p (t := true) (gt_is (gt_w (gw_and (gt_cmp (gp_call D1 (by exact r1) (gpa_cons (gp_name 0 rfl) gpa_nil) ⟨_, noDict_lay ha.1, rfl, rfl, rfl, rfl⟩) gp_int cmp_gt) fun _ => gw_and1 (gt_cmp (gp_call D1 (by exact r1) (gpa_cons (gp_name 0 rfl) gpa_nil) ⟨_, noDict_lay ha.1, rfl, rfl, rfl, rfl⟩) gp_int cmp_lt))) (by rw [decide_eq_true h4.1, decide_eq_true h4.2]; rfl)) ⟨fun _ => ?_, (fun h => by cases h)⟩))
  have lenG : ∀ {Γ : List Sl} {e : Expr} {d : PyData} {ds : List PyData} {p pos : Pos}, IsSeq d ds → GP (bX P w K mg base N_law_same "_law_same" (defScope s_law_same) f cdv A outer s H E) Γ e d → starEach [e] (bX P w K mg base N_law_same "_law_same" (defScope s_law_same) f cdv A outer s H E).env = (false, eval e (bX P w K mg base N_law_same "_law_same" (defScope s_law_same) f cdv A outer s H E).env) :: starEach [] (bX P w K mg base N_law_same "_law_same" (defScope s_law_same) f cdv A outer s H E).env →
      GP (bX P w K mg base N_law_same "_law_same" (defScope s_law_same) f cdv A outer s H E) Γ (.Call (.Name "len" p) [e] [] pos) (.int ds.length) := fun hq h he => by
    cases hq with
    | l => exact gp_lenL T.len h rfl he
    | t => exact gp_lenT T.len h rfl he
  refine gs_cons (s_if (gt_p (gt_cmp (lenG hxs (gp_name 0 rfl) rfl) (lenG hys (gp_name 1 rfl) rfl) cmp_neI) ⟨fun h2 => gs_cons (s_ret (ge_p (gp_is (d' := .bool (sameD a b)) gp_bl ?_) hq)), fun h2 => gs_nil ?_⟩))
  · have h2 := of_decide_eq_false (not_t h2)
    rw [hsm]
    have ne : ∀ xs ys : List PyData, xs.length ≠ ys.length → sameL xs ys = false := by
      intro xs
      induction xs with
      | nil => intro ys h; cases ys with
        | nil => exact absurd rfl h
        | cons y ys => simp [sameL]
      | cons x xs ih => intro ys h; cases ys with
        | nil => simp [sameL]
        | cons y ys => rw [sameL, ih ys (fun e => h (by simp [e])), Bool.and_false]
    rw [ne xs ys (by omega)]
  have h2 := of_decide_eq_true (not_f h2)
  have h2' : xs.length = ys.length := by omega
  refine gs_cons (s_ret (ge_p (gp_is (d' := .bool (sameD a b)) (gp_cmp (gp_of_glp (glp_lc (own := [("k", 2), ("part", 3)]) (enc := fun p : Nat × PyData => pair2 (.int (p.1 : Int)) p.2) (out := fun p => .int (p.1 : Int)) (p := fun p => !sameD p.2 (ys.getD p.1 .none)) ((List.range xs.length).zip xs) (fun p => [.sh a, .sh b, .sh (.int (p.1 : Int)), .sh p.2]) nd
      (gip_is (gi_enum T.enum (gp_name 0 rfl) hxs) (enumD_zip xs)) (blkOk_by (N := N_law_same) (sc := defScope s_law_same) (by decide +kernel)) (fun p _ s H C cl fp => gg_tup (ggs_cons (gg_name 2 nd) (ggs_cons (gg_name 3 nd) ggs_nil))) (by decide)
      (fun p hp s H C cl fp => gts_one (gt_not (gt_val (gp_call D2 (hr.mono (by omega)) (gpa_cons (gp_name 3 rfl) (gpa_cons ?gix gpa_nil)) ⟨_, _, hfx _ (List.of_mem_zip hp).2, ?gsh, rfl, rfl, rfl, rfl⟩)))) (fun p _ _ s H C cl fp => gp_name 2 rfl) ?gz)) (gp_of_glp (glp_lst gpa_nil)) (cmp_eqD (u64 hr) ?gs shaped_nil)) ?ge) hq))
  case gix =>
    have hlt : p.1 < ys.length := by
      have := List.mem_range.mp (List.of_mem_zip hp).1
      omega
    have hat : atI ys (p.1 : Int) = some (ys.getD p.1 .none) := by
      rw [List.getD_eq_getElem?_getD, List.getElem?_eq_getElem hlt]
      exact atI_nat (List.getElem?_eq_getElem hlt)
    cases hys with
    | l => exact gp_ixL (gp_name 1 rfl) (gp_name 2 rfl) hat
    | t => exact gp_ixT (gp_name 1 rfl) (gp_name 2 rfl) hat
  case gsh =>
    have hlt : p.1 < ys.length := by
      have := List.mem_range.mp (List.of_mem_zip hp).1
      omega
    rw [List.getD_eq_getElem?_getD, List.getElem?_eq_getElem hlt]
    exact hsy _ (List.getElem_mem hlt)
  case gz =>
    have := List.length_zip (l₁ := List.range xs.length) (l₂ := xs)
    rw [List.length_range] at this
    exact Nat.lt_of_lt_of_le (show _ < 1000 by omega) (by decide)
  case gs =>
    have := shaped_ints ((((List.range xs.length).zip xs).filter fun p => !sameD p.2 (ys.getD p.1 .none)).map fun p => (p.1 : Int))
    rw [List.map_map] at this
    exact this
  case ge => rw [eqv_nil, List.isEmpty_map, same_all xs ys h2', hsm]
theorem ok_law_same {f : Addr} {fd : FuncData} (F : Fun K "_law_same" "_law_same" s_law_same f fd) (T : Bl mg) (hmg : mg "_law_same" = some (.ref f)) (hb : Binds K fd ["told", "due"] []) (D1 : Def P w K mg base "_law_sort" 1 C_law_sort) : ∀ k, FnOk P w K mg base CX0 (k + 2) f fd ["told", "due"] (spG K (C_law_same k)) := by
  intro k
  induction k with
  | zero =>
    refine fn_ok F sc_law_same (fun as O q h => ?_) fun cdv A outer s H E hr as O q h => ?_
    · obtain ⟨a, b, _, _, rfl, rfl, _⟩ := h
      rfl
    · obtain ⟨a, b, ha, hb, rfl, rfl, hq⟩ := h
      have h4 : ¬ (3 < sortD a ∧ sortD a < 6) := by
        have := ha.2.1
        cases a <;> simp [sortD] <;> (simp [PyData.depth] at this)
      exact same_flat F T D1 hr ha.1 hb h4 hq
  | succ k ih =>
    refine fn_ok F sc_law_same (fun as O q h => ?_) fun cdv A outer s H E hr as O q h => ?_
    · obtain ⟨a, b, _, _, rfl, rfl, _⟩ := h
      rfl
    · obtain ⟨a, b, ha, hsb, rfl, rfl, hq⟩ := h
      by_cases h4 : 3 < sortD a ∧ sortD a < 6
      · have D2 : Def P w K mg base "_law_same" (k + 2) (C_law_same k) := ⟨f, fd, _, ih, hmg, F.kp, hb⟩
        exact same_deep F T D1 D2 hr ha hsb h4 hq
      · exact same_flat F T D1 (hr.mono (by omega)) ha.1 hsb h4 hq
end
end G

set_option Elab.async false
set_option linter.all false
set_option maxRecDepth 100000
set_option pp.maxSteps 600
set_option maxHeartbeats 4000000
namespace G
open PySem PySem.Spec L2
/-! ### who sees whom -/
def lowOf (h : List Int) (a b : Nat) : Int := if h.getD b 0 < h.getD a 0 then h.getD b 0 else h.getD a 0
def seesB (h : List Int) (a b : Nat) : Bool := (((h.drop (a + 1)).take (b - (a + 1))).filter fun x => decide (lowOf h a b < x)).isEmpty
def seenFrom (h : List Int) (a : Nat) : List (Int × Int) := ((List.range (h.length - (a + 1))).filter fun k => seesB h a (a + 1 + k)).map fun (k : Nat) => ((a : Int), ((a + 1 + k : Nat) : Int))
def seenOf (h : List Int) : List (Int × Int) := (List.range h.length).flatMap (seenFrom h)
theorem cutD_mid (ds : List PyData) {i j : Nat} (h1 : i ≤ j) (h2 : j ≤ ds.length) : cutD ds (some (i : Int)) (some (j : Int)) = (ds.drop i).take (j - i) := by
  unfold cutD
  rw [HT.sIx_nat, HT.sIx_nat, Nat.min_eq_left h2, Nat.min_eq_left (Nat.le_trans h1 h2)]
theorem at_int {h : List Int} {a : Nat} (ha : a < h.length) {z : Int} (e : z = (a : Int)) : atI (h.map PyData.int) z = some (.int (h.getD a 0)) := by
  rw [e]
  refine atI_nat ?_
  rw [List.getElem?_map, List.getElem?_eq_getElem ha, List.getD_eq_getElem?_getD, List.getElem?_eq_getElem ha]
  rfl
theorem seenFrom_len (h : List Int) (a : Nat) : (seenFrom h a).length ≤ h.length := by
  unfold seenFrom
  rw [List.length_map]
  have := List.length_filter_le (fun k => seesB h a (a + 1 + k)) (List.range (h.length - (a + 1)))
  rw [List.length_range] at this
  omega
section
variable {P : Program} {w : World} {K : PySem.W.Frag} {mg : Str → Option Value} {base : Heap}
def C_law_seen : Ctr := fun as O q => ∃ h : List Int, h.length ≤ 1000 ∧ as = [.sh (eIs h)] ∧ O = [] ∧ q (.sh (eLot (seenOf h))) []
theorem ok_law_seen {f : Addr} {fd : FuncData} (F : Fun K "_law_seen" "_law_seen" s_law_seen f fd) (T : Bl mg) : FnOk P w K mg base CX0 1 f fd ["heights_so"] (spG K C_law_seen) := by
  refine fn_ok F sc_law_seen (fun as O q h => ?_) fun cdv A outer s H E hr as O q h => ?_
  · obtain ⟨h, _, rfl, rfl, _⟩ := h
    rfl
  · obtain ⟨h, hl, rfl, rfl, hq⟩ := h
    have nd := sc_law_seen.nd
    have big : (1003000 : Nat) < sizeLine := by decide
    refine gs_cons (s_setL 1 nd (gl_p (glp_lst gpa_nil) fun lf => ?_))
    refine gs_cons (s_for (gi_p (gi_range1 T.range (gp_is (gp_lenT T.len (gp_name 0 rfl)) (by rw [List.length_map])) (by omega)) ?_))
    refine ⟨fun i Γ O => ∃ y2 y3 y4 y5, Γ = [.sh (eIs h), .ow lf, y2, y3, y4, y5] ∧ O = [(lf, .L (ePs ((List.range i).flatMap (seenFrom h))))], ⟨_, _, _, _, rfl, rfl⟩, ?_, ?_⟩
    · rintro a d Γ2 O2 hd ⟨y2, y3, y4, y5, rfl, rfl⟩
      obtain ⟨ha, rfl⟩ := rng_get hd
      have ha : a < h.length := by omega
      rw [Int.zero_add]
      refine ⟨_, _, gg_name 2 nd, ?_⟩
      refine gs_cons (s_for (gi_p (gi_range2 T.range (gp_add (gp_name 2 rfl) gp_int) (gp_is (gp_lenT T.len (gp_name 0 rfl)) (by rw [List.length_map])) (by omega)) ?_))
      refine ⟨fun j Γ O => ∃ y3 y4 y5, Γ = [.sh (eIs h), .ow lf, .sh (.int (a : Int)), y3, y4, y5] ∧ O = [(lf, .L (ePs ((List.range a).flatMap (seenFrom h) ++ ((List.range j).filter fun k => seesB h a (a + 1 + k)).map fun (k : Nat) => ((a : Int), ((a + 1 + k : Nat) : Int)))))], ⟨_, _, _, rfl, by simp⟩, ?_, ?_⟩
      · rintro k d2 Γ3 O3 hd2 ⟨y3, y4, y5, rfl, rfl⟩
        obtain ⟨hk, rfl⟩ := rng_get hd2
        have hb : a + 1 + k < h.length := by omega
        rw [show (a : Int) + 1 + (k : Int) = ((a + 1 + k : Nat) : Int) by omega]
        refine ⟨_, _, gg_name 3 nd, ?_⟩
        refine gs_cons (s_set 4 nd (ge_p (gp_min2 T.min (gp_ixT (gp_name 0 rfl) (gp_name 2 rfl) (at_int ha rfl)) (gp_ixT (gp_name 0 rfl) (gp_name 3 rfl) (at_int hb rfl))) ?_))
        refine gs_cons (s_if (gt_p (t := seesB h a (a + 1 + k)) (gt_is (gt_cmp (gp_of_glp (glp_lc (own := [("height", 5)]) (enc := .int) (out := .int) (p := fun x => decide (lowOf h a (a + 1 + k) < x)) ((h.drop (a + 1)).take (a + 1 + k - (a + 1))) (fun x => [.sh (eIs h), .ow lf, .sh (.int (a : Int)), .sh (.int ((a + 1 + k : Nat) : Int)), .sh (.int (lowOf h a (a + 1 + k))), .sh (.int x)]) nd
          (gip_is (gi_tup (gp_slT (gp_name 0 rfl) (gpo_some (gp_add (gp_name 2 rfl) gp_int)) (gpo_some (gp_name 3 rfl)))) ?eq) (blkOk_by (N := N_law_seen) (sc := defScope s_law_seen) (by decide +kernel)) (fun a _ s H C cl fp => gg_name 5 nd) (by decide)
          (fun x _ s H C cl fp => gts_one (gt_cmp (gp_name 5 rfl) (gp_name 4 rfl) cmp_gt)) (fun x _ _ s H C cl fp => gp_name 5 rfl) ?z)) (gp_of_glp (glp_lst gpa_nil)) (cmp_eqD (u64 hr) (shaped_ints _) shaped_nil)) ?t) ⟨fun hs => ?_, fun hs => gs_nil ?_⟩))
        case eq =>
          rw [show (a : Int) + 1 = ((a + 1 : Nat) : Int) by omega, cutD_mid _ (by omega) (by rw [List.length_map]; omega), ← List.map_drop, ← List.map_take]
        case z =>
          rw [List.length_take, List.length_drop]
          omega
        case t =>
          rw [eqv_nil, List.isEmpty_map]
          rfl
        · refine gs_cons (s_app 1 rfl (ge_p (gp_tup (gpa_cons (gp_name 2 rfl) (gpa_cons (gp_name 3 rfl) gpa_nil))) ⟨0, _, rfl, ?_, gs_nil (gs_nil ⟨_, _, _, rfl, ?_⟩)⟩) ⟨_, List.mem_cons_self⟩)
          · have h1 := len_flatMap (f := seenFrom h) (k := 1000) (l := List.range a) fun x _ => Nat.le_trans (seenFrom_len h x) hl
            have h2 := List.length_filter_le (fun k => seesB h a (a + 1 + k)) (List.range k)
            rw [List.length_range] at h1 h2
            simp only [List.length_map, List.length_append]
            omega
          · rw [List.range_succ, List.filter_append, List.filter_cons, if_pos hs, List.filter_nil]
            simp [eP]
        · refine gs_nil ⟨_, _, _, rfl, ?_⟩
          rw [List.range_succ, List.filter_append, List.filter_cons, if_neg (by rw [hs]; exact Bool.false_ne_true), List.filter_nil]
          simp
      · rintro Γ3 O3 ⟨y3, y4, y5, rfl, rfl⟩
        refine gs_nil ⟨_, _, _, _, rfl, ?_⟩
        rw [List.length_map, rng_len, List.range_succ, List.flatMap_append]
        rw [show ((h.length : Int) - ((a : Int) + 1)).toNat = h.length - (a + 1) by omega]
        simp [seenFrom]
    · rintro Γ2 O2 ⟨y2, y3, y4, y5, rfl, rfl⟩
      rw [List.length_map, rng_len, Int.toNat_natCast]
      exact gs_freeze 1 0 rfl rfl (gs_cons (s_ret (ge_p (gp_tupleT T.tuple (gp_name 1 rfl) (.l _)) hq)))
def pairsFrom (n : Int) (a : Int) : List (Int × Int) := (rng (a + 1) (n - (a + 1)).toNat).map fun b => (a, b)
def pairsOf (n : Int) : List (Int × Int) := (rng 0 n.toNat).flatMap (pairsFrom n)
theorem pairsFrom_len (n a : Int) (h : 0 ≤ a) : (pairsFrom n a).length ≤ n.toNat := by
  unfold pairsFrom
  rw [List.length_map, rng_len]
  omega
def C_law_pairs : Ctr := fun as O q => ∃ n : Int, (0 ≤ n ∧ n ≤ 12) ∧ as = [.sh (.int n)] ∧ O = [] ∧ q (.sh (.list (ePs (pairsOf n)))) []
theorem ok_law_pairs {f : Addr} {fd : FuncData} (F : Fun K "_law_pairs" "_law_pairs" s_law_pairs f fd) (T : Bl mg) : FnOk P w K mg base CX0 1 f fd ["many"] (spG K C_law_pairs) := by
  refine fn_ok F sc_law_pairs (fun as O q h => ?_) fun cdv A outer s H E hr as O q h => ?_
  · obtain ⟨n, _, rfl, rfl, _⟩ := h
    rfl
  · obtain ⟨n, hn, rfl, rfl, hq⟩ := h
    have nd := sc_law_pairs.nd
    have big : (1003000 : Nat) < sizeLine := by decide
    refine gs_cons (s_set 1 nd (ge_p (gp_of_glp (glp_lst gpa_nil)) ?_))
    refine gs_cons (s_for (gi_p (gi_range1 T.range (gp_name 0 rfl) (by omega)) ?_))
    refine ⟨fun i Γ O => ∃ y2 y3, Γ = [.sh (.int n), .sh (.list (ePs ((rng 0 i).flatMap (pairsFrom n)))), y2, y3] ∧ O = [], ⟨_, _, rfl, rfl⟩, ?_, ?_⟩
    · rintro i d Γ2 O2 hd ⟨y2, y3, rfl, rfl⟩
      obtain ⟨hi, rfl⟩ := rng_get hd
      have hi2 : (i : Int) < n := by omega
      refine ⟨_, _, gg_name 2 nd, ?_⟩
      have z1 : (rng (0 + (i : Int) + 1) (n - (0 + (i : Int) + 1)).toNat).length < sizeLine := by rw [rng_len]; omega
      have z2 : (ePs ((rng 0 i).flatMap (pairsFrom n))).length + (((rng (0 + (i : Int) + 1) (n - (0 + (i : Int) + 1)).toNat).filter fun _ => true).map fun b => eP (0 + (i : Int), b)).length ≤ sizeLine := by
        have h1 := len_flatMap (f := pairsFrom n) (k := 1000) (l := rng 0 i) fun x hx => Nat.le_trans (pairsFrom_len n x (rng_mem.mp hx).1) (by omega)
        rw [rng_len] at h1
        rw [filt_true]
        simp only [List.length_map, rng_len]
        omega
      have e1 : ePs ((rng 0 i).flatMap (pairsFrom n)) ++ ((rng (0 + (i : Int) + 1) (n - (0 + (i : Int) + 1)).toNat).filter fun _ => true).map (fun b => eP (0 + (i : Int), b)) = ePs ((rng 0 (i + 1)).flatMap (pairsFrom n)) := by
        rw [rng_snoc, List.flatMap_append, List.flatMap_singleton, ePs, ePs, List.map_append, filt_true, pairsFrom, List.map_map]
        rfl
      refine gs_cons (s_set 1 nd (ge_p (gp_is (gp_of_glp (glp_cat (gp_name 1 rfl) (gp_of_glp (glp_lc (own := [("other", 3)]) (enc := .int) (out := fun b => eP (0 + (i : Int), b)) (p := fun _ => true) (rng (0 + (i : Int) + 1) (n - (0 + (i : Int) + 1)).toNat) (fun x => [.sh (.int n), .sh (.list (ePs ((rng 0 i).flatMap (pairsFrom n)))), .sh (.int (0 + (i : Int))), .sh (.int x)]) nd
          (gi_range2 T.range (gp_add (gp_name 2 rfl) gp_int) (gp_name 0 rfl) (by omega)) (blkOk_by (N := N_law_pairs) (sc := defScope s_law_pairs) (by decide +kernel)) (fun a _ s H C cl fp => gg_name 3 nd) (by decide) (fun x _ s H C cl fp => gts_nil) (fun x _ _ s H C cl fp => gp_tup (gpa_cons (gp_name 2 rfl) (gpa_cons (gp_name 3 rfl) gpa_nil))) z1)) z2)) (congrArg PyData.list e1)) (gs_nil ⟨_, _, rfl, rfl⟩)))
    · rintro Γ2 O2 ⟨y2, y3, rfl, rfl⟩
      rw [List.length_map, rng_len]
      exact gs_cons (s_ret (ge_p (gp_name 1 rfl) hq))
end
end G

set_option Elab.async false
set_option linter.all false
set_option maxRecDepth 100000
set_option pp.maxSteps 600
set_option maxHeartbeats 4000000
namespace G
open PySem PySem.Spec L2
/-! ### all orders -/
def extO (n : Int) (r : List Int) : List (List Int) := ((rng 1 n.toNat).filter fun x => !decide (x ∈ r)).map fun x => r ++ [x]
def stepO (n : Int) (rows : List (List Int)) : List (List Int) := rows.flatMap (extO n)
def ordersN (n : Int) : Nat → List (List Int)
  | 0 => [[]]
  | k + 1 => stepO n (ordersN n k)
def ordersL (n : Int) : List (List Int) := ordersN n n.toNat
theorem orders_few : ∀ m ∈ List.range 7, ∀ k ∈ List.range 7, ((ordersN (m : Int) k).length ≤ 720 ∧ ∀ r ∈ ordersN (m : Int) k, r.length ≤ 6) := by decide +kernel
theorem orders_few' {n : Int} (hn : 0 ≤ n ∧ n ≤ 6) {k : Nat} (hk : k ≤ 6) : (ordersN n k).length ≤ 720 ∧ ∀ r ∈ ordersN n k, r.length ≤ 6 := by
  have := orders_few n.toNat (List.mem_range.mpr (by omega)) k (List.mem_range.mpr (by omega))
  rwa [show ((n.toNat : Nat) : Int) = n by omega] at this
theorem extO_len (n : Int) (r : List Int) : (extO n r).length ≤ n.toNat := by
  unfold extO
  rw [List.length_map]
  have := List.length_filter_le (fun x => !decide (x ∈ r)) (rng 1 n.toNat)
  rwa [rng_len] at this
abbrev eOs (l : List (List Int)) : List PyData := l.map fun h => eIs h
section
variable {P : Program} {w : World} {K : PySem.W.Frag} {mg : Str → Option Value} {base : Heap}
def C_law_orders : Ctr := fun as O q => ∃ n, (2 ≤ n ∧ n ≤ 6) ∧ as = [.sh (.int n)] ∧ O = [] ∧ q (.sh (.list (eOs (ordersL n)))) []
theorem ok_law_orders {f : Addr} {fd : FuncData} (F : Fun K "_law_orders" "_law_orders" s_law_orders f fd) (T : Bl mg) : FnOk P w K mg base CX0 1 f fd ["many"] (spG K C_law_orders) := by
  refine fn_ok F sc_law_orders (fun as O q h => ?_) fun cdv A outer s H E hr as O q h => ?_
  · obtain ⟨n, _, rfl, rfl, _⟩ := h
    rfl
  · obtain ⟨n, hn, rfl, rfl, hq⟩ := h
    have nd := sc_law_orders.nd
    have big : (1003000 : Nat) < sizeLine := by decide
    refine gs_cons (s_set 1 nd (ge_p (gp_of_glp (glp_lst (gpa_cons (gp_tup gpa_nil) gpa_nil))) ?_))
    refine gs_cons (s_for (gi_p (gi_range1 T.range (gp_name 0 rfl) (by omega)) ?_))
    refine ⟨fun i Γ O => ∃ y2 y3 y4 y5, Γ = [.sh (.int n), .sh (.list (eOs (ordersN n i))), y2, y3, y4, y5] ∧ O = [], ⟨_, _, _, _, rfl, rfl⟩, ?_, ?_⟩
    · rintro i d Γ2 O2 hd ⟨y2, y3, y4, y5, rfl, rfl⟩
      obtain ⟨hi, rfl⟩ := rng_get hd
      have few := orders_few' (n := n) (by omega) (k := i) (by omega)
      refine ⟨_, _, gg_name 2 nd, ?_⟩
      refine gs_cons (s_set 3 nd (ge_p (gp_of_glp (glp_lst gpa_nil)) ?_))
      refine gs_cons (s_for (gi_p (gi_list (gp_name 1 rfl)) ?_))
      refine ⟨fun j Γ O => ∃ y4 y5, Γ = [.sh (.int n), .sh (.list (eOs (ordersN n i))), .sh (.int (0 + (i : Int))), .sh (.list (eOs (((ordersN n i).take j).flatMap (extO n)))), y4, y5] ∧ O = [], ⟨_, _, rfl, rfl⟩, ?_, ?_⟩
      · rintro j d2 Γ3 O3 hd2 ⟨y4, y5, rfl, rfl⟩
        have hj : j < (ordersN n i).length := by
          have := (List.getElem?_eq_some_iff.mp hd2).1
          rwa [List.length_map] at this
        obtain ⟨r, hr2, rfl⟩ : ∃ r, (ordersN n i)[j]? = some r ∧ d2 = eIs r := by
          rw [List.getElem?_map, List.getElem?_eq_getElem hj] at hd2
          exact ⟨_, List.getElem?_eq_getElem hj, (Option.some.inj hd2).symm⟩
        have ht := take_snoc hr2
        have lr := few.2 r (List.mem_of_getElem? hr2)
        refine ⟨_, _, gg_name 4 nd, ?_⟩
        have z1 := len_flatMap (f := extO n) (k := 6) (l := (ordersN n i).take j) fun x hx => Nat.le_trans (extO_len n x) (by omega)
        rw [List.length_take] at z1
        have z2 := extO_len n r
        have e1 : ((rng 1 (n + 1 - 1).toNat).filter fun x => !decide (x ∈ r)).map (fun x => eIs (r ++ [x])) = eOs (extO n r) := by
          rw [show n + 1 - 1 = n by omega, eOs, extO, List.map_map]; rfl
        have e2 : eOs (((ordersN n i).take j).flatMap (extO n)) ++ eOs (extO n r) = eOs (((ordersN n i).take (j + 1)).flatMap (extO n)) := by
          rw [ht, List.flatMap_append, List.flatMap_singleton, eOs, eOs, eOs, List.map_append]
        refine gs_cons (s_set 3 nd (ge_p (gp_is (gp_of_glp (glp_cat (gp_name 3 rfl) (gp_of_glp (glp_is (glp_lc (own := [("number", 5)]) (enc := .int) (out := fun x => eIs (r ++ [x])) (p := fun x => !decide (x ∈ r)) (rng 1 (n + 1 - 1).toNat) (fun x => [.sh (.int n), .sh (.list (eOs (ordersN n i))), .sh (.int (0 + (i : Int))), .sh (.list (eOs (((ordersN n i).take j).flatMap (extO n)))), .sh (eIs r), .sh (.int x)]) nd
            (gi_range2 T.range gp_int (gp_add (gp_name 0 rfl) gp_int) (by omega)) (blkOk_by (N := N_law_orders) (sc := defScope s_law_orders) (by decide +kernel)) (fun a _ s H C cl fp => gg_name 5 nd) (by decide)
            (fun x _ s H C cl fp => gts_one (gt_is (gt_cmp (gp_name 5 rfl) (gp_name 4 rfl) (cmp_niT (by exact u65 hr) (shaped_int x) (shaped_intsT r))) (by rw [any_int])))
            (fun x _ _ s H C cl fp => gp_is (gp_catT (gp_name 4 rfl) (gp_tup (gpa_cons (gp_name 5 rfl) gpa_nil)) (by rw [List.length_map]; simp; omega)) (by show PyData.tuple _ = PyData.tuple ((r ++ [x]).map .int); rw [List.map_append]; rfl)) (by rw [rng_len]; omega)) e1)) (by rw [List.length_map, List.length_map]; omega))) (congrArg PyData.list e2)) (gs_nil ⟨_, _, rfl, rfl⟩)))
      · rintro Γ3 O3 ⟨y4, y5, rfl, rfl⟩
        rw [List.length_map, List.take_length]
        exact gs_cons (s_set 1 nd (ge_p (gp_name 3 rfl) (gs_nil ⟨_, _, _, _, rfl, rfl⟩)))
    · rintro Γ2 O2 ⟨y2, y3, y4, y5, rfl, rfl⟩
      rw [List.length_map, rng_len]
      exact gs_cons (s_ret (ge_p (gp_name 1 rfl) hq))
/-! ### all orders by their sights -/
def byStep (kvs : BK) (o : List Int) : BK := gput kvs (seenOf o) (((gget kvs (seenOf o)).getD []) ++ [eIs o])
def byL (os : List (List Int)) : BK := os.foldl byStep []
theorem gput_len (kvs : BK) (l : Lt) (ds : List PyData) : (gput kvs l ds).length ≤ kvs.length + 1 := by
  unfold gput
  split
  · rw [List.length_map]; omega
  · rw [List.length_append, List.length_singleton]; exact Nat.le_refl _
theorem gput_mem {kvs : BK} {l : Lt} {ds : List PyData} {p : Lt × List PyData} (h : p ∈ gput kvs l ds) : p ∈ kvs ∨ p = (l, ds) := by
  unfold gput at h
  split at h
  · obtain ⟨q, hq, e⟩ := List.mem_map.mp h
    by_cases c : q.1 = l
    · rw [if_pos c] at e
      right
      rw [← e, c]
    · rw [if_neg c] at e
      rw [← e]; exact .inl hq
  · rcases List.mem_append.mp h with h | h
    · exact .inl h
    · exact .inr (List.mem_singleton.mp h)
theorem gget_mem {kvs : BK} {l : Lt} {ds : List PyData} (h : gget kvs l = some ds) : (l, ds) ∈ kvs := by
  unfold gget at h
  obtain ⟨p, hp, e⟩ := Option.map_eq_some_iff.mp h
  have h1 := List.mem_of_find?_eq_some hp
  have h2 : p.1 = l := by simpa using List.find?_some hp
  rw [← e, ← h2]
  exact h1
theorem byL_few (os : List (List Int)) : ∀ kvs m, kvs.length ≤ m → (∀ p ∈ kvs, p.2.length ≤ m) → (os.foldl byStep kvs).length ≤ m + os.length ∧ ∀ p ∈ os.foldl byStep kvs, p.2.length ≤ m + os.length := by
  induction os with
  | nil => exact fun kvs m h1 h2 => ⟨h1, h2⟩
  | cons o os ih =>
    intro kvs m h1 h2
    have := ih (byStep kvs o) (m + 1) (Nat.le_trans (gput_len _ _ _) (by omega)) fun p hp => by
      rcases gput_mem hp with hp | rfl
      · exact Nat.le_succ_of_le (h2 p hp)
      · rw [List.length_append, List.length_singleton]
        cases e : gget kvs (seenOf o) with
        | none => simp
        | some ds => have := h2 _ (gget_mem e); simpa using this
    rw [List.foldl_cons, List.length_cons, show m + (os.length + 1) = m + 1 + os.length by omega]
    exact this
def C_law_by_lots (P : Program) (w : World) : Ctr := fun as O q => ∃ n, (2 ≤ n ∧ n ≤ 6) ∧ as = [.sh (.int n)] ∧ O = [] ∧ ∀ l c, IsB P w l c (byL (ordersL n)) → q (.ow l) [(l, c)]
theorem ok_law_by_lots {f : Addr} {fd : FuncData} (F : Fun K "_law_by_lots" "_law_by_lots" s_law_by_lots f fd) (T : Bl mg) (D1 : Def P w K mg base "_law_orders" 1 C_law_orders) (D2 : Def P w K mg base "_law_seen" 1 C_law_seen) : FnOk P w K mg base CX0 2 f fd ["many"] (spG K (C_law_by_lots P w)) := by
  refine fn_ok F sc_law_by_lots (fun as O q h => ?_) fun cdv A outer s H E hr as O q h => ?_
  · obtain ⟨n, _, rfl, rfl, _⟩ := h
    rfl
  · obtain ⟨n, hn, rfl, rfl, hq⟩ := h
    have nd := sc_law_by_lots.nd
    have big : (1003000 : Nat) < sizeLine := by decide
    have few := orders_few' (n := n) (by omega) (k := n.toNat) (by omega)
    refine gs_cons (s_newB 1 nd fun lf c0 hB0 => ?_)
    refine gs_cons (s_for (gi_p (gi_list (gp_call D1 (hr.mono (by decide)) (gpa_cons (gp_name 0 rfl) gpa_nil) ⟨n, hn, rfl, rfl, rfl, rfl⟩)) ?_))
    refine ⟨fun i Γ O => ∃ y2 y3 c, Γ = [.sh (.int n), .ow lf, y2, y3] ∧ O = [(lf, c)] ∧ IsB P w lf c (byL ((ordersL n).take i)), ⟨_, _, c0, rfl, rfl, hB0⟩, ?_, ?_⟩
    · rintro i d Γ2 O2 hd ⟨y2, y3, c, rfl, rfl, hB⟩
      have hi : i < (ordersL n).length := by
        have := (List.getElem?_eq_some_iff.mp hd).1
        rwa [List.length_map] at this
      obtain ⟨r, hr2, rfl⟩ : ∃ r, (ordersL n)[i]? = some r ∧ d = eIs r := by
        rw [List.getElem?_map, List.getElem?_eq_getElem hi] at hd
        exact ⟨_, List.getElem?_eq_getElem hi, (Option.some.inj hd).symm⟩
      have ht := take_snoc hr2
      have lr := few.2 r (List.mem_of_getElem? hr2)
      have fw := byL_few ((ordersL n).take i) [] 0 (Nat.le_refl _) (by simp)
      rw [List.length_take] at fw
      have lo : (ordersL n).length ≤ 720 := few.1
      refine ⟨_, _, gg_name 2 nd, ?_⟩
      refine gs_cons (s_set 3 nd (ge_p (gp_call D2 (hr.mono (by decide)) (gpa_cons (gp_name 2 rfl) gpa_nil) ⟨r, by omega, rfl, rfl, rfl, rfl⟩) ?_))
      have gl : ((gget (byL ((ordersL n).take i)) (seenOf r)).getD []).length ≤ 720 := by
        cases e : gget (byL ((ordersL n).take i)) (seenOf r) with
        | none => simp
        | some ds =>
          have h3 := fw.2 _ (gget_mem e)
          have h3 : ds.length ≤ _ := h3
          show ds.length ≤ 720
          omega
      refine gs_cons (s_putB 1 (u64 hr) rfl (ge_l (gl_cat (ge_getB 1 (u64 hr) rfl List.mem_cons_self hB (gp_name 3 rfl) (gp_of_glp (glp_lst gpa_nil)) (ge_p (gp_of_glp (glp_lst (gpa_cons (gp_name 2 rfl) gpa_nil))) ⟨_, _, rfl, rfl, by simp; omega, ge_p (gp_name 3 rfl) ⟨_, seenOf r, _, 0, c, rfl, rfl, rfl, hB, by unfold byL; omega, fun c' hB' => gs_nil ⟨_, _, c', rfl, rfl, ?_⟩⟩⟩) ⟨rfl, rfl, rfl, rfl⟩))))
      have e : byL ((ordersL n).take (i + 1)) = byStep (byL ((ordersL n).take i)) r := by unfold byL; rw [ht, foldl_snoc]
      rw [e]
      exact hB'
    · rintro Γ2 O2 ⟨y2, y3, c, rfl, rfl, hB⟩
      rw [List.length_map, List.take_length] at hB
      exact gs_cons (s_retO 1 rfl (hq lf c hB))
end
end G

set_option Elab.async false
set_option linter.all false
set_option maxRecDepth 100000
set_option pp.maxSteps 600
set_option maxHeartbeats 4000000
namespace G
open PySem PySem.Spec L2
/-! ### who is seen from the ends -/
def riseSt (h : List Int) : Nat → List Int × Int
  | 0 => ([], -1)
  | k + 1 => if (riseSt h k).2 < getI h k then ((riseSt h k).1 ++ [(k : Int)], getI h k) else riseSt h k
def rises (h : List Int) : List Int := (riseSt h h.length).1
theorem riseSt_len (h : List Int) : ∀ k, (riseSt h k).1.length ≤ k
  | 0 => Nat.le_refl _
  | k + 1 => by
    have := riseSt_len h k
    rw [riseSt]
    split
    · rw [List.length_append, List.length_singleton]; omega
    · omega
def rightOf (h : List Int) : List Int := ((rises h.reverse).map fun p => (h.length : Int) - 1 - p).reverse
section
variable {X : Cx} {Γ : List Sl} {O : Own} {e : Expr} {es : List Expr}
theorem ga_newL {P : List Sl → Own → Prop} {ds : List PyData} (h : GLP X Γ e ds) (h2 : ∀ l, GA X Γ (O ++ [(l, .L ds)]) es fun as O2 => P (.ow l :: as) O2) (hs : starEach (e :: es) X.env = (false, eval e X.env) :: starEach es X.env := by rfl) : GA X Γ O (e :: es) P := ⟨fun B σ R H o =>
  (pa_cons pe_re pa_re hs).re ((h.run σ R H o.sub o.sl).mono fun v H1 ⟨R1, p, vs, g, e1, e2, e3, e4, a⟩ => ((h2 p).run B σ R1 H1 (o.own1 g e2 e3 e4 a)).mono fun ws H2 ⟨R2, O2, as, r2, o2, x2, q2⟩ => ⟨R2, O2, .ow p :: as, g.r.trans r2, o2, .cons e1 x2, q2⟩)⟩
end
section
variable {P : Program} {w : World} {K : PySem.W.Frag} {mg : Str → Option Value} {base : Heap}
def C_law_rises : Ctr := fun as O q => ∃ h : List Int, h.length ≤ 12 ∧ as = [.sh (eIs h)] ∧ O = [] ∧ q (.sh (eIs (rises h))) []
theorem ok_law_rises {f : Addr} {fd : FuncData} (F : Fun K "_law_rises" "_law_rises" s_law_rises f fd) (T : Bl mg) : FnOk P w K mg base CX0 1 f fd ["heights_so"] (spG K C_law_rises) := by
  refine fn_ok F sc_law_rises (fun as O q h => ?_) fun cdv A outer s H E hr as O q h => ?_
  · obtain ⟨h, _, rfl, rfl, _⟩ := h
    rfl
  · obtain ⟨h, hl, rfl, rfl, hq⟩ := h
    have nd := sc_law_rises.nd
    have big : (1003000 : Nat) < sizeLine := by decide
    refine gs_cons (s_par (i := 1) (j := 2) nd (ga_newL (glp_lst gpa_nil) fun lf => ga_p (gpa_cons (gp_neg gp_int) gpa_nil) ⟨_, _, rfl, ?_⟩) rfl rfl (by decide))
    refine gs_cons (s_for (gi_p (gi_enum T.enum (gp_name 0 rfl) (.t _)) ?_))
    refine ⟨fun i Γ O => ∃ y3 y4, Γ = [.sh (eIs h), .ow lf, .sh (.int (riseSt h i).2), y3, y4] ∧ O = [(lf, .L ((riseSt h i).1.map .int))], ⟨_, _, rfl, rfl⟩, ?_, ?_⟩
    · rintro i d Γ2 O2 hd ⟨y3, y4, rfl, rfl⟩
      obtain ⟨d', hd', rfl⟩ := enumD_get hd
      rw [List.getElem?_map] at hd'
      have hi : i < h.length := by
        cases z : h[i]? with
        | none => rw [z] at hd'; cases hd'
        | some v => exact (List.getElem?_eq_some_iff.mp z).1
      have ed : d' = .int (getI h i) := by
        rw [List.getElem?_eq_getElem hi] at hd'
        unfold getI
        rw [List.getD_eq_getElem?_getD, List.getElem?_eq_getElem hi]
        exact (Option.some.inj hd').symm
      subst ed
      have bl := riseSt_len h i
      refine ⟨_, _, gg_tup (ggs_cons (gg_name 3 nd) (ggs_cons (gg_name 4 nd) ggs_nil)), ?_⟩
      refine gs_cons (s_if (gt_p (gt_cmp (gp_name 4 rfl) (gp_name 2 rfl) cmp_gt) ⟨fun hc => ?_, fun hc => gs_nil (gs_nil ⟨.sh (.int (i : Int)), .sh (.int (getI h i)), ?_, ?_⟩)⟩))
      · have hc := of_decide_eq_true hc
        have eN : riseSt h (i + 1) = ((riseSt h i).1 ++ [(i : Int)], getI h i) := by rw [riseSt, if_pos hc]
        refine gs_cons (s_app 1 rfl (ge_p (gp_name 3 rfl) ⟨0, _, rfl, by rw [List.length_map]; omega, ?_⟩) ⟨_, List.mem_cons_self⟩)
        refine gs_cons (s_set 2 nd (ge_p (gp_name 4 rfl) (gs_nil (gs_nil ⟨.sh (.int (i : Int)), .sh (.int (getI h i)), ?_, ?_⟩))))
        · rw [eN]; rfl
        · rw [eN]
          show [(lf, Cn.L ((riseSt h i).1.map PyData.int ++ [.int (i : Int)]))] = [(lf, Cn.L (((riseSt h i).1 ++ [(i : Int)]).map .int))]
          rw [List.map_append]
          rfl
      · rw [riseSt, if_neg (of_decide_eq_false hc)]; rfl
      · rw [riseSt, if_neg (of_decide_eq_false hc)]
    · rintro Γ2 O2 ⟨y3, y4, rfl, rfl⟩
      rw [enumD_len, List.length_map]
      exact gs_freeze 1 0 rfl rfl (gs_cons (s_ret (ge_p (gp_tupleT T.tuple (gp_name 1 rfl) (.l _)) hq)))
def endsD (h : List Int) : PyData := .tuple [eIs (rises h), eIs (rightOf h)]
def C_law_ends : Ctr := fun as O q => ∃ h : List Int, h.length ≤ 12 ∧ as = [.sh (eIs h)] ∧ O = [] ∧ q (.sh (endsD h)) []
theorem ok_law_ends {f : Addr} {fd : FuncData} (F : Fun K "_law_ends" "_law_ends" s_law_ends f fd) (T : Bl mg) (D1 : Def P w K mg base "_law_rises" 1 C_law_rises) : FnOk P w K mg base CX0 2 f fd ["heights_so"] (spG K C_law_ends) := by
  refine fn_ok F sc_law_ends (fun as O q h => ?_) fun cdv A outer s H E hr as O q h => ?_
  · obtain ⟨h, _, rfl, rfl, _⟩ := h
    rfl
  · obtain ⟨h, hl, rfl, rfl, hq⟩ := h
    have nd := sc_law_ends.nd
    have big : (1003000 : Nat) < sizeLine := by decide
    have bl := riseSt_len h.reverse h.reverse.length
    rw [List.length_reverse] at bl
    have bl : (rises h.reverse).length ≤ h.length := by unfold rises; rw [List.length_reverse]; exact bl
    refine gs_cons (s_set 1 nd (ge_p (gp_is (gp_sub (gp_lenT T.len (gp_name 0 rfl)) gp_int) (d' := .int ((h.length : Int) - 1)) (by rw [List.length_map])) ?_))
    refine gs_cons (s_setLcS (own := [("place", 3)]) (enc := .int) (out := fun p => .int ((h.length : Int) - 1 - p)) (pr := fun _ => true) 2 (rises h.reverse) (fun p => [.sh (eIs h), .sh (.int ((h.length : Int) - 1)), .no, .sh (.int p)]) nd
      (gi_tup (gp_call D1 (hr.mono (by decide)) (gpa_cons (gp_is (gp_revT (gp_name 0 rfl)) (congrArg PyData.tuple (List.map_reverse ..).symm)) gpa_nil) ⟨h.reverse, by rw [List.length_reverse]; exact hl, rfl, rfl, rfl, rfl⟩)) (blkOk_by (N := N_law_ends) (sc := defScope s_law_ends) (by decide +kernel)) (fun p _ s H C cl fp => gg_name 3 nd) (by decide)
      (fun x _ s H C cl fp => gts_nil) (fun p _ _ s H C cl fp => gp_sub (gp_name 1 rfl) (gp_name 3 rfl)) (by omega) ?_)
    refine gs_cons (s_ret (ge_p (gp_tup (gpa_cons (gp_call D1 (hr.mono (by decide)) (gpa_cons (gp_name 0 rfl) gpa_nil) ⟨h, hl, rfl, rfl, rfl, rfl⟩) (gpa_cons (gp_is (gp_tupleT T.tuple (gp_of_glp (glp_revL (gp_name 2 rfl))) (.l _)) (d' := eIs (rightOf h)) ?_) gpa_nil))) hq))
    rw [filt_true, rightOf]
    show PyData.tuple _ = PyData.tuple (List.map .int _)
    rw [List.map_reverse, List.map_map]
    rfl
end
end G

set_option Elab.async false
set_option linter.all false
set_option maxRecDepth 100000
set_option pp.maxSteps 600
set_option maxHeartbeats 40000000
namespace G
open PySem PySem.Spec L2
/-! ### every lot of two to six houses, looked at -/
abbrev PK := List (Lt × List (List Int))
def pget (kvs : PK) (l : Lt) : Option (List (List Int)) := (kvs.find? fun p => decide (p.1 = l)).map (·.2)
def pput (kvs : PK) (l : Lt) (ds : List (List Int)) : PK := if (pget kvs l).isSome = true then kvs.map (fun p => if p.1 = l then (p.1, ds) else p) else kvs ++ [(l, ds)]
def pStep (kvs : PK) (o : List Int) : PK := pput kvs (seenOf o) (((pget kvs (seenOf o)).getD []) ++ [o])
def pL (os : List (List Int)) : PK := os.foldl pStep []
def toB (kvs : PK) : BK := kvs.map fun p => (p.1, eOs p.2)
theorem toB_get (kvs : PK) (l : Lt) : gget (toB kvs) l = (pget kvs l).map eOs := by
  unfold gget pget toB
  induction kvs with
  | nil => rfl
  | cons p kvs ih =>
    rw [List.map_cons, List.find?_cons, List.find?_cons]
    by_cases c : p.1 = l
    · rw [decide_eq_true c]; rfl
    · rw [decide_eq_false c]; exact ih
theorem toB_put (kvs : PK) (l : Lt) (ds : List (List Int)) : gput (toB kvs) l (eOs ds) = toB (pput kvs l ds) := by
  unfold gput pput
  rw [toB_get, Option.isSome_map]
  split
  · unfold toB
    rw [List.map_map, List.map_map]
    apply List.map_congr_left
    intro p _
    show (if p.1 = l then (p.1, eOs ds) else (p.1, eOs p.2)) = ((if p.1 = l then (p.1, ds) else p).1, eOs (if p.1 = l then (p.1, ds) else p).2)
    split <;> rfl
  · unfold toB
    rw [List.map_append]
    rfl
theorem toB_step (kvs : PK) (o : List Int) : byStep (toB kvs) o = toB (pStep kvs o) := by
  unfold byStep pStep
  rw [← toB_put, toB_get]
  congr 1
  cases pget kvs (seenOf o) <;> simp
theorem toB_all (os : List (List Int)) : ∀ kvs : PK, os.foldl byStep (toB kvs) = toB (os.foldl pStep kvs) := by
  induction os with
  | nil => intro kvs; rfl
  | cons o os ih => intro kvs; rw [List.foldl_cons, List.foldl_cons, toB_step, ih]
theorem byL_plain (os : List (List Int)) : byL os = toB (pL os) := toB_all os []
/-! the checks -/
def treeB (n : Int) (kvs : List (Int × Int)) : Bool :=
  ((rng 0 n.toNat).all fun h => endsF kvs 13 h && (aboveF kvs 13 h).all fun x => decide (0 ≤ x) && decide (x < n)) && (kvs.all fun p => decide (0 ≤ p.1) && decide (p.1 < n)) && decide (kvs.length ≤ 100000)
def lotB (n : Int) (l : Lt) : Bool := (l.all fun p => decide (0 ≤ p.1) && (decide (p.1 ≤ n - 2) && (decide (p.1 + 1 ≤ p.2) && decide (p.2 ≤ n - 1)))) && (riseP l && decide (l.length < 1000))
def goodB (n : Int) (l : Lt) : Bool := (barsOf n l).isEmpty && (outerOf n l).all fun t => treeB n (treeOf n l t)
def moreN (every : List (List Int)) (a b : Int) : Nat := (every.filter fun o => decide (getI o b.toNat < getI o a.toNat)).length
def dueS (every : List (List Int)) (a b : Int) : String := if moreN every a b = every.length then "higher" else if moreN every a b = 0 then "lower" else "either"
def backS (s : String) : String := if s = "higher" then "lower" else if s = "lower" then "higher" else "either"
def pairB (n : Int) (l : Lt) (every : List (List Int)) (p : Int × Int) : Bool := decide (higherOf n l p.1 p.2 = dueS every p.1 p.2) && decide (higherOf n l p.2 p.1 = backS (dueS every p.1 p.2))
def someT (n : Int) (every : List (List Int)) (t : Nat) : List (List Int) := every.filter fun o => decide (getI o t = n)
def riseC : List Int → Int → Int → List Int
  | [], _, _ => []
  | x :: l, p, top => if top < x then p :: riseC l (p + 1) x else riseC l (p + 1) top
abbrev Trip := List Int × List Int × Int
def endP (h : List Int) : List Int × List Int := (riseC h 0 (-1), ((riseC h.reverse 0 (-1)).map fun p => (h.length : Int) - 1 - p).reverse)
def tripT (n : Int) (every : List (List Int)) (t : Nat) : List Trip := match someT n every t with
  | [] => []
  | o :: os => [((endP o).1, (endP o).2, ((o :: os).length : Int))]
def sameB (n : Int) (every : List (List Int)) (t : Nat) : Bool := match someT n every t with
  | [] => true
  | o :: os => os.all fun o' => decide (endP o' = endP o)
def tripE (n : Int) (l : Lt) (i : Nat) : Trip := ((outerOf n l).take (i + 1), (outerOf n l).drop i, ordersOf n (treeOf n l (getI (outerOf n l) i)))
def endB (n : Int) (l : Lt) (every : List (List Int)) : Bool := ((List.range n.toNat).all (sameB n every)) && decide ((List.range (outerOf n l).length).map (tripE n l) = (List.range n.toNat).flatMap (tripT n every))
def chk (n : Int) (p : Lt × List (List Int)) : Bool := lotB n p.1 && (goodB n p.1 && (p.2.all (fun o => decide ((o.length : Int) = n)) && ((pairsOf n).all (pairB n p.1 p.2) && (endB n p.1 p.2 && (!p.1.isEmpty)))))
def chkN (n : Int) : Bool := (pL (ordersL n)).all (chk n) && decide (1 ≤ (pL (ordersL n)).length) && decide ((pL (ordersL n)).length ≤ 1000)
theorem chk2 : chkN 2 = true := by decide +kernel
theorem chk3 : chkN 3 = true := by decide +kernel
theorem chk4 : chkN 4 = true := by decide +kernel
theorem chk5 : chkN 5 = true := by decide +kernel
end G

set_option Elab.async false
set_option linter.all false
set_option maxRecDepth 100000
set_option maxHeartbeats 400000000
namespace G
theorem chk6 : chkN 6 = true := by decide +kernel
end G

set_option Elab.async false
set_option linter.all false
set_option maxRecDepth 100000
set_option pp.maxSteps 600
set_option maxHeartbeats 4000000
namespace G
open PySem PySem.Spec L2
/-! ### what the checks say -/
theorem lotB_ok {n : Int} {l : Lt} (h : lotB n l = true) : IsLot n l := by
  unfold lotB at h
  simp only [Bool.and_eq_true, List.all_eq_true, decide_eq_true_eq] at h
  exact ⟨fun p hp => by have := h.1 p hp; omega, h.2.1, h.2.2⟩
theorem treeB_ok {n : Int} {kvs : List (Int × Int)} (h : treeB n kvs = true) : TreeOk n kvs := by
  unfold treeB at h
  simp only [Bool.and_eq_true, List.all_eq_true, decide_eq_true_eq] at h
  have r : ∀ x, 0 ≤ x → x < n → x ∈ rng 0 n.toNat := fun x h0 h1 => rng_mem.mpr (by omega)
  exact ⟨fun x h0 h1 => (h.1.1 x (r x h0 h1)).1, fun x h0 h1 y hy => (h.1.1 x (r x h0 h1)).2 y hy, fun p hp => h.1.2 p hp, h.2⟩
theorem goodB_ok {n : Int} {l : Lt} (h : goodB n l = true) : Good n l := by
  unfold goodB at h
  simp only [Bool.and_eq_true, List.all_eq_true, List.isEmpty_iff] at h
  exact ⟨h.1, fun t ht => treeB_ok (h.2 t ht)⟩
theorem chk_all {n : Int} (hn : 2 ≤ n ∧ n ≤ 6) : chkN n = true := by
  have : n = 2 ∨ n = 3 ∨ n = 4 ∨ n = 5 ∨ n = 6 := by omega
  rcases this with rfl | rfl | rfl | rfl | rfl
  · exact chk2
  · exact chk3
  · exact chk4
  · exact chk5
  · exact chk6
structure Chk (n : Int) (l : Lt) (every : List (List Int)) : Prop where
  lot : IsLot n l
  good : Good n l
  len : ∀ o ∈ every, (o.length : Int) = n
  pair : ∀ p ∈ pairsOf n, higherOf n l p.1 p.2 = dueS every p.1 p.2 ∧ higherOf n l p.2 p.1 = backS (dueS every p.1 p.2)
  same : ∀ t, t < n.toNat → sameB n every t = true
  ends : (List.range (outerOf n l).length).map (tripE n l) = (List.range n.toNat).flatMap (tripT n every)
  ne : l ≠ []
theorem chk_ok {n : Int} {p : Lt × List (List Int)} (h : chk n p = true) : Chk n p.1 p.2 := by
  unfold chk endB at h
  simp only [Bool.and_eq_true, List.all_eq_true, decide_eq_true_eq] at h
  obtain ⟨h1, h2, h3, h4, ⟨h5, h6⟩, h7⟩ := h
  refine ⟨lotB_ok h1, goodB_ok h2, h3, fun q hq => ?_, fun t ht => h5 t (List.mem_range.mpr ht), h6, fun e => by rw [e] at h7; cases h7⟩
  have := h4 q hq
  unfold pairB at this
  simp only [Bool.and_eq_true, decide_eq_true_eq] at this
  exact this
theorem chkN_ok {n : Int} (hn : 2 ≤ n ∧ n ≤ 6) : (∀ p ∈ pL (ordersL n), Chk n p.1 p.2) ∧ 1 ≤ (pL (ordersL n)).length ∧ (pL (ordersL n)).length ≤ 1000 := by
  have h := chk_all hn
  unfold chkN at h
  simp only [Bool.and_eq_true, List.all_eq_true, decide_eq_true_eq] at h
  exact ⟨fun p hp => chk_ok (h.1.1 p hp), h.1.2, h.2⟩
theorem pget_mem {kvs : PK} {l : Lt} (h : l ∈ kvs.map (·.1)) : ∃ every, pget kvs l = some every ∧ (l, every) ∈ kvs := by
  obtain ⟨p, hp, rfl⟩ := List.mem_map.mp h
  unfold pget
  cases e : kvs.find? fun q => decide (q.1 = p.1) with
  | none => exact absurd (decide_eq_true rfl) (List.find?_eq_none.mp e p hp)
  | some q =>
    have h1 := List.mem_of_find?_eq_some e
    have h2 : q.1 = p.1 := by simpa using List.find?_some e
    exact ⟨q.2, rfl, by rw [← h2]; exact h1⟩
/-! rises, by the list -/
theorem rise_split (h : List Int) : ∀ k, k ≤ h.length → riseC h 0 (-1) = (riseSt h k).1 ++ riseC (h.drop k) (k : Int) (riseSt h k).2
  | 0, _ => rfl
  | k + 1, hk => by
    rw [rise_split h k (by omega)]
    have hd : h.drop k = getI h k :: h.drop (k + 1) := by
      rw [List.drop_eq_getElem_cons (by omega)]
      unfold getI
      rw [List.getD_eq_getElem?_getD, List.getElem?_eq_getElem (by omega)]
      rfl
    rw [hd, riseC, riseSt]
    split
    · rw [List.append_assoc]; rfl
    · rfl
theorem rises_eq (h : List Int) : rises h = riseC h 0 (-1) := by
  rw [rise_split h h.length (Nat.le_refl _), List.drop_length, riseC, List.append_nil]
  rfl
theorem endsD_eq (h : List Int) : endsD h = .tuple [eIs (endP h).1, eIs (endP h).2] := by
  unfold endsD rightOf endP
  rw [rises_eq, rises_eq]
def eT (t : Trip) : PyData := .tuple [eIs t.1, eIs t.2.1, .int t.2.2]
theorem ends_trip (n : Int) (l : Lt) : endsOf n l = ((List.range (outerOf n l).length).map (tripE n l)).map eT := by
  unfold endsOf
  rw [List.map_map]
  rfl
/-! ### list.count -/
def rCountD (K : PySem.W.Frag) : V → List V → Hp → VK → Prop := fun x xs H Q => ∃ (l : Addr) (vs : List V) (y : V) (d : PyData) (ds : List PyData), x = V.ref l ∧ xs = [y] ∧ SqL K H l vs ∧ DpAll K H vs ds ∧ Dp K H y d ∧ SeqAt.shaped (.list ds) = true ∧ SeqAt.shaped d = true ∧ Q (.int ((ds.countP fun z => PyData.eqv z d : Nat) : Int)) H
theorem countP_map' {α β : Type} (f : α → β) (p : β → Bool) : ∀ l : List α, (l.map f).countP p = l.countP fun x => p (f x)
  | [] => rfl
  | x :: l => by rw [List.map_cons, List.countP_cons, List.countP_cons, countP_map' f p l]
theorem mt_countD {X : Cx} (hu : X.A.units + 65 < cLine) : MtR X "list.count" (rCountD X.K) := by
  intro pins s σ H x xs v us Q I rx rxs h
  obtain ⟨l, vs, y, d, ds, rfl, rfl, hs, hl, hy, sl, sd, q⟩ := h
  cases rx
  obtain ⟨uy, rfl, ry⟩ := rxs.one
  obtain ⟨bs, r1⟩ := Dp.reads I d y uy hy ry
  have hxs : PyData.canLayAll0 ds = true := SeqAt.canLay_of_shaped sl
  obtain ⟨its, rv, ⟨⟨cls, dd, data, slo⟩, n, ho, hc, hdn, hd⟩, hlen⟩ := I.list hs
  simp only at hc hd
  subst hc hd
  obtain ⟨as, h4⟩ := Dp.readsAll I ds _ its hl rv
  have hmap : its.map (SeqAt.readOf s.heap) = ds := SeqAt.readsAll_map ds its as hxs h4
  have hroom : X.A.units + 1 + min (PyData.depthAll ds) d.depth < cLine := PyProof.Rows.room_in_shaped sd hu
  refine call_meets PySem.F.slot_list_count ⟨_, ho, rfl⟩ PySem.F.entry_list_count (PySem.F.args_list_count_2 _ _)
    (SeqAt.list_countAt l its.toArray n dd slo uy (fun u => PyData.eqv (SeqAt.readOf s.heap u) d)) ⟨ho, SeqAt.items_eqAt (vs := its.toArray) (show ReadsAll s.heap its.toArray.toList ds as from h4) r1 hxs (SeqAt.canLay_of_shaped sd) hroom, ?_⟩
  have ec : its.toArray.toList.countP (fun u => PyData.eqv (SeqAt.readOf s.heap u) d) = ds.countP fun z => PyData.eqv z d := by
    rw [← hmap, countP_map']
  refine ⟨.int ((ds.countP fun z => PyData.eqv z d : Nat) : Int), H, I.tok _, ⟨s.toks, ?_⟩, q⟩
  show Value.int ((its.toArray.toList.countP (fun u => PyData.eqv (SeqAt.readOf s.heap u) d) : Nat) : Int) s.toks = _
  rw [ec]
section
variable {X : Cx} {Γ : List Sl} {e : Expr} {d : PyData} {ds : List PyData}
theorem gp_count {o : Expr} {apos pos2 : Pos} (hu : X.A.units + 65 < cLine) (ho : GP X Γ o (.list ds)) (he : GP X Γ e d) (sl : SeqAt.shaped (.list ds) = true) (sd : SeqAt.shaped d = true)
    (hbase : attributeBase o "count" X.env (eval o X.env) = eval o X.env := by rfl)
    (hfew : ((backTo pos2 (starEach [e] X.env)).all (fun x => !x.1) && (backToKw pos2 (keywordEach [] X.env)).all (fun x => x.1.isSome)
      && decide (([e] : List Expr).length + ([] : List Keyword).length + (if ([] : List Keyword).isEmpty then 0 else 1) < 30)) = true := by rfl)
    (hline : (apos.endLine == pos2.line) = true := by rfl) (hs : starEach [e] X.env = (false, eval e X.env) :: starEach [] X.env := by rfl) : GP X Γ (.Call (.Attribute o "count" apos) [e] [] pos2) (.int ((ds.countP fun z => PyData.eqv z d : Nat) : Int)) := ⟨fun σ R H s k => by
  refine (pe_bm PySem.F.plainAttrs_list PySem.F.slot_list_count PySem.F.type_list_count (mt_countD hu) pe_re (pa_cons pe_re pa_nil hs) hbase hfew hline hs rfl).re ?_
  refine (ho.run σ R H s k).mono fun v H1 ⟨R1, g1, x1⟩ => ?_
  obtain ⟨a, xs, rfl, hl, da⟩ : ∃ a xs, v = .ref a ∧ SqL X.K R1 a xs ∧ DaAll X.K R1 xs ds := by
    cases x1 with
    | lst h a => exact ⟨_, _, rfl, h, a⟩
  refine ⟨.inl ⟨rfl, xs, ex_l g1.sub hl⟩, (he.run σ R1 H1 g1.sub (slots_mono g1.r k)).mono fun y H2 ⟨R2, g2, y2⟩ => ?_⟩
  exact ⟨a, xs, y, d, ds, rfl, rfl, ex_l (g2.r.trans g2.sub) hl, da.dp (g2.r.trans g2.sub) (SeqAt.canLay_of_shaped sl), y2.dp g2.sub (SeqAt.canLay_of_shaped sd), sl, sd, R2, g1.trans g2, .int _⟩⟩
/-! ### {"higher": "lower", ..}[due] -/
theorem gp_back {p1 p2 p3 p4 p5 p6 : Pos} {j1 j2 j3 j4 j5 j6 : Nat} {pos pos2 : Pos} {s : String} (hu : X.A.units + 1 < cLine) (he : GP X Γ e (.str (Str.ofString s))) (hs : s = "higher" ∨ s = "lower" ∨ s = "either") (hn : NoSl e := by exact fun _ _ => rfl) :
    GP X Γ (.Subscript (.Dict [some (.Constant (.str "higher") j1 p1), some (.Constant (.str "lower") j2 p2), some (.Constant (.str "either") j3 p3)] [.Constant (.str "lower") j4 p4, .Constant (.str "higher") j5 p5, .Constant (.str "either") j6 p6] pos2) e pos) (.str (Str.ofString (backS s))) := ⟨fun σ R H sx k => by
  refine (pe_dget hu (pe_disp (pps_cons pe_str pe_str (pps_cons pe_str pe_str (pps_cons pe_str pe_str pps_nil))) rfl rfl (by simp) (by simp)) pe_re hn).re ?_
  intro p hp
  refine ⟨upd_same, [(Sum.inr "higher", .str "lower"), (Sum.inr "lower", .str "higher"), (Sum.inr "either", .str "either")], rfl, by decide, ?_⟩
  rw [upd_upd]
  have ex : Ex H (upd H p (.dK (mergeK [] [(Sum.inr "higher", .str "lower"), (Sum.inr "lower", .str "higher"), (Sum.inr "either", .str "either")]))) := .new hp
  refine (he.run σ R _ (sx.trans ex) k).mono fun y H2 ⟨R2, g2, y2⟩ => ?_
  cases y2
  have hv : valV (mergeK [] [(Sum.inr "higher", V.str "lower"), (Sum.inr "lower", .str "higher"), (Sum.inr "either", .str "either")]) (Sum.inr (Str.ofString s)) = some (.str (Str.ofString (backS s))) := by
    rcases hs with rfl | rfl | rfl
    · rfl
    · rfl
    · rfl
  exact ⟨p, .str (Str.ofString (backS s)), rfl, .inl ⟨_, Sum.inr (Str.ofString s), .inl (g2.h _ _ upd_same), rfl, hv.symm⟩, R2, (Grow.junk sx ex).trans g2, .str _⟩⟩
end
end G

set_option Elab.async false
set_option linter.all false
set_option maxRecDepth 100000
set_option pp.maxSteps 600
set_option maxHeartbeats 8000000
namespace G
open PySem PySem.Spec L2
theorem u70 {k : Nat} {A : Around} (r : Room k A) : A.units + 70 < cLine := by have := r.un; omega
theorem gs_norm {X : Cx} {Γ Γ' : List Sl} {O O' : Own} {st : List Stmt} {D : Nds} (e : Γ = Γ') (eo : O = O') (h : GSs X Γ' O' st D) : GSs X Γ O st D := by
  subst e eo
  exact h
mutual
theorem same_self : ∀ d : PyData, d.canLay0 = true → sameD d d = true
  | .none, _ => by simp [sameD]
  | .bool _, _ => by simp [sameD]
  | .int _, _ => by simp [sameD]
  | .str _, _ => by simp [sameD]
  | .list xs, h => by
    rw [sameD]
    exact same_selfL xs (by simpa [PyData.canLay0] using h)
  | .tuple xs, h => by
    rw [sameD]
    exact same_selfL xs (by simpa [PyData.canLay0] using h)
  | .dict _, h => by simp [PyData.canLay0] at h
theorem same_selfL : ∀ xs : List PyData, PyData.canLayAll0 xs = true → sameL xs xs = true
  | [], _ => by simp [sameL]
  | x :: xs, h => by
    rw [PyData.canLayAll0, Bool.and_eq_true] at h
    rw [sameL, same_self x h.1, same_selfL xs h.2]
    rfl
end
theorem fine_intsT {l : List Int} (h : l.length < 1000) : Fine 1 (eIs l) := fine_tup (k := 0) (fun x hx => by
  obtain ⟨i, _, rfl⟩ := List.mem_map.mp hx
  exact fine_int 0 i) (by rw [List.length_map]; exact h)
theorem fine_orders {l : List (List Int)} (h : l.length < 1000) (h2 : ∀ o ∈ l, o.length < 1000) : Fine 2 (.list (eOs l)) := fine_list (k := 1) (fun x hx => by
  obtain ⟨i, hi, rfl⟩ := List.mem_map.mp hx
  exact fine_intsT (h2 i hi)) (by rw [List.length_map]; exact h)
theorem fine_ends {h : List Int} (hl : h.length ≤ 12) : Fine 2 (endsD h) := by
  have b1 := riseSt_len h h.length
  have b2 := riseSt_len h.reverse h.reverse.length
  rw [List.length_reverse] at b2
  refine fine_tup (k := 1) fun x hx => ?_
  simp only [List.mem_cons, List.not_mem_nil, or_false] at hx
  rcases hx with rfl | rfl
  · exact fine_intsT (by unfold rises; omega)
  · refine fine_intsT ?_
    unfold rightOf rises
    rw [List.length_reverse, List.length_map, List.length_reverse]
    omega
theorem fine_eEnd {n : Int} {l : Lt} (hn : n ≤ 12) (i : Nat) : Fine 2 (eEnd n l i) := by
  have ol := outer_len n l hn
  refine fine_tup (k := 1) fun x hx => ?_
  simp only [List.mem_cons, List.not_mem_nil, or_false] at hx
  rcases hx with rfl | rfl | rfl
  · refine fine_intsT ?_
    rw [List.length_take]; omega
  · refine fine_intsT ?_
    rw [List.length_drop]; omega
  · exact fine_int 1 _
theorem fine_endsOf {n : Int} {l : Lt} (hn : n ≤ 12) : Fine 3 (.list (endsOf n l)) := by
  have ol := outer_len n l hn
  refine fine_list (k := 2) (fun x hx => ?_) (by unfold endsOf; rw [List.length_map, List.length_range]; omega)
  obtain ⟨i, _, rfl⟩ := List.mem_map.mp hx
  exact fine_eEnd hn i
theorem eqv_self {d : PyData} (h : SeqAt.shaped d = true) : PyData.eqv d d = true := SeqAt.eqv_refl d (SeqAt.canLay_of_shaped h)
theorem cmp_eq_same {X : Cx} {d1 d2 : PyData} (hu : X.A.units + 64 < cLine) (e : d1 = d2) (h : SeqAt.shaped d2 = true) : CmpD X .Eq d1 d2 true := by
  have := cmp_eqD (X := X) hu (e ▸ h) h
  rw [e, eqv_self h] at this
  rw [e]
  exact this
theorem due_any (every : List (List Int)) (a b : Int) : dueS every a b = "higher" ∨ dueS every a b = "lower" ∨ dueS every a b = "either" := by
  unfold dueS
  split
  · exact .inl rfl
  · split
    · exact .inr (.inl rfl)
    · exact .inr (.inr rfl)
theorem toB_keys (kvs : PK) : (toB kvs).map (·.1) = kvs.map (·.1) := by
  unfold toB
  rw [List.map_map]
  rfl
theorem pick_lot {n : Int} (hn : 2 ≤ n ∧ n ≤ 6) {x : Lt} (h : x ∈ (pL (ordersL n)).map (·.1)) : ∃ every, gget (toB (pL (ordersL n))) x = some (eOs every) ∧ Chk n x every := by
  obtain ⟨every, e, hm⟩ := pget_mem h
  exact ⟨every, by rw [toB_get, e]; rfl, (chkN_ok hn).1 _ hm⟩
theorem pStep_few (os : List (List Int)) : ∀ kvs m, (∀ p ∈ kvs, p.2.length ≤ m) → ∀ p ∈ os.foldl pStep kvs, p.2.length ≤ m + os.length := by
  induction os with
  | nil => exact fun kvs m h => h
  | cons o os ih =>
    intro kvs m h p hp
    rw [List.foldl_cons] at hp
    have := ih (pStep kvs o) (m + 1) (fun q hq => ?_) p hp
    · rw [List.length_cons]; omega
    · unfold pStep pput at hq
      have gl : ((pget kvs (seenOf o)).getD []).length ≤ m := by
        cases e : pget kvs (seenOf o) with
        | none => simp
        | some ds =>
          unfold pget at e
          obtain ⟨z, hz, ez⟩ := Option.map_eq_some_iff.mp e
          have := h z (List.mem_of_find?_eq_some hz)
          rw [ez] at this
          exact this
      split at hq
      · obtain ⟨z, hz, ez⟩ := List.mem_map.mp hq
        by_cases c : z.1 = seenOf o
        · rw [if_pos c] at ez
          rw [← ez]
          show (_ ++ [o]).length ≤ m + 1
          rw [List.length_append, List.length_singleton]; omega
        · rw [if_neg c] at ez
          rw [← ez]
          exact Nat.le_succ_of_le (h z hz)
      · rcases List.mem_append.mp hq with hq | hq
        · exact Nat.le_succ_of_le (h q hq)
        · rw [List.mem_singleton.mp hq]
          show (_ ++ [o]).length ≤ m + 1
          rw [List.length_append, List.length_singleton]; omega
theorem every_few {n : Int} (hn : 2 ≤ n ∧ n ≤ 6) {x : Lt} {every : List (List Int)} (h : gget (toB (pL (ordersL n))) x = some (eOs every)) : every.length ≤ 720 := by
  have h1 := gget_mem h
  unfold toB at h1
  obtain ⟨p, hp, e⟩ := List.mem_map.mp h1
  have h2 := pStep_few (ordersL n) [] 0 (by simp) p hp
  have h3 := (orders_few' (n := n) (by omega) (k := n.toNat) (by omega)).1
  have e2 := congrArg (fun q => List.length (Prod.snd q)) e
  simp only [List.length_map] at e2
  unfold ordersL at h2
  omega
end G

set_option Elab.async false
set_option linter.all false
set_option maxRecDepth 100000
set_option pp.maxSteps 600
set_option maxHeartbeats 8000000
namespace G
open PySem PySem.Spec L2
section
variable {P : Program} {w : World} {K : PySem.W.Frag} {mg : Str → Option Value} {base : Heap}
def C_law : Ctr := fun as O q => ∃ ns : List Int, ns.length ≤ 1000 ∧ as = [.sh (.list (ns.map .int))] ∧ O = [] ∧ q (.sh (.bool true)) []
theorem ok_law {f : Addr} {fd : FuncData} (F : Fun K "law" "law" s_law f fd) (T : Bl mg) (Ddeck : Def P w K mg base "_law_deck" 1 C_law_deck) (D1 : Def P w K mg base "_law_pick" 1 C_law_pick) (D2 : Def P w K mg base "_law_one" 2 C_law_one)
    (Dby : Def P w K mg base "_law_by_lots" 2 (C_law_by_lots P w)) (Dpairs : Def P w K mg base "_law_pairs" 1 C_law_pairs) (Dsame : Def P w K mg base "_law_same" 5 (C_law_same 3)) (Dle : Def P w K mg base "_law_ends" 2 C_law_ends)
    (Dhr : Def P w K mg base "higher" 17 C_higher) (Dends : Def P w K mg base "from_ends" 17 C_from_ends) : FnOk P w K mg base CX0 18 f fd ["script"] (spG K C_law) := by
  refine fn_ok F sc_law (fun as O q h => ?_) fun cdv A outer s H E hr as O q h => ?_
  · obtain ⟨ns, _, rfl, rfl, _⟩ := h
    rfl
  · obtain ⟨ns, hns, rfl, rfl, hq⟩ := h
    have nd := sc_law.nd
    have big : (1003000 : Nat) < sizeLine := by decide
    refine gs_cons (s_for (gi_p (gi_list (gp_of_glp (glp_slL (gp_of_glp (glp_cat (gp_of_glp (glp_lst (gpa_cons gp_int gpa_nil))) (gp_name 0 rfl) (by rw [List.length_map]; simp; omega))) gpo_none (gpo_some gp_int)))) ?_))
    refine ⟨fun i Γ O => O = [] ∧ ∃ y1 y2 y3 y4 y5 y6 y7 y8 y9 y10 y11 y12 y13 y14 y15 y16, Γ = [.sh (.list (ns.map .int)), y1, y2, y3, y4, y5, y6, y7, y8, y9, y10, y11, y12, y13, y14, y15, y16], ⟨rfl, _, _, _, _, _, _, _, _, _, _, _, _, _, _, _, _, rfl⟩, ?_, ?_⟩
    · rintro i d Γ2 O2 hdd ⟨rfl, y1, y2, y3, y4, y5, y6, y7, y8, y9, y10, y11, y12, y13, y14, y15, y16, rfl⟩
      obtain ⟨cell, rfl⟩ : ∃ cell, d = .int cell := by
        have hm := List.mem_of_getElem? hdd
        have hm := List.mem_of_mem_drop (List.mem_of_mem_take hm)
        rcases List.mem_append.mp hm with hm | hm
        · exact ⟨_, List.mem_singleton.mp hm⟩
        · obtain ⟨c, _, e⟩ := List.mem_map.mp hm
          exact ⟨c, e.symm⟩
      refine ⟨_, _, gg_name 1 nd, ?_⟩
      refine gs_cons (s_setL 2 nd (gl_call Ddeck (hr.mono (by decide)) (ga_p (gpa_cons (gp_name 1 rfl) (gpa_cons gp_int gpa_nil)) ⟨[], [], .refl _, cell, 5, by decide, rfl, rfl, fun l dk hdk => ⟨l, dk, [], rfl, .refl _, fun l => ?_⟩⟩)))
      refine gs_cons (s_set 3 nd (ge_add (ge_p gp_int (ge_pick 2 D1 (hr.mono (by decide)) rfl hdk (by omega) gp_int (by decide) fun r dk1 h0 h1 hd1 => ⟨_, _, rfl, rfl, ?_⟩))))
      generalize hn : 2 + r = n
      have hn2 : 2 ≤ n ∧ n ≤ 6 := by omega
      refine gs_cons (s_callO 4 nd Dby (hr.mono (by decide)) (gpa_cons (gp_name 3 rfl) gpa_nil) ⟨n, hn2, rfl, rfl, fun lb cb hB => ⟨lb, cb, rfl, rfl, ?_⟩⟩)
      rw [byL_plain] at hB
      have ck := chkN_ok hn2
      refine gs_norm (Γ' := [.sh (.list (ns.map .int)), .sh (.int cell), .ow l, .sh (.int n), .ow lb, y5, y6, y7, y8, y9, y10, y11, y12, y13, y14, y15, y16]) (O' := [(l, .L dk1), (lb, cb)]) rfl rfl ?_
      have hne : ∀ p ∈ toB (pL (ordersL n)), p.1 ≠ [] := fun p hp => by
        unfold toB at hp
        obtain ⟨z, hz, rfl⟩ := List.mem_map.mp hp
        exact (ck.1 z hz).ne
      have hlen : (toB (pL (ordersL n))).length = (pL (ordersL n)).length := by unfold toB; rw [List.length_map]
      have inB : (lb, cb) ∈ [(l, Cn.L dk1), (lb, cb)] := List.mem_cons_of_mem _ List.mem_cons_self
      -- nine lots
      refine gs_cons (s_for (gi_listE (ge_l (gl_lc (own := [("k", 15)]) nd (blkOk_by (N := N_law) (sc := defScope s_law) (by decide +kernel)) (gi_p (gi_range1 T.range gp_int (by decide))
        ⟨fun i acc O => ∃ dk ls, O = [(l, .L dk), (lb, cb)] ∧ DeckOk (200 + i) dk ∧ acc = ls.map eLot ∧ ∀ x ∈ ls, x ∈ (pL (ordersL n)).map (·.1), ⟨dk1, [], rfl, hd1.mono (by omega), rfl, by simp⟩, by decide, ?_, ?_⟩)))))
      · rintro i d acc O2 hdd hacc ⟨dk, ls, rfl, hdk, rfl, hin⟩
        obtain ⟨hi, rfl⟩ := rng_get hdd
        have hi : i < 9 := hi
        refine ⟨_, _, fun s H C cl fp => gg_name 15 nd, by decide, fun s H C cl fp => gts_nilE ⟨fun _ => fun s H C cl fp => ge_call D2 (hr.mono (by decide)) (ga_own 2 rfl (ga_cons (ge_l (gl_sortedB 4 (u70 hr) T.sorted rfl (List.mem_cons_of_mem _ List.mem_cons_self) hB hne fun ls2 hperm =>
          ga_nil ⟨[(l, .L dk)], [(lb, cb)], .refl _, l, dk, 200 + i, ls2.map eLot, hdk, by omega, ?_, rfl, rfl, fun d dk' hd hdk' => ⟨d, [(l, .L dk'), (lb, cb)], rfl, .refl _, ?_⟩⟩)))), fun h => by cases h⟩⟩
        · have := hperm.length_eq
          rw [List.length_map] at this
          rw [List.length_map]
          have := ck.2
          omega
        · obtain ⟨x, hx, rfl⟩ := List.mem_map.mp hd
          refine ⟨dk', ls ++ [x], rfl, hdk'.mono (by omega), by simp, fun z hz => ?_⟩
          rcases List.mem_append.mp hz with hz | hz
          · exact hin z hz
          · rw [List.mem_singleton.mp hz, ← toB_keys]
            exact hperm.subset hx
      rintro acc O2 ⟨dk2, ls, rfl, hd2, rfl, hin⟩
      clear hd2
      refine ⟨_, rfl, ?_⟩
      refine ⟨fun i Γ O => (∃ y5 y6 y7 y8 y9 y10 y11 y12 y13 y14 y15 y16, Γ = [.sh (.list (ns.map .int)), .sh (.int cell), .ow l, .sh (.int n), .ow lb, y5, y6, y7, y8, y9, y10, y11, y12, y13, y14, y15, y16]) ∧ O = [(l, .L dk2), (lb, cb)], ⟨⟨_, _, _, _, _, _, _, _, _, _, _, _, rfl⟩, rfl⟩, ?_, ?_⟩
      · clear y5 y6 y7 y8 y9 y10 y11 y12 y13 y14 y15 y16
        rintro i d Γ2 O2 hdd ⟨⟨y5, y6, y7, y8, y9, y10, y11, y12, y13, y14, y15, y16, rfl⟩, rfl⟩
        obtain ⟨x, hx, rfl⟩ : ∃ x ∈ ls, d = eLot x := by
          obtain ⟨x, hx, e⟩ := List.mem_map.mp (List.mem_of_getElem? hdd)
          exact ⟨x, hx, e.symm⟩
        obtain ⟨every, hg, C⟩ := pick_lot hn2 (hin x hx)
        have ef := every_few hn2 hg
        have oLen : ∀ o ∈ every, (o.length : Int) = n := C.len
        have sEv : SeqAt.shaped (.list (eOs every)) = true := (fine_orders (l := every) (by omega) fun o ho => by have := oLen o ho; omega).shaped (by decide)
        refine ⟨_, _, gg_name 5 nd, ?_⟩
        refine gs_cons (s_set 6 nd (ge_itemB 4 (u64 hr) rfl (List.mem_cons_of_mem _ List.mem_cons_self) hB (gp_name 5 rfl) hg ?_))
        refine gs_norm (Γ' := [.sh (.list (ns.map .int)), .sh (.int cell), .ow l, .sh (.int n), .ow lb, .sh (eLot x), .sh (.list (eOs every)), y7, y8, y9, y10, y11, y12, y13, y14, y15, y16]) (O' := [(l, .L dk2), (lb, cb)]) rfl rfl ?_
        have lEv : ∀ {Γ : List Sl} {X : Cx} {p p1 pos : Pos}, True := fun {_ _ _ _ _} => trivial
        -- pair by pair
        refine gs_cons (s_for (gi_p (gi_list (gp_call Dpairs (hr.mono (by decide)) (gpa_cons (gp_name 3 rfl) gpa_nil) ⟨n, by omega, rfl, rfl, rfl, rfl⟩)) ?_))
        refine ⟨fun i Γ O => (∃ y7 y8 y9 y10 y11 y12 y13 y14 y15 y16, Γ = [.sh (.list (ns.map .int)), .sh (.int cell), .ow l, .sh (.int n), .ow lb, .sh (eLot x), .sh (.list (eOs every)), y7, y8, y9, y10, y11, y12, y13, y14, y15, y16]) ∧ O = [(l, .L dk2), (lb, cb)], ⟨⟨_, _, _, _, _, _, _, _, _, _, rfl⟩, rfl⟩, ?_, ?_⟩
        · clear y7 y8 y9 y10 y11 y12 y13 y14 y15 y16
          rintro i d Γ2 O2 hdd ⟨⟨y7, y8, y9, y10, y11, y12, y13, y14, y15, y16, rfl⟩, rfl⟩
          obtain ⟨p, hp, rfl⟩ : ∃ p ∈ pairsOf n, d = eP p := by
            obtain ⟨p, hp, e⟩ := List.mem_map.mp (List.mem_of_getElem? hdd)
            exact ⟨p, hp, e.symm⟩
          obtain ⟨a, b⟩ := p
          have hab : (0 ≤ a ∧ a ≤ n - 2) ∧ a + 1 ≤ b ∧ b ≤ n - 1 := by
            unfold pairsOf pairsFrom at hp
            obtain ⟨a', ha', hp⟩ := List.mem_flatMap.mp hp
            obtain ⟨b', hb', e⟩ := List.mem_map.mp hp
            have e1 : a' = a := congrArg Prod.fst e
            have e2 : b' = b := congrArg Prod.snd e
            subst e1 e2
            have := rng_mem.mp ha'
            have := rng_mem.mp hb'
            omega
          have hC := C.pair (a, b) hp
          simp only at hC
          refine ⟨_, _, gg_tup (ggs_cons (gg_name 7 nd) (ggs_cons (gg_name 8 nd) ggs_nil)), ?_⟩
          refine gs_norm (Γ' := [.sh (.list (ns.map .int)), .sh (.int cell), .ow l, .sh (.int n), .ow lb, .sh (eLot x), .sh (.list (eOs every)), .sh (.int a), .sh (.int b), y9, y10, y11, y12, y13, y14, y15, y16]) (O' := [(l, .L dk2), (lb, cb)]) rfl rfl ?_
          refine gs_cons (s_set 9 nd (ge_p (gp_is (d' := .int (moreN every a b : Int)) (gp_lenL T.len (gp_of_glp (glp_lc (own := [("order", 16)]) (enc := fun h => eIs h) (out := fun h => eIs h) (p := fun o => decide (getI o b.toNat < getI o a.toNat)) every (fun o => _) nd (gi_list (gp_name 6 rfl)) (blkOk_by (N := N_law) (sc := defScope s_law) (by decide +kernel)) (fun o _ s H C cl fp => gg_name 16 nd) (by decide)
            (fun o ho s H C cl fp => gts_one (gt_cmp (gp_ixT (gp_name 16 rfl) (gp_name 7 rfl) (at_row (i := a.toNat) (by have := oLen o ho; omega) (by omega))) (gp_ixT (gp_name 16 rfl) (gp_name 8 rfl) (at_row (i := b.toNat) (by have := oLen o ho; omega) (by omega))) cmp_gt)) (fun o _ _ s H C cl fp => gp_name 16 rfl) (by omega)))) (by rw [List.length_map]; rfl)) ?_))
          refine gs_cons (s_set 10 nd (ge_p (gp_if (d := .str (Str.ofString (dueS every a b))) (gt_is (gt_cmp (gp_name 9 rfl) (gp_lenL T.len (gp_name 6 rfl)) cmp_eqI) rfl) (fun h => gp_is gp_str ?g1) fun h => gp_if (gt_is (gt_cmp (gp_name 9 rfl) gp_int cmp_eqI) rfl) (fun h2 => gp_is gp_str ?g2) fun h2 => gp_is gp_str ?g3) ?_))
          case g1 =>
            have h := of_decide_eq_true h
            rw [List.length_map] at h
            unfold dueS
            rw [if_pos (by omega)]
          case g2 =>
            have h := of_decide_eq_false h
            have h2 := of_decide_eq_true h2
            rw [List.length_map] at h
            unfold dueS
            rw [if_neg (by omega), if_pos (by omega)]
          case g3 =>
            have h := of_decide_eq_false h
            have h2 := of_decide_eq_false h2
            rw [List.length_map] at h
            unfold dueS
            rw [if_neg (by omega), if_neg (by omega)]
          refine gs_cons (s_set 11 nd (ge_p (gp_back (s := dueS every a b) (u1 hr) (gp_name 10 rfl) (due_any every a b)) ?_))
          refine gs_norm (Γ' := [.sh (.list (ns.map .int)), .sh (.int cell), .ow l, .sh (.int n), .ow lb, .sh (eLot x), .sh (.list (eOs every)), .sh (.int a), .sh (.int b), .sh (.int (moreN every a b : Int)), .sh (.str (Str.ofString (dueS every a b))), .sh (.str (Str.ofString (backS (dueS every a b)))), y12, y13, y14, y15, y16]) (O' := [(l, .L dk2), (lb, cb)]) rfl rfl ?_
          have fin2 : ∀ s1 s2 : String, Fine 3 (.list [.str (Str.ofString s1), .str (Str.ofString s2)]) := fun s1 s2 => (fine_list (k := 0) (fun y hy => by
            simp only [List.mem_cons, List.not_mem_nil, or_false] at hy
            rcases hy with rfl | rfl
            · exact fine_str 0 s1
            · exact fine_str 0 s2) (by simp)).mono (by decide)
          refine gs_cons (s_if (gt_p (gt_not (t := true) (gt_val (gp_is (gp_call Dsame (hr.mono (by decide)) (gpa_cons (gp_of_glp (glp_lst (gpa_cons (gp_call Dhr (hr.mono (by decide)) (gpa_cons (gp_name 3 rfl) (gpa_cons (gp_name 5 rfl) (gpa_cons (gp_name 7 rfl) (gpa_cons (gp_name 8 rfl) gpa_nil)))) ⟨n, x, a, b, by omega, C.lot, C.good, by omega, rfl, rfl, rfl, rfl⟩)
            (gpa_cons (gp_call Dhr (hr.mono (by decide)) (gpa_cons (gp_name 3 rfl) (gpa_cons (gp_name 5 rfl) (gpa_cons (gp_name 8 rfl) (gpa_cons (gp_name 7 rfl) gpa_nil)))) ⟨n, x, b, a, by omega, C.lot, C.good, by omega, rfl, rfl, rfl, rfl⟩) gpa_nil)))) (gpa_cons (gp_of_glp (glp_lst (gpa_cons (gp_name 10 rfl) (gpa_cons (gp_name 11 rfl) gpa_nil)))) gpa_nil)) ⟨_, _, fin2 _ _, (fin2 _ _).shaped (by decide), rfl, rfl, rfl, rfl⟩) ?gs))) ⟨(fun h => by cases h), fun _ => gs_nil (gs_nil ⟨⟨_, _, _, _, _, _, _, _, _, _, rfl⟩, rfl⟩)⟩))
          case gs =>
            rw [hC.1, hC.2, same_self _ (fin2 _ _).1]
        rintro Γ2 O2 ⟨⟨y7, y8, y9, y10, y11, y12, y13, y14, y15, y16, rfl⟩, rfl⟩
        -- the ends
        refine gs_cons (s_setL 10 nd (gl_p (glp_lst gpa_nil) fun ld => ?_))
        refine gs_norm (Γ' := [.sh (.list (ns.map .int)), .sh (.int cell), .ow l, .sh (.int n), .ow lb, .sh (eLot x), .sh (.list (eOs every)), y7, y8, y9, .ow ld, y11, y12, y13, y14, y15, y16]) (O' := [(l, .L dk2), (lb, cb), (ld, .L [])]) rfl rfl ?_
        have tl : ∀ t, (tripT n every t).length ≤ 1 := fun t => by
          unfold tripT
          split
          · exact Nat.zero_le _
          · exact Nat.le_refl _
        refine gs_cons (s_for (gi_p (gi_range1 T.range (gp_name 3 rfl) (by omega)) ?_))
        refine ⟨fun i Γ O => (∃ y12 y13 y14, Γ = [.sh (.list (ns.map .int)), .sh (.int cell), .ow l, .sh (.int n), .ow lb, .sh (eLot x), .sh (.list (eOs every)), y7, y8, y9, .ow ld, y11, y12, y13, y14, y15, y16]) ∧ O = [(l, .L dk2), (lb, cb), (ld, .L (((List.range i).flatMap (tripT n every)).map eT))], ⟨⟨_, _, _, rfl⟩, rfl⟩, ?_, ?_⟩
        · clear y12 y13 y14
          rintro t d Γ2 O2 hdd ⟨⟨y12, y13, y14, rfl⟩, rfl⟩
          obtain ⟨ht, rfl⟩ := rng_get hdd
          have hS := C.same t ht
          have eN : (List.range (t + 1)).flatMap (tripT n every) = (List.range t).flatMap (tripT n every) ++ tripT n every t := by rw [List.range_succ, List.flatMap_append]; simp
          have dl := len_flatMap (f := tripT n every) (k := 1) (l := List.range t) fun z _ => tl z
          rw [List.length_range] at dl
          refine ⟨_, _, gg_name 12 nd, ?_⟩
          refine gs_cons (s_setLcS (own := [("order", 16)]) (enc := fun h => eIs h) (out := fun h => eIs h) (pr := fun o => decide (getI o t = n)) 13 every (fun o => _) nd (gi_list (gp_name 6 rfl)) (blkOk_by (N := N_law) (sc := defScope s_law) (by decide +kernel)) (fun o _ s H C cl fp => gg_name 16 nd) (by decide)
            (fun o ho s H C cl fp => gts_one (gt_cmp (gp_ixT (gp_name 16 rfl) (gp_name 12 rfl) (at_row (i := t) (by have := oLen o ho; omega) (by omega))) (gp_name 3 rfl) cmp_eqI)) (fun o _ _ s H C cl fp => gp_name 16 rfl) (by omega) ?_)
          refine gs_norm (Γ' := [.sh (.list (ns.map .int)), .sh (.int cell), .ow l, .sh (.int n), .ow lb, .sh (eLot x), .sh (.list (eOs every)), y7, y8, y9, .ow ld, y11, .sh (.int (0 + (t : Int))), .sh (.list (eOs (someT n every t))), y14, y15, y16]) (O' := [(l, .L dk2), (lb, cb), (ld, .L (((List.range t).flatMap (tripT n every)).map eT))]) rfl rfl ?_
          have sl : (someT n every t).length ≤ 720 := Nat.le_trans (List.length_filter_le ..) ef
          have sIn : ∀ o ∈ someT n every t, (o.length : Int) = n := fun o ho => oLen o (List.mem_filter.mp ho).1
          have sSh : SeqAt.shaped (.list (eOs (someT n every t))) = true := (fine_orders (l := someT n every t) (by omega) fun o ho => by have := sIn o ho; omega).shaped (by decide)
          refine gs_cons (s_if (gt_p (t := !(someT n every t).isEmpty) (gt_is (gt_cmp (gp_name 13 rfl) (gp_of_glp (glp_lst gpa_nil)) (cmp_neD (u64 hr) sSh shaped_nil)) (by rw [eqv_nil, List.isEmpty_map])) ⟨fun hne => ?_, fun hem => gs_nil (gs_nil ⟨⟨_, _, _, rfl⟩, ?_⟩)⟩))
          · have eTr : ∃ o os, someT n every t = o :: os ∧ ∀ o' ∈ o :: os, endsD o' = endsD o := by
              cases e : someT n every t with
              | nil => rw [e] at hne; cases hne
              | cons o os =>
                refine ⟨o, os, rfl, fun o' ho' => ?_⟩
                unfold sameB at hS
                rw [e] at hS
                simp only [List.all_eq_true, decide_eq_true_eq] at hS
                rcases List.mem_cons.mp ho' with rfl | ho'
                · rfl
                · rw [endsD_eq, endsD_eq, hS o' ho']
            obtain ⟨o, os, eS, hEq⟩ := eTr
            have eTp : tripT n every t = [((endP o).1, (endP o).2, ((o :: os).length : Int))] := by unfold tripT; rw [eS]
            revert sl sIn sSh
            rw [eS]
            intro sl sIn sSh
            have eF : ((o :: os).filter fun _ => true).map endsD = (o :: os).map endsD := by rw [filt_true]
            have fE : ∀ o' ∈ o :: os, Fine 2 (endsD o') := fun o' ho' => fine_ends (by have := sIn o' ho'; omega)
            have shE : SeqAt.shaped (.list ((o :: os).map endsD)) = true := (fine_list (k := 2) (fun z hz => by
              obtain ⟨o', ho', rfl⟩ := List.mem_map.mp hz
              exact fE o' ho') (by rw [List.length_map]; omega)).shaped (by decide)
            have shO : SeqAt.shaped (endsD o) = true := (fE o List.mem_cons_self).shaped (by decide)
            have eC : ((o :: os).map endsD).countP (fun z => PyData.eqv z (endsD o)) = (o :: os).length := by
              rw [countP_map', List.countP_eq_length]
              intro o' ho'
              rw [hEq o' ho']
              exact eqv_self shO
            refine gs_cons (s_setLcS (own := [("order", 16)]) (enc := fun h => eIs h) (out := endsD) (pr := fun _ => true) 14 (o :: os) (fun o => _) nd (gi_list (gp_name 13 rfl)) (blkOk_by (N := N_law) (sc := defScope s_law) (by decide +kernel)) (fun o _ s H C cl fp => gg_name 16 nd) (by decide)
              (fun o _ s H C cl fp => gts_nil) (fun o ho _ s H C cl fp => gp_call Dle (hr.mono (by decide)) (gpa_cons (gp_name 16 rfl) gpa_nil) ⟨o, by have := sIn o ho; omega, rfl, rfl, rfl, rfl⟩) (by omega) ?_)
            rw [eF]
            refine gs_norm (Γ' := [.sh (.list (ns.map .int)), .sh (.int cell), .ow l, .sh (.int n), .ow lb, .sh (eLot x), .sh (.list (eOs every)), y7, y8, y9, .ow ld, y11, .sh (.int (0 + (t : Int))), .sh (.list (eOs (o :: os))), .sh (.list ((o :: os).map endsD)), y15, y16]) (O' := [(l, .L dk2), (lb, cb), (ld, .L (((List.range t).flatMap (tripT n every)).map eT))]) rfl rfl ?_
            refine gs_cons (s_if (gt_p (t := false) (gt_is (gt_cmp (gp_count (u65 hr) (gp_name 14 rfl) (gp_ixL (gp_name 14 rfl) gp_int at_zero) shE shO) (gp_lenL T.len (gp_name 13 rfl)) cmp_neI) ?gc) ⟨(fun h => by cases h), fun _ => gs_nil ?_⟩))
            case gc => rw [eC, List.length_map, decide_eq_true rfl]; rfl
            refine gs_cons (s_app 10 rfl (ge_p (gp_catT (xs := [eIs (endP o).1, eIs (endP o).2]) (gp_is (gp_ixL (gp_name 14 rfl) gp_int at_zero) (endsD_eq o)) (gp_tup (gpa_cons (gp_lenL T.len (gp_name 13 rfl)) gpa_nil)) (by simp; omega)) ⟨2, _, rfl, by rw [List.length_map]; omega, gs_nil (gs_nil ⟨⟨_, _, _, rfl⟩, ?_⟩)⟩) ⟨_, List.mem_cons_of_mem _ (List.mem_cons_of_mem _ List.mem_cons_self)⟩)
            rw [eN, eTp, List.map_append, List.length_map]
            rfl
          · have eS : someT n every t = [] := by
              cases e : someT n every t with
              | nil => rfl
              | cons o os => rw [e] at hem; cases hem
            have eTp : tripT n every t = [] := by unfold tripT; rw [eS]
            rw [eN, eTp, List.append_nil]
        rintro Γ2 O2 ⟨⟨y12, y13, y14, rfl⟩, rfl⟩
        rw [List.length_map, rng_len]
        refine gs_freeze 10 2 rfl rfl ?_
        have eE : endsOf n x = ((List.range n.toNat).flatMap (tripT n every)).map eT := by rw [ends_trip, C.ends]
        have fE := fine_endsOf (n := n) (l := x) (by omega)
        rw [← eE]
        refine gs_norm (Γ' := [.sh (.list (ns.map .int)), .sh (.int cell), .ow l, .sh (.int n), .ow lb, .sh (eLot x), .sh (.list (eOs every)), y7, y8, y9, .sh (.list (endsOf n x)), y11, y12, y13, y14, y15, y16]) (O' := [(l, .L dk2), (lb, cb)]) rfl rfl ?_
        refine gs_cons (s_if (gt_p (gt_not (t := true) (gt_val (gp_is (gp_call Dsame (hr.mono (by decide)) (gpa_cons (gp_call Dends (hr.mono (by decide)) (gpa_cons (gp_name 3 rfl) (gpa_cons (gp_name 5 rfl) gpa_nil)) ⟨n, x, by omega, C.lot, C.good, rfl, rfl, rfl, rfl⟩) (gpa_cons (gp_name 10 rfl) gpa_nil)) ⟨_, _, fE, fE.shaped (by decide), rfl, rfl, rfl, rfl⟩) (by rw [same_self _ fE.1])))) ⟨(fun h => by cases h), fun _ => gs_nil (gs_nil ⟨⟨_, _, _, _, _, _, _, _, _, _, _, _, rfl⟩, rfl⟩)⟩))
      · rintro Γ2 O2 ⟨⟨y5, y6, y7, y8, y9, y10, y11, y12, y13, y14, y15, y16, rfl⟩, rfl⟩
        exact gs_drop (List.nil_sublist _) (gs_nil ⟨rfl, _, _, _, _, _, _, _, _, _, _, _, _, _, _, _, _, rfl⟩)
    · rintro Γ2 O2 ⟨rfl, y1, y2, y3, y4, y5, y6, y7, y8, y9, y10, y11, y12, y13, y14, y15, y16, rfl⟩
      have l3 : IsLot 3 [(0, 1), (0, 2), (1, 2)] := lotB_ok (by decide +kernel)
      have g3 : Good 3 [(0, 1), (0, 2), (1, 2)] := goodB_ok (by decide +kernel)
      have h3 : higherOf 3 [(0, 1), (0, 2), (1, 2)] 0 1 = "higher" := by decide +kernel
      have l2 : IsLot 2 [(0, 1)] := lotB_ok (by decide +kernel)
      have g2 : Good 2 [(0, 1)] := goodB_ok (by decide +kernel)
      have h2 : higherOf 2 [(0, 1)] 0 1 = "either" := by decide +kernel
      refine gs_cons (s_ret (ge_p (gp_is (gp_and (t := true) (t' := true) (gp_cmp (gp_call Dhr (hr.mono (by decide)) (gpa_cons gp_int (gpa_cons (gp_tup (gpa_cons (gp_tup (gpa_cons gp_int (gpa_cons gp_int gpa_nil))) (gpa_cons (gp_tup (gpa_cons gp_int (gpa_cons gp_int gpa_nil))) (gpa_cons (gp_tup (gpa_cons gp_int (gpa_cons gp_int gpa_nil))) gpa_nil)))) (gpa_cons gp_int (gpa_cons gp_int gpa_nil)))) ⟨3, [(0, 1), (0, 2), (1, 2)], 0, 1, by decide, l3, g3, by decide, rfl, rfl, rfl, rfl⟩) gp_str (cmp_eq_same (u64 hr) (by rw [h3]) ((fine_str 0 "higher").shaped (by decide))))
        fun _ => gp_one (gp_cmp (gp_call Dhr (hr.mono (by decide)) (gpa_cons gp_int (gpa_cons (gp_tup (gpa_cons (gp_tup (gpa_cons gp_int (gpa_cons gp_int gpa_nil))) gpa_nil)) (gpa_cons gp_int (gpa_cons gp_int gpa_nil)))) ⟨2, [(0, 1)], 0, 1, by decide, l2, g2, by decide, rfl, rfl, rfl, rfl⟩) gp_str (cmp_eq_same (u64 hr) (by rw [h2]) ((fine_str 0 "either").shaped (by decide))))) rfl) hq))
end
end G

set_option Elab.async false
set_option linter.all false
set_option maxRecDepth 100000
set_option maxHeartbeats 8000000
namespace G
open PySem PySem.Spec L2
theorem all_mk {l : PySem.W.OpenLaw} {w : World} {K : PySem.W.Frag} {h : Heap} {mg : Str → Option Value} {fa : Addr} (X : K.In h) (G : h.Ns mainGlobals mg) (hfa : mg "law" = some (.ref fa))
    {f_is_from : Addr} {od_is_from an_is_from : Option Addr} {sl_is_from : Array (Option Value)} {oc_is_from kv_is_from dc_is_from pm_is_from cd_is_from ct_is_from : Value}
    {f_is_rising : Addr} {od_is_rising an_is_rising : Option Addr} {sl_is_rising : Array (Option Value)} {oc_is_rising kv_is_rising dc_is_rising pm_is_rising cd_is_rising ct_is_rising : Value}
    {f_is_lot : Addr} {od_is_lot an_is_lot : Option Addr} {sl_is_lot : Array (Option Value)} {oc_is_lot kv_is_lot dc_is_lot pm_is_lot cd_is_lot ct_is_lot : Value}
    {f_need_many : Addr} {od_need_many an_need_many : Option Addr} {sl_need_many : Array (Option Value)} {oc_need_many kv_need_many dc_need_many pm_need_many cd_need_many ct_need_many : Value}
    {f_need_lot : Addr} {od_need_lot an_need_lot : Option Addr} {sl_need_lot : Array (Option Value)} {oc_need_lot kv_need_lot dc_need_lot pm_need_lot cd_need_lot ct_need_lot : Value}
    {f_all_bars : Addr} {od_all_bars an_all_bars : Option Addr} {sl_all_bars : Array (Option Value)} {oc_all_bars kv_all_bars dc_all_bars pm_all_bars cd_all_bars ct_all_bars : Value}
    {f_is_sound : Addr} {od_is_sound an_is_sound : Option Addr} {sl_is_sound : Array (Option Value)} {oc_is_sound kv_is_sound dc_is_sound pm_is_sound cd_is_sound ct_is_sound : Value}
    {f_amid : Addr} {od_amid an_amid : Option Addr} {sl_amid : Array (Option Value)} {oc_amid kv_amid dc_amid pm_amid cd_amid ct_amid : Value}
    {f_outer : Addr} {od_outer an_outer : Option Addr} {sl_outer : Array (Option Value)} {oc_outer kv_outer dc_outer pm_outer cd_outer ct_outer : Value}
    {f_under : Addr} {od_under an_under : Option Addr} {sl_under : Array (Option Value)} {oc_under kv_under dc_under pm_under cd_under ct_under : Value}
    {f_tree_of : Addr} {od_tree_of an_tree_of : Option Addr} {sl_tree_of : Array (Option Value)} {oc_tree_of kv_tree_of dc_tree_of pm_tree_of cd_tree_of ct_tree_of : Value}
    {f_above_all : Addr} {od_above_all an_above_all : Option Addr} {sl_above_all : Array (Option Value)} {oc_above_all kv_above_all dc_above_all pm_above_all cd_above_all ct_above_all : Value}
    {f_orders_by : Addr} {od_orders_by an_orders_by : Option Addr} {sl_orders_by : Array (Option Value)} {oc_orders_by kv_orders_by dc_orders_by pm_orders_by cd_orders_by ct_orders_by : Value}
    {f_tops : Addr} {od_tops an_tops : Option Addr} {sl_tops : Array (Option Value)} {oc_tops kv_tops dc_tops pm_tops cd_tops ct_tops : Value}
    {f_need_sound : Addr} {od_need_sound an_need_sound : Option Addr} {sl_need_sound : Array (Option Value)} {oc_need_sound kv_need_sound dc_need_sound pm_need_sound cd_need_sound ct_need_sound : Value}
    {f_higher : Addr} {od_higher an_higher : Option Addr} {sl_higher : Array (Option Value)} {oc_higher kv_higher dc_higher pm_higher cd_higher ct_higher : Value}
    {f_from_ends : Addr} {od_from_ends an_from_ends : Option Addr} {sl_from_ends : Array (Option Value)} {oc_from_ends kv_from_ends dc_from_ends pm_from_ends cd_from_ends ct_from_ends : Value}
    {f_law_deck : Addr} {od_law_deck an_law_deck : Option Addr} {sl_law_deck : Array (Option Value)} {oc_law_deck kv_law_deck dc_law_deck pm_law_deck cd_law_deck ct_law_deck : Value}
    {f_law_pick : Addr} {od_law_pick an_law_pick : Option Addr} {sl_law_pick : Array (Option Value)} {oc_law_pick kv_law_pick dc_law_pick pm_law_pick cd_law_pick ct_law_pick : Value}
    {f_law_one : Addr} {od_law_one an_law_one : Option Addr} {sl_law_one : Array (Option Value)} {oc_law_one kv_law_one dc_law_one pm_law_one cd_law_one ct_law_one : Value}
    {f_law_sort : Addr} {od_law_sort an_law_sort : Option Addr} {sl_law_sort : Array (Option Value)} {oc_law_sort kv_law_sort dc_law_sort pm_law_sort cd_law_sort ct_law_sort : Value}
    {f_law_same : Addr} {od_law_same an_law_same : Option Addr} {sl_law_same : Array (Option Value)} {oc_law_same kv_law_same dc_law_same pm_law_same cd_law_same ct_law_same : Value}
    {f_law_seen : Addr} {od_law_seen an_law_seen : Option Addr} {sl_law_seen : Array (Option Value)} {oc_law_seen kv_law_seen dc_law_seen pm_law_seen cd_law_seen ct_law_seen : Value}
    {f_law_pairs : Addr} {od_law_pairs an_law_pairs : Option Addr} {sl_law_pairs : Array (Option Value)} {oc_law_pairs kv_law_pairs dc_law_pairs pm_law_pairs cd_law_pairs ct_law_pairs : Value}
    {f_law_orders : Addr} {od_law_orders an_law_orders : Option Addr} {sl_law_orders : Array (Option Value)} {oc_law_orders kv_law_orders dc_law_orders pm_law_orders cd_law_orders ct_law_orders : Value}
    {f_law_by_lots : Addr} {od_law_by_lots an_law_by_lots : Option Addr} {sl_law_by_lots : Array (Option Value)} {oc_law_by_lots kv_law_by_lots dc_law_by_lots pm_law_by_lots cd_law_by_lots ct_law_by_lots : Value}
    {f_law_rises : Addr} {od_law_rises an_law_rises : Option Addr} {sl_law_rises : Array (Option Value)} {oc_law_rises kv_law_rises dc_law_rises pm_law_rises cd_law_rises ct_law_rises : Value}
    {f_law_ends : Addr} {od_law_ends an_law_ends : Option Addr} {sl_law_ends : Array (Option Value)} {oc_law_ends kv_law_ends dc_law_ends pm_law_ends cd_law_ends ct_law_ends : Value}
    {f_law : Addr} {od_law an_law : Option Addr} {sl_law : Array (Option Value)} {oc_law kv_law dc_law pm_law cd_law ct_law : Value}
    (a_is_from : PySem.W.nsIn K mainGlobals "is_from" = some (some (.ref f_is_from))) (l_is_from : K.lookup f_is_from = some ⟨oc_is_from, od_is_from, .func (PySem.W.fnOf "is_from" "is_from" (defArgs s_is_from) (defBody s_is_from) (defScope s_is_from) .none kv_is_from dc_is_from pm_is_from an_is_from cd_is_from ct_is_from), sl_is_from⟩) (c_is_from : PySem.W.codeIn K cd_is_from "is_from" = true) (k_is_from : PySem.W.keepIn K (.ref f_is_from) = true)
    (a_is_rising : PySem.W.nsIn K mainGlobals "is_rising" = some (some (.ref f_is_rising))) (l_is_rising : K.lookup f_is_rising = some ⟨oc_is_rising, od_is_rising, .func (PySem.W.fnOf "is_rising" "is_rising" (defArgs s_is_rising) (defBody s_is_rising) (defScope s_is_rising) .none kv_is_rising dc_is_rising pm_is_rising an_is_rising cd_is_rising ct_is_rising), sl_is_rising⟩) (c_is_rising : PySem.W.codeIn K cd_is_rising "is_rising" = true) (k_is_rising : PySem.W.keepIn K (.ref f_is_rising) = true)
    (a_is_lot : PySem.W.nsIn K mainGlobals "is_lot" = some (some (.ref f_is_lot))) (l_is_lot : K.lookup f_is_lot = some ⟨oc_is_lot, od_is_lot, .func (PySem.W.fnOf "is_lot" "is_lot" (defArgs s_is_lot) (defBody s_is_lot) (defScope s_is_lot) .none kv_is_lot dc_is_lot pm_is_lot an_is_lot cd_is_lot ct_is_lot), sl_is_lot⟩) (c_is_lot : PySem.W.codeIn K cd_is_lot "is_lot" = true) (k_is_lot : PySem.W.keepIn K (.ref f_is_lot) = true)
    (a_need_many : PySem.W.nsIn K mainGlobals "need_many" = some (some (.ref f_need_many))) (l_need_many : K.lookup f_need_many = some ⟨oc_need_many, od_need_many, .func (PySem.W.fnOf "need_many" "need_many" (defArgs s_need_many) (defBody s_need_many) (defScope s_need_many) .none kv_need_many dc_need_many pm_need_many an_need_many cd_need_many ct_need_many), sl_need_many⟩) (c_need_many : PySem.W.codeIn K cd_need_many "need_many" = true) (k_need_many : PySem.W.keepIn K (.ref f_need_many) = true)
    (a_need_lot : PySem.W.nsIn K mainGlobals "need_lot" = some (some (.ref f_need_lot))) (l_need_lot : K.lookup f_need_lot = some ⟨oc_need_lot, od_need_lot, .func (PySem.W.fnOf "need_lot" "need_lot" (defArgs s_need_lot) (defBody s_need_lot) (defScope s_need_lot) .none kv_need_lot dc_need_lot pm_need_lot an_need_lot cd_need_lot ct_need_lot), sl_need_lot⟩) (c_need_lot : PySem.W.codeIn K cd_need_lot "need_lot" = true) (k_need_lot : PySem.W.keepIn K (.ref f_need_lot) = true)
    (a_all_bars : PySem.W.nsIn K mainGlobals "all_bars" = some (some (.ref f_all_bars))) (l_all_bars : K.lookup f_all_bars = some ⟨oc_all_bars, od_all_bars, .func (PySem.W.fnOf "all_bars" "all_bars" (defArgs s_all_bars) (defBody s_all_bars) (defScope s_all_bars) .none kv_all_bars dc_all_bars pm_all_bars an_all_bars cd_all_bars ct_all_bars), sl_all_bars⟩) (c_all_bars : PySem.W.codeIn K cd_all_bars "all_bars" = true) (k_all_bars : PySem.W.keepIn K (.ref f_all_bars) = true)
    (a_is_sound : PySem.W.nsIn K mainGlobals "is_sound" = some (some (.ref f_is_sound))) (l_is_sound : K.lookup f_is_sound = some ⟨oc_is_sound, od_is_sound, .func (PySem.W.fnOf "is_sound" "is_sound" (defArgs s_is_sound) (defBody s_is_sound) (defScope s_is_sound) .none kv_is_sound dc_is_sound pm_is_sound an_is_sound cd_is_sound ct_is_sound), sl_is_sound⟩) (c_is_sound : PySem.W.codeIn K cd_is_sound "is_sound" = true) (k_is_sound : PySem.W.keepIn K (.ref f_is_sound) = true)
    (a_amid : PySem.W.nsIn K mainGlobals "amid" = some (some (.ref f_amid))) (l_amid : K.lookup f_amid = some ⟨oc_amid, od_amid, .func (PySem.W.fnOf "amid" "amid" (defArgs s_amid) (defBody s_amid) (defScope s_amid) .none kv_amid dc_amid pm_amid an_amid cd_amid ct_amid), sl_amid⟩) (c_amid : PySem.W.codeIn K cd_amid "amid" = true) (k_amid : PySem.W.keepIn K (.ref f_amid) = true)
    (a_outer : PySem.W.nsIn K mainGlobals "outer" = some (some (.ref f_outer))) (l_outer : K.lookup f_outer = some ⟨oc_outer, od_outer, .func (PySem.W.fnOf "outer" "outer" (defArgs s_outer) (defBody s_outer) (defScope s_outer) .none kv_outer dc_outer pm_outer an_outer cd_outer ct_outer), sl_outer⟩) (c_outer : PySem.W.codeIn K cd_outer "outer" = true) (k_outer : PySem.W.keepIn K (.ref f_outer) = true)
    (a_under : PySem.W.nsIn K mainGlobals "under" = some (some (.ref f_under))) (l_under : K.lookup f_under = some ⟨oc_under, od_under, .func (PySem.W.fnOf "under" "under" (defArgs s_under) (defBody s_under) (defScope s_under) .none kv_under dc_under pm_under an_under cd_under ct_under), sl_under⟩) (c_under : PySem.W.codeIn K cd_under "under" = true) (k_under : PySem.W.keepIn K (.ref f_under) = true)
    (a_tree_of : PySem.W.nsIn K mainGlobals "tree_of" = some (some (.ref f_tree_of))) (l_tree_of : K.lookup f_tree_of = some ⟨oc_tree_of, od_tree_of, .func (PySem.W.fnOf "tree_of" "tree_of" (defArgs s_tree_of) (defBody s_tree_of) (defScope s_tree_of) .none kv_tree_of dc_tree_of pm_tree_of an_tree_of cd_tree_of ct_tree_of), sl_tree_of⟩) (c_tree_of : PySem.W.codeIn K cd_tree_of "tree_of" = true) (k_tree_of : PySem.W.keepIn K (.ref f_tree_of) = true)
    (a_above_all : PySem.W.nsIn K mainGlobals "above_all" = some (some (.ref f_above_all))) (l_above_all : K.lookup f_above_all = some ⟨oc_above_all, od_above_all, .func (PySem.W.fnOf "above_all" "above_all" (defArgs s_above_all) (defBody s_above_all) (defScope s_above_all) .none kv_above_all dc_above_all pm_above_all an_above_all cd_above_all ct_above_all), sl_above_all⟩) (c_above_all : PySem.W.codeIn K cd_above_all "above_all" = true) (k_above_all : PySem.W.keepIn K (.ref f_above_all) = true)
    (a_orders_by : PySem.W.nsIn K mainGlobals "orders_by" = some (some (.ref f_orders_by))) (l_orders_by : K.lookup f_orders_by = some ⟨oc_orders_by, od_orders_by, .func (PySem.W.fnOf "orders_by" "orders_by" (defArgs s_orders_by) (defBody s_orders_by) (defScope s_orders_by) .none kv_orders_by dc_orders_by pm_orders_by an_orders_by cd_orders_by ct_orders_by), sl_orders_by⟩) (c_orders_by : PySem.W.codeIn K cd_orders_by "orders_by" = true) (k_orders_by : PySem.W.keepIn K (.ref f_orders_by) = true)
    (a_tops : PySem.W.nsIn K mainGlobals "tops" = some (some (.ref f_tops))) (l_tops : K.lookup f_tops = some ⟨oc_tops, od_tops, .func (PySem.W.fnOf "tops" "tops" (defArgs s_tops) (defBody s_tops) (defScope s_tops) .none kv_tops dc_tops pm_tops an_tops cd_tops ct_tops), sl_tops⟩) (c_tops : PySem.W.codeIn K cd_tops "tops" = true) (k_tops : PySem.W.keepIn K (.ref f_tops) = true)
    (a_need_sound : PySem.W.nsIn K mainGlobals "need_sound" = some (some (.ref f_need_sound))) (l_need_sound : K.lookup f_need_sound = some ⟨oc_need_sound, od_need_sound, .func (PySem.W.fnOf "need_sound" "need_sound" (defArgs s_need_sound) (defBody s_need_sound) (defScope s_need_sound) .none kv_need_sound dc_need_sound pm_need_sound an_need_sound cd_need_sound ct_need_sound), sl_need_sound⟩) (c_need_sound : PySem.W.codeIn K cd_need_sound "need_sound" = true) (k_need_sound : PySem.W.keepIn K (.ref f_need_sound) = true)
    (a_higher : PySem.W.nsIn K mainGlobals "higher" = some (some (.ref f_higher))) (l_higher : K.lookup f_higher = some ⟨oc_higher, od_higher, .func (PySem.W.fnOf "higher" "higher" (defArgs s_higher) (defBody s_higher) (defScope s_higher) .none kv_higher dc_higher pm_higher an_higher cd_higher ct_higher), sl_higher⟩) (c_higher : PySem.W.codeIn K cd_higher "higher" = true) (k_higher : PySem.W.keepIn K (.ref f_higher) = true)
    (a_from_ends : PySem.W.nsIn K mainGlobals "from_ends" = some (some (.ref f_from_ends))) (l_from_ends : K.lookup f_from_ends = some ⟨oc_from_ends, od_from_ends, .func (PySem.W.fnOf "from_ends" "from_ends" (defArgs s_from_ends) (defBody s_from_ends) (defScope s_from_ends) .none kv_from_ends dc_from_ends pm_from_ends an_from_ends cd_from_ends ct_from_ends), sl_from_ends⟩) (c_from_ends : PySem.W.codeIn K cd_from_ends "from_ends" = true) (k_from_ends : PySem.W.keepIn K (.ref f_from_ends) = true)
    (a_law_deck : PySem.W.nsIn K mainGlobals "_law_deck" = some (some (.ref f_law_deck))) (l_law_deck : K.lookup f_law_deck = some ⟨oc_law_deck, od_law_deck, .func (PySem.W.fnOf "_law_deck" "_law_deck" (defArgs s_law_deck) (defBody s_law_deck) (defScope s_law_deck) .none kv_law_deck dc_law_deck pm_law_deck an_law_deck cd_law_deck ct_law_deck), sl_law_deck⟩) (c_law_deck : PySem.W.codeIn K cd_law_deck "_law_deck" = true) (k_law_deck : PySem.W.keepIn K (.ref f_law_deck) = true)
    (a_law_pick : PySem.W.nsIn K mainGlobals "_law_pick" = some (some (.ref f_law_pick))) (l_law_pick : K.lookup f_law_pick = some ⟨oc_law_pick, od_law_pick, .func (PySem.W.fnOf "_law_pick" "_law_pick" (defArgs s_law_pick) (defBody s_law_pick) (defScope s_law_pick) .none kv_law_pick dc_law_pick pm_law_pick an_law_pick cd_law_pick ct_law_pick), sl_law_pick⟩) (c_law_pick : PySem.W.codeIn K cd_law_pick "_law_pick" = true) (k_law_pick : PySem.W.keepIn K (.ref f_law_pick) = true)
    (a_law_one : PySem.W.nsIn K mainGlobals "_law_one" = some (some (.ref f_law_one))) (l_law_one : K.lookup f_law_one = some ⟨oc_law_one, od_law_one, .func (PySem.W.fnOf "_law_one" "_law_one" (defArgs s_law_one) (defBody s_law_one) (defScope s_law_one) .none kv_law_one dc_law_one pm_law_one an_law_one cd_law_one ct_law_one), sl_law_one⟩) (c_law_one : PySem.W.codeIn K cd_law_one "_law_one" = true) (k_law_one : PySem.W.keepIn K (.ref f_law_one) = true)
    (a_law_sort : PySem.W.nsIn K mainGlobals "_law_sort" = some (some (.ref f_law_sort))) (l_law_sort : K.lookup f_law_sort = some ⟨oc_law_sort, od_law_sort, .func (PySem.W.fnOf "_law_sort" "_law_sort" (defArgs s_law_sort) (defBody s_law_sort) (defScope s_law_sort) .none kv_law_sort dc_law_sort pm_law_sort an_law_sort cd_law_sort ct_law_sort), sl_law_sort⟩) (c_law_sort : PySem.W.codeIn K cd_law_sort "_law_sort" = true) (k_law_sort : PySem.W.keepIn K (.ref f_law_sort) = true)
    (a_law_same : PySem.W.nsIn K mainGlobals "_law_same" = some (some (.ref f_law_same))) (l_law_same : K.lookup f_law_same = some ⟨oc_law_same, od_law_same, .func (PySem.W.fnOf "_law_same" "_law_same" (defArgs s_law_same) (defBody s_law_same) (defScope s_law_same) .none kv_law_same dc_law_same pm_law_same an_law_same cd_law_same ct_law_same), sl_law_same⟩) (c_law_same : PySem.W.codeIn K cd_law_same "_law_same" = true) (k_law_same : PySem.W.keepIn K (.ref f_law_same) = true)
    (a_law_seen : PySem.W.nsIn K mainGlobals "_law_seen" = some (some (.ref f_law_seen))) (l_law_seen : K.lookup f_law_seen = some ⟨oc_law_seen, od_law_seen, .func (PySem.W.fnOf "_law_seen" "_law_seen" (defArgs s_law_seen) (defBody s_law_seen) (defScope s_law_seen) .none kv_law_seen dc_law_seen pm_law_seen an_law_seen cd_law_seen ct_law_seen), sl_law_seen⟩) (c_law_seen : PySem.W.codeIn K cd_law_seen "_law_seen" = true) (k_law_seen : PySem.W.keepIn K (.ref f_law_seen) = true)
    (a_law_pairs : PySem.W.nsIn K mainGlobals "_law_pairs" = some (some (.ref f_law_pairs))) (l_law_pairs : K.lookup f_law_pairs = some ⟨oc_law_pairs, od_law_pairs, .func (PySem.W.fnOf "_law_pairs" "_law_pairs" (defArgs s_law_pairs) (defBody s_law_pairs) (defScope s_law_pairs) .none kv_law_pairs dc_law_pairs pm_law_pairs an_law_pairs cd_law_pairs ct_law_pairs), sl_law_pairs⟩) (c_law_pairs : PySem.W.codeIn K cd_law_pairs "_law_pairs" = true) (k_law_pairs : PySem.W.keepIn K (.ref f_law_pairs) = true)
    (a_law_orders : PySem.W.nsIn K mainGlobals "_law_orders" = some (some (.ref f_law_orders))) (l_law_orders : K.lookup f_law_orders = some ⟨oc_law_orders, od_law_orders, .func (PySem.W.fnOf "_law_orders" "_law_orders" (defArgs s_law_orders) (defBody s_law_orders) (defScope s_law_orders) .none kv_law_orders dc_law_orders pm_law_orders an_law_orders cd_law_orders ct_law_orders), sl_law_orders⟩) (c_law_orders : PySem.W.codeIn K cd_law_orders "_law_orders" = true) (k_law_orders : PySem.W.keepIn K (.ref f_law_orders) = true)
    (a_law_by_lots : PySem.W.nsIn K mainGlobals "_law_by_lots" = some (some (.ref f_law_by_lots))) (l_law_by_lots : K.lookup f_law_by_lots = some ⟨oc_law_by_lots, od_law_by_lots, .func (PySem.W.fnOf "_law_by_lots" "_law_by_lots" (defArgs s_law_by_lots) (defBody s_law_by_lots) (defScope s_law_by_lots) .none kv_law_by_lots dc_law_by_lots pm_law_by_lots an_law_by_lots cd_law_by_lots ct_law_by_lots), sl_law_by_lots⟩) (c_law_by_lots : PySem.W.codeIn K cd_law_by_lots "_law_by_lots" = true) (k_law_by_lots : PySem.W.keepIn K (.ref f_law_by_lots) = true)
    (a_law_rises : PySem.W.nsIn K mainGlobals "_law_rises" = some (some (.ref f_law_rises))) (l_law_rises : K.lookup f_law_rises = some ⟨oc_law_rises, od_law_rises, .func (PySem.W.fnOf "_law_rises" "_law_rises" (defArgs s_law_rises) (defBody s_law_rises) (defScope s_law_rises) .none kv_law_rises dc_law_rises pm_law_rises an_law_rises cd_law_rises ct_law_rises), sl_law_rises⟩) (c_law_rises : PySem.W.codeIn K cd_law_rises "_law_rises" = true) (k_law_rises : PySem.W.keepIn K (.ref f_law_rises) = true)
    (a_law_ends : PySem.W.nsIn K mainGlobals "_law_ends" = some (some (.ref f_law_ends))) (l_law_ends : K.lookup f_law_ends = some ⟨oc_law_ends, od_law_ends, .func (PySem.W.fnOf "_law_ends" "_law_ends" (defArgs s_law_ends) (defBody s_law_ends) (defScope s_law_ends) .none kv_law_ends dc_law_ends pm_law_ends an_law_ends cd_law_ends ct_law_ends), sl_law_ends⟩) (c_law_ends : PySem.W.codeIn K cd_law_ends "_law_ends" = true) (k_law_ends : PySem.W.keepIn K (.ref f_law_ends) = true)
    (a_law : PySem.W.nsIn K mainGlobals "law" = some (some (.ref f_law))) (l_law : K.lookup f_law = some ⟨oc_law, od_law, .func (PySem.W.fnOf "law" "law" (defArgs s_law) (defBody s_law) (defScope s_law) .none kv_law dc_law pm_law an_law cd_law ct_law), sl_law⟩) (c_law : PySem.W.codeIn K cd_law "law" = true) (k_law : PySem.W.keepIn K (.ref f_law) = true)
    {t_MOST_HOUSES : Tok} (m_MOST_HOUSES : PySem.W.nsIn K mainGlobals "MOST_HOUSES" = some (some (.int 12 t_MOST_HOUSES)))
    (b_isi : PySem.W.nsIn K mainGlobals "isinstance" = some none)
    (b_int : PySem.W.nsIn K mainGlobals "int" = some none)
    (b_bool : PySem.W.nsIn K mainGlobals "bool" = some none)
    (b_str : PySem.W.nsIn K mainGlobals "str" = some none)
    (b_tuple : PySem.W.nsIn K mainGlobals "tuple" = some none)
    (b_list : PySem.W.nsIn K mainGlobals "list" = some none)
    (b_all : PySem.W.nsIn K mainGlobals "all" = some none)
    (b_any : PySem.W.nsIn K mainGlobals "any" = some none)
    (b_len : PySem.W.nsIn K mainGlobals "len" = some none)
    (b_range : PySem.W.nsIn K mainGlobals "range" = some none)
    (b_zip : PySem.W.nsIn K mainGlobals "zip" = some none)
    (b_enum : PySem.W.nsIn K mainGlobals "enumerate" = some none)
    (b_min : PySem.W.nsIn K mainGlobals "min" = some none)
    (b_max : PySem.W.nsIn K mainGlobals "max" = some none)
    (b_sorted : PySem.W.nsIn K mainGlobals "sorted" = some none)
    (b_sum : PySem.W.nsIn K mainGlobals "sum" = some none)
    (b_set : PySem.W.nsIn K mainGlobals "set" = some none)
    : ∃ fd : FuncData, (∀ (s : Shared) (v : Value), BindsTo s fd ⟨[v], []⟩ [("script", v)]) ∧ ∀ base : Heap, K.In base → base.Ns mainGlobals mg → FnOk l.prog w K mg base CX0 18 fa fd ["script"] (spG K C_law) := by
  have e := hfa.symm.trans (PySem.W.mg_of X G a_law)
  cases e
  have T : Bl mg := ⟨PySem.W.mg_none_of X G b_isi, PySem.W.mg_none_of X G b_int, PySem.W.mg_none_of X G b_bool, PySem.W.mg_none_of X G b_str, PySem.W.mg_none_of X G b_tuple, PySem.W.mg_none_of X G b_list, PySem.W.mg_none_of X G b_all, PySem.W.mg_none_of X G b_any, PySem.W.mg_none_of X G b_len, PySem.W.mg_none_of X G b_range, PySem.W.mg_none_of X G b_zip, PySem.W.mg_none_of X G b_enum, PySem.W.mg_none_of X G b_min, PySem.W.mg_none_of X G b_max, PySem.W.mg_none_of X G b_sorted, PySem.W.mg_none_of X G b_sum, PySem.W.mg_none_of X G b_set⟩
  have F_is_from := fun_mk (st := s_is_from) l_is_from c_is_from k_is_from
  have B_is_from := F_is_from.binds (ps := ["thing", "low", "high"]) fun _ _ _ _ _ _ us hl => match us, hl with | [_, _, _], _ => rfl
  have M_is_from := PySem.W.mg_of X G a_is_from
  have F_is_rising := fun_mk (st := s_is_rising) l_is_rising c_is_rising k_is_rising
  have B_is_rising := F_is_rising.binds (ps := ["things"]) fun _ _ _ _ _ _ us hl => match us, hl with | [_], _ => rfl
  have M_is_rising := PySem.W.mg_of X G a_is_rising
  have F_is_lot := fun_mk (st := s_is_lot) l_is_lot c_is_lot k_is_lot
  have B_is_lot := F_is_lot.binds (ps := ["many", "thing"]) fun _ _ _ _ _ _ us hl => match us, hl with | [_, _], _ => rfl
  have M_is_lot := PySem.W.mg_of X G a_is_lot
  have F_need_many := fun_mk (st := s_need_many) l_need_many c_need_many k_need_many
  have B_need_many := F_need_many.binds (ps := ["many"]) fun _ _ _ _ _ _ us hl => match us, hl with | [_], _ => rfl
  have M_need_many := PySem.W.mg_of X G a_need_many
  have F_need_lot := fun_mk (st := s_need_lot) l_need_lot c_need_lot k_need_lot
  have B_need_lot := F_need_lot.binds (ps := ["many", "lot"]) fun _ _ _ _ _ _ us hl => match us, hl with | [_, _], _ => rfl
  have M_need_lot := PySem.W.mg_of X G a_need_lot
  have F_all_bars := fun_mk (st := s_all_bars) l_all_bars c_all_bars k_all_bars
  have B_all_bars := F_all_bars.binds (ps := ["many", "lot"]) fun _ _ _ _ _ _ us hl => match us, hl with | [_, _], _ => rfl
  have M_all_bars := PySem.W.mg_of X G a_all_bars
  have F_is_sound := fun_mk (st := s_is_sound) l_is_sound c_is_sound k_is_sound
  have B_is_sound := F_is_sound.binds (ps := ["many", "lot"]) fun _ _ _ _ _ _ us hl => match us, hl with | [_, _], _ => rfl
  have M_is_sound := PySem.W.mg_of X G a_is_sound
  have F_amid := fun_mk (st := s_amid) l_amid c_amid k_amid
  have B_amid := F_amid.binds (ps := ["lot", "low", "high"]) fun _ _ _ _ _ _ us hl => match us, hl with | [_, _, _], _ => rfl
  have M_amid := PySem.W.mg_of X G a_amid
  have F_outer := fun_mk (st := s_outer) l_outer c_outer k_outer
  have B_outer := F_outer.binds (ps := ["many", "lot"]) fun _ _ _ _ _ _ us hl => match us, hl with | [_, _], _ => rfl
  have M_outer := PySem.W.mg_of X G a_outer
  have F_under := fun_mk (st := s_under) l_under c_under k_under
  have B_under := F_under.binds (ps := ["lot", "low", "high", "above", "found"]) fun _ _ _ _ _ _ us hl => match us, hl with | [_, _, _, _, _], _ => rfl
  have M_under := PySem.W.mg_of X G a_under
  have F_tree_of := fun_mk (st := s_tree_of) l_tree_of c_tree_of k_tree_of
  have B_tree_of := F_tree_of.binds (ps := ["many", "lot", "top"]) fun _ _ _ _ _ _ us hl => match us, hl with | [_, _, _], _ => rfl
  have M_tree_of := PySem.W.mg_of X G a_tree_of
  have F_above_all := fun_mk (st := s_above_all) l_above_all c_above_all k_above_all
  have B_above_all := F_above_all.binds (ps := ["tree", "house"]) fun _ _ _ _ _ _ us hl => match us, hl with | [_, _], _ => rfl
  have M_above_all := PySem.W.mg_of X G a_above_all
  have F_orders_by := fun_mk (st := s_orders_by) l_orders_by c_orders_by k_orders_by
  have B_orders_by := F_orders_by.binds (ps := ["many", "tree"]) fun _ _ _ _ _ _ us hl => match us, hl with | [_, _], _ => rfl
  have M_orders_by := PySem.W.mg_of X G a_orders_by
  have F_tops := fun_mk (st := s_tops) l_tops c_tops k_tops
  have B_tops := F_tops.binds (ps := ["many", "lot"]) fun _ _ _ _ _ _ us hl => match us, hl with | [_, _], _ => rfl
  have M_tops := PySem.W.mg_of X G a_tops
  have F_need_sound := fun_mk (st := s_need_sound) l_need_sound c_need_sound k_need_sound
  have B_need_sound := F_need_sound.binds (ps := ["many", "lot"]) fun _ _ _ _ _ _ us hl => match us, hl with | [_, _], _ => rfl
  have M_need_sound := PySem.W.mg_of X G a_need_sound
  have F_higher := fun_mk (st := s_higher) l_higher c_higher k_higher
  have B_higher := F_higher.binds (ps := ["many", "lot", "one", "other"]) fun _ _ _ _ _ _ us hl => match us, hl with | [_, _, _, _], _ => rfl
  have M_higher := PySem.W.mg_of X G a_higher
  have F_from_ends := fun_mk (st := s_from_ends) l_from_ends c_from_ends k_from_ends
  have B_from_ends := F_from_ends.binds (ps := ["many", "lot"]) fun _ _ _ _ _ _ us hl => match us, hl with | [_, _], _ => rfl
  have M_from_ends := PySem.W.mg_of X G a_from_ends
  have F_law_deck := fun_mk (st := s_law_deck) l_law_deck c_law_deck k_law_deck
  have B_law_deck := F_law_deck.binds (ps := ["cell", "turn"]) fun _ _ _ _ _ _ us hl => match us, hl with | [_, _], _ => rfl
  have M_law_deck := PySem.W.mg_of X G a_law_deck
  have F_law_pick := fun_mk (st := s_law_pick) l_law_pick c_law_pick k_law_pick
  have B_law_pick := F_law_pick.binds (ps := ["deck", "size"]) fun _ _ _ _ _ _ us hl => match us, hl with | [_, _], _ => rfl
  have M_law_pick := PySem.W.mg_of X G a_law_pick
  have F_law_one := fun_mk (st := s_law_one) l_law_one c_law_one k_law_one
  have B_law_one := F_law_one.binds (ps := ["deck", "some"]) fun _ _ _ _ _ _ us hl => match us, hl with | [_, _], _ => rfl
  have M_law_one := PySem.W.mg_of X G a_law_one
  have F_law_sort := fun_mk (st := s_law_sort) l_law_sort c_law_sort k_law_sort
  have B_law_sort := F_law_sort.binds (ps := ["thing"]) fun _ _ _ _ _ _ us hl => match us, hl with | [_], _ => rfl
  have M_law_sort := PySem.W.mg_of X G a_law_sort
  have F_law_same := fun_mk (st := s_law_same) l_law_same c_law_same k_law_same
  have B_law_same := F_law_same.binds (ps := ["told", "due"]) fun _ _ _ _ _ _ us hl => match us, hl with | [_, _], _ => rfl
  have M_law_same := PySem.W.mg_of X G a_law_same
  have F_law_seen := fun_mk (st := s_law_seen) l_law_seen c_law_seen k_law_seen
  have B_law_seen := F_law_seen.binds (ps := ["heights_so"]) fun _ _ _ _ _ _ us hl => match us, hl with | [_], _ => rfl
  have M_law_seen := PySem.W.mg_of X G a_law_seen
  have F_law_pairs := fun_mk (st := s_law_pairs) l_law_pairs c_law_pairs k_law_pairs
  have B_law_pairs := F_law_pairs.binds (ps := ["many"]) fun _ _ _ _ _ _ us hl => match us, hl with | [_], _ => rfl
  have M_law_pairs := PySem.W.mg_of X G a_law_pairs
  have F_law_orders := fun_mk (st := s_law_orders) l_law_orders c_law_orders k_law_orders
  have B_law_orders := F_law_orders.binds (ps := ["many"]) fun _ _ _ _ _ _ us hl => match us, hl with | [_], _ => rfl
  have M_law_orders := PySem.W.mg_of X G a_law_orders
  have F_law_by_lots := fun_mk (st := s_law_by_lots) l_law_by_lots c_law_by_lots k_law_by_lots
  have B_law_by_lots := F_law_by_lots.binds (ps := ["many"]) fun _ _ _ _ _ _ us hl => match us, hl with | [_], _ => rfl
  have M_law_by_lots := PySem.W.mg_of X G a_law_by_lots
  have F_law_rises := fun_mk (st := s_law_rises) l_law_rises c_law_rises k_law_rises
  have B_law_rises := F_law_rises.binds (ps := ["heights_so"]) fun _ _ _ _ _ _ us hl => match us, hl with | [_], _ => rfl
  have M_law_rises := PySem.W.mg_of X G a_law_rises
  have F_law_ends := fun_mk (st := s_law_ends) l_law_ends c_law_ends k_law_ends
  have B_law_ends := F_law_ends.binds (ps := ["heights_so"]) fun _ _ _ _ _ _ us hl => match us, hl with | [_], _ => rfl
  have M_law_ends := PySem.W.mg_of X G a_law_ends
  have F_law := fun_mk (st := s_law) l_law c_law k_law
  have M_MOST_HOUSES := PySem.W.mg_of X G m_MOST_HOUSES
  refine ⟨PySem.W.fnOf "law" "law" (defArgs s_law) (defBody s_law) (defScope s_law) .none kv_law dc_law pm_law an_law cd_law ct_law, fun s v => .of_eq rfl, fun base _ _ => ?_⟩
  have D_is_from : Def l.prog w K mg base "is_from" 1 (C_is_from) := ⟨_, _, _, ok_is_from F_is_from T, M_is_from, F_is_from.kp, B_is_from⟩
  have D_is_rising : Def l.prog w K mg base "is_rising" 1 (C_is_rising) := ⟨_, _, _, ok_is_rising F_is_rising T, M_is_rising, F_is_rising.kp, B_is_rising⟩
  have D_is_lot : Def l.prog w K mg base "is_lot" 2 (C_is_lot) := ⟨_, _, _, ok_is_lot F_is_lot T D_is_from D_is_rising, M_is_lot, F_is_lot.kp, B_is_lot⟩
  have D_need_many : Def l.prog w K mg base "need_many" 2 (C_need_many) := ⟨_, _, _, ok_need_many F_need_many T M_MOST_HOUSES ⟨_, rfl⟩ D_is_from, M_need_many, F_need_many.kp, B_need_many⟩
  have D_need_lot : Def l.prog w K mg base "need_lot" 3 (C_need_lot) := ⟨_, _, _, ok_need_lot F_need_lot T D_need_many D_is_lot, M_need_lot, F_need_lot.kp, B_need_lot⟩
  have D_all_bars : Def l.prog w K mg base "all_bars" 1 (C_all_bars) := ⟨_, _, _, ok_all_bars F_all_bars T, M_all_bars, F_all_bars.kp, B_all_bars⟩
  have D_is_sound : Def l.prog w K mg base "is_sound" 2 (C_is_sound) := ⟨_, _, _, ok_is_sound F_is_sound T D_all_bars, M_is_sound, F_is_sound.kp, B_is_sound⟩
  have D_amid : Def l.prog w K mg base "amid" 1 (C_amid) := ⟨_, _, _, ok_amid F_amid T, M_amid, F_amid.kp, B_amid⟩
  have D_outer : Def l.prog w K mg base "outer" 1 (C_outer) := ⟨_, _, _, ok_outer F_outer T, M_outer, F_outer.kp, B_outer⟩
  have D_under : Def l.prog w K mg base "under" 14 (C_under 12) := ⟨_, _, _, ok_under F_under T M_under B_under D_amid 12, M_under, F_under.kp, B_under⟩
  have D_tree_of : Def l.prog w K mg base "tree_of" 15 (C_tree_of) := ⟨_, _, _, ok_tree_of F_tree_of T D_outer D_under, M_tree_of, F_tree_of.kp, B_tree_of⟩
  have D_above_all : Def l.prog w K mg base "above_all" 1 (C_above_all) := ⟨_, _, _, ok_above_all F_above_all T, M_above_all, F_above_all.kp, B_above_all⟩
  have D_orders_by : Def l.prog w K mg base "orders_by" 2 (C_orders_by) := ⟨_, _, _, ok_orders_by F_orders_by T D_above_all, M_orders_by, F_orders_by.kp, B_orders_by⟩
  have D_tops : Def l.prog w K mg base "tops" 16 (C_tops) := ⟨_, _, _, ok_tops F_tops T D_outer D_tree_of, M_tops, F_tops.kp, B_tops⟩
  have D_need_sound : Def l.prog w K mg base "need_sound" 4 (C_need_sound) := ⟨_, _, _, ok_need_sound F_need_sound T D_need_lot D_is_sound, M_need_sound, F_need_sound.kp, B_need_sound⟩
  have D_higher : Def l.prog w K mg base "higher" 17 (C_higher) := ⟨_, _, _, ok_higher F_higher T D_need_sound D_is_from D_tops D_above_all, M_higher, F_higher.kp, B_higher⟩
  have D_from_ends : Def l.prog w K mg base "from_ends" 17 (C_from_ends) := ⟨_, _, _, ok_from_ends F_from_ends T D_need_sound D_outer D_tops D_orders_by, M_from_ends, F_from_ends.kp, B_from_ends⟩
  have D_law_deck : Def l.prog w K mg base "_law_deck" 1 (C_law_deck) := ⟨_, _, _, ok_law_deck F_law_deck T, M_law_deck, F_law_deck.kp, B_law_deck⟩
  have D_law_pick : Def l.prog w K mg base "_law_pick" 1 (C_law_pick) := ⟨_, _, _, ok_law_pick F_law_pick T, M_law_pick, F_law_pick.kp, B_law_pick⟩
  have D_law_one : Def l.prog w K mg base "_law_one" 2 (C_law_one) := ⟨_, _, _, ok_law_one F_law_one T D_law_pick, M_law_one, F_law_one.kp, B_law_one⟩
  have D_law_sort : Def l.prog w K mg base "_law_sort" 1 (C_law_sort) := ⟨_, _, _, ok_law_sort F_law_sort T, M_law_sort, F_law_sort.kp, B_law_sort⟩
  have D_law_same : Def l.prog w K mg base "_law_same" 5 (C_law_same 3) := ⟨_, _, _, ok_law_same F_law_same T M_law_same B_law_same D_law_sort 3, M_law_same, F_law_same.kp, B_law_same⟩
  have D_law_seen : Def l.prog w K mg base "_law_seen" 1 (C_law_seen) := ⟨_, _, _, ok_law_seen F_law_seen T, M_law_seen, F_law_seen.kp, B_law_seen⟩
  have D_law_pairs : Def l.prog w K mg base "_law_pairs" 1 (C_law_pairs) := ⟨_, _, _, ok_law_pairs F_law_pairs T, M_law_pairs, F_law_pairs.kp, B_law_pairs⟩
  have D_law_orders : Def l.prog w K mg base "_law_orders" 1 (C_law_orders) := ⟨_, _, _, ok_law_orders F_law_orders T, M_law_orders, F_law_orders.kp, B_law_orders⟩
  have D_law_by_lots : Def l.prog w K mg base "_law_by_lots" 2 (C_law_by_lots l.prog w) := ⟨_, _, _, ok_law_by_lots F_law_by_lots T D_law_orders D_law_seen, M_law_by_lots, F_law_by_lots.kp, B_law_by_lots⟩
  have D_law_rises : Def l.prog w K mg base "_law_rises" 1 (C_law_rises) := ⟨_, _, _, ok_law_rises F_law_rises T, M_law_rises, F_law_rises.kp, B_law_rises⟩
  have D_law_ends : Def l.prog w K mg base "_law_ends" 2 (C_law_ends) := ⟨_, _, _, ok_law_ends F_law_ends T D_law_rises, M_law_ends, F_law_ends.kp, B_law_ends⟩
  exact ok_law F_law T D_law_deck D_law_pick D_law_one D_law_by_lots D_law_pairs D_law_same D_law_ends D_higher D_from_ends
theorem sp_law {K : PySem.W.Frag} {H : Hp} {a : Addr} {ns : List Int} (hl : ns.length ≤ 63) (hS : SqL K H a (ns.map V.int)) : spG K C_law [.ref a] H (fun v _ => v = .bl true) fun _ _ _ => False :=
  ⟨H, [], [.sh (.list (ns.map .int))], fun r _ => r = .sh (.bool true), ok_bare (.refl _), .cons (.lst hS (DaAll.of_ints _ _ ns)) .nil, ⟨ns, by omega, rfl, rfl, rfl⟩, fun r O v R H2 e _ hv => by
    subst e
    cases hv
    rfl⟩
theorem walk {l : PySem.W.OpenLaw} {q : Program} {loose : List Str} {XP : (Str → Option Value) → Heap → Prop} {YP : World → Heap → Prop} {d : DefRec} {K : Params → PySem.W.Frag} (hn : l.most = some 63) (hdf : d.params.defaults = [])
    (hY : ∀ (w : World) (h : Heap), YP w h → (K w.params).In h)
    (F : ∀ (w : World) (mg : Str → Option Value) (fa : Addr) (h : Heap), (K w.params).In h → h.Ns mainGlobals mg → mg d.name = some (.ref fa) →
      ∃ fd : FuncData, (∀ (s : Shared) (u : Value), BindsTo s fd ⟨[u], []⟩ [("script", u)]) ∧ ∀ base : Heap, (K w.params).In base → base.Ns mainGlobals mg → FnOk l.prog w (K w.params) mg base CX0 18 fa fd ["script"] (spG (K w.params) C_law)) :
    PySem.W.WalkO q loose XP YP l.row.toRowW d [] (fun f vs => PySem.call f vs) :=
  L2.walk_of (n := 63) (k := 18) (x := "script") (CX := fun _ => CX0) (sp := fun w => spG (K w.params) C_law) hn (by decide) hdf ⟨by decide, by decide, by decide⟩ hY F (fun _ _ a ns hl _ hS => sp_law hl hS) fun _ _ _ _ _ z => z
end G
open PySem PySem.W PyProof.Rows in
set_option maxRecDepth 100000 in
set_option maxHeartbeats 0 in
theorem PySem.Challenge.cw_roofsights_k05_whole_who_is_surely_highe_holds : PySem.Challenge.rw_roofsights_k05_whole_who_is_surely_highe.Holds := by
  w_on; o_law; k_head; (case hw => w_witness2)
  k_fill
  refine G.walk (l := PySem.Challenge.rw_roofsights_k05_whole_who_is_surely_highe) rfl rfl (fun w h Y => PySem.W.kIn_of Y) ?F
  case F =>
    intro w mg fa h KX hG hmg
    refine' G.all_mk KX hG hmg ?a_is_from ?l_is_from ?c_is_from ?k_is_from ?a_is_rising ?l_is_rising ?c_is_rising ?k_is_rising ?a_is_lot ?l_is_lot ?c_is_lot ?k_is_lot ?a_need_many ?l_need_many ?c_need_many ?k_need_many ?a_need_lot ?l_need_lot ?c_need_lot ?k_need_lot ?a_all_bars ?l_all_bars ?c_all_bars ?k_all_bars ?a_is_sound ?l_is_sound ?c_is_sound ?k_is_sound ?a_amid ?l_amid ?c_amid ?k_amid ?a_outer ?l_outer ?c_outer ?k_outer ?a_under ?l_under ?c_under ?k_under ?a_tree_of ?l_tree_of ?c_tree_of ?k_tree_of ?a_above_all ?l_above_all ?c_above_all ?k_above_all ?a_orders_by ?l_orders_by ?c_orders_by ?k_orders_by ?a_tops ?l_tops ?c_tops ?k_tops ?a_need_sound ?l_need_sound ?c_need_sound ?k_need_sound ?a_higher ?l_higher ?c_higher ?k_higher ?a_from_ends ?l_from_ends ?c_from_ends ?k_from_ends ?a_law_deck ?l_law_deck ?c_law_deck ?k_law_deck ?a_law_pick ?l_law_pick ?c_law_pick ?k_law_pick ?a_law_one ?l_law_one ?c_law_one ?k_law_one ?a_law_sort ?l_law_sort ?c_law_sort ?k_law_sort ?a_law_same ?l_law_same ?c_law_same ?k_law_same ?a_law_seen ?l_law_seen ?c_law_seen ?k_law_seen ?a_law_pairs ?l_law_pairs ?c_law_pairs ?k_law_pairs ?a_law_orders ?l_law_orders ?c_law_orders ?k_law_orders ?a_law_by_lots ?l_law_by_lots ?c_law_by_lots ?k_law_by_lots ?a_law_rises ?l_law_rises ?c_law_rises ?k_law_rises ?a_law_ends ?l_law_ends ?c_law_ends ?k_law_ends ?a_law ?l_law ?c_law ?k_law ?m_MOST_HOUSES ?b_isi ?b_int ?b_bool ?b_str ?b_tuple ?b_list ?b_all ?b_any ?b_len ?b_range ?b_zip ?b_enum ?b_min ?b_max ?b_sorted ?b_sum ?b_set
    (case a_is_from => k_is)
    (case l_is_from => k_is)
    (case c_is_from => k_is)
    (case k_is_from => k_is)
    (case a_is_rising => k_is)
    (case l_is_rising => k_is)
    (case c_is_rising => k_is)
    (case k_is_rising => k_is)
    (case a_is_lot => k_is)
    (case l_is_lot => k_is)
    (case c_is_lot => k_is)
    (case k_is_lot => k_is)
    (case a_need_many => k_is)
    (case l_need_many => k_is)
    (case c_need_many => k_is)
    (case k_need_many => k_is)
    (case a_need_lot => k_is)
    (case l_need_lot => k_is)
    (case c_need_lot => k_is)
    (case k_need_lot => k_is)
    (case a_all_bars => k_is)
    (case l_all_bars => k_is)
    (case c_all_bars => k_is)
    (case k_all_bars => k_is)
    (case a_is_sound => k_is)
    (case l_is_sound => k_is)
    (case c_is_sound => k_is)
    (case k_is_sound => k_is)
    (case a_amid => k_is)
    (case l_amid => k_is)
    (case c_amid => k_is)
    (case k_amid => k_is)
    (case a_outer => k_is)
    (case l_outer => k_is)
    (case c_outer => k_is)
    (case k_outer => k_is)
    (case a_under => k_is)
    (case l_under => k_is)
    (case c_under => k_is)
    (case k_under => k_is)
    (case a_tree_of => k_is)
    (case l_tree_of => k_is)
    (case c_tree_of => k_is)
    (case k_tree_of => k_is)
    (case a_above_all => k_is)
    (case l_above_all => k_is)
    (case c_above_all => k_is)
    (case k_above_all => k_is)
    (case a_orders_by => k_is)
    (case l_orders_by => k_is)
    (case c_orders_by => k_is)
    (case k_orders_by => k_is)
    (case a_tops => k_is)
    (case l_tops => k_is)
    (case c_tops => k_is)
    (case k_tops => k_is)
    (case a_need_sound => k_is)
    (case l_need_sound => k_is)
    (case c_need_sound => k_is)
    (case k_need_sound => k_is)
    (case a_higher => k_is)
    (case l_higher => k_is)
    (case c_higher => k_is)
    (case k_higher => k_is)
    (case a_from_ends => k_is)
    (case l_from_ends => k_is)
    (case c_from_ends => k_is)
    (case k_from_ends => k_is)
    (case a_law_deck => k_is)
    (case l_law_deck => k_is)
    (case c_law_deck => k_is)
    (case k_law_deck => k_is)
    (case a_law_pick => k_is)
    (case l_law_pick => k_is)
    (case c_law_pick => k_is)
    (case k_law_pick => k_is)
    (case a_law_one => k_is)
    (case l_law_one => k_is)
    (case c_law_one => k_is)
    (case k_law_one => k_is)
    (case a_law_sort => k_is)
    (case l_law_sort => k_is)
    (case c_law_sort => k_is)
    (case k_law_sort => k_is)
    (case a_law_same => k_is)
    (case l_law_same => k_is)
    (case c_law_same => k_is)
    (case k_law_same => k_is)
    (case a_law_seen => k_is)
    (case l_law_seen => k_is)
    (case c_law_seen => k_is)
    (case k_law_seen => k_is)
    (case a_law_pairs => k_is)
    (case l_law_pairs => k_is)
    (case c_law_pairs => k_is)
    (case k_law_pairs => k_is)
    (case a_law_orders => k_is)
    (case l_law_orders => k_is)
    (case c_law_orders => k_is)
    (case k_law_orders => k_is)
    (case a_law_by_lots => k_is)
    (case l_law_by_lots => k_is)
    (case c_law_by_lots => k_is)
    (case k_law_by_lots => k_is)
    (case a_law_rises => k_is)
    (case l_law_rises => k_is)
    (case c_law_rises => k_is)
    (case k_law_rises => k_is)
    (case a_law_ends => k_is)
    (case l_law_ends => k_is)
    (case c_law_ends => k_is)
    (case k_law_ends => k_is)
    (case a_law => k_is)
    (case l_law => k_is)
    (case c_law => k_is)
    (case k_law => k_is)
    (case m_MOST_HOUSES => k_is)
    (case b_isi => k_is)
    (case b_int => k_is)
    (case b_bool => k_is)
    (case b_str => k_is)
    (case b_tuple => k_is)
    (case b_list => k_is)
    (case b_all => k_is)
    (case b_any => k_is)
    (case b_len => k_is)
    (case b_range => k_is)
    (case b_zip => k_is)
    (case b_enum => k_is)
    (case b_min => k_is)
    (case b_max => k_is)
    (case b_sorted => k_is)
    (case b_sum => k_is)
    (case b_set => k_is)
#print axioms PySem.Challenge.cw_roofsights_k05_whole_who_is_surely_highe_holds

