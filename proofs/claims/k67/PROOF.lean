import PyProof.Rows.All
import Wide.All
import OpenK.AllK
import Wide.FinOn
import KE.KStateDown
import KE.KDictKeyed
import KE.KDictWalk
import HandS.ForMost
import HandS.ForExc
import HandS.HeadHook1
import HandS.Defaults
import HandS.Wide
import HandS.TupAny
import HandS.IsInst
import HandS.Flow
import HandS.Style
import KE.DataCmp
import HandS.Zip
import HandS.Comp
import HandS.TupLen
import HandS.Iter
import HandS.DictComp
import PyProof.DictMoreH
import KE.KExcIs
import HandS.ExcIs
import HandS.ExcInit
import HandS.NestedK
import KE.KExcSuper
import HandS.ExcOwn
import HandS.ExcField
import HandS.Small
import HandS.Ends
import HandS.More
import HandS.Words
import HandS.WordsExc
import HandS.Head0
import HandS.Head1
import HandS.Head2
import HandS.HeadEnd
import HandS.HeadHook2
import PySem.Challenge.RW_heardseams_k67_books_too_large_to_be_loo
set_option Elab.async false
set_option linter.all false
set_option maxRecDepth 100000
set_option maxHeartbeats 4000000
/-! Dn1: data, the store, how they stand in the abstract heap. -/
namespace Dn
open PySem PySem.Spec PyProof.Rows L2

/-- data: tuples by value; rol: a list that is never written; loc: a place in the store; exn: an exception that is held -/
inductive D where
  | non | bl (b : Bool) | int (i : Int) | str (x : Str)
  | tup (xs : List D)
  | rol (xs : List D)
  | loc (l : Nat)
  | exn (c f : Str) (ds : List D)
/-- what stands in the store -/
inductive O where
  | lst (xs : List D) | dct (kvs : List (D × D)) | ins (C : Str) (fs : List (Str × D))
  /-- a dict while a loop walks it -/
  | lk (kvs : List (D × D))
def O.isLk : O → Bool
  | .lk _ => true
  | _ => false
abbrev Mu := List O
abbrev Rho := List (Option D)
/-- an expression's value: a datum, or a new object that nothing holds yet -/
inductive Wv where
  | d (x : D) | o (x : O)
/-- an end -/
inductive R (α : Type) where
  | ok (a : α) (m : Mu) | ex (e : D) (m : Mu) | no
abbrev M (α : Type) := Mu → R α
def M.ret {α : Type} (a : α) : M α := fun m => .ok a m
def M.no {α : Type} : M α := fun _ => .no
def M.bind {α β : Type} (x : M α) (f : α → M β) : M β := fun m => match x m with
  | .ok a m' => f a m'
  | .ex e m' => .ex e m'
  | .no => .no
abbrev EX := Rho → M Wv
abbrev TX := Rho → M Bool
abbrev AX := Rho → M (List D)

/-! ### data stand in the heap -/
/-- a list that is read, never written -/
def SqF (K : PySem.W.Frag) (H : Hp) (a : Addr) (xs : List V) : Prop := (∃ o, H a = some (.frz o (.lst xs))) ∨
  ∃ (o : Obj) (its : Array Value) (n : Nat), K.lookup a = some o ∧ o.cls = .type "list" ∧ o.dict = none ∧ o.data = .seq its n ∧ its.size ≤ sizeLine ∧ Vals xs its.toList
theorem SqF.l {K : PySem.W.Frag} {H : Hp} {a : Addr} {xs : List V} (h : SqF K H a xs) : SqL K H a xs := h.elim (fun z => .inl (.inr z)) .inr
section
variable (K : PySem.W.Frag) (pn : List (Addr × Obj)) (ps : List Addr) (H : Hp)
mutual
inductive RV : V → D → Prop where
  | non : RV .non .non
  | bl (b : Bool) : RV (.bl b) (.bl b)
  | int (i : Int) : RV (.int i) (.int i)
  | str (x : Str) : RV (.str x) (.str x)
  | tup {a : Addr} {vs : List V} {ds : List D} (h : SqT K H a vs) (r : RVs vs ds) : RV (.ref a) (.tup ds)
  | rol {a : Addr} {vs : List V} {ds : List D} (h : SqF K H a vs) (r : RVs vs ds) : RV (.ref a) (.rol ds)
  | loc {a : Addr} {l : Nat} (h : ps[l]? = some a) : RV (.ref a) (.loc l)
  | exn0 {a : Addr} {oe : Obj} {c f : Str} (h : (a, oe) ∈ pn) (z : Zc (.ref (He.ga K c)) none oe) (g : ∃ vs, oe.data = .fields vs) : RV (.ref a) (.exn c f [])
  | exn1 {a dx : Addr} {oe : Obj} {c f : Str} {v : V} {d : D} (h : (a, oe) ∈ pn) (z : Zc (.ref (He.ga K c)) (some dx) oe) (g : ∃ vs, oe.data = .fields vs) (x : H dx = some (.xd [(f, v)])) (r : RV v d) : RV (.ref a) (.exn c f [d])
inductive RVs : List V → List D → Prop where
  | nil : RVs [] []
  | cons {v : V} {vs : List V} {d : D} {ds : List D} (h : RV v d) (r : RVs vs ds) : RVs (v :: vs) (d :: ds)
end
end

/-- objects that never change -/
def Imm : HO → Prop
  | .tup _ | .frz _ _ | .xd _ => True
  | _ => False
/-- .. and are never unlocked -/
def ImmW : HO → Prop
  | .tup _ | .xd _ => True
  | .frz _ (.tup _) => True
  | .frz _ (.lst _) => True
  | _ => False
theorem ImmW.imm {o : HO} (h : ImmW o) : Imm o := by
  cases o with
  | frz ob u => exact True.intro
  | tup _ => exact True.intro
  | xd _ => exact True.intro
  | _ => exact h.elim
/-- the store's places go on, what never changes stays -/
structure Gw (ps : List Addr) (H : Hp) (ps' : List Addr) (H' : Hp) : Prop where
  ext : ∃ n, ps' = ps ++ n
  imm : ∀ a o, H a = some o → ImmW o → H' a = some o
/-- what an evaluation may do: new objects, changes at the store's places alone -/
structure Grow (ps : List Addr) (H : Hp) (ps' : List Addr) (H' : Hp) : Prop where
  ext : ∃ n, ps' = ps ++ n ∧ ∀ a ∈ n, H a = none
  dom : ∀ a, H a ≠ none → H' a ≠ none
  keep : ∀ a o, H a = some o → a ∉ ps → H' a = some o
  imm : ∀ a o, H a = some o → Imm o → H' a = some o
theorem Grow.refl {ps : List Addr} {H : Hp} : Grow ps H ps H := ⟨⟨[], by simp, fun _ h => nomatch h⟩, fun _ h => h, fun _ _ h _ => h, fun _ _ h _ => h⟩
theorem Grow.trans {ps p1 p2 : List Addr} {H H1 H2 : Hp} (a : Grow ps H p1 H1) (b : Grow p1 H1 p2 H2) : Grow ps H p2 H2 := by
  obtain ⟨n1, e1, f1⟩ := a.ext
  obtain ⟨n2, e2, f2⟩ := b.ext
  have nf : ∀ x, H1 x = none → H x = none := fun x h => by
    cases q : H x with
    | none => rfl
    | some o => exact absurd h (a.dom x (by rw [q]; exact fun z => nomatch z))
  refine ⟨⟨n1 ++ n2, by rw [e2, e1, List.append_assoc], fun x hx => ?_⟩, fun x h => b.dom x (a.dom x h), fun x o h hn => ?_, fun x o h i => b.imm x o (a.imm x o h i) i⟩
  · rcases List.mem_append.mp hx with h | h
    · exact f1 x h
    · exact nf x (f2 x h)
  · refine b.keep x o (a.keep x o h hn) fun hm => ?_
    rw [e1] at hm
    rcases List.mem_append.mp hm with h2 | h2
    · exact hn h2
    · rw [f1 x h2] at h; cases h
theorem Grow.w {ps ps' : List Addr} {H H' : Hp} (g : Grow ps H ps' H') : Gw ps H ps' H' := ⟨let ⟨n, e, _⟩ := g.ext; ⟨n, e⟩, fun a o h i => g.imm a o h i.imm⟩
theorem Gw.pre {ps ps' : List Addr} {H H' : Hp} (g : Gw ps H ps' H') {l : Nat} {a : Addr} (h : ps[l]? = some a) : ps'[l]? = some a := by
  obtain ⟨n, e⟩ := g.ext
  rw [e, List.getElem?_append_left (List.getElem?_eq_some_iff.mp h).1]
  exact h
theorem Gw.sqt {K : PySem.W.Frag} {ps ps' : List Addr} {H H' : Hp} (g : Gw ps H ps' H') {a : Addr} {vs : List V} (h : SqT K H a vs) : SqT K H' a vs := by
  rcases h with h | h
  · rcases h with h | ⟨o, h⟩
    · exact .inl (.inl (g.imm _ _ h trivial))
    · exact .inl (.inr ⟨o, g.imm _ _ h trivial⟩)
  · exact .inr h
/-- a new object beside the store -/
theorem Grow.new {ps : List Addr} {H : Hp} {a : Addr} {o : HO} (h : H a = none) : Grow ps H ps (upd H a o) := by
  refine ⟨⟨[], by simp, fun _ h => nomatch h⟩, fun x hx => ?_, fun x u hx _ => ?_, fun x u hx _ => ?_⟩
  · by_cases e : x = a
    · rw [e, upd_same]; exact fun z => nomatch z
    · rw [upd_ne e]; exact hx
  · rw [upd_ne (ne_of_none hx h)]; exact hx
  · rw [upd_ne (ne_of_none hx h)]; exact hx
/-- a place of the store is written -/
theorem Grow.put {ps : List Addr} {H : Hp} {a : Addr} {o u : HO} (h : H a = some u) (hi : ¬ Imm u) (hm : a ∈ ps) : Grow ps H ps (upd H a o) := by
  refine ⟨⟨[], by simp, fun _ h => nomatch h⟩, fun x hx => ?_, fun x v hx hn => ?_, fun x v hx hv => ?_⟩
  · by_cases e : x = a
    · rw [e, upd_same]; exact fun z => nomatch z
    · rw [upd_ne e]; exact hx
  · rw [upd_ne (fun e => hn (by rw [e]; exact hm))]; exact hx
  · rw [upd_ne (fun e => by subst e; rw [h] at hx; cases hx; exact hi hv)]; exact hx

section
variable {K : PySem.W.Frag} {pn pn' : List (Addr × Obj)} {ps ps' : List Addr} {H H' : Hp}
mutual
theorem RV.mono (g : Gw ps H ps' H') (hp : ∀ p ∈ pn, p ∈ pn') : ∀ {v : V} {d : D}, RV K pn ps H v d → RV K pn' ps' H' v d
  | _, _, .non => .non
  | _, _, .bl b => .bl b
  | _, _, .int i => .int i
  | _, _, .str x => .str x
  | _, _, .tup h r => .tup (g.sqt h) (RVs.mono g hp r)
  | _, _, .rol h r => .rol (h.imp (fun ⟨o, z⟩ => ⟨o, g.imm _ _ z trivial⟩) id) (RVs.mono g hp r)
  | _, _, .loc h => .loc (g.pre h)
  | _, _, .exn0 h z q => .exn0 (hp _ h) z q
  | _, _, .exn1 h z q x r => .exn1 (hp _ h) z q (g.imm _ _ x trivial) (RV.mono g hp r)
theorem RVs.mono (g : Gw ps H ps' H') (hp : ∀ p ∈ pn, p ∈ pn') : ∀ {vs : List V} {ds : List D}, RVs K pn ps H vs ds → RVs K pn' ps' H' vs ds
  | _, _, .nil => .nil
  | _, _, .cons h r => .cons (RV.mono g hp h) (RVs.mono g hp r)
end
theorem RV.grow (g : Grow ps H ps' H') {v : V} {d : D} (h : RV K pn ps H v d) : RV K pn ps' H' v d := h.mono g.w fun _ z => z
theorem RVs.grow (g : Grow ps H ps' H') {vs : List V} {ds : List D} (h : RVs K pn ps H vs ds) : RVs K pn ps' H' vs ds := h.mono g.w fun _ z => z
theorem RVs.length : ∀ {vs : List V} {ds : List D}, RVs K pn ps H vs ds → vs.length = ds.length
  | _, _, .nil => rfl
  | _, _, .cons _ r => congrArg Nat.succ r.length
theorem RVs.get : ∀ {vs : List V} {ds : List D} {i : Nat} {d : D}, RVs K pn ps H vs ds → ds[i]? = some d → ∃ v, vs[i]? = some v ∧ RV K pn ps H v d
  | _, _, _, _, .nil, e => by simp at e
  | _, _, 0, _, .cons h _, e => by simp at e; subst e; exact ⟨_, rfl, h⟩
  | _, _, i + 1, d, .cons _ r, e => by
    obtain ⟨v, h1, h2⟩ := RVs.get (i := i) (d := d) r (by simpa using e)
    exact ⟨v, by simpa using h1, h2⟩
theorem RVs.getV : ∀ {vs : List V} {ds : List D} {i : Nat} {v : V}, RVs K pn ps H vs ds → vs[i]? = some v → ∃ d, ds[i]? = some d ∧ RV K pn ps H v d
  | _, _, _, _, .nil, e => by simp at e
  | _, _, 0, _, .cons h _, e => by simp at e; subst e; exact ⟨_, rfl, h⟩
  | _, _, i + 1, v, .cons _ r, e => by
    obtain ⟨d, h1, h2⟩ := RVs.getV (i := i) (v := v) r (by simpa using e)
    exact ⟨d, by simpa using h1, h2⟩
theorem RVs.append : ∀ {vs ws : List V} {ds es : List D}, RVs K pn ps H vs ds → RVs K pn ps H ws es → RVs K pn ps H (vs ++ ws) (ds ++ es)
  | _, _, _, _, .nil, s => s
  | _, _, _, _, .cons h r, s => .cons h (RVs.append r s)
theorem RVs.set : ∀ {vs : List V} {ds : List D} (i : Nat) {v : V} {d : D}, RVs K pn ps H vs ds → RV K pn ps H v d → RVs K pn ps H (vs.set i v) (ds.set i d)
  | _, _, _, _, _, .nil, _ => .nil
  | _, _, 0, _, _, .cons _ r, q => .cons q r
  | _, _, i + 1, _, _, .cons h r, q => .cons h (RVs.set i r q)
theorem RVs.take : ∀ {vs : List V} {ds : List D} (n : Nat), RVs K pn ps H vs ds → RVs K pn ps H (vs.take n) (ds.take n)
  | _, _, 0, _ => .nil
  | _, _, _ + 1, .nil => .nil
  | _, _, n + 1, .cons h r => .cons h (RVs.take n r)
theorem RVs.drop : ∀ {vs : List V} {ds : List D} (n : Nat), RVs K pn ps H vs ds → RVs K pn ps H (vs.drop n) (ds.drop n)
  | _, _, 0, r => r
  | _, _, _ + 1, .nil => .nil
  | _, _, n + 1, .cons _ r => RVs.drop n r
theorem RVs.reverse : ∀ {vs : List V} {ds : List D}, RVs K pn ps H vs ds → RVs K pn ps H vs.reverse ds.reverse
  | _, _, .nil => .nil
  | _, _, .cons h r => by
    rw [List.reverse_cons, List.reverse_cons]
    exact (RVs.reverse r).append (.cons h .nil)
end

/-! ### the store -/
def dk : Key → D
  | .inl i => .int i
  | .inr x => .str x
/- keys that are tuples: what the library's nested keys say of a datum -/
mutual
def nk : D → Option NestedKey
  | .non => some .none
  | .int i => some (.num i)
  | .bl b => some (.num (if b = true then 1 else 0))
  | .str x => some (.text x)
  | .tup xs => (nks xs).map .tup
  | _ => none
def nks : List D → Option (List NestedKey)
  | [] => some []
  | d :: ds => match nk d, nks ds with
    | some k, some ks => some (k :: ks)
    | _, _ => none
end
/-- the object of a dict whose keys are nested tuples -/
def DctAt (P : Program) (w : World) (a : Addr) (xs : List (NestedKey × Addr × Value)) (h : Heap) : Prop :=
  ∃ o es ep, h.get? a = some o ∧ o.ExactDict ∧ o.data = .dict es ep ∧ es.toList = xs.map (entryOfKey (nestedKind P w))
section
variable (P : Program) (w : World) (K : PySem.W.Frag) (pn : List (Addr × Obj)) (ps : List Addr) (H : Hp)
def RK (p : Key × V) (q : D × D) : Prop := q.1 = dk p.1 ∧ RV K pn ps H p.2 q.2
def RF (p : Str × V) (q : Str × D) : Prop := p.1 = q.1 ∧ RV K pn ps H p.2 q.2
/-- an entry with a nested key -/
def RN (x : NestedKey × Addr × Value) (q : D × D) : Prop := nk q.1 = some x.1 ∧ x.1.depth ≤ 8 ∧ RV K pn ps H (.ref x.2.1) q.1 ∧ (∃ ds, q.1 = .tup ds) ∧ ∃ v, RelV v x.2.2 ∧ RV K pn ps H v q.2
def RO (a : Addr) : HO → O → Prop
  | .lst vs, .lst ds => RVs K pn ps H vs ds
  | .dK kvs, .dct ds => Paired (RK K pn ps H) kvs ds
  | .ext φ, .dct ds => ∃ xs, φ = DctAt P w a xs ∧ Paired (RN K pn ps H) xs ds ∧ (xs.map (·.1)).Nodup ∧ xs.length ≤ sizeLine ∧ (a == sysModules) = false
  | .frz _ (.dK kvs), .lk ds => Paired (RK K pn ps H) kvs ds
  | .frz _ (.ext φ), .lk ds => ∃ xs, φ = DctAt P w a xs ∧ Paired (RN K pn ps H) xs ds ∧ (xs.map (·.1)).Nodup ∧ xs.length ≤ sizeLine ∧ (a == sysModules) = false
  | .ins C _ fs, .ins c ds => C = He.ga K c ∧ Paired (RF K pn ps H) fs ds
  | _, _ => False
structure Sto (m : Mu) : Prop where
  len : ps.length = m.length
  nd : ps.Nodup
  at_ : ∀ (l : Nat) (o : O), m[l]? = some o → ∃ a ho, ps[l]? = some a ∧ H a = some ho ∧ RO P w K pn ps H a ho o
end
section
variable {P : Program} {w : World} {K : PySem.W.Frag} {pn pn' : List (Addr × Obj)} {ps ps' : List Addr} {H H' : Hp}
theorem RO.mono (g : Gw ps H ps' H') (hp : ∀ p ∈ pn, p ∈ pn') {a : Addr} {ho : HO} {o : O} (h : RO P w K pn ps H a ho o) : RO P w K pn' ps' H' a ho o := by
  cases ho with
  | lst vs => cases o <;> first | exact RVs.mono g hp h | exact h.elim
  | dK kvs => cases o <;> first | exact Paired.mapP h fun p q z => ⟨z.1, z.2.mono g hp⟩ | exact h.elim
  | ins C dx fs => cases o <;> first | exact ⟨h.1, Paired.mapP h.2 fun p q z => ⟨z.1, z.2.mono g hp⟩⟩ | exact h.elim
  | ext φ => cases o with
    | dct ds =>
      obtain ⟨xs, e, r, n, z⟩ := h
      exact ⟨xs, e, Paired.mapP r fun p q z => ⟨z.1, z.2.1, z.2.2.1.mono g hp, z.2.2.2.1, let ⟨v, r1, r2⟩ := z.2.2.2.2; ⟨v, r1, r2.mono g hp⟩⟩, n, z⟩
    | _ => exact h.elim
  | frz ob u => cases u with
    | dK kvs => cases o <;> first | exact Paired.mapP h fun p q z => ⟨z.1, z.2.mono g hp⟩ | exact h.elim
    | ext φ => cases o with
      | lk ds =>
        obtain ⟨xs, e, r, n, z⟩ := h
        exact ⟨xs, e, Paired.mapP r fun p q z => ⟨z.1, z.2.1, z.2.2.1.mono g hp, z.2.2.2.1, let ⟨v, r1, r2⟩ := z.2.2.2.2; ⟨v, r1, r2.mono g hp⟩⟩, n, z⟩
      | _ => exact h.elim
    | _ => cases o <;> exact h.elim
  | _ => cases o <;> exact h.elim
theorem RO.notImm {a : Addr} {ho : HO} {o : O} (h : RO P w K pn ps H a ho o) (hl : o.isLk = false := by rfl) : ¬ Imm ho := by
  cases ho with
  | frz ob u => cases o <;> first | (cases hl; done) | (cases u <;> exact h.elim)
  | lst _ => exact fun z => z
  | dK _ => exact fun z => z
  | ins _ _ _ => exact fun z => z
  | ext _ => exact fun z => z
  | _ => cases o <;> exact h.elim
end
end Dn

set_option Elab.async false
set_option linter.all false
set_option maxRecDepth 100000
set_option maxHeartbeats 4000000
set_option autoImplicit false
/-! Dn2: what a piece of syntax is worth over data; names, constants, operators, tests. -/
namespace Dn
open PySem PySem.Spec L2

/-- what the relation hangs on -/
structure Cf where
  prog : Program
  w : World
  K : PySem.W.Frag
abbrev cf (X : Cx) : Cf := ⟨X.prog, X.w, X.K⟩
instance : Coe Cx Cf := ⟨cf⟩
structure Rl (X : Cf) (pn : List (Addr × Obj)) (ps : List Addr) (σ : St) (H : Hp) (ρ : Rho) (m : Mu) : Prop where
  sto : Sto X.prog X.w X.K pn ps H m
  len : σ.length = ρ.length
  slot : ∀ (i : Nat) (d : D), ρ[i]? = some (some d) → ∃ v, σ[i]? = some (some v) ∧ RV X.K pn ps H v d
/-- a value that a piece gives; H0: the heap ahead of the piece -/
def RW (X : Cf) (pn : List (Addr × Obj)) (H0 : Hp) (ps : List Addr) (H : Hp) (v : V) : Wv → Prop
  | .d x => RV X.K pn ps H v x
  | .o o => ∃ a ho, v = .ref a ∧ H0 a = none ∧ a ∉ ps ∧ H a = some ho ∧ RO X.prog X.w X.K pn ps H a ho o
/-- an exception -/
def RX (K : PySem.W.Frag) (pn : List (Addr × Obj)) (ps : List Addr) (H : Hp) (cls : Value) (d : Option Addr) (e : D) : Prop :=
  ∃ c f ds, e = .exn c f ds ∧ cls = .ref (He.ga K c) ∧ ((d = none ∧ ds = []) ∨ ∃ dx v x, d = some dx ∧ ds = [x] ∧ H dx = some (.xd [(f, v)]) ∧ RV K pn ps H v x)
section
variable {X : Cf} {pn : List (Addr × Obj)} {ps ps' p1 : List Addr} {σ : St} {H H' H0 H1 : Hp} {ρ : Rho} {m m' : Mu} {v : V} {w : Wv}
theorem Grow.back (g : Grow ps H ps' H') {a : Addr} (h : H' a = none) : H a = none := by
  cases q : H a with
  | none => rfl
  | some o => exact absurd h (g.dom a (by rw [q]; exact fun z => nomatch z))
theorem Rl.step (R : Rl X pn ps σ H ρ m) (g : Grow ps H ps' H') (s : Sto X.prog X.w X.K pn ps' H' m') : Rl X pn ps' σ H' ρ m' :=
  ⟨s, R.len, fun i d e => let ⟨v, h1, h2⟩ := R.slot i d e; ⟨v, h1, h2.grow g⟩⟩
theorem RW.grow (g : Grow ps H ps' H') (h : RW X pn H0 ps H v w) : RW X pn H0 ps' H' v w := by
  cases w with
  | d x => exact RV.grow g h
  | o o =>
    obtain ⟨a, ho, e, h0, hn, ha, r⟩ := h
    obtain ⟨n, en, f⟩ := g.ext
    refine ⟨a, ho, e, h0, fun hm => ?_, g.keep a ho ha hn, r.mono g.w fun _ z => z⟩
    rw [en] at hm
    rcases List.mem_append.mp hm with q | q
    · exact hn q
    · rw [f a q] at ha; cases ha
theorem RW.base (g : Grow ps H p1 H1) (h : RW X pn H1 ps' H' v w) : RW X pn H ps' H' v w := by
  cases w with
  | d x => exact h
  | o o =>
    obtain ⟨a, ho, e, h0, r⟩ := h
    exact ⟨a, ho, e, g.back h0, r⟩
theorem Sto.get {P : Program} {wd : World} {K : PySem.W.Frag} (s : Sto P wd K pn ps H m) {l : Nat} {o : O} {a : Addr} (h : m[l]? = some o) (ha : ps[l]? = some a) : ∃ ho, H a = some ho ∧ RO P wd K pn ps H a ho o := by
  obtain ⟨b, ho, h1, h2, h3⟩ := s.at_ l o h
  rw [ha] at h1; cases h1
  exact ⟨ho, h2, h3⟩
end

/-! ### ends -/
section
variable (X : Cf) (pn : List (Addr × Obj)) (Wx : WX)
def PoE (ps : List Addr) (σ : St) (H : Hp) (Q : VK) : R Wv → Prop
  | .ok w m' => ∀ v H' ps', Grow ps H ps' H' → Sto X.prog X.w X.K pn ps' H' m' → RW X pn H ps' H' v w → Q v H'
  | .ex e m' => ∀ cls d H' ps', Grow ps H ps' H' → Sto X.prog X.w X.K pn ps' H' m' → RX X.K pn ps' H' cls d e → Wx cls d σ H'
  | .no => False
def PoT (ps : List Addr) (σ : St) (H : Hp) (Q : Bool → Hp → Prop) : R Bool → Prop
  | .ok b m' => ∀ H' ps', Grow ps H ps' H' → Sto X.prog X.w X.K pn ps' H' m' → Q b H'
  | .ex e m' => ∀ cls d H' ps', Grow ps H ps' H' → Sto X.prog X.w X.K pn ps' H' m' → RX X.K pn ps' H' cls d e → Wx cls d σ H'
  | .no => False
/-- values of an argument list, not yet put into the store -/
inductive RWs (H0 : Hp) (ps : List Addr) (H : Hp) : List V → List Wv → Prop where
  | nil : RWs H0 ps H [] []
  | cons {v : V} {vs : List V} {w : Wv} {ws : List Wv} (h : RW X pn H0 ps H v w) (r : RWs H0 ps H vs ws) : RWs H0 ps H (v :: vs) (w :: ws)
def PoA (ps : List Addr) (σ : St) (H : Hp) (Q : List V → Hp → Prop) : R (List Wv) → Prop
  | .ok ws m' => ∀ vs H' ps', Grow ps H ps' H' → Sto X.prog X.w X.K pn ps' H' m' → RWs X pn H ps' H' vs ws → Q vs H'
  | .ex e m' => ∀ cls d H' ps', Grow ps H ps' H' → Sto X.prog X.w X.K pn ps' H' m' → RX X.K pn ps' H' cls d e → Wx cls d σ H'
  | .no => False
/-- .. put into the store -/
def PoD (ps : List Addr) (σ : St) (H : Hp) (Q : List V → Hp → Prop) : R (List D) → Prop
  | .ok ds m' => ∀ vs H' ps', Grow ps H ps' H' → Sto X.prog X.w X.K pn ps' H' m' → RVs X.K pn ps' H' vs ds → Q vs H'
  | .ex e m' => ∀ cls d H' ps', Grow ps H ps' H' → Sto X.prog X.w X.K pn ps' H' m' → RX X.K pn ps' H' cls d e → Wx cls d σ H'
  | .no => False
def tE (m : EX) : TE := fun σ H Q => ∃ ps ρ μ, Rl X pn ps σ H ρ μ ∧ PoE X pn Wx ps σ H Q (m ρ μ)
def tT (m : TX) : TT := fun σ H Q => ∃ ps ρ μ, Rl X pn ps σ H ρ μ ∧ PoT X pn Wx ps σ H Q (m ρ μ)
def tAW (m : Rho → M (List Wv)) : TA := fun σ H Q => ∃ ps ρ μ, Rl X pn ps σ H ρ μ ∧ PoA X pn Wx ps σ H Q (m ρ μ)
def tAD (m : AX) : TA := fun σ H Q => ∃ ps ρ μ, Rl X pn ps σ H ρ μ ∧ PoD X pn Wx ps σ H Q (m ρ μ)
end
/-- an expression is worth m -/
def DE (X : Cx) (pn : List (Addr × Obj)) (m : EX) (e : Expr) : Prop := ∀ Wx, Takes X Wx → PE X e (tE X pn Wx m)
def DT (X : Cx) (pn : List (Addr × Obj)) (m : TX) (e : Expr) : Prop := ∀ Wx, Takes X Wx → PT X e (tT X pn Wx m)
/-- .. whatever the whole is -/
def DW (X : Cx) (pn : List (Addr × Obj)) (m : TX) (e : Expr) : Prop := ∀ Wx, Takes X Wx → PW X e (tT X pn Wx m)
def DA (X : Cx) (pn : List (Addr × Obj)) (m : Rho → M (List Wv)) (es : List Expr) : Prop := ∀ Wx, Takes X Wx → PA X es (tAW X pn Wx m)
def DAD (X : Cx) (pn : List (Addr × Obj)) (m : AX) (es : List Expr) : Prop := ∀ Wx, Takes X Wx → PA X es (tAD X pn Wx m)

theorem PE_imp {X : Cx} {e : Expr} {t t' : TE} (h : PE X e t) (i : ∀ σ H Q, t' σ H Q → t σ H Q) : PE X e t' := ⟨fun pins s σ H Q I q => h.run pins s σ H Q I (i σ H Q q)⟩
theorem PT_imp {X : Cx} {e : Expr} {t t' : TT} (h : PT X e t) (i : ∀ σ H Q, t' σ H Q → t σ H Q) : PT X e t' := ⟨fun pins s σ H Q I q => h.run pins s σ H Q I (i σ H Q q)⟩
theorem PW_imp {X : Cx} {e : Expr} {t t' : TT} (h : PW X e t) (i : ∀ σ H Q, t' σ H Q → t σ H Q) : PW X e t' := ⟨fun w pins s σ H Q I q => h.run w pins s σ H Q I (i σ H Q q)⟩
theorem PA_imp {X : Cx} {e : List Expr} {t t' : TA} (h : PA X e t) (i : ∀ σ H Q, t' σ H Q → t σ H Q) : PA X e t' := ⟨fun p pins s σ H Q I q => h.run p pins s σ H Q I (i σ H Q q)⟩
theorem PS_imp {X : Cx} {e : Stmt} {t t' : TS} (h : PS X e t) (i : ∀ D σ H, t' D σ H → t D σ H) : PS X e t' := ⟨fun pins s σ H D I q => h.run pins s σ H D I (i D σ H q)⟩
theorem PSs_imp {X : Cx} {e : List Stmt} {t t' : TS} (h : PSs X e t) (i : ∀ D σ H, t' D σ H → t D σ H) : PSs X e t' := ⟨fun pins s σ H D I q => h.run pins s σ H D I (i D σ H q)⟩

section
variable {X : Cf} {pn : List (Addr × Obj)} {Wx : WX} {ps p1 : List Addr} {σ : St} {H H1 : Hp} {ρ : Rho} {μ : Mu}
theorem PoE.base {Q : VK} {r : R Wv} (g : Grow ps H p1 H1) (h : PoE X pn Wx ps σ H Q r) : PoE X pn Wx p1 σ H1 Q r := by
  cases r with
  | ok w m' => exact fun v H' ps' g' s r => h v H' ps' (g.trans g') s (r.base g)
  | ex e m' => exact fun cls d H' ps' g' s r => h cls d H' ps' (g.trans g') s r
  | no => exact h
theorem PoT.base {Q : Bool → Hp → Prop} {r : R Bool} (g : Grow ps H p1 H1) (h : PoT X pn Wx ps σ H Q r) : PoT X pn Wx p1 σ H1 Q r := by
  cases r with
  | ok w m' => exact fun H' ps' g' s => h H' ps' (g.trans g') s
  | ex e m' => exact fun cls d H' ps' g' s r => h cls d H' ps' (g.trans g') s r
  | no => exact h
theorem RWs.base {p2 : List Addr} {H2 : Hp} (g : Grow ps H p1 H1) : ∀ {vs : List V} {ws : List Wv}, RWs X pn H1 p2 H2 vs ws → RWs X pn H p2 H2 vs ws
  | _, _, .nil => .nil
  | _, _, .cons h r => .cons (h.base g) (RWs.base g r)
theorem RWs.grow {H0 : Hp} (g : Grow ps H p1 H1) : ∀ {vs : List V} {ws : List Wv}, RWs X pn H0 ps H vs ws → RWs X pn H0 p1 H1 vs ws
  | _, _, .nil => .nil
  | _, _, .cons h r => .cons (h.grow g) (RWs.grow g r)
theorem PoA.base {Q : List V → Hp → Prop} {r : R (List Wv)} (g : Grow ps H p1 H1) (h : PoA X pn Wx ps σ H Q r) : PoA X pn Wx p1 σ H1 Q r := by
  cases r with
  | ok w m' => exact fun v H' ps' g' s r => h v H' ps' (g.trans g') s (r.base g)
  | ex e m' => exact fun cls d H' ps' g' s r => h cls d H' ps' (g.trans g') s r
  | no => exact h
theorem PoD.base {Q : List V → Hp → Prop} {r : R (List D)} (g : Grow ps H p1 H1) (h : PoD X pn Wx ps σ H Q r) : PoD X pn Wx p1 σ H1 Q r := by
  cases r with
  | ok w m' => exact fun v H' ps' g' s r => h v H' ps' (g.trans g') s r
  | ex e m' => exact fun cls d H' ps' g' s r => h cls d H' ps' (g.trans g') s r
  | no => exact h
/-- what a bind hands on, whatever the whole is: Po the end of the whole -/
theorem tE_bind {α : Type} {Po : R α → Prop} {f : Wv → M α} {m : EX} {k : VK} (Rr : Rl X pn ps σ H ρ μ) (h : Po (M.bind (m ρ) f μ))
    (hex : ∀ e m', Po (.ex e m') → ∀ cls d H' ps', Grow ps H ps' H' → Sto X.prog X.w X.K pn ps' H' m' → RX X.K pn ps' H' cls d e → Wx cls d σ H') (hno : ¬ Po .no)
    (hk : ∀ w m1 v H1 p1, Grow ps H p1 H1 → Rl X pn p1 σ H1 ρ m1 → RW X pn H p1 H1 v w → Po (f w m1) → k v H1) : tE X pn Wx m σ H k := by
  refine ⟨ps, ρ, μ, Rr, ?_⟩
  unfold M.bind at h
  cases q : m ρ μ with
  | ok w m1 => rw [q] at h; exact fun v H1 p1 g s r => hk w m1 v H1 p1 g (Rr.step g s) r h
  | ex e m1 => rw [q] at h; exact hex e m1 h
  | no => rw [q] at h; exact hno h
theorem tT_bind {α : Type} {Po : R α → Prop} {f : Bool → M α} {m : TX} {k : Bool → Hp → Prop} (Rr : Rl X pn ps σ H ρ μ) (h : Po (M.bind (m ρ) f μ))
    (hex : ∀ e m', Po (.ex e m') → ∀ cls d H' ps', Grow ps H ps' H' → Sto X.prog X.w X.K pn ps' H' m' → RX X.K pn ps' H' cls d e → Wx cls d σ H') (hno : ¬ Po .no)
    (hk : ∀ b m1 H1 p1, Grow ps H p1 H1 → Rl X pn p1 σ H1 ρ m1 → Po (f b m1) → k b H1) : tT X pn Wx m σ H k := by
  refine ⟨ps, ρ, μ, Rr, ?_⟩
  unfold M.bind at h
  cases q : m ρ μ with
  | ok w m1 => rw [q] at h; exact fun H1 p1 g s => hk w m1 H1 p1 g (Rr.step g s) h
  | ex e m1 => rw [q] at h; exact hex e m1 h
  | no => rw [q] at h; exact hno h
theorem tAW_bind {α : Type} {Po : R α → Prop} {f : List Wv → M α} {m : Rho → M (List Wv)} {k : List V → Hp → Prop} (Rr : Rl X pn ps σ H ρ μ) (h : Po (M.bind (m ρ) f μ))
    (hex : ∀ e m', Po (.ex e m') → ∀ cls d H' ps', Grow ps H ps' H' → Sto X.prog X.w X.K pn ps' H' m' → RX X.K pn ps' H' cls d e → Wx cls d σ H') (hno : ¬ Po .no)
    (hk : ∀ ws m1 vs H1 p1, Grow ps H p1 H1 → Rl X pn p1 σ H1 ρ m1 → RWs X pn H p1 H1 vs ws → Po (f ws m1) → k vs H1) : tAW X pn Wx m σ H k := by
  refine ⟨ps, ρ, μ, Rr, ?_⟩
  unfold M.bind at h
  cases q : m ρ μ with
  | ok w m1 => rw [q] at h; exact fun v H1 p1 g s r => hk w m1 v H1 p1 g (Rr.step g s) r h
  | ex e m1 => rw [q] at h; exact hex e m1 h
  | no => rw [q] at h; exact hno h
theorem tAD_bind {α : Type} {Po : R α → Prop} {f : List D → M α} {m : AX} {k : List V → Hp → Prop} (Rr : Rl X pn ps σ H ρ μ) (h : Po (M.bind (m ρ) f μ))
    (hex : ∀ e m', Po (.ex e m') → ∀ cls d H' ps', Grow ps H ps' H' → Sto X.prog X.w X.K pn ps' H' m' → RX X.K pn ps' H' cls d e → Wx cls d σ H') (hno : ¬ Po .no)
    (hk : ∀ ws m1 vs H1 p1, Grow ps H p1 H1 → Rl X pn p1 σ H1 ρ m1 → RVs X.K pn p1 H1 vs ws → Po (f ws m1) → k vs H1) : tAD X pn Wx m σ H k := by
  refine ⟨ps, ρ, μ, Rr, ?_⟩
  unfold M.bind at h
  cases q : m ρ μ with
  | ok w m1 => rw [q] at h; exact fun v H1 p1 g s r => hk w m1 v H1 p1 g (Rr.step g s) r h
  | ex e m1 => rw [q] at h; exact hex e m1 h
  | no => rw [q] at h; exact hno h
end

/-! ### putting a new object into the store -/
def settle : Wv → M D
  | .d x => M.ret x
  | .o o => fun m => .ok (.loc m.length) (m ++ [o])
theorem settle_ok {X : Cf} {pn : List (Addr × Obj)} {ps p1 : List Addr} {H H1 : Hp} {v : V} {w : Wv} {m : Mu} (g : Grow ps H p1 H1) (s : Sto X.prog X.w X.K pn p1 H1 m) (r : RW X pn H p1 H1 v w) :
    ∃ d m', settle w m = .ok d m' ∧ ∃ p2, Grow ps H p2 H1 ∧ Gw p1 H1 p2 H1 ∧ Sto X.prog X.w X.K pn p2 H1 m' ∧ RV X.K pn p2 H1 v d := by
  cases w with
  | d x => exact ⟨x, m, rfl, p1, g, ⟨⟨[], by simp⟩, fun _ _ h _ => h⟩, s, r⟩
  | o o =>
    obtain ⟨a, ho, e, h0, hn, ha, r⟩ := r
    have gw : Gw p1 H1 (p1 ++ [a]) H1 := ⟨⟨[a], rfl⟩, fun _ _ h _ => h⟩
    obtain ⟨n, en, fn⟩ := g.ext
    refine ⟨.loc m.length, m ++ [o], rfl, p1 ++ [a], ⟨⟨n ++ [a], by rw [en, List.append_assoc], fun b hb => ?_⟩, g.dom, g.keep, g.imm⟩, gw, ⟨?_, ?_, fun l u hl => ?_⟩, ?_⟩
    · rcases List.mem_append.mp hb with q | q
      · exact fn b q
      · rw [List.mem_singleton.mp q]; exact h0
    · rw [List.length_append, List.length_append, s.len]; rfl
    · rw [List.nodup_append]
      exact ⟨s.nd, by simp, fun x hx y hy e => hn (by rw [List.mem_singleton.mp hy] at e; rw [← e]; exact hx)⟩
    · by_cases q : l < m.length
      · rw [List.getElem?_append_left q] at hl
        obtain ⟨b, hb, h1, h2, h3⟩ := s.at_ l u hl
        exact ⟨b, hb, gw.pre h1, h2, h3.mono gw fun _ z => z⟩
      · have ql : l = m.length := by
          have := (List.getElem?_eq_some_iff.mp hl).1
          rw [List.length_append, List.length_singleton] at this
          omega
        subst ql
        rw [List.getElem?_append_right (Nat.le_refl _)] at hl
        simp at hl
        subst hl
        refine ⟨a, ho, ?_, ha, r.mono gw fun _ z => z⟩
        rw [← s.len, List.getElem?_append_right (Nat.le_refl _)]
        simp
    · rw [e]
      refine .loc ?_
      rw [← s.len, List.getElem?_append_right (Nat.le_refl _)]
      simp

/-! ### names, constants -/
def xVar (i : Nat) : EX := fun ρ => match ρ[i]? with
  | some (some d) => M.ret (.d d)
  | _ => M.no
def xC (d : D) : EX := fun _ => M.ret (.d d)
section
variable {X : Cx} {pn : List (Addr × Obj)}
theorem d_var {i : Nat} {x : Str} {pos : Pos} (hN : X.N[i]? = some x) (hv : Vis X.env.scope x) (hd : (x == ("__debug__" : Str)) = false := by decide) (hcd : (x == ("__classdict__" : Str)) = false := by decide) : DE X pn (xVar i) (.Name x pos) := by
  intro Wx tk
  refine PE_imp (pe_var hN hv hd hcd) fun σ H Q ⟨ps, ρ, μ, Rr, h⟩ => ?_
  unfold xVar at h
  cases q : ρ[i]? with
  | none => rw [q] at h; exact h.elim
  | some o =>
    cases o with
    | none => rw [q] at h; exact h.elim
    | some d =>
      rw [q] at h
      obtain ⟨v, e, r⟩ := Rr.slot i d q
      exact ⟨v, e, h v H ps Grow.refl Rr.sto r⟩
theorem d_const {e : Expr} {v : V} {d : D} (h : PE X e (tC v)) (r : ∀ ps H, RV X.K pn ps H v d) : DE X pn (xC d) e := fun Wx tk =>
  PE_imp h fun σ H Q ⟨ps, ρ, μ, Rr, h⟩ => h v H ps Grow.refl Rr.sto (r ps H)
theorem d_int {i : Int} {j pos} : DE X pn (xC (.int i)) (.Constant (.int i) j pos) := d_const pe_int fun _ _ => .int i
theorem d_bl {b : Bool} {j pos} : DE X pn (xC (.bl b)) (.Constant (.bool b) j pos) := d_const pe_bl fun _ _ => .bl b
theorem d_non {j pos} : DE X pn (xC .non) (.Constant .none j pos) := d_const pe_non fun _ _ => .non
theorem d_str {x : Str} {j pos} : DE X pn (xC (.str x)) (.Constant (.str x) j pos) := d_const pe_str fun _ _ => .str x
/-- a global that is an int, a text -/
theorem d_gint {x : Str} {i : Int} {t : Tok} {pos : Pos} (hg : Gl X x) (hm : X.mg x = some (.int i t)) (hd : (x == ("__debug__" : Str)) = false := by decide) : DE X pn (xC (.int i)) (.Name x pos) :=
  d_const (pe_glob hg hm (v := .int i) ⟨t, rfl⟩ hd) fun _ _ => .int i
theorem d_gstr {x y : Str} {t : Tok} {pos : Pos} (hg : Gl X x) (hm : X.mg x = some (.str y t)) (hd : (x == ("__debug__" : Str)) = false := by decide) : DE X pn (xC (.str y)) (.Name x pos) :=
  d_const (pe_glob hg hm (v := .str y) ⟨t, rfl⟩ hd) fun _ _ => .str y
end

/-! ### operators by values -/
/-- f of two values is g of two data -/
def rO (X : Cf) (pn : List (Addr × Obj)) (g : Wv → Wv → Mu → Option Wv) : R2 := fun x y H Q => ∃ H0 ps μ w1 w2 z, Sto X.prog X.w X.K pn ps H μ ∧ RW X pn H0 ps H x w1 ∧ RW X pn H0 ps H y w2 ∧ g w1 w2 μ = some z ∧
  ∀ v H' ps', Grow ps H ps' H' → Sto X.prog X.w X.K pn ps' H' μ → RW X pn H ps' H' v z → Q v H'
def M.opt {α : Type} (o : Mu → Option α) : M α := fun m => match o m with
  | some a => .ok a m
  | none => .no
def x2 (g : Wv → Wv → Mu → Option Wv) (a b : EX) : EX := fun ρ => M.bind (a ρ) fun x => M.bind (b ρ) fun y => M.opt (g x y)
section
variable {X : Cx} {pn : List (Addr × Obj)} {Wx : WX} {ps : List Addr} {σ : St} {H : Hp} {Q : VK} {g : Wv → Wv → Mu → Option Wv} {ma mb : EX} {a b : Expr} {pos : Pos}
theorem PoE.opt {w1 w2 : Wv} {H0 : Hp} {μ : Mu} {x y : V} (s : Sto X.prog X.w X.K pn ps H μ) (r1 : RW X pn H0 ps H x w1) (r2 : RW X pn H0 ps H y w2) (h : PoE X pn Wx ps σ H Q (M.opt (g w1 w2) μ)) : rO X pn g x y H Q := by
  unfold M.opt at h
  cases q : g w1 w2 μ with
  | none => rw [q] at h; exact h.elim
  | some z => rw [q] at h; exact ⟨H0, ps, μ, w1, w2, z, s, r1, r2, q, h⟩
theorem x2_run (h : tE X pn Wx (x2 g ma mb) σ H Q) : tE X pn Wx ma σ H fun x H1 => tE X pn Wx mb σ H1 fun y H2 => rO X pn g x y H2 Q := by
  obtain ⟨ps, ρ, μ, Rr, h⟩ := h
  refine tE_bind (Po := PoE X pn Wx ps σ H Q) Rr h (fun e m' h => h) (fun h => h) fun w1 m1 x H1 p1 g1 R1 r1 h1 => ?_
  refine tE_bind (Po := PoE X pn Wx p1 σ H1 Q) R1 (h1.base g1) (fun e m' h => h) (fun h => h) fun w2 m2 y H2 p2 g2 R2 r2 h2 => ?_
  exact PoE.opt (H0 := H) R2.sto (r1.grow g2) (r2.base g1) (h2.base g2)
theorem d_op {op : Operator} (ho : OpR X (binaryOp op) (rO X pn g)) (ha : DE X pn ma a) (hb : DE X pn mb b) : DE X pn (x2 g ma mb) (.BinOp a op b pos) := fun Wx tk =>
  PE_imp (pe_op ho (ha Wx tk) (hb Wx tk)) fun σ H Q h => x2_run h
theorem d_cmp {op : CmpOp} (ho : OpR X (compareOp op) (rO X pn g)) (ha : DE X pn ma a) (hb : DE X pn mb b) (hm : behindInMarks op b = false) : DE X pn (x2 g ma mb) (.Compare a [op] [b] pos) := fun Wx tk =>
  PE_imp (pe_cmpR ho (ha Wx tk) (hb Wx tk) hm) fun σ H Q h => x2_run h
/-- a comparison as a test: the value is a bool -/
def xB (m : EX) : TX := fun ρ => M.bind (m ρ) fun w => match w with
  | .d (.bl b) => M.ret b
  | _ => M.no
theorem tE_bool {m : EX} {Q : Bool → Hp → Prop} (h : tT X pn Wx (xB m) σ H Q) : tE X pn Wx m σ H fun x H' => ∃ k, x = .bl k ∧ Q k H' := by
  obtain ⟨ps, ρ, μ, Rr, h⟩ := h
  refine tE_bind (Po := PoT X pn Wx ps σ H Q) Rr h (fun e m' h => h) (fun h => h) fun w1 m1 x H1 p1 g1 R1 r1 h1 => ?_
  cases w1 with
  | o o => exact h1.elim
  | d d =>
    cases d <;> try exact h1.elim
    rename_i b
    cases r1
    exact ⟨b, rfl, h1 H1 p1 g1 R1.sto⟩
theorem dt_cmp {op : CmpOp} (ho : OpR X (compareOp op) (rO X pn g)) (ha : DE X pn ma a) (hb : DE X pn mb b) (hm : behindInMarks op b = false) : DT X pn (xB (x2 g ma mb)) (.Compare a [op] [b] pos) := fun Wx tk =>
  PT_imp (pt_cmpR ho (ha Wx tk) (hb Wx tk) hm) fun σ H Q h => by
    have q := tE_bool h
    exact x2_run q
/-- an expression whose value is a bool, as a test -/
theorem dt_val {e : Expr} {m : EX} (h : DE X pn m e) (he : ∀ whole, isTrue e X.env whole = (do let v ← whole; standAt e.pos; holding [v] (truthy v)) := by intro _; rfl) : DT X pn (xB m) e := fun Wx tk =>
  PT_imp (pt_val (h Wx tk) he) fun σ H Q h => tE_bool h
/-- a unary operator -/
def rU1 (X : Cf) (pn : List (Addr × Obj)) (g : Wv → Mu → Option Wv) : V → Hp → VK → Prop := fun x H Q => ∃ H0 ps μ w1 z, Sto X.prog X.w X.K pn ps H μ ∧ RW X pn H0 ps H x w1 ∧ g w1 μ = some z ∧
  ∀ v H' ps', Grow ps H ps' H' → Sto X.prog X.w X.K pn ps' H' μ → RW X pn H ps' H' v z → Q v H'
def x1 (g : Wv → Mu → Option Wv) (a : EX) : EX := fun ρ => M.bind (a ρ) fun x => M.opt (g x)
theorem x1_run {g : Wv → Mu → Option Wv} (h : tE X pn Wx (x1 g ma) σ H Q) : tE X pn Wx ma σ H fun x H1 => rU1 X pn g x H1 Q := by
  obtain ⟨ps, ρ, μ, Rr, h⟩ := h
  refine tE_bind (Po := PoE X pn Wx ps σ H Q) Rr h (fun e m' h => h) (fun h => h) fun w1 m1 x H1 p1 g1 R1 r1 h1 => ?_
  unfold M.opt at h1
  cases q : g w1 m1 with
  | none => rw [q] at h1; exact h1.elim
  | some z => rw [q] at h1; exact ⟨H, p1, m1, w1, z, R1.sto, r1, q, h1.base g1⟩
theorem d_un {op : UnaryOp} {g : Wv → Mu → Option Wv} (ho : UnR X (unaryOp op) (rU1 X pn g)) (ha : DE X pn ma a) : DE X pn (x1 g ma) (.UnaryOp op a pos) := fun Wx tk =>
  PE_imp (pe_un ho (ha Wx tk)) fun σ H Q h => x1_run h
end
end Dn

set_option Elab.async false
set_option linter.all false
set_option maxRecDepth 100000
set_option maxHeartbeats 4000000
set_option autoImplicit false
/-! Dn3: tests, argument lists, displays, statements, defs, calls. -/
namespace Dn
open PySem PySem.Spec L2

/-- the most items that a sequence may have -/
def LIM : Nat := 16777216
theorem LIM_eq : LIM = sizeLine := sizeLine_eq.symm

/-! ### and, or, not, if -/
def xtAnd (a b : TX) : TX := fun ρ => M.bind (a ρ) fun c => bif c then b ρ else M.ret false
def xtOr (a b : TX) : TX := fun ρ => M.bind (a ρ) fun c => bif c then M.ret true else b ρ
def xtNot (a : TX) : TX := fun ρ => M.bind (a ρ) fun c => M.ret (!c)
def xAnd (a b : EX) : EX := fun ρ => M.bind (a ρ) fun w => match w with
  | .d (.bl true) => b ρ
  | .d (.bl false) => M.ret (.d (.bl false))
  | _ => M.no
def xOr (a b : EX) : EX := fun ρ => M.bind (a ρ) fun w => match w with
  | .d (.bl false) => b ρ
  | .d (.bl true) => M.ret (.d (.bl true))
  | _ => M.no
def xNot (a : EX) : EX := fun ρ => M.bind (a ρ) fun w => match w with
  | .d (.bl b) => M.ret (.d (.bl !b))
  | _ => M.no
def xIf (c : TX) (a b : EX) : EX := fun ρ => M.bind (c ρ) fun k => bif k then a ρ else b ρ
section
variable {X : Cx} {pn : List (Addr × Obj)} {Wx : WX} {ps : List Addr} {σ : St} {H : Hp} {ma mb : EX} {a b c : Expr} {rest : List Expr} {ta tb : TX} {pos : Pos}
theorem dw_and1 (ha : DT X pn ta a) : DW X pn ta (.BoolOp .And [a] pos) := fun Wx tk => pw_and1 (ha Wx tk)
theorem dw_or1 (ha : DT X pn ta a) : DW X pn ta (.BoolOp .Or [a] pos) := fun Wx tk => pw_or1 (ha Wx tk)
theorem DW.t {e : Expr} (h : DW X pn ta e) : DT X pn ta e := fun Wx tk => (h Wx tk).pt
theorem dw_and (ha : DT X pn ta a) (hb : DW X pn tb (.BoolOp .And (b :: rest) pos)) : DW X pn (xtAnd ta tb) (.BoolOp .And (a :: b :: rest) pos) := fun Wx tk =>
  PW_imp (pw_and (ha Wx tk) (hb Wx tk)) fun σ H Q ⟨ps, ρ, μ, Rr, h⟩ => by
    refine tT_bind (Po := PoT X pn Wx ps σ H Q) Rr h (fun e m' h => h) (fun h => h) fun k m1 H1 p1 g1 R1 h1 => ?_
    cases k with
    | true => exact ⟨p1, ρ, m1, R1, h1.base g1⟩
    | false => exact h1 H1 p1 g1 R1.sto
theorem dw_or (ha : DT X pn ta a) (hb : DW X pn tb (.BoolOp .Or (b :: rest) pos)) : DW X pn (xtOr ta tb) (.BoolOp .Or (a :: b :: rest) pos) := fun Wx tk =>
  PW_imp (pw_or (ha Wx tk) (hb Wx tk)) fun σ H Q ⟨ps, ρ, μ, Rr, h⟩ => by
    refine tT_bind (Po := PoT X pn Wx ps σ H Q) Rr h (fun e m' h => h) (fun h => h) fun k m1 H1 p1 g1 R1 h1 => ?_
    cases k with
    | false => exact ⟨p1, ρ, m1, R1, h1.base g1⟩
    | true => exact h1 H1 p1 g1 R1.sto
theorem dt_not (ha : DT X pn ta a) : DT X pn (xtNot ta) (.UnaryOp .Not a pos) := fun Wx tk =>
  PT_imp (pt_not (ha Wx tk)) fun σ H Q ⟨ps, ρ, μ, Rr, h⟩ =>
    tT_bind (Po := PoT X pn Wx ps σ H Q) Rr h (fun e m' h => h) (fun h => h) fun k m1 H1 p1 g1 R1 h1 => h1 H1 p1 g1 R1.sto
theorem d_one {op} (ha : DE X pn ma a) : DE X pn ma (.BoolOp op [a] pos) := fun Wx tk => pe_one (ha Wx tk)
theorem d_and (ha : DE X pn ma a) (hb : DE X pn mb (.BoolOp .And (b :: rest) pos)) : DE X pn (xAnd ma mb) (.BoolOp .And (a :: b :: rest) pos) := fun Wx tk =>
  PE_imp (pe_and (ha Wx tk) (hb Wx tk)) fun σ H Q ⟨ps, ρ, μ, Rr, h⟩ => by
    refine tE_bind (Po := PoE X pn Wx ps σ H Q) Rr h (fun e m' h => h) (fun h => h) fun w m1 v H1 p1 g1 R1 r1 h1 => ?_
    cases w with
    | o o => exact h1.elim
    | d d =>
      cases d <;> try exact h1.elim
      rename_i k
      cases r1
      refine ⟨k, rfl, ?_⟩
      cases k with
      | true => exact ⟨p1, ρ, m1, R1, h1.base g1⟩
      | false => exact h1 _ H1 p1 g1 R1.sto (.bl false)
theorem d_or (ha : DE X pn ma a) (hb : DE X pn mb (.BoolOp .Or (b :: rest) pos)) : DE X pn (xOr ma mb) (.BoolOp .Or (a :: b :: rest) pos) := fun Wx tk =>
  PE_imp (pe_or (ha Wx tk) (hb Wx tk)) fun σ H Q ⟨ps, ρ, μ, Rr, h⟩ => by
    refine tE_bind (Po := PoE X pn Wx ps σ H Q) Rr h (fun e m' h => h) (fun h => h) fun w m1 v H1 p1 g1 R1 r1 h1 => ?_
    cases w with
    | o o => exact h1.elim
    | d d =>
      cases d <;> try exact h1.elim
      rename_i k
      cases r1
      refine ⟨k, rfl, ?_⟩
      cases k with
      | false => exact ⟨p1, ρ, m1, R1, h1.base g1⟩
      | true => exact h1 _ H1 p1 g1 R1.sto (.bl true)
theorem d_not (ha : DE X pn ma a) : DE X pn (xNot ma) (.UnaryOp .Not a pos) := fun Wx tk =>
  PE_imp (pe_not (ha Wx tk)) fun σ H Q ⟨ps, ρ, μ, Rr, h⟩ => by
    refine tE_bind (Po := PoE X pn Wx ps σ H Q) Rr h (fun e m' h => h) (fun h => h) fun w m1 v H1 p1 g1 R1 r1 h1 => ?_
    cases w with
    | o o => exact h1.elim
    | d d =>
      cases d <;> try exact h1.elim
      rename_i k
      cases r1
      exact ⟨k, rfl, h1 _ H1 p1 g1 R1.sto (.bl _)⟩
theorem d_ifExp (hc : DT X pn ta c) (ha : DE X pn ma a) (hb : DE X pn mb b) : DE X pn (xIf ta ma mb) (.IfExp c a b pos) := fun Wx tk =>
  PE_imp (pe_ifExp (hc Wx tk) (ha Wx tk) (hb Wx tk)) fun σ H Q ⟨ps, ρ, μ, Rr, h⟩ => by
    refine tT_bind (Po := PoE X pn Wx ps σ H Q) Rr h (fun e m' h => h) (fun h => h) fun k m1 H1 p1 g1 R1 h1 => ?_
    cases k with
    | true => exact ⟨p1, ρ, m1, R1, h1.base g1⟩
    | false => exact ⟨p1, ρ, m1, R1, h1.base g1⟩
/-- a op b op' c -/
def xCh (g g' : Wv → Wv → Mu → Option Wv) (a b c : EX) : EX := fun ρ => M.bind (a ρ) fun x => M.bind (b ρ) fun y => M.bind (M.opt (g x y)) fun z => match z with
  | .d (.bl true) => M.bind (c ρ) fun u => M.opt (g' y u)
  | .d (.bl false) => M.ret (.d (.bl false))
  | _ => M.no
end

/-! ### argument lists, displays -/
def aNil : Rho → M (List Wv) := fun _ => M.ret []
def aCons (m : EX) (ms : Rho → M (List Wv)) : Rho → M (List Wv) := fun ρ => M.bind (m ρ) fun w => M.bind (ms ρ) fun ws => M.ret (w :: ws)
def adNil : AX := fun _ => M.ret []
def adCons (m : EX) (ms : AX) : AX := fun ρ => M.bind (m ρ) fun w => M.bind (settle w) fun d => M.bind (ms ρ) fun ds => M.ret (d :: ds)
def xTup (ms : AX) : EX := fun ρ => M.bind (ms ρ) fun ds => if ds.length ≤ LIM then M.ret (.d (.tup ds)) else M.no
def xLst (ms : AX) : EX := fun ρ => M.bind (ms ρ) fun ds => if ds.length ≤ LIM then M.ret (.o (.lst ds)) else M.no
section
variable {X : Cx} {pn : List (Addr × Obj)} {e : Expr} {es : List Expr} {m : EX} {ms : Rho → M (List Wv)} {ads : AX} {pos : Pos}
theorem da_nil : DA X pn aNil [] := fun Wx tk => PA_imp pa_nil fun σ H Q ⟨ps, ρ, μ, Rr, h⟩ => h [] H ps Grow.refl Rr.sto .nil
theorem da_cons (ha : DE X pn m e) (hr : DA X pn ms es) (hs : starEach (e :: es) X.env = (false, eval e X.env) :: starEach es X.env := by rfl) : DA X pn (aCons m ms) (e :: es) := fun Wx tk =>
  PA_imp (pa_cons (ha Wx tk) (hr Wx tk) hs) fun σ H Q ⟨ps, ρ, μ, Rr, h⟩ => by
    refine tE_bind (Po := PoA X pn Wx ps σ H Q) Rr h (fun e m' h => h) (fun h => h) fun w1 m1 v1 H1 p1 g1 R1 r1 h1 => ?_
    refine tAW_bind (Po := PoA X pn Wx ps σ H Q) R1 h1 (fun e m' h cls d H' ps' g s r => h cls d H' ps' (g1.trans g) s r) (fun h => h) fun ws m2 vs H2 p2 g2 R2 r2 h2 => ?_
    exact h2 (v1 :: vs) H2 p2 (g1.trans g2) R2.sto (.cons (r1.grow g2) (r2.base g1))
theorem dd_nil : DAD X pn adNil [] := fun Wx tk => PA_imp pa_nil fun σ H Q ⟨ps, ρ, μ, Rr, h⟩ => h [] H ps Grow.refl Rr.sto .nil
/-- an evaluated value, then put into the store -/
theorem settle_bind {α : Type} {Po : R α → Prop} {f : D → M α} {ps p1 : List Addr} {σ : St} {H H1 : Hp} {ρ : Rho} {m1 : Mu} {v : V} {w : Wv} (g : Grow ps H p1 H1) (R1 : Rl X pn p1 σ H1 ρ m1) (r : RW X pn H p1 H1 v w) (h : Po (M.bind (settle w) f m1)) :
    ∃ d m2 p2, Grow ps H p2 H1 ∧ Gw p1 H1 p2 H1 ∧ Rl X pn p2 σ H1 ρ m2 ∧ RV X.K pn p2 H1 v d ∧ Po (f d m2) := by
  obtain ⟨d, m2, e, p2, g2, gw, s2, rv⟩ := settle_ok g R1.sto r
  unfold M.bind at h
  rw [e] at h
  exact ⟨d, m2, p2, g2, gw, ⟨s2, R1.len, fun i x q => let ⟨u, h1, h2⟩ := R1.slot i x q; ⟨u, h1, h2.mono gw fun _ z => z⟩⟩, rv, h⟩
theorem dd_cons (ha : DE X pn m e) (hr : DAD X pn ads es) (hs : starEach (e :: es) X.env = (false, eval e X.env) :: starEach es X.env := by rfl) : DAD X pn (adCons m ads) (e :: es) := fun Wx tk =>
  PA_imp (pa_cons (ha Wx tk) (hr Wx tk) hs) fun σ H Q ⟨ps, ρ, μ, Rr, h⟩ => by
    refine tE_bind (Po := PoD X pn Wx ps σ H Q) Rr h (fun e m' h => h) (fun h => h) fun w1 m1 v1 H1 p1 g1 R1 r1 h1 => ?_
    obtain ⟨d, m2, p2, g2, gw, R2, rv, h2⟩ := settle_bind g1 R1 r1 h1
    refine tAD_bind (Po := PoD X pn Wx ps σ H Q) R2 h2 (fun e m' h cls d H' ps' g s r => h cls d H' ps' (g2.trans g) s r) (fun h => h) fun ws m3 vs H3 p3 g3 R3 r3 h3 => ?_
    exact h3 (v1 :: vs) H3 p3 (g2.trans g3) R3.sto (.cons (rv.grow g3) r3)
theorem d_tup {x1} (h : DAD X pn ads es) : DE X pn (xTup ads) (.Tuple es x1 pos) := fun Wx tk =>
  PE_imp (pe_tup (h Wx tk)) fun σ H Q ⟨ps, ρ, μ, Rr, h⟩ => by
    refine tAD_bind (Po := PoE X pn Wx ps σ H Q) Rr h (fun e m' h => h) (fun h => h) fun ds m1 vs H1 p1 g1 R1 r1 h1 => ?_
    by_cases hl : ds.length ≤ LIM
    · rw [if_pos hl] at h1
      refine ⟨by rw [r1.length, ← LIM_eq]; exact hl, fun p hp => ?_⟩
      have gn : Grow p1 H1 p1 (upd H1 p (.tup vs)) := Grow.new hp
      exact h1 (.ref p) _ p1 (g1.trans gn) ⟨R1.sto.len, R1.sto.nd, fun l o e => let ⟨a, ho, q1, q2, q3⟩ := R1.sto.at_ l o e; ⟨a, ho, q1, by rw [upd_ne (ne_of_none q2 hp)]; exact q2, q3.mono gn.w fun _ z => z⟩⟩ (.tup (SqT.of upd_same) (r1.grow gn))
    · rw [if_neg hl] at h1; exact h1.elim
/-- the store stays where a new object is laid -/
theorem Sto.new {P : Program} {w : World} {K : PySem.W.Frag} {ps : List Addr} {H : Hp} {μ : Mu} {p : Addr} {o : HO} (s : Sto P w K pn ps H μ) (hp : H p = none) : Sto P w K pn ps (upd H p o) μ :=
  ⟨s.len, s.nd, fun l u e => let ⟨a, ho, q1, q2, q3⟩ := s.at_ l u e; ⟨a, ho, q1, by rw [upd_ne (ne_of_none q2 hp)]; exact q2, q3.mono (Grow.new hp).w fun _ z => z⟩⟩
theorem Sto.notIn {P : Program} {w : World} {K : PySem.W.Frag} {ps : List Addr} {H : Hp} {μ : Mu} {p : Addr} (s : Sto P w K pn ps H μ) (hp : H p = none) : p ∉ ps := fun hm => by
  obtain ⟨l, hl, e⟩ := List.mem_iff_getElem.mp hm
  have hl2 : l < μ.length := by rw [← s.len]; exact hl
  obtain ⟨ho, h1, _⟩ := s.get (List.getElem?_eq_getElem hl2) (by rw [List.getElem?_eq_getElem hl, e])
  rw [h1] at hp; cases hp
theorem d_lst (h : DAD X pn ads es) : DE X pn (xLst ads) (.List es pos) := fun Wx tk =>
  PE_imp (pe_lst (h Wx tk)) fun σ H Q ⟨ps, ρ, μ, Rr, h⟩ => by
    refine tAD_bind (Po := PoE X pn Wx ps σ H Q) Rr h (fun e m' h => h) (fun h => h) fun ds m1 vs H1 p1 g1 R1 r1 h1 => ?_
    by_cases hl : ds.length ≤ LIM
    · rw [if_pos hl] at h1
      refine ⟨by rw [r1.length, ← LIM_eq]; exact hl, fun p hp => ?_⟩
      have gn : Grow p1 H1 p1 (upd H1 p (.lst vs)) := Grow.new hp
      exact h1 (.ref p) _ p1 (g1.trans gn) (R1.sto.new hp) ⟨p, _, rfl, g1.back hp, R1.sto.notIn hp, upd_same, (r1.grow gn : RVs X.K pn p1 (upd H1 p (.lst vs)) vs ds)⟩
    · rw [if_neg hl] at h1; exact h1.elim
end
end Dn

set_option Elab.async false
set_option linter.all false
set_option maxRecDepth 100000
set_option maxHeartbeats 4000000
set_option autoImplicit false
/-! Dn4: statements, defs, calls. -/
namespace Dn
open PySem PySem.Spec L2

inductive Fl where
  | nx | bk | ct | rt (d : D)
inductive RS where
  | ok (f : Fl) (ρ : Rho) (m : Mu) | ex (e : D) (ρ : Rho) (m : Mu) | no
abbrev SX := Rho → Mu → RS
/-- run a piece, then go on -/
def RS.of {α : Type} (r : R α) (ρ : Rho) (f : α → Mu → RS) : RS := match r with
  | .ok a m => f a m
  | .ex e m => .ex e ρ m
  | .no => .no
section
variable (X : Cf) (pn : List (Addr × Obj)) (Wx : WX)
def PoS (ps : List Addr) (σ : L2.St) (H : Hp) (D : Ends) : RS → Prop
  | .ok .nx ρ' m' => ∀ σ' H' ps', Grow ps H ps' H' → Rl X pn ps' σ' H' ρ' m' → D.nx σ' H'
  | .ok .bk ρ' m' => ∀ σ' H' ps', Grow ps H ps' H' → Rl X pn ps' σ' H' ρ' m' → D.bk σ' H'
  | .ok .ct ρ' m' => ∀ σ' H' ps', Grow ps H ps' H' → Rl X pn ps' σ' H' ρ' m' → D.ct σ' H'
  | .ok (.rt d) ρ' m' => ∀ v H' ps', Grow ps H ps' H' → Sto X.prog X.w X.K pn ps' H' m' → RV X.K pn ps' H' v d → D.rt v H'
  | .ex e ρ' m' => ∀ cls d σ' H' ps', Grow ps H ps' H' → Rl X pn ps' σ' H' ρ' m' → RX X.K pn ps' H' cls d e → Wx cls d σ' H'
  | .no => False
def tS (s : SX) : TS := fun D σ H => ∃ ps ρ μ, Rl X pn ps σ H ρ μ ∧ PoS X pn Wx ps σ H D (s ρ μ)
end
def DS (X : Cx) (pn : List (Addr × Obj)) (s : SX) (st : Stmt) : Prop := ∀ Wx, Takes X Wx → PS X st (tS X pn Wx s)
def DSs (X : Cx) (pn : List (Addr × Obj)) (s : SX) (st : List Stmt) : Prop := ∀ Wx, Takes X Wx → PSs X st (tS X pn Wx s)
section
variable {X : Cf} {pn : List (Addr × Obj)} {Wx : WX} {ps p1 : List Addr} {σ : L2.St} {H H1 : Hp} {ρ : Rho} {μ : Mu} {D : Ends}
theorem PoS.base {σ' : L2.St} {r : RS} (g : Grow ps H p1 H1) (h : PoS X pn Wx ps σ H D r) : PoS X pn Wx p1 σ' H1 D r := by
  cases r with
  | ok f ρ' m' =>
    cases f with
    | nx => exact fun σ' H' ps' g' r => h σ' H' ps' (g.trans g') r
    | bk => exact fun σ' H' ps' g' r => h σ' H' ps' (g.trans g') r
    | ct => exact fun σ' H' ps' g' r => h σ' H' ps' (g.trans g') r
    | rt d => exact fun v H' ps' g' s r => h v H' ps' (g.trans g') s r
  | ex e ρ' m' => exact fun cls d σ' H' ps' g' s r => h cls d σ' H' ps' (g.trans g') s r
  | no => exact h
/-- an expression within a statement -/
theorem tE_of {f : Wv → Mu → RS} {m : EX} {k : VK} (Rr : Rl X pn ps σ H ρ μ) (h : PoS X pn Wx ps σ H D (RS.of (m ρ μ) ρ f))
    (hk : ∀ w m1 v H1 p1, Grow ps H p1 H1 → Rl X pn p1 σ H1 ρ m1 → RW X pn H p1 H1 v w → PoS X pn Wx ps σ H D (f w m1) → k v H1) : tE X pn Wx m σ H k := by
  refine ⟨ps, ρ, μ, Rr, ?_⟩
  unfold RS.of at h
  cases q : m ρ μ with
  | ok w m1 => rw [q] at h; exact fun v H1 p1 g s r => hk w m1 v H1 p1 g (Rr.step g s) r h
  | ex e m1 => rw [q] at h; exact fun cls d H' ps' g s r => h cls d σ H' ps' g (Rr.step g s) r
  | no => rw [q] at h; exact h.elim
theorem tT_of {f : Bool → Mu → RS} {m : TX} {k : Bool → Hp → Prop} (Rr : Rl X pn ps σ H ρ μ) (h : PoS X pn Wx ps σ H D (RS.of (m ρ μ) ρ f))
    (hk : ∀ b m1 H1 p1, Grow ps H p1 H1 → Rl X pn p1 σ H1 ρ m1 → PoS X pn Wx ps σ H D (f b m1) → k b H1) : tT X pn Wx m σ H k := by
  refine ⟨ps, ρ, μ, Rr, ?_⟩
  unfold RS.of at h
  cases q : m ρ μ with
  | ok w m1 => rw [q] at h; exact fun H1 p1 g s => hk w m1 H1 p1 g (Rr.step g s) h
  | ex e m1 => rw [q] at h; exact fun cls d H' ps' g s r => h cls d σ H' ps' g (Rr.step g s) r
  | no => rw [q] at h; exact h.elim
/-- .. put into the store -/
theorem settle_of {f : Dn.D → Mu → RS} {v : V} {w : Wv} {m1 : Mu} {ρ' : Rho} {Po : RS → Prop} (g : Grow ps H p1 H1) (R1 : Rl X pn p1 σ H1 ρ m1) (r : RW X pn H p1 H1 v w) (h : Po (RS.of (settle w m1) ρ' f)) :
    ∃ d m2 p2, Grow ps H p2 H1 ∧ Gw p1 H1 p2 H1 ∧ Rl X pn p2 σ H1 ρ m2 ∧ RV X.K pn p2 H1 v d ∧ Po (f d m2) := by
  obtain ⟨d, m2, e, p2, g2, gw, s2, rv⟩ := settle_ok g R1.sto r
  unfold RS.of at h
  rw [e] at h
  exact ⟨d, m2, p2, g2, gw, ⟨s2, R1.len, fun i x q => let ⟨u, h1, h2⟩ := R1.slot i x q; ⟨u, h1, h2.mono gw fun _ z => z⟩⟩, rv, h⟩
theorem Rl.setSlot {i : Nat} {v : V} {d : Dn.D} (Rr : Rl X pn ps σ H ρ μ) (r : RV X.K pn ps H v d) : Rl X pn ps (σ.set i (some v)) H (ρ.set i (some d)) μ := by
  refine ⟨Rr.sto, by rw [List.length_set, List.length_set]; exact Rr.len, fun j x e => ?_⟩
  by_cases q : i = j
  · subst q
    have hl : i < ρ.length := by
      have := (List.getElem?_eq_some_iff.mp e).1
      rwa [List.length_set] at this
    rw [List.getElem?_set_self hl] at e
    cases e
    exact ⟨v, List.getElem?_set_self (by rw [Rr.len]; exact hl), r⟩
  · rw [List.getElem?_set_ne q] at e
    obtain ⟨u, h1, h2⟩ := Rr.slot j x e
    exact ⟨u, by rw [List.getElem?_set_ne q]; exact h1, h2⟩
end

/-! ### blocks -/
def sNil : SX := fun ρ m => .ok .nx ρ m
def sSeq (s t : SX) : SX := fun ρ m => match s ρ m with
  | .ok .nx ρ' m' => t ρ' m'
  | r => r
section
variable {X : Cx} {pn : List (Addr × Obj)} {st : Stmt} {sts : List Stmt} {s t : SX} {pos : Pos} {e c : Expr} {m : EX} {mc : TX}
theorem ds_nil : DSs X pn sNil [] := fun Wx tk => PSs_imp pss_nil fun D σ H ⟨ps, ρ, μ, Rr, h⟩ => h σ H ps Grow.refl Rr
theorem ds_cons (h1 : DS X pn s st) (h2 : DSs X pn t sts) : DSs X pn (sSeq s t) (st :: sts) := fun Wx tk =>
  PSs_imp (pss_cons (h1 Wx tk) (h2 Wx tk)) fun D σ H ⟨ps, ρ, μ, Rr, h⟩ => by
    refine ⟨ps, ρ, μ, Rr, ?_⟩
    unfold sSeq at h
    cases q : s ρ μ with
    | no => rw [q] at h; exact h.elim
    | ex e ρ' m' => rw [q] at h; exact h
    | ok f ρ' m' =>
      rw [q] at h
      cases f with
      | nx => exact fun σ' H' ps' g R' => ⟨ps', ρ', m', R', h.base g⟩
      | bk => exact h
      | ct => exact h
      | rt d => exact h
theorem ds_one (h1 : DS X pn s st) : DSs X pn s [st] := fun Wx tk => pss_one (h1 Wx tk)
def sBreak : SX := fun ρ m => .ok .bk ρ m
def sCont : SX := fun ρ m => .ok .ct ρ m
theorem ds_pass : DS X pn sNil (.Pass pos) := fun Wx tk => PS_imp ps_pass fun D σ H ⟨ps, ρ, μ, Rr, h⟩ => h σ H ps Grow.refl Rr
theorem ds_break : DS X pn sBreak (.Break pos) := fun Wx tk => PS_imp ps_break fun D σ H ⟨ps, ρ, μ, Rr, h⟩ => h σ H ps Grow.refl Rr
theorem ds_cont : DS X pn sCont (.Continue pos) := fun Wx tk => PS_imp ps_continue fun D σ H ⟨ps, ρ, μ, Rr, h⟩ => h σ H ps Grow.refl Rr
def sIf (c : TX) (s t : SX) : SX := fun ρ m => RS.of (c ρ m) ρ fun b m' => bif b then s ρ m' else t ρ m'
theorem ds_if {a b : List Stmt} (hc : DT X pn mc c) (ha : DSs X pn s a) (hb : DSs X pn t b) : DS X pn (sIf mc s t) (.If c a b pos) := fun Wx tk =>
  PS_imp (ps_if (hc Wx tk) (ha Wx tk) (hb Wx tk)) fun D σ H ⟨ps, ρ, μ, Rr, h⟩ => by
    refine tT_of Rr h fun k m1 H1 p1 g1 R1 h1 => ?_
    cases k with
    | true => exact ⟨p1, ρ, m1, R1, h1.base g1⟩
    | false => exact ⟨p1, ρ, m1, R1, h1.base g1⟩
def sRet (m : EX) : SX := fun ρ mu => RS.of (m ρ mu) ρ fun w m1 => RS.of (settle w m1) ρ fun d m2 => .ok (.rt d) ρ m2
theorem ds_ret (h : DE X pn m e) : DS X pn (sRet m) (.Return (some e) pos) := fun Wx tk =>
  PS_imp (ps_ret (h Wx tk)) fun D σ H ⟨ps, ρ, μ, Rr, h⟩ => by
    refine tE_of Rr h fun w m1 v H1 p1 g1 R1 r1 h1 => ?_
    obtain ⟨d, m2, p2, g2, gw, R2, rv, h2⟩ := settle_of g1 R1 r1 h1
    exact h2 v H1 p2 g2 R2.sto rv
def sRetN : SX := fun ρ mu => .ok (.rt .non) ρ mu
theorem ds_retN : DS X pn sRetN (.Return none pos) := fun Wx tk => PS_imp ps_retN fun D σ H ⟨ps, ρ, μ, Rr, h⟩ => h .non H ps Grow.refl Rr.sto .non
def sDrop (m : EX) : SX := fun ρ mu => RS.of (m ρ mu) ρ fun _ m1 => .ok .nx ρ m1
theorem ds_expr (he : DE X pn m e) (hs : swapsWith e none pos.line X.env = pure false := by rfl) : DS X pn (sDrop m) (.Expr e pos) := fun Wx tk =>
  PS_imp (ps_expr (he Wx tk) hs) fun D σ H ⟨ps, ρ, μ, Rr, h⟩ => tE_of Rr h fun w m1 v H1 p1 g1 R1 r1 h1 => h1 σ H1 p1 g1 R1
def sSet (i : Nat) (m : EX) : SX := fun ρ mu => RS.of (m ρ mu) ρ fun w m1 => RS.of (settle w m1) ρ fun d m2 => .ok .nx (ρ.set i (some d)) m2
theorem sSet_run {i : Nat} {Wx : WX} {D : Ends} {σ : L2.St} {H : Hp} (h : tS X pn Wx (sSet i m) D σ H) : tE X pn Wx m σ H fun x H1 => D.nx (σ.set i (some x)) H1 := by
  obtain ⟨ps, ρ, μ, Rr, h⟩ := h
  refine tE_of Rr h fun w m1 v H1 p1 g1 R1 r1 h1 => ?_
  obtain ⟨d, m2, p2, g2, gw, R2, rv, h2⟩ := settle_of g1 R1 r1 h1
  exact h2 _ H1 p2 g2 (R2.setSlot rv)
theorem ds_set {i : Nat} {x : Str} {pos' : Pos} (hN : X.N.Nodup) (hi : X.N[i]? = some x) (hx : Loc X.env.scope x) (he : DE X pn m e) (hs : swapsWith e (some (.Name x pos')) pos.line X.env = pure false := by rfl) (hf : X.fn x = true ∨ X.env.scope.names.lookup x = some .local := by first | exact .inl rfl | exact .inr rfl | assumption) :
    DS X pn (sSet i m) (.Assign [.Name x pos'] e pos) := fun Wx tk => PS_imp (ps_set hN hi hx (he Wx tk) hs hf) fun D σ H h => sSet_run h
/-- name op= e -/
def sAug (i : Nat) (g : Wv → Wv → Mu → Option Wv) (m : EX) : SX := fun ρ mu => match ρ[i]? with
  | some (some a) => RS.of (m ρ mu) ρ fun y m1 => RS.of (M.opt (g (.d a) y) m1) ρ fun w m2 => RS.of (settle w m2) ρ fun d m3 => .ok .nx (ρ.set i (some d)) m3
  | _ => .no
theorem ds_aug {i : Nat} {x : Str} {op : Operator} {g : Wv → Wv → Mu → Option Wv} {pos' : Pos} (hN : X.N.Nodup) (hi : X.N[i]? = some x) (hx : Loc X.env.scope x) (he : DE X pn m e) (ho : PIp X op (rO X pn g)) (hf : X.fn x = true ∨ X.env.scope.names.lookup x = some .local := by first | exact .inl rfl | exact .inr rfl | assumption) :
    DS X pn (sAug i g m) (.AugAssign (.Name x pos') op e pos) := fun Wx tk =>
  PS_imp (ps_aug hN hi hx (he Wx tk) ho hf) fun D σ H ⟨ps, ρ, μ, Rr, h⟩ => by
    unfold sAug at h
    cases q : ρ[i]? with
    | none => rw [q] at h; exact h.elim
    | some o =>
      cases o with
      | none => rw [q] at h; exact h.elim
      | some a =>
        rw [q] at h
        obtain ⟨xv, e1, ra⟩ := Rr.slot i a q
        refine ⟨xv, e1, ?_⟩
        refine tE_of Rr h fun y m1 yv H1 p1 g1 R1 r1 h1 => ?_
        unfold RS.of M.opt at h1
        cases qg : g (.d a) y m1 with
        | none => rw [qg] at h1; exact h1.elim
        | some z =>
          rw [qg] at h1
          refine ⟨H, p1, m1, .d a, y, z, R1.sto, RV.grow g1 ra, r1, qg, fun zv H2 p2 g2 s2 r2 => ?_⟩
          have R2 := R1.step g2 s2
          obtain ⟨d, m3, p3, g3, gw, R3, rv, h3⟩ := settle_of (Po := PoS X pn Wx ps σ H D) (g1.trans g2) R2 (r2.base g1) h1
          exact h3 _ H2 p3 g3 (R3.setSlot rv)
end

/-! ### targets -/
/-- what a target does: d into the slots sl -/
def tG (X : Cf) (pn : List (Addr × Obj)) (g : D → Rho → Option Rho) (sl : List Nat) : TG := fun v σ H Q => ∃ ps ρ μ d ρ', Rl X pn ps σ H ρ μ ∧ RV X.K pn ps H v d ∧ g d ρ = some ρ' ∧
  ∀ σ', σ'.length = σ.length → (∀ j, j ∉ sl → σ'[j]? = σ[j]?) → Rl X pn ps σ' H ρ' μ → Q σ' H
def DG (X : Cx) (pn : List (Addr × Obj)) (g : D → Rho → Option Rho) (sl : List Nat) (t : Expr) : Prop := PG X t (tG X pn g sl)
def tGs (X : Cf) (pn : List (Addr × Obj)) (g : List D → Rho → Option Rho) (sl : List Nat) : TGs := fun vs σ H Q => ∃ ps ρ μ ds ρ', Rl X pn ps σ H ρ μ ∧ RVs X.K pn ps H vs ds ∧ g ds ρ = some ρ' ∧
  ∀ σ', σ'.length = σ.length → (∀ j, j ∉ sl → σ'[j]? = σ[j]?) → Rl X pn ps σ' H ρ' μ → Q σ' H
def DGs (X : Cx) (pn : List (Addr × Obj)) (g : List D → Rho → Option Rho) (sl : List Nat) (ts : List Expr) : Prop := PGs X ts (tGs X pn g sl)
def gN (i : Nat) : D → Rho → Option Rho := fun d ρ => some (ρ.set i (some d))
def gT (n : Nat) (g : List D → Rho → Option Rho) : D → Rho → Option Rho
  | .tup ds, ρ => if ds.length = n then g ds ρ else none
  | _, _ => none
def gsNil : List D → Rho → Option Rho
  | [], ρ => some ρ
  | _, _ => none
def gsCons (g : D → Rho → Option Rho) (gs : List D → Rho → Option Rho) : List D → Rho → Option Rho
  | d :: ds, ρ => (g d ρ).bind (gs ds)
  | _, _ => none
section
variable {X : Cx} {pn : List (Addr × Obj)} {pos : Pos} {g : D → Rho → Option Rho} {gs : List D → Rho → Option Rho} {sl sm : List Nat} {e : Expr} {es : List Expr}
theorem PG_imp {t t' : TG} (h : PG X e t) (i : ∀ v σ H Q, t' v σ H Q → t v σ H Q) : PG X e t' := ⟨fun pins s σ H v u Q I r q => h.run pins s σ H v u Q I r (i v σ H Q q)⟩
theorem PGs_imp {t t' : TGs} (h : PGs X es t) (i : ∀ v σ H Q, t' v σ H Q → t v σ H Q) : PGs X es t' := ⟨fun pins s σ H v u Q I r q => h.run pins s σ H v u Q I r (i v σ H Q q)⟩
theorem dg_name {i : Nat} {x : Str} (hN : X.N.Nodup) (hi : X.N[i]? = some x) (hx : Loc X.env.scope x) (hf : X.fn x = true ∨ X.env.scope.names.lookup x = some .local := by first | exact .inl rfl | exact .inr rfl | assumption) : DG X pn (gN i) [i] (.Name x pos) :=
  PG_imp (pg_name hN hi hx hf) fun v σ H Q ⟨ps, ρ, μ, d, ρ', Rr, r, e, k⟩ => by
    cases e
    exact k _ (List.length_set ..) (fun j hj => List.getElem?_set_ne (fun e => hj (by rw [e]; exact List.mem_singleton.mpr rfl))) (Rr.setSlot r)
theorem dgs_nil : DGs X pn gsNil [] [] := PGs_imp pgs_nil fun vs σ H Q ⟨ps, ρ, μ, ds, ρ', Rr, r, e, k⟩ => by
  cases r with
  | nil => cases e; exact ⟨rfl, k σ rfl (fun _ _ => rfl) Rr⟩
  | cons h r => cases e
theorem dgs_cons (h1 : DG X pn g sl e) (h2 : DGs X pn gs sm es) (hs : (assignEach (e :: es) X.env).map (·.2) = assign e X.env :: (assignEach es X.env).map (·.2) := by rfl) : DGs X pn (gsCons g gs) (sl ++ sm) (e :: es) :=
  PGs_imp (pgs_cons h1 h2 hs) fun vs σ H Q ⟨ps, ρ, μ, ds, ρ', Rr, r, e, k⟩ => by
    cases r with
    | nil => cases e
    | @cons v vs d ds h r =>
      obtain ⟨ρ1, e1, e2⟩ := Option.bind_eq_some_iff.mp (show (g d ρ).bind (gs ds) = some ρ' from e)
      refine ⟨v, vs, rfl, ps, ρ, μ, d, ρ1, Rr, h, e1, fun σ1 l1 k1 R1 => ⟨ps, ρ1, μ, ds, ρ', R1, r, e2, fun σ2 l2 k2 R2 => k σ2 (l2.trans l1) (fun j hj => ?_) R2⟩⟩
      rw [k2 j (fun q => hj (List.mem_append_right _ q)), k1 j (fun q => hj (List.mem_append_left _ q))]
theorem dg_tup {es : List Expr} {k : Nat} {n : Nat} (hc : X.calm = true) (h : DGs X pn gs sl es) (hn : (assignEach es X.env).length = n := by rfl) (hst : (assignEach es X.env).findIdx? (·.1) = none := by rfl) :
    DG X pn (gT n gs) sl (.Tuple es k pos) :=
  PG_imp (pg_tup hc h hn hst) fun v σ H Q ⟨ps, ρ, μ, d, ρ', Rr, r, e, kk⟩ => by
    cases d <;> try (cases e; done)
    rename_i ds
    cases r with
    | @tup a vs _ hq rr =>
      have e : (if ds.length = n then gs ds ρ else none) = some ρ' := e
      by_cases hl : ds.length = n
      · rw [if_pos hl] at e
        exact ⟨a, vs, rfl, hq, rr.length.trans hl, ps, ρ, μ, ds, ρ', Rr, rr, e, kk⟩
      · rw [if_neg hl] at e; cases e
/-- target = e -/
def sAsg (g : D → Rho → Option Rho) (m : EX) : SX := fun ρ mu => RS.of (m ρ mu) ρ fun w m1 => RS.of (settle w m1) ρ fun d m2 => match g d ρ with
  | some ρ' => .ok .nx ρ' m2
  | none => .no
theorem ds_asg {tg : Expr} {m : EX} (he : DE X pn m e) (hg : DG X pn g sl tg) (hs : swapsWithSole [tg] e pos.line X.env = pure false := by rfl) (hw : swappedStores [tg] e X.env = pure none := by rfl)
    (h1 : (assignEach [tg] X.env).map (·.2) = [assign tg X.env] := by rfl) : DS X pn (sAsg g m) (.Assign [tg] e pos) := fun Wx tk =>
  PS_imp (ps_asg (he Wx tk) hg hs hw h1) fun D σ H ⟨ps, ρ, μ, Rr, h⟩ => by
    refine tE_of Rr h fun w m1 v H1 p1 g1 R1 r1 h1 => ?_
    obtain ⟨d, m2, p2, g2, gw, R2, rv, h2⟩ := settle_of (Po := PoS X pn Wx ps σ H D) g1 R1 r1 h1
    cases q : g d ρ with
    | none => rw [q] at h2; exact h2.elim
    | some ρ' =>
      rw [q] at h2
      exact ⟨p2, ρ, m2, d, ρ', R2, rv, q, fun σ' _ _ R' => h2 σ' H1 p2 g2 R'⟩
end

/-! ### while -/
def sWhileN (c : TX) (b : SX) : Nat → SX
  | 0 => fun _ _ => .no
  | n + 1 => fun ρ m => RS.of (c ρ m) ρ fun k m1 => bif k then (match b ρ m1 with
      | .ok .nx ρ2 m2 => sWhileN c b n ρ2 m2
      | .ok .ct ρ2 m2 => sWhileN c b n ρ2 m2
      | .ok .bk ρ2 m2 => .ok .nx ρ2 m2
      | r => r) else .ok .nx ρ m1
/-- as many turns as it takes -/
noncomputable def sWhile (c : TX) (b : SX) : SX := fun ρ m => open Classical in if h : ∃ n, sWhileN c b n ρ m ≠ .no then sWhileN c b (Classical.choose h) ρ m else .no
theorem sWhileN_mono (c : TX) (b : SX) : ∀ (n k : Nat) (ρ : Rho) (m : Mu), sWhileN c b n ρ m ≠ .no → sWhileN c b (n + k) ρ m = sWhileN c b n ρ m
  | 0, _, _, _, h => absurd rfl h
  | n + 1, k, ρ, m, h => by
    rw [Nat.add_right_comm]
    unfold sWhileN at h ⊢
    cases q : c ρ m with
    | ex e m1 => rfl
    | no => rfl
    | ok t m1 =>
      rw [q] at h
      cases t with
      | false => rfl
      | true =>
        simp only [RS.of, cond_true] at h ⊢
        cases q2 : b ρ m1 with
        | no => rfl
        | ex e ρ2 m2 => rfl
        | ok f ρ2 m2 =>
          rw [q2] at h
          cases f with
          | nx => exact sWhileN_mono c b n k ρ2 m2 h
          | ct => exact sWhileN_mono c b n k ρ2 m2 h
          | bk => rfl
          | rt d => rfl
theorem sWhile_eq {c : TX} {b : SX} {n : Nat} {ρ : Rho} {m : Mu} (h : sWhileN c b n ρ m ≠ .no) : sWhile c b ρ m = sWhileN c b n ρ m := by
  have hx : ∃ n, sWhileN c b n ρ m ≠ .no := ⟨n, h⟩
  have e : sWhile c b ρ m = sWhileN c b (Classical.choose hx) ρ m := by
    unfold sWhile
    exact dif_pos hx
  rw [e]
  have h2 := Classical.choose_spec hx
  rw [← sWhileN_mono c b _ n ρ m h2, ← sWhileN_mono c b n (Classical.choose hx) ρ m h, Nat.add_comm]
section
variable {X : Cx} {pn : List (Addr × Obj)} {c : Expr} {body : List Stmt} {mc : TX} {b : SX} {pos : Pos}
theorem ds_while (hp : PassesOwn (model X.prog X.w) X.A X.env X.xe) (hc : DT X pn mc c) (hb : DSs X pn b body) : DS X pn (sWhile mc b) (.While c body [] pos) := fun Wx tk =>
  PS_imp (ps_while hp (hc Wx tk) (hb Wx tk)) fun D σ H ⟨ps, ρ, μ, Rr, h⟩ => by
    have hx : ∃ n, sWhileN mc b n ρ μ ≠ .no := by
      refine Classical.byContradiction fun hx => ?_
      have e : sWhile mc b ρ μ = .no := by
        unfold sWhile
        exact dif_neg hx
      rw [e] at h; exact h
    obtain ⟨n0, hn0⟩ := hx
    rw [sWhile_eq hn0] at h
    refine ⟨fun n σ1 H1 => ∃ p1 ρ1 μ1, Grow ps H p1 H1 ∧ Rl X pn p1 σ1 H1 ρ1 μ1 ∧ PoS X pn Wx p1 σ1 H1 D (sWhileN mc b n ρ1 μ1), ⟨n0, ps, ρ, μ, Grow.refl, Rr, h⟩, ?_⟩
    rintro n σ1 H1 ⟨p1, ρ1, μ1, g1, R1, h1⟩
    cases n with
    | zero => exact h1.elim
    | succ n =>
      unfold sWhileN at h1
      refine tT_of R1 h1 fun k m2 H2 p2 g2 R2 h2 => ?_
      cases k with
      | false => exact h2 σ1 H2 p2 g2 R2
      | true =>
        rw [if_pos rfl]
        refine ⟨fun σ3 H3 => ∃ p3 ρ3 μ3, Grow ps H p3 H3 ∧ Rl X pn p3 σ3 H3 ρ3 μ3 ∧ PoS X pn Wx p3 σ3 H3 D (sWhileN mc b n ρ3 μ3), fun σ3 H3 hN => ⟨n, Nat.lt_succ_self n, hN⟩, p2, ρ1, m2, R2, ?_⟩
        simp only [cond_true] at h2
        cases q : b ρ1 m2 with
        | no => rw [q] at h2; exact h2.elim
        | ex e ρ3 m3 => rw [q] at h2; exact PoS.base (σ := σ1) (σ' := σ1) (D := D) (r := .ex e ρ3 m3) g2 h2
        | ok f ρ3 m3 =>
          rw [q] at h2
          cases f with
          | nx => exact fun σ3 H3 p3 g3 R3 => ⟨p3, ρ3, m3, (g1.trans g2).trans g3, R3, h2.base (g2.trans g3)⟩
          | ct => exact fun σ3 H3 p3 g3 R3 => ⟨p3, ρ3, m3, (g1.trans g2).trans g3, R3, h2.base (g2.trans g3)⟩
          | bk => exact fun σ3 H3 p3 g3 R3 => h2 σ3 H3 p3 (g2.trans g3) R3
          | rt d => exact fun v H3 p3 g3 s3 r3 => h2 v H3 p3 (g2.trans g3) s3 r3
end
end Dn

set_option Elab.async false
set_option linter.all false
set_option maxRecDepth 100000
set_option maxHeartbeats 4000000
set_option autoImplicit false
/-! Dn5: defs, calls, own classes. -/
namespace Dn
open PySem PySem.Spec L2

abbrev FM := List D → M D
/-- a def with n parameters, N names in all, and the body s -/
def fnM (n N : Nat) (s : SX) : FM := fun ds mu => if ds.length = n then (match s (ds.map some ++ List.replicate (N - n) none) mu with
  | .ok (.rt d) _ m => .ok d m
  | .ok .nx _ m => .ok .non m
  | .ok _ _ _ => .no
  | .ex e _ m => .ex e m
  | .no => .no) else .no
section
variable (P : Program) (w : World) (K : PySem.W.Frag)
def PoF (ps : List Addr) (H : Hp) (Q : VK) (E : XK) : R D → Prop
  | .ok d m => ∀ v H' ps', Grow ps H ps' H' → Sto P w K [] ps' H' m → RV K [] ps' H' v d → Q v H'
  | .ex e m => ∀ cls dx H' ps', Grow ps H ps' H' → Sto P w K [] ps' H' m → RX K [] ps' H' cls dx e → E cls dx H'
  | .no => False
/-- the promise: what F says -/
def spF (n : Nat) (F : FM) : Sp := fun vs H Q E => ∃ ps ds mu, ds.length = n ∧ Sto P w K [] ps H mu ∧ RVs K [] ps H vs ds ∧ PoF P w K ps H Q E (F ds mu)
end
section
variable {P : Program} {w : World} {K : PySem.W.Frag} {mg : Str → Option Value} {base : Heap} {k n : Nat} {F : FM}
theorem spF.len {vs : List V} {H : Hp} {Q : VK} {E : XK} (h : spF P w K n F vs H Q E) : vs.length = n := by
  obtain ⟨ps, ds, mu, hl, s, r, _⟩ := h
  exact r.length.trans hl
theorem start_slot {N : List Str} {vs : List V} {ds : List D} {ps : List Addr} {H : Hp} (r : RVs K [] ps H vs ds) : ∀ (i : Nat) (d : D), (ds.map some ++ List.replicate (N.length - ds.length) none)[i]? = some (some d) → ∃ v, (L2.start N vs)[i]? = some (some v) ∧ RV K [] ps H v d := by
  intro i d e
  have hi : i < ds.length := by
    by_cases hi : i < ds.length
    · exact hi
    · rw [List.getElem?_append_right (by rw [List.length_map]; omega), List.getElem?_replicate] at e
      split at e <;> cases e
  rw [List.getElem?_append_left (by rw [List.length_map]; exact hi), List.getElem?_map] at e
  obtain ⟨d', e1, e2⟩ := Option.map_eq_some_iff.mp e
  cases e2
  obtain ⟨v, h1, h2⟩ := r.get e1
  refine ⟨v, ?_, h2⟩
  unfold L2.start
  rw [List.getElem?_append_left (by rw [List.length_map, r.length]; exact hi), List.getElem?_map, h1]
  rfl
/-- a def's body keeps the promise -/
theorem fn_ok {x qual : Str} {params : Arguments} {body : List Stmt} {scope : Scope} {f : Addr} {fd : FuncData} {N ps : List Str} {s : SX} {n nN : Nat}
    (Fd : FunD K x qual params body scope [] [] f fd) (S : FnScope N ps scope) (hn : ps.length = n) (hN : N.length = nN)
    (hb : ∀ (cdv : Value) (A : Around) (outer : List Env) (s0 : Shared) (H : Hp) (E : XK), Room k (A.deeper (PyProof.Rows.envOfC qual scope s0.heap.objs.size f cdv)) → DSs (cxOf (L2.CX P w) P w K mg base N qual scope f cdv A outer s0 H E) [] s body) :
    FnOk P w K mg base (L2.CX P w) (k + 1) f fd ps (spF P w K n (fnM n nN s)) := by
  refine FunD.ok Fd S (fun vs H Q E h => by rw [spF.len h, hn]) (fun cdv A outer s0 H vs Q E hr h => ?_)
  obtain ⟨p0, ds, mu, hl, st, r, h⟩ := h
  have tk : Takes (cxOf (L2.CX P w) P w K mg base N qual scope f cdv A outer s0 H E) (fun cls d _ H => E cls d H) := takes_of rfl rfl rfl rfl
  have body := hb cdv A outer s0 H E hr _ tk
  refine ⟨_, body, p0, ds.map some ++ List.replicate (N.length - ds.length) none, mu, ⟨st, ?_, start_slot r⟩, ?_⟩
  · unfold L2.start
    rw [List.length_append, List.length_append, List.length_map, List.length_map, List.length_replicate, List.length_replicate, r.length]
  · unfold fnM at h
    rw [if_pos hl] at h
    rw [hN, hl]
    cases q : s (ds.map some ++ List.replicate (nN - n) none) mu with
    | no => rw [q] at h; exact h.elim
    | ex e ρ' m' => rw [q] at h; exact fun cls d σ' H' ps' g R' rx => h cls d H' ps' g R'.sto rx
    | ok fl ρ' m' =>
      rw [q] at h
      cases fl with
      | nx => exact fun σ' H' ps' g R' => h .non H' ps' g R'.sto .non
      | rt d => exact fun v H' ps' g s' r' => h v H' ps' g s' r'
      | bk => exact h.elim
      | ct => exact h.elim
end

/-! ### calls -/
/-- the global x is a def that does F -/
def Cal (P : Program) (w : World) (K : PySem.W.Frag) (mg : Str → Option Value) (base : Heap) (k : Nat) (x : Str) (n : Nat) (F : FM) : Prop :=
  ∃ f fd ps, mg x = some (.ref f) ∧ PySem.W.keepIn K (.ref f) = true ∧ Binds K fd ps [] ∧ FnOk P w K mg base (L2.CX P w) k f fd ps (spF P w K n F)
theorem Cal.mono {P : Program} {w : World} {K : PySem.W.Frag} {mg : Str → Option Value} {base : Heap} {j k : Nat} {x : Str} {n : Nat} {F : FM} (c : Cal P w K mg base j x n F) (h : j ≤ k) : Cal P w K mg base k x n F :=
  let ⟨f, fd, ps, a, b, d, e⟩ := c; ⟨f, fd, ps, a, b, d, e.mono h⟩
/-- the method m of the class c does F -/
def MCal (P : Program) (w : World) (K : PySem.W.Frag) (mg : Str → Option Value) (base : Heap) (k : Nat) (c m : Str) (n : Nat) (F : FM) : Prop :=
  ∃ f fd ps, Cls K (He.ga K c) ∧ Meth K (He.ga K c) m f ∧ Binds K fd ps [] ∧ FnOk P w K mg base (L2.CX P w) k f fd ps (spF P w K n F)
theorem MCal.mono {P : Program} {w : World} {K : PySem.W.Frag} {mg : Str → Option Value} {base : Heap} {j k : Nat} {c m : Str} {n : Nat} {F : FM} (q : MCal P w K mg base j c m n F) (h : j ≤ k) : MCal P w K mg base k c m n F :=
  let ⟨f, fd, ps, a, b, d, e⟩ := q; ⟨f, fd, ps, a, b, d, e.mono h⟩
/-- the class c is made by an __init__ that does F -/
def ICal (P : Program) (w : World) (K : PySem.W.Frag) (mg : Str → Option Value) (base : Heap) (k : Nat) (c : Str) (n : Nat) (F : FM) : Prop :=
  ∃ f fd ps, mg c = some (.ref (He.ga K c)) ∧ Mk K (He.ga K c) f ∧ Binds K fd ps [] ∧ FnOk P w K mg base (L2.CX P w) k f fd ps (spF P w K n F)
theorem ICal.mono {P : Program} {w : World} {K : PySem.W.Frag} {mg : Str → Option Value} {base : Heap} {j k : Nat} {c : Str} {n : Nat} {F : FM} (q : ICal P w K mg base j c n F) (h : j ≤ k) : ICal P w K mg base k c n F :=
  let ⟨f, fd, ps, a, b, d, e⟩ := q; ⟨f, fd, ps, a, b, d, e.mono h⟩

def xCall (n : Nat) (F : FM) (ads : AX) : EX := fun ρ => M.bind (ads ρ) fun ds => if ds.length = n then M.bind (F ds) fun d => M.ret (.d d) else M.no
section
variable {X : Cx} {Wx : WX} {ps p1 : List Addr} {σ : L2.St} {H H1 : Hp} {Q : VK} {F : FM} {n : Nat} {ads : AX}
theorem PoF.of {ds : List D} {m1 : Mu} (g : Grow ps H p1 H1) (h : PoE X [] Wx ps σ H Q (M.bind (F ds) (fun d => M.ret (.d d)) m1)) : PoF X.prog X.w X.K p1 H1 Q (WE Wx σ) (F ds m1) := by
  unfold M.bind at h
  cases q : F ds m1 with
  | no => rw [q] at h; exact h
  | ok d m2 => rw [q] at h; exact fun v H' ps' g' s r => h v H' ps' (g.trans g') s r
  | ex e m2 => rw [q] at h; exact fun cls dx H' ps' g' s r => h cls dx H' ps' (g.trans g') s r
theorem xCall_run (h : tE X [] Wx (xCall n F ads) σ H Q) : tAD X [] Wx ads σ H fun vs H1 => spF X.prog X.w X.K n F vs H1 Q (WE Wx σ) := by
  obtain ⟨ps, ρ, μ, Rr, h⟩ := h
  refine tAD_bind (Po := PoE X [] Wx ps σ H Q) Rr h (fun e m' h => h) (fun h => h) fun ds m1 vs H1 p1 g1 R1 r1 h1 => ?_
  by_cases hl : ds.length = n
  · rw [if_pos hl] at h1
    exact ⟨p1, ds, m1, hl, R1.sto, r1, PoF.of g1 h1⟩
  · rw [if_neg hl] at h1; exact h1.elim
end
section
variable {X : Cx} {k n : Nat} {F : FM} {ads : AX} {x m : Str} {p pos apos : Pos} {e o : Expr} {es : List Expr} {mo : EX}
theorem d_call (c : Cal X.prog X.w X.K X.mg X.base k x n F) (hr : Room k X.A) (hg : Gl X x) (ha : DAD X [] ads (e :: es)) (hdb : (x == ("__debug__" : Str)) = false := by decide)
    (he : starEach (e :: es) X.env = (false, eval e X.env) :: starEach es X.env := by rfl) (hpl : (backTo pos (starEach es X.env)).any (·.1) = false := by rfl) : DE X [] (xCall n F ads) (.Call (.Name x p) (e :: es) [] pos) := fun Wx tk => by
  obtain ⟨f, fd, ps, c1, c2, c3, c4⟩ := c
  exact PE_imp (pe_callS c4 hr hg c1 c2 c3 (fun σ => passAt tk σ) (ha Wx tk) hdb he hpl) fun σ H Q h => xCall_run h
theorem d_call0 (c : Cal X.prog X.w X.K X.mg X.base k x n F) (hr : Room k X.A) (hg : Gl X x) (hdb : (x == ("__debug__" : Str)) = false := by decide) : DE X [] (xCall n F adNil) (.Call (.Name x p) [] [] pos) := fun Wx tk => by
  obtain ⟨f, fd, ps, c1, c2, c3, c4⟩ := c
  refine ⟨fun pins s σ H Q I h => ?_⟩
  have h2 := xCall_run h
  have q : spF X.prog X.w X.K n F [] H Q (WE Wx σ) := by
    obtain ⟨p0, ρ, μ, Rr, z⟩ := h2
    exact z [] H p0 Grow.refl Rr.sto .nil
  refine wpAny_Call_Name_kw (ld_glob I hg c1 ?_ hdb)
  exact PySem.W.callWith_K0 I.kIn c2 (run_fnS (us := []) c4 hr c3 (passAt tk σ) I .nil q)

/-! ### own classes -/
/-- the classes that have the method, with what it does -/
abbrev MTab := List (Str × FM)
def MTab.get (t : MTab) (c : Str) : Option FM := (t.find? fun p => decide (p.1 = c)).map (·.2)
theorem MTab.mem {t : MTab} {c : Str} {F : FM} (h : t.get c = some F) : (c, F) ∈ t := by
  obtain ⟨⟨c', F'⟩, h1, h2⟩ := Option.map_eq_some_iff.mp h
  have e := List.find?_some h1
  simp only [decide_eq_true_eq] at e
  cases h2
  subst e
  exact List.mem_of_find?_eq_some h1
/-- o.m(..): m by the class of o; m is no attribute of it -/
def xMeth (m : Str) (n : Nat) (t : MTab) (o : EX) (ads : AX) : EX := fun ρ => M.bind (o ρ) fun w => match w with
  | .d (.loc l) => fun mu => match mu[l]? with
    | some (.ins c fs) => (match t.get c, (fs.find? fun p => decide (p.1 = m)).isNone with
      | some F, true => M.bind (ads ρ) (fun ds => if ds.length + 1 = n then M.bind (F (.loc l :: ds)) fun d => M.ret (.d d) else M.no) mu
      | _, _ => .no)
    | _ => .no
  | _ => M.no
theorem lookup_none {K : PySem.W.Frag} {pn : List (Addr × Obj)} {ps : List Addr} {H : Hp} {f : Str} : ∀ {fs : List (Str × V)} {ds : List (Str × D)}, Paired (RF K pn ps H) fs ds → (ds.find? fun p => decide (p.1 = f)) = none → fs.lookup f = none
  | _, _, .nil, _ => rfl
  | (a, v) :: fs, (b, d) :: ds, .cons h r, e => by
    obtain ⟨h1, h2⟩ := h
    simp only at h1
    subst h1
    rw [List.find?_cons] at e
    by_cases q : a = f
    · simp [q] at e
    · simp only [q, decide_false] at e
      rw [List.lookup_cons]
      have : (f == a) = false := by simp [Ne.symm q]
      rw [this]
      exact lookup_none r e
theorem lookup_some {K : PySem.W.Frag} {pn : List (Addr × Obj)} {ps : List Addr} {H : Hp} {f : Str} {p : Str × D} : ∀ {fs : List (Str × V)} {ds : List (Str × D)}, Paired (RF K pn ps H) fs ds → (ds.find? fun p => decide (p.1 = f)) = some p → ∃ v, fs.lookup f = some v ∧ RV K pn ps H v p.2
  | _, _, .nil, e => by simp at e
  | (a, v) :: fs, (b, d) :: ds, .cons h r, e => by
    obtain ⟨h1, h2⟩ := h
    simp only at h1
    subst h1
    rw [List.find?_cons] at e
    by_cases q : a = f
    · simp only [q, decide_true] at e
      cases e
      refine ⟨v, ?_, h2⟩
      rw [List.lookup_cons, q]
      simp
    · simp only [q, decide_false] at e
      rw [List.lookup_cons]
      have : (f == a) = false := by simp [Ne.symm q]
      rw [this]
      exact lookup_some r e
/-- the receiver's reading: what is wanted behind the arguments -/
theorem meth_read {t : MTab} {Wx : WX} {σ : L2.St} {H : Hp} {Q : VK} (h : tE X [] Wx (xMeth m n t mo ads) σ H Q) : tE X [] Wx mo σ H fun x H1 => ∃ a c dx fs F, (c, F) ∈ t ∧ x = .ref a ∧ H1 a = some (.ins (He.ga X.K c) dx fs) ∧ fs.lookup m = none ∧
    tAD X [] Wx ads σ H1 fun vs H2 => spF X.prog X.w X.K n F (.ref a :: vs) H2 Q (WE Wx σ) := by
  obtain ⟨ps, ρ, μ, Rr, h⟩ := h
  refine tE_bind (Po := PoE X [] Wx ps σ H Q) Rr h (fun e m' h => h) (fun h => h) fun w1 m1 v1 H1 p1 g1 R1 r1 h1 => ?_
  cases w1 with
  | o o => exact h1.elim
  | d d =>
    cases d <;> try exact h1.elim
    rename_i l
    cases r1 with
    | @loc a _ hl =>
      dsimp only at h1
      cases q : m1[l]? with
      | none => rw [q] at h1; exact h1.elim
      | some o =>
        rw [q] at h1
        cases o <;> try exact h1.elim
        rename_i c ds
        dsimp only at h1
        cases qt : t.get c with
        | none => rw [qt] at h1; exact h1.elim
        | some F =>
          rw [qt] at h1
          cases qf : (ds.find? fun p => decide (p.1 = m)) with
          | some z => rw [qf] at h1; exact h1.elim
          | none =>
            rw [qf] at h1
            obtain ⟨ho, e1, e2⟩ := R1.sto.get q hl
            cases ho <;> first | exact e2.elim | (rename_i u; cases u <;> exact e2.elim) | skip
            rename_i C dx fs
            obtain ⟨ec, pf⟩ := e2
            subst ec
            refine ⟨a, c, dx, fs, F, MTab.mem qt, rfl, e1, lookup_none pf qf, ?_⟩
            refine tAD_bind (Po := PoE X [] Wx ps σ H Q) R1 h1 (fun e m' h cls d H' ps' g s r => h cls d H' ps' (g1.trans g) s r) (fun h => h) fun ds2 m2 vs H2 p2 g2 R2 r2 h2 => ?_
            by_cases hn : ds2.length + 1 = n
            · rw [if_pos hn] at h2
              exact ⟨p2, .loc l :: ds2, m2, hn, R2.sto, .cons (.loc (g2.w.pre hl)) r2, PoF.of (g1.trans g2) h2⟩
            · rw [if_neg hn] at h2; exact h2.elim
theorem d_meth {t : MTab} {pl : Sem Bool} (ho : DE X [] mo o) (ht : ∀ c F, (c, F) ∈ t → MCal X.prog X.w X.K X.mg X.base k c m n F) (hr : Room k X.A) (ha : DAD X [] ads (e :: es))
    (hst : starEach (e :: es) X.env = (false, eval e X.env) :: starEach es X.env := by rfl) (hpl : (backTo pos (starEach es X.env)).any (·.1) = false := by rfl)
    (hev : eval (.Call (.Attribute o m apos) (e :: es) [] pos) X.env = (do
      let ov ← eval o X.env
      standAt apos.atName
      let (f, first) ← holding [ov] (getMethod ov m pl)
      callWith pos f first (backTo pos (starEach (e :: es) X.env)) (backToKw pos (keywordEach [] X.env))) := by rfl) :
    DE X [] (xMeth m n t mo ads) (.Call (.Attribute o m apos) (e :: es) [] pos) := fun Wx tk => by
  refine ⟨fun pins s σ H Q I h => ?_⟩
  refine PySem.W.methodCall_KW (pl := pl) (thn ((ho Wx tk).run pins s σ H _ I (meth_read h)) fun u s1 ⟨x, H1, I1, rx, a, c, dx, fs, F, hm, ex, ea, l, q⟩ => ?_) hev
  subst ex
  obtain rfl : u = Value.ref a := rx
  obtain ⟨f, fd, ps, c1, c2, c3, c4⟩ := ht c F hm
  refine getmeth_ok I1 ea c1 c2 l ?_
  refine PySem.W.callWith_K (first := [.ref a]) (h₀ := X.base) I.ok.mod.kin c2.kp (thn ((ha Wx tk).run pos pins s1 σ H1 _ I1 q) fun us s2 ⟨vs, H2, I2, r, q2⟩ => ⟨I2.kIn, ?_⟩) hst hpl
  exact run_fnS (us := .ref a :: us) (vs := .ref a :: vs) c4 hr c3 (passAt tk σ) I2 (.cons rfl r) q2
theorem d_meth0 {t : MTab} {pl : Sem Bool} (ho : DE X [] mo o) (ht : ∀ c F, (c, F) ∈ t → MCal X.prog X.w X.K X.mg X.base k c m n F) (hr : Room k X.A)
    (hev : eval (.Call (.Attribute o m apos) [] [] pos) X.env = (do
      let ov ← eval o X.env
      standAt apos.atName
      let (f, first) ← holding [ov] (getMethod ov m pl)
      callWith pos f first (backTo pos (starEach [] X.env)) (backToKw pos (keywordEach [] X.env))) := by rfl) :
    DE X [] (xMeth m n t mo adNil) (.Call (.Attribute o m apos) [] [] pos) := fun Wx tk => by
  refine ⟨fun pins s σ H Q I h => ?_⟩
  refine PySem.W.methodCall_KW (pl := pl) (thn ((ho Wx tk).run pins s σ H _ I (meth_read h)) fun u s1 ⟨x, H1, I1, rx, a, c, dx, fs, F, hm, ex, ea, l, q⟩ => ?_) hev
  subst ex
  obtain rfl : u = Value.ref a := rx
  obtain ⟨f, fd, ps, c1, c2, c3, c4⟩ := ht c F hm
  refine getmeth_ok I1 ea c1 c2 l ?_
  have q2 : spF X.prog X.w X.K n F [.ref a] H1 Q (WE Wx σ) := by
    obtain ⟨p0, ρ, μ, Rr, z⟩ := q
    exact z [] H1 p0 Grow.refl Rr.sto .nil
  exact PySem.W.callWith_K0 (first := [.ref a]) I1.kIn c2.kp (run_fnS (us := [.ref a]) (vs := [.ref a]) c4 hr c3 (passAt tk σ) I1 (.cons rfl .nil) q2)
end

/-! ### making an instance -/
def xMake (c : Str) (n : Nat) (F : FM) (ads : AX) : EX := fun ρ => M.bind (ads ρ) fun ds mu => if ds.length + 1 = n then (match F (.loc mu.length :: ds) (mu ++ [.ins c []]) with
  | .ok .non m => .ok (.d (.loc mu.length)) m
  | .ok _ _ => .no
  | .ex e m => .ex e m
  | .no => .no) else .no
section
variable {X : Cx} {k n : Nat} {F : FM} {ads : AX} {x : Str} {p pos : Pos} {e : Expr} {es : List Expr}
theorem Sto.made {P : Program} {w : World} {K : PySem.W.Frag} {ps : List Addr} {H : Hp} {m : Mu} {a dx : Addr} {c : Str} (s : Sto P w K [] ps H m) (ha : H a = none) (hd : H dx = none) (hne : dx ≠ a) :
    Grow ps H (ps ++ [a]) (upd (upd H dx (.own a)) a (.ins (He.ga K c) dx [])) ∧ Sto P w K [] (ps ++ [a]) (upd (upd H dx (.own a)) a (.ins (He.ga K c) dx [])) (m ++ [.ins c []]) := by
  have g1 : Grow ps H ps (upd H dx (.own a)) := Grow.new hd
  have ha' : upd H dx (.own a) a = none := by rw [upd_ne (Ne.symm hne)]; exact ha
  have g2 : Grow ps (upd H dx (.own a)) ps (upd (upd H dx (.own a)) a (.ins (He.ga K c) dx [])) := Grow.new ha'
  have s2 := (s.new (o := .own a) hd).new (o := .ins (He.ga K c) dx []) ha'
  have gw : Gw ps (upd (upd H dx (.own a)) a (.ins (He.ga K c) dx [])) (ps ++ [a]) (upd (upd H dx (.own a)) a (.ins (He.ga K c) dx [])) := ⟨⟨[a], rfl⟩, fun _ _ h _ => h⟩
  have g := g1.trans g2
  refine ⟨⟨⟨[a], rfl, fun b hb => by rw [List.mem_singleton.mp hb]; exact ha⟩, g.dom, g.keep, g.imm⟩, ⟨?_, ?_, fun l u hl => ?_⟩⟩
  · rw [List.length_append, List.length_append, s.len]; rfl
  · rw [List.nodup_append]
    exact ⟨s.nd, by simp, fun x hx y hy e => s.notIn ha (by rw [List.mem_singleton.mp hy] at e; rw [← e]; exact hx)⟩
  · by_cases q : l < m.length
    · rw [List.getElem?_append_left q] at hl
      obtain ⟨b, hb, h1, h2, h3⟩ := s2.at_ l u hl
      exact ⟨b, hb, gw.pre h1, h2, h3.mono gw fun _ z => z⟩
    · have ql : l = m.length := by
        have := (List.getElem?_eq_some_iff.mp hl).1
        rw [List.length_append, List.length_singleton] at this
        omega
      subst ql
      rw [List.getElem?_append_right (Nat.le_refl _)] at hl
      simp at hl
      subst hl
      refine ⟨a, _, ?_, upd_same, rfl, .nil⟩
      rw [← s.len, List.getElem?_append_right (Nat.le_refl _)]
      simp
theorem xMake_run {Wx : WX} {σ : L2.St} {H : Hp} {Q : VK} (h : tE X [] Wx (xMake x n F ads) σ H Q) : tAD X [] Wx ads σ H fun vs H1 => ∀ a dx, H1 a = none → H1 dx = none → dx ≠ a →
    spF X.prog X.w X.K n F (.ref a :: vs) (upd (upd H1 dx (.own a)) a (.ins (He.ga X.K x) dx [])) (fun v H2 => v = .non ∧ Q (.ref a) H2) (WE Wx σ) := by
  obtain ⟨ps, ρ, μ, Rr, h⟩ := h
  refine tAD_bind (Po := PoE X [] Wx ps σ H Q) Rr h (fun e m' h => h) (fun h => h) fun ds m1 vs H1 p1 g1 R1 r1 h1 => ?_
  intro a dx ha hd hne
  by_cases hl : ds.length + 1 = n
  · rw [if_pos hl] at h1
    obtain ⟨g2, s2⟩ := Sto.made (c := x) R1.sto ha hd hne
    have hloc : (p1 ++ [a])[m1.length]? = some a := by rw [← R1.sto.len, List.getElem?_append_right (Nat.le_refl _)]; simp
    refine ⟨p1 ++ [a], .loc m1.length :: ds, m1 ++ [.ins x []], hl, s2, .cons (.loc hloc) (r1.grow g2), ?_⟩
    cases q : F (.loc m1.length :: ds) (m1 ++ [.ins x []]) with
    | no => rw [q] at h1; exact h1
    | ex e m3 => rw [q] at h1; exact fun cls d H' ps' g s r => h1 cls d H' ps' ((g1.trans g2).trans g) s r
    | ok d m3 =>
      rw [q] at h1
      cases d <;> try exact h1.elim
      exact fun v H' ps' g s r => by
        cases r
        exact ⟨rfl, h1 (.ref a) H' ps' ((g1.trans g2).trans g) s (.loc (g.w.pre hloc))⟩
  · rw [if_neg hl] at h1; exact h1.elim
theorem run_makeS {Wx : WX} {C f : Addr} {fd : FuncData} {ps : List Str} {sp : Sp} {pins : List (Addr × Obj)} {σ : L2.St} {H : Hp} {s : Shared} {Q : VK} {us : List Value} {vs : List V} (mk : Mk X.K C f) (Fo : FnOk X.prog X.w X.K X.mg X.base (L2.CX X.prog X.w) k f fd ps sp) (hr : Room (k + 1) X.A) (hb : Binds X.K fd ps [])
    (tk : Takes X Wx) (I : Inv X pins σ H s) (r : Vals vs us)
    (h : ∀ x dx, H x = none → H dx = none → dx ≠ x → sp (.ref x :: vs) (upd (upd H dx (.own x)) x (.ins C dx [])) (fun v H2 => v = .non ∧ Q (.ref x) H2) (WE Wx σ)) :
    wpAny (model X.prog X.w) X.A (call (.ref C) us) (EP X pins σ Q) X.xe s := by
  have hq := h (s.heap.objs.size + 1) s.heap.objs.size (I.hok.fresh (Nat.le_succ _)) (I.hok.fresh (Nat.le_refl _)) (Nat.ne_of_lt (Nat.lt_succ_self _))
  have I2 := Inv.made (C := C) I
  have r2 : Vals (V.ref (s.heap.objs.size + 1) :: vs) (Value.ref (s.heap.objs.size + 1) :: us) := .cons rfl r
  have hl : (Value.ref (s.heap.objs.size + 1) :: us).length = ps.length := r2.length.symm.trans (Fo.len _ _ _ _ hq)
  have b := hb _ (Value.ref (s.heap.objs.size + 1) :: us) I2.kIn (by rw [List.append_nil]; exact hl)
  rw [List.append_nil] at b
  refine wpAny_call (make_map (f := f) I.kIn mk.makes mk.init (beq_iff_eq.mp mk.fn) (codeAny_mono (Fo.run _ X.stack _ _ ⟨Value.ref (s.heap.objs.size + 1) :: us, []⟩ _ _ _ _ (hr.make C us []) (I2.env0.make C us []) b r2 hq) fun r s' hq' => ?_))
  cases r with
  | error e => exact passAt tk σ pins _ _ e s' I2 hq'
  | ok fl =>
    cases fl with
    | ret u =>
      obtain ⟨v, H', I3, rv, ev, q3⟩ := I2.after hq'
      subst ev
      exact ⟨rv, ⟨V.ref (s.heap.objs.size + 1), H', I3, rfl, q3⟩⟩
    | next => exact False.elim hq'
    | brk => exact False.elim hq'
    | cont => exact False.elim hq'
theorem d_make (c : ICal X.prog X.w X.K X.mg X.base k x n F) (hr : Room (k + 1) X.A) (hg : Gl X x) (ha : DAD X [] ads (e :: es)) (hdb : (x == ("__debug__" : Str)) = false := by decide)
    (he : starEach (e :: es) X.env = (false, eval e X.env) :: starEach es X.env := by rfl) (hpl : (backTo pos (starEach es X.env)).any (·.1) = false := by rfl) : DE X [] (xMake x n F ads) (.Call (.Name x p) (e :: es) [] pos) := fun Wx tk => by
  obtain ⟨f, fd, ps, c1, c2, c3, c4⟩ := c
  refine ⟨fun pins s σ H Q I h => ?_⟩
  refine wpAny_Call_Name_kw (ld_glob I hg c1 ?_ hdb)
  refine PySem.W.callWith_K (h₀ := X.base) I.ok.mod.kin c2.kp (thn ((ha Wx tk).run pos pins s σ H _ I (xMake_run h)) fun us s1 ⟨vs, H1, I1, r, q⟩ => ⟨I1.kIn, ?_⟩) he hpl
  exact run_makeS c2 c4 hr c3 tk I1 r q
end

/-! ### attributes -/
/-- which attributes the classes have that are no names of the class -/
abbrev ATab := List (Str × List Str)
def ATab.has (t : ATab) (c f : Str) : Bool := t.any fun p => decide (p.1 = c) && p.2.any fun g => decide (g = f)
def ATab.Ok (K : PySem.W.Frag) (t : ATab) : Prop := ∀ c fs, (c, fs) ∈ t → Cls K (He.ga K c) ∧ ∀ f ∈ fs, NoAttr K (He.ga K c) f
theorem ATab.get {K : PySem.W.Frag} {t : ATab} {c f : Str} (o : ATab.Ok K t) (h : t.has c f = true) : Cls K (He.ga K c) ∧ NoAttr K (He.ga K c) f := by
  obtain ⟨⟨c', fs⟩, hm, h2⟩ := List.any_eq_true.mp h
  obtain ⟨h3, h4⟩ := Bool.and_eq_true_iff.mp h2
  have e := of_decide_eq_true h3
  subst e
  obtain ⟨g, hg, h5⟩ := List.any_eq_true.mp h4
  have e := of_decide_eq_true h5
  subst e
  exact ⟨(o _ _ hm).1, (o _ _ hm).2 g hg⟩
def getF (f : Str) (fs : List (Str × D)) : Option D := (fs.find? fun p => decide (p.1 = f)).map (·.2)
def fldW (t : ATab) (f : Str) : Wv → Mu → Option Wv
  | .d (.loc l), mu => (match mu[l]? with
    | some (.ins c fs) => if t.has c f then (getF f fs).map .d else none
    | _ => none)
  | _, _ => none
def putD (f : Str) (d : D) : List (Str × D) → List (Str × D)
  | [] => [(f, d)]
  | p :: ps => if p.1 = f then (f, d) :: ps else p :: putD f d ps
theorem paired_putF {K : PySem.W.Frag} {pn : List (Addr × Obj)} {ps : List Addr} {H : Hp} {f : Str} {v : V} {d : D} (r : RV K pn ps H v d) : ∀ {fs : List (Str × V)} {ds : List (Str × D)}, Paired (RF K pn ps H) fs ds → Paired (RF K pn ps H) (putF f v fs) (putD f d ds)
  | _, _, .nil => .cons ⟨rfl, r⟩ .nil
  | (a, u) :: fs, (b, x) :: ds, .cons h t => by
    obtain ⟨h1, h2⟩ := h
    simp only at h1
    subst h1
    unfold putF putD
    by_cases q : a = f
    · subst q
      rw [if_pos rfl, if_pos rfl]
      exact .cons ⟨rfl, r⟩ t
    · rw [if_neg q, if_neg q]
      exact .cons ⟨rfl, h2⟩ (paired_putF r t)
theorem paired_len {α β : Type} {F : α → β → Prop} : ∀ {l : List α} {m : List β}, Paired F l m → l.length = m.length
  | _, _, .nil => rfl
  | _, _, .cons _ t => congrArg Nat.succ (paired_len t)
/-- a place of the store is written -/
theorem Sto.put {P : Program} {w : World} {K : PySem.W.Frag} {pn : List (Addr × Obj)} {ps : List Addr} {H : Hp} {m : Mu} {l : Nat} {a : Addr} {o u : O} {ho hn : HO} (s : Sto P w K pn ps H m) (hl : ps[l]? = some a) (hu : m[l]? = some u) (ha : H a = some ho) (hi : ¬ Imm ho)
    (r : RO P w K pn ps (upd H a hn) a hn o) : Grow ps H ps (upd H a hn) ∧ Sto P w K pn ps (upd H a hn) (m.set l o) := by
  have hm : a ∈ ps := List.mem_of_getElem? hl
  have g : Grow ps H ps (upd H a hn) := Grow.put ha hi hm
  refine ⟨g, ⟨by rw [List.length_set]; exact s.len, s.nd, fun j q hj => ?_⟩⟩
  by_cases e : l = j
  · subst e
    have hlt := (List.getElem?_eq_some_iff.mp hu).1
    rw [List.getElem?_set_self hlt] at hj
    cases hj
    exact ⟨a, hn, hl, upd_same, r⟩
  · rw [List.getElem?_set_ne e] at hj
    obtain ⟨b, hb, h1, h2, h3⟩ := s.at_ j q hj
    refine ⟨b, hb, h1, ?_, h3.mono g.w fun _ z => z⟩
    rw [upd_ne]
    · exact h2
    · intro eq
      subst eq
      exact e (((List.getElem?_inj (List.getElem?_eq_some_iff.mp hl).1 s.nd).mp (hl.trans h1.symm)))
/-- o.f = e: e first -/
def sFldS (t : ATab) (o : EX) (f : Str) (m : EX) : SX := fun ρ mu => RS.of (m ρ mu) ρ fun w m1 => RS.of (settle w m1) ρ fun d m2 => RS.of (o ρ m2) ρ fun ow m3 => match ow with
  | .d (.loc l) => (match m3[l]? with
    | some (.ins c fs) => if t.has c f = true ∧ fs.length < 1000 then .ok .nx ρ (m3.set l (.ins c (putD f d fs))) else .no
    | _ => .no)
  | _ => .no
section
variable {X : Cx} {pn : List (Addr × Obj)} {mo m : EX} {o e : Expr} {f : Str} {t : ATab} {pos pos' : Pos}
theorem d_fld (hT : ATab.Ok X.K t) (he : DE X pn mo o) (hb : attributeBase o f X.env (eval o X.env) = eval o X.env := by rfl) : DE X pn (x1 (fldW t f) mo) (.Attribute o f pos) := fun Wx tk =>
  PE_imp (pe_fld (he Wx tk) hb) fun σ H Q ⟨ps, ρ, μ, Rr, h⟩ => by
    refine tE_bind (Po := PoE X pn Wx ps σ H Q) Rr h (fun e m' h => h) (fun h => h) fun w1 m1 v1 H1 p1 g1 R1 r1 h1 => ?_
    unfold M.opt at h1
    cases q : fldW t f w1 m1 with
    | none => rw [q] at h1; exact h1.elim
    | some z =>
      rw [q] at h1
      cases w1 with
      | o o => cases q
      | d d =>
        cases d <;> try (cases q; done)
        rename_i l
        cases r1 with
        | @loc a _ hl =>
          unfold fldW at q
          dsimp only at q
          cases q2 : m1[l]? with
          | none => rw [q2] at q; cases q
          | some ob =>
            rw [q2] at q
            cases ob <;> try (cases q; done)
            rename_i c ds
            dsimp only at q
            by_cases hh : t.has c f = true
            · rw [if_pos hh] at q
              obtain ⟨d, hd, e1⟩ := Option.map_eq_some_iff.mp q
              cases e1
              obtain ⟨p, hp, e2⟩ := Option.map_eq_some_iff.mp (show (ds.find? fun p => decide (p.1 = f)).map (·.2) = some d from hd)
              subst e2
              obtain ⟨ho, e1, e2⟩ := R1.sto.get q2 hl
              cases ho <;> first | exact e2.elim | (rename_i u; cases u <;> exact e2.elim) | skip
              rename_i C dx fs
              obtain ⟨ec, pf⟩ := e2
              subst ec
              obtain ⟨v, hv, rv⟩ := lookup_some pf hp
              obtain ⟨c1, c2⟩ := ATab.get hT hh
              exact ⟨a, _, dx, fs, v, rfl, e1, c1, c2, hv, h1 v H1 p1 g1 R1.sto rv⟩
            · rw [if_neg hh] at q; cases q
theorem ds_fld (hT : ATab.Ok X.K t) (ho : DE X pn mo o) (he : DE X pn m e) (hs : swapsWith e (some (.Attribute o f pos')) pos.line X.env = pure false := by rfl) : DS X pn (sFldS t mo f m) (.Assign [.Attribute o f pos'] e pos) := fun Wx tk =>
  PS_imp (ps_fld (ho Wx tk) (he Wx tk) hs) fun D σ H ⟨ps, ρ, μ, Rr, h⟩ => by
    refine tE_of Rr h fun w m1 v H1 p1 g1 R1 r1 h1 => ?_
    obtain ⟨d, m2, p2, g2, gw, R2, rv, h2⟩ := settle_of (Po := PoS X pn Wx ps σ H D) g1 R1 r1 h1
    refine tE_of (D := D) R2 (h2.base g2) fun ow m3 ov H3 p3 g3 R3 r3 h3 => ?_
    cases ow with
    | o o => exact h3.elim
    | d od =>
      cases od <;> try exact h3.elim
      rename_i l
      cases r3 with
      | @loc a _ hl =>
        dsimp only at h3
        cases q2 : m3[l]? with
        | none => rw [q2] at h3; exact h3.elim
        | some ob =>
          rw [q2] at h3
          cases ob <;> try exact h3.elim
          rename_i c ds
          dsimp only at h3
          by_cases hh : t.has c f = true ∧ ds.length < 1000
          · rw [if_pos hh] at h3
            obtain ⟨ho, e1, e2⟩ := R3.sto.get q2 hl
            have e2' := e2
            cases ho <;> first | exact e2.elim | (rename_i u; cases u <;> exact e2.elim) | skip
            rename_i C dx fs
            obtain ⟨ec, pf⟩ := e2
            obtain ⟨c1, c2⟩ := ATab.get hT hh.1
            subst ec
            refine ⟨a, _, dx, fs, rfl, e1, c1, c2, by rw [paired_len pf]; exact hh.2, ?_⟩
            have g4' : Grow p3 H3 p3 (upd H3 a (.ins (He.ga X.K c) dx (putF f v fs))) := Grow.put e1 (RO.notImm e2') (List.mem_of_getElem? hl)
            obtain ⟨g4, s4⟩ := Sto.put (o := .ins c (putD f d ds)) (hn := .ins (He.ga X.K c) dx (putF f v fs)) R3.sto hl q2 e1 (RO.notImm e2') ⟨rfl, Paired.mapP (paired_putF (rv.grow g3) pf) fun p q z => ⟨z.1, z.2.grow g4'⟩⟩
            exact h3 σ _ p3 (g3.trans g4) (R3.step g4 s4)
          · rw [if_neg hh] at h3; exact h3.elim
end
end Dn

set_option Elab.async false
set_option linter.all false
set_option maxRecDepth 100000
set_option maxHeartbeats 4000000
set_option autoImplicit false
/-! Dn6: operators, comparisons, items, slices, list methods, plain built-ins. -/
namespace Dn
open PySem PySem.Spec L2

/-! ### lists, tuples by values -/
def lstOf : Wv → Mu → Option (List D)
  | .d (.loc l), mu => (match mu[l]? with
    | some (.lst xs) => some xs
    | _ => none)
  | .d (.rol xs), _ => some xs
  | .o (.lst xs), _ => some xs
  | _, _ => none
/-- .. of the store alone -/
def mlstOf : Wv → Mu → Option (List D)
  | .d (.loc l), mu => (match mu[l]? with
    | some (.lst xs) => some xs
    | _ => none)
  | .o (.lst xs), _ => some xs
  | _, _ => none
def seqOf : Wv → Mu → Option (List D)
  | .d (.tup xs), _ => some xs
  | w, mu => lstOf w mu
section
variable {X : Cf} {pn : List (Addr × Obj)} {ps : List Addr} {H H0 : Hp} {μ : Mu} {v : V} {w : Wv} {xs : List D}
theorem RO.lst {P : Program} {wd : World} {K : PySem.W.Frag} {a : Addr} {ho : HO} (h : RO P wd K pn ps H a ho (.lst xs)) : ∃ vs, ho = .lst vs ∧ RVs K pn ps H vs xs := by
  cases ho <;> first | exact h.elim | (rename_i u; cases u <;> exact h.elim) | exact ⟨_, rfl, h⟩
theorem mlst_ok (s : Sto X.prog X.w X.K pn ps H μ) (r : RW X pn H0 ps H v w) (e : mlstOf w μ = some xs) : ∃ a vs, v = .ref a ∧ H a = some (.lst vs) ∧ RVs X.K pn ps H vs xs := by
  cases w with
  | o o =>
    obtain ⟨a, ho, e1, _, _, e2, r⟩ := r
    cases o <;> try (cases e; done)
    cases e
    obtain ⟨vs, e3, r⟩ := r.lst
    exact ⟨a, vs, e1, by rw [e2, e3], r⟩
  | d d =>
    cases d <;> try (cases e; done)
    rename_i l
    cases r with
    | @loc a _ hl =>
      unfold mlstOf at e
      dsimp only at e
      cases q : μ[l]? with
      | none => rw [q] at e; cases e
      | some ob =>
        rw [q] at e
        cases ob <;> try (cases e; done)
        cases e
        obtain ⟨ho, e1, e2⟩ := s.get q hl
        obtain ⟨vs, e3, r⟩ := e2.lst
        exact ⟨a, vs, rfl, by rw [e1, e3], r⟩
theorem lst_ok (s : Sto X.prog X.w X.K pn ps H μ) (r : RW X pn H0 ps H v w) (e : lstOf w μ = some xs) : ∃ a vs, v = .ref a ∧ SqL X.K H a vs ∧ RVs X.K pn ps H vs xs := by
  by_cases q : mlstOf w μ = some xs
  · obtain ⟨a, vs, e1, e2, e3⟩ := mlst_ok s r q
    exact ⟨a, vs, e1, SqL.of e2, e3⟩
  · cases w with
    | o o => cases o <;> first | exact absurd e q | cases e
    | d d =>
      cases d <;> first | exact absurd e q | skip
      cases e
      cases r with
      | rol h r => exact ⟨_, _, rfl, h.l, r⟩
theorem tup_ok (r : RW X pn H0 ps H v (.d (.tup xs))) : ∃ a vs, v = .ref a ∧ SqT X.K H a vs ∧ RVs X.K pn ps H vs xs := by
  cases r with
  | tup h r => exact ⟨_, _, rfl, h, r⟩
theorem seq_ok (s : Sto X.prog X.w X.K pn ps H μ) (r : RW X pn H0 ps H v w) (e : seqOf w μ = some xs) : ∃ a vs, v = .ref a ∧ (SqL X.K H a vs ∨ SqT X.K H a vs) ∧ RVs X.K pn ps H vs xs := by
  by_cases q : lstOf w μ = some xs
  · obtain ⟨a, vs, e1, e2, e3⟩ := lst_ok s r q
    exact ⟨a, vs, e1, .inl e2, e3⟩
  · cases w with
    | o o => exact absurd e q
    | d d =>
      cases d <;> first | exact absurd e q | skip
      cases e
      obtain ⟨a, vs, e1, e2, e3⟩ := tup_ok r
      exact ⟨a, vs, e1, .inr e2, e3⟩
/-- a new tuple, a new list as the answer -/
theorem new_tup {vs : List V} {p : Addr} (s : Sto X.prog X.w X.K pn ps H μ) (r : RVs X.K pn ps H vs xs) (hp : H p = none) : Grow ps H ps (upd H p (.tup vs)) ∧ Sto X.prog X.w X.K pn ps (upd H p (.tup vs)) μ ∧ RW X pn H ps (upd H p (.tup vs)) (.ref p) (.d (.tup xs)) := by
  have g : Grow ps H ps (upd H p (.tup vs)) := Grow.new hp
  exact ⟨g, s.new hp, .tup (SqT.of upd_same) (r.grow g)⟩
theorem new_lst {vs : List V} {p : Addr} (s : Sto X.prog X.w X.K pn ps H μ) (r : RVs X.K pn ps H vs xs) (hp : H p = none) : Grow ps H ps (upd H p (.lst vs)) ∧ Sto X.prog X.w X.K pn ps (upd H p (.lst vs)) μ ∧ RW X pn H ps (upd H p (.lst vs)) (.ref p) (.o (.lst xs)) := by
  have g : Grow ps H ps (upd H p (.lst vs)) := Grow.new hp
  exact ⟨g, s.new hp, ⟨p, _, rfl, hp, s.notIn hp, upd_same, (r.grow g : RVs X.K pn ps (upd H p (.lst vs)) vs xs)⟩⟩
end

/-! ### + - * // % ** >> & -/
def addW : Wv → Wv → Mu → Option Wv
  | .d (.int i), .d (.int j), _ => some (.d (.int (i + j)))
  | .d (.str x), .d (.str y), _ => if x.length + y.length ≤ LIM then some (.d (.str (x ++ y))) else none
  | .d (.tup xs), .d (.tup ys), _ => if xs.length + ys.length ≤ LIM then some (.d (.tup (xs ++ ys))) else none
  | x, y, mu => match mlstOf x mu, mlstOf y mu with
    | some xs, some ys => if xs.length + ys.length ≤ LIM then some (.o (.lst (xs ++ ys))) else none
    | _, _ => none
def intW (c : Int → Int → Bool) (f : Int → Int → Int) : Wv → Wv → Mu → Option Wv
  | .d (.int i), .d (.int j), _ => if c i j = true then some (.d (.int (f i j))) else none
  | _, _, _ => none
def subW := intW (fun _ _ => true) fun i j => i - j
def fdivW := intW (fun _ j => decide (0 < j) && decide (j.natAbs.log2 < 9000)) fun i j => i / j
def modW := intW (fun _ j => decide (0 < j)) fun i j => i % j
def powW := intW (fun i j => decide (0 ≤ j) && decide (j ≤ 1000000) && decide (i.natAbs < 2 ^ 64)) fun i j => i ^ j.toNat
def shrW := intW (fun _ j => decide (0 ≤ j)) fun i j => i / 2 ^ j.toNat
def shlW := intW (fun i j => decide (0 ≤ j) && decide (j ≤ 1000000) && decide (i.natAbs < 2 ^ 64)) fun i j => i * 2 ^ j.toNat
def andW := intW (fun _ _ => true) Builtin.bitAnd
def mulW : Wv → Wv → Mu → Option Wv
  | .d (.int i), .d (.int j), _ => if i.natAbs.log2 + j.natAbs.log2 < 1000000 then some (.d (.int (i * j))) else none
  | x, .d (.int k), mu => match mlstOf x mu with
    | some xs => if -(2 ^ 63) ≤ k ∧ k < 2 ^ 63 ∧ xs.length * k.toNat ≤ LIM then some (.o (.lst (List.replicate k.toNat xs).flatten)) else none
    | none => none
  | _, _, _ => none
section
variable {X : Cx} {pn : List (Addr × Obj)}
theorem opI_d {f : Value → Value → Sem Value} {C : Int → Int → Prop} {c : Int → Int → Bool} {g : Int → Int → Int} (h : OpR X f (rI C fun i j => .int (g i j))) (hc : ∀ i j, c i j = true → C i j) : OpR X f (rO X pn (intW c g)) := by
  intro pins s σ H x y v u Q I rx ry ⟨H0, ps, μ, w1, w2, z, st, r1, r2, e, k⟩
  cases w1 with
  | o o => cases e
  | d d1 =>
    cases d1 <;> try (cases e; done)
    cases w2 with
    | o o => cases e
    | d d2 =>
      cases d2 <;> try (cases e; done)
      rename_i i j
      cases r1
      cases r2
      have e : (if c i j = true then some (Wv.d (.int (g i j))) else none) = some z := e
      by_cases q : c i j = true
      · rw [if_pos q] at e
        cases e
        exact h pins s σ H _ _ v u Q I rx ry ⟨i, j, rfl, rfl, hc i j q, k _ H ps Grow.refl st (.int _)⟩
      · rw [if_neg q] at e; cases e
theorem opI0_of {f : Value → Value → Sem Value} {g : Int → Int → Int} (h : OpR X f (rI0 fun i j => .int (g i j))) : OpR X f (rI (fun _ _ => True) fun i j => .int (g i j)) :=
  fun pins s σ H x y v u Q I rx ry ⟨i, j, e1, e2, _, q⟩ => h pins s σ H x y v u Q I rx ry ⟨i, j, e1, e2, q⟩
theorem o_sub : OpR X (binaryOp .Sub) (rO X pn subW) := opI_d (opI0_of op_sub) fun _ _ _ => trivial
theorem o_fdiv : OpR X (binaryOp .FloorDiv) (rO X pn fdivW) := opI_d op_fdivW fun i j h => by
  obtain ⟨h1, h2⟩ := Bool.and_eq_true_iff.mp h
  exact ⟨of_decide_eq_true h1, of_decide_eq_true h2⟩
theorem o_mod : OpR X (binaryOp .Mod) (rO X pn modW) := opI_d op_mod fun i j h => of_decide_eq_true h
theorem o_pow : OpR X (binaryOp .Pow) (rO X pn powW) := opI_d op_pow fun i j h => by
  obtain ⟨h, h3⟩ := Bool.and_eq_true_iff.mp h
  obtain ⟨h1, h2⟩ := Bool.and_eq_true_iff.mp h
  exact ⟨of_decide_eq_true h1, of_decide_eq_true h2, of_decide_eq_true h3⟩
theorem o_shr : OpR X (binaryOp .RShift) (rO X pn shrW) := opI_d op_shr fun i j h => of_decide_eq_true h
theorem o_shl : OpR X (binaryOp .LShift) (rO X pn shlW) := opI_d op_shl fun i j h => by
  obtain ⟨h, h3⟩ := Bool.and_eq_true_iff.mp h
  obtain ⟨h1, h2⟩ := Bool.and_eq_true_iff.mp h
  exact ⟨of_decide_eq_true h1, of_decide_eq_true h2, of_decide_eq_true h3⟩
theorem o_and : OpR X (binaryOp .BitAnd) (rO X pn andW) := opI_d (opI0_of op_and) fun _ _ _ => trivial
theorem cat_lists {x y z : Wv} {μ : Mu} (e : (match mlstOf x μ, mlstOf y μ with
    | some xs, some ys => if xs.length + ys.length ≤ LIM then some (Wv.o (.lst (xs ++ ys))) else none
    | _, _ => none) = some z) : ∃ xs ys, mlstOf x μ = some xs ∧ mlstOf y μ = some ys ∧ xs.length + ys.length ≤ LIM ∧ z = .o (.lst (xs ++ ys)) := by
  cases q1 : mlstOf x μ with
  | none => rw [q1] at e; cases e
  | some xs =>
    cases q2 : mlstOf y μ with
    | none => rw [q1, q2] at e; cases e
    | some ys =>
      rw [q1, q2] at e
      dsimp only at e
      by_cases hl : xs.length + ys.length ≤ LIM
      · rw [if_pos hl] at e
        cases e
        exact ⟨xs, ys, rfl, rfl, hl, rfl⟩
      · rw [if_neg hl] at e; cases e
/-- list + list -/
theorem addL {x y z : Wv} {μ : Mu} {H0 H : Hp} {ps : List Addr} {pins : List (Addr × Obj)} {s : Shared} {σ : L2.St} {xv yv : V} {v u : Value} {Q : VK} (I : Inv X pins σ H s) (rx : RelV xv v) (ry : RelV yv u) (st : Sto X.prog X.w X.K pn ps H μ) (r1 : RW X pn H0 ps H xv x) (r2 : RW X pn H0 ps H yv y)
    (e : (match mlstOf x μ, mlstOf y μ with
    | some xs, some ys => if xs.length + ys.length ≤ LIM then some (Wv.o (.lst (xs ++ ys))) else none
    | _, _ => none) = some z) (k : ∀ v H' ps', Grow ps H ps' H' → Sto X.prog X.w X.K pn ps' H' μ → RW X pn H ps' H' v z → Q v H') : wpAny (model X.prog X.w) X.A (binaryOp .Add v u) (EP X pins σ Q) X.xe s := by
  obtain ⟨xs, ys, e1, e2, hl, rfl⟩ := cat_lists e
  obtain ⟨a, vs, ea, ha, ra⟩ := mlst_ok st r1 e1
  obtain ⟨b, us, eb, hb, rb⟩ := mlst_ok st r2 e2
  refine op_cat pins s σ H _ _ v u Q I rx ry ⟨a, b, vs, us, ea, eb, ha, hb, by rw [ra.length, rb.length, ← LIM_eq]; exact hl, fun p hp => ?_⟩
  obtain ⟨g, s2, r⟩ := new_lst st (ra.append rb) hp
  exact k _ _ ps g s2 r
theorem o_add : OpR X (binaryOp .Add) (rO X pn addW) := by
  intro pins s σ H x y v u Q I rx ry ⟨H0, ps, μ, w1, w2, z, st, r1, r2, e, k⟩
  unfold addW at e
  split at e
  · cases e; cases r1; cases r2
    exact op_add pins s σ H _ _ v u Q I rx ry ⟨_, _, rfl, rfl, k _ H ps Grow.refl st (.int _)⟩
  · rename_i a b
    by_cases hl : a.length + b.length ≤ LIM
    · rw [if_pos hl] at e
      cases e; cases r1; cases r2
      exact op_add_str pins s σ H _ _ v u Q I rx ry ⟨_, _, rfl, rfl, by rw [← LIM_eq]; exact hl, k _ H ps Grow.refl st (.str _)⟩
    · rw [if_neg hl] at e; cases e
  · rename_i xs ys
    by_cases hl : xs.length + ys.length ≤ LIM
    · rw [if_pos hl] at e
      cases e
      obtain ⟨a, vs, ea, ha, ra⟩ := tup_ok r1
      obtain ⟨b, us, eb, hb, rb⟩ := tup_ok r2
      refine op_catA pins s σ H _ _ v u Q I rx ry ⟨a, b, vs, us, ea, eb, ha, hb, by rw [ra.length, rb.length, ← LIM_eq]; exact hl, fun q => ?_, fun q1 q => ?_, fun q1 q2 p hp => ?_⟩
      · subst q
        cases ra
        exact k _ H ps Grow.refl st (.tup hb rb)
      · subst q
        cases rb
        rw [List.append_nil] at k
        exact k _ H ps Grow.refl st (.tup ha ra)
      · obtain ⟨g, s2, r⟩ := new_tup st (ra.append rb) hp
        exact k _ _ ps g s2 r
    · rw [if_neg hl] at e; cases e
  · exact addL I rx ry st r1 r2 e k
theorem o_mul : OpR X (binaryOp .Mult) (rO X pn mulW) := by
  intro pins s σ H x y v u Q I rx ry ⟨H0, ps, μ, w1, w2, z, st, r1, r2, e, k⟩
  unfold mulW at e
  split at e
  · rename_i i j
    by_cases hl : i.natAbs.log2 + j.natAbs.log2 < 1000000
    · rw [if_pos hl] at e
      cases e; cases r1; cases r2
      exact op_mulW pins s σ H _ _ v u Q I rx ry ⟨_, _, rfl, rfl, hl, k _ H ps Grow.refl st (.int _)⟩
    · rw [if_neg hl] at e; cases e
  · rename_i n _
    cases q : mlstOf w1 μ with
    | none => rw [q] at e; cases e
    | some xs =>
      rw [q] at e
      dsimp only at e
      by_cases hl : -(2 ^ 63) ≤ n ∧ n < 2 ^ 63 ∧ xs.length * n.toNat ≤ LIM
      · rw [if_pos hl] at e
        cases e
        obtain ⟨a, vs, ea, ha, ra⟩ := mlst_ok st r1 q
        cases r2
        refine op_rep pins s σ H _ _ v u Q I rx ry ⟨a, n, vs, ea, rfl, ha, hl.1, hl.2.1, by rw [ra.length, ← LIM_eq]; exact hl.2.2, fun p hp => ?_⟩
        have rr : ∀ m : Nat, RVs X.K pn ps H (List.replicate m vs).flatten (List.replicate m xs).flatten := fun m => by
          induction m with
          | zero => exact .nil
          | succ m ih => rw [List.replicate_succ, List.replicate_succ, List.flatten_cons, List.flatten_cons]; exact ra.append ih
        obtain ⟨g, s2, r⟩ := new_lst st (rr n.toNat) hp
        exact k _ _ ps g s2 r
      · rw [if_neg hl] at e; cases e
  · cases e
/-- in place: ints, texts -/
def iaddW : Wv → Wv → Mu → Option Wv
  | .d (.int i), .d (.int j), _ => some (.d (.int (i + j)))
  | .d (.str x), .d (.str y), _ => if x.length + y.length ≤ LIM then some (.d (.str (x ++ y))) else none
  | _, _, _ => none
theorem o_iadd : PIp X .Add (rO X pn iaddW) := by
  intro pins s σ H x y v u Q I rx ry ⟨H0, ps, μ, w1, w2, z, st, r1, r2, e, k⟩
  unfold iaddW at e
  split at e
  · cases e; cases r1; cases r2
    exact iop_add pins s σ H _ _ v u Q I rx ry ⟨_, _, rfl, rfl, k _ H ps Grow.refl st (.int _)⟩
  · rename_i a b
    by_cases hl : a.length + b.length ≤ LIM
    · rw [if_pos hl] at e
      cases e; cases r1; cases r2
      exact iop_add_str pins s σ H _ _ v u Q I rx ry ⟨_, _, rfl, rfl, by rw [← LIM_eq]; exact hl, k _ H ps Grow.refl st (.str _)⟩
    · rw [if_neg hl] at e; cases e
  · cases e
theorem o_isub : PIp X .Sub (rO X pn subW) := opI_d (opI0_of iop_sub) fun _ _ _ => trivial
def negW : Wv → Mu → Option Wv
  | .d (.int i), _ => some (.d (.int (-i)))
  | _, _ => none
theorem o_neg : UnR X (unaryOp .USub) (rU1 X pn negW) := by
  intro pins s σ H x v Q I rx ⟨H0, ps, μ, w1, z, st, r1, e, k⟩
  unfold negW at e
  split at e
  · cases e; cases r1
    exact un_neg pins s σ H _ v Q I rx ⟨_, rfl, k _ H ps Grow.refl st (.int _)⟩
  · cases e
end

/-! ### data of the library -/
mutual
def pyF (f : Nat → Option PyData) : D → Option PyData
  | .non => some .none
  | .bl b => some (.bool b)
  | .int i => some (.int i)
  | .str x => some (.str x)
  | .tup xs => (pyFs f xs).map .tuple
  | .rol xs => (pyFs f xs).map .list
  | .loc l => f l
  | .exn _ _ _ => none
def pyFs (f : Nat → Option PyData) : List D → Option (List PyData)
  | [] => some []
  | d :: ds => match pyF f d, pyFs f ds with
    | some p, some ps => some (p :: ps)
    | _, _ => none
end
def pyN (mu : Mu) : Nat → Nat → Option PyData
  | 0, _ => none
  | n + 1, l => match mu[l]? with
    | some (.lst xs) => (pyFs (pyN mu n) xs).map .list
    | _ => none
def pyW (mu : Mu) : Wv → Option PyData
  | .d x => pyF (pyN mu 5) x
  | .o (.lst xs) => (pyFs (pyN mu 5) xs).map .list
  | _ => none
section
variable {X : Cf} {pn : List (Addr × Obj)} {ps : List Addr} {H H0 : Hp} {μ : Mu}
mutual
theorem py_ok {K : PySem.W.Frag} {f : Nat → Option PyData} (hf : ∀ l p a, f l = some p → ps[l]? = some a → Dp K H (.ref a) p) : ∀ {v : V} {d : D} {p : PyData}, RV K pn ps H v d → pyF f d = some p → Dp K H v p
  | _, _, _, .non, e => by rw [pyF] at e; cases e; exact .non
  | _, _, _, .bl b, e => by rw [pyF] at e; cases e; exact .bl b
  | _, _, _, .int i, e => by rw [pyF] at e; cases e; exact .int i
  | _, _, _, .str x, e => by rw [pyF] at e; cases e; exact .str x
  | _, _, _, .tup h r, e => by
    rw [pyF] at e
    obtain ⟨qs, e1, e2⟩ := Option.map_eq_some_iff.mp e
    subst e2
    exact .tup h (pys_ok hf r e1)
  | _, _, _, .rol h r, e => by
    rw [pyF] at e
    obtain ⟨qs, e1, e2⟩ := Option.map_eq_some_iff.mp e
    subst e2
    exact .lst h.l (pys_ok hf r e1)
  | _, _, _, .loc h, e => hf _ _ _ (by rw [pyF] at e; exact e) h
  | _, _, _, .exn0 _ _ _, e => by rw [pyF] at e; cases e
  | _, _, _, .exn1 _ _ _ _ _, e => by rw [pyF] at e; cases e
theorem pys_ok {K : PySem.W.Frag} {f : Nat → Option PyData} (hf : ∀ l p a, f l = some p → ps[l]? = some a → Dp K H (.ref a) p) : ∀ {vs : List V} {ds : List D} {qs : List PyData}, RVs K pn ps H vs ds → pyFs f ds = some qs → DpAll K H vs qs
  | _, _, _, .nil, e => by rw [pyFs] at e; cases e; exact .nil
  | _, _, _, .cons h r, e => by
    rw [pyFs] at e
    split at e
    · rename_i p qs e1 e2
      cases e
      exact .cons (py_ok hf h e1) (pys_ok hf r e2)
    · cases e
end
theorem pyN_ok {P : Program} {wd : World} {K : PySem.W.Frag} (s : Sto P wd K pn ps H μ) : ∀ (n l : Nat) (p : PyData) (a : Addr), pyN μ n l = some p → ps[l]? = some a → Dp K H (.ref a) p
  | 0, _, _, _, e, _ => by cases e
  | n + 1, l, p, a, e, h => by
    unfold pyN at e
    split at e
    · rename_i xs q
      obtain ⟨qs, e1, e2⟩ := Option.map_eq_some_iff.mp e
      subst e2
      obtain ⟨ho, h1, h2⟩ := s.get q h
      obtain ⟨vs, e3, r⟩ := h2.lst
      subst e3
      exact .lst (SqL.of h1) (pys_ok (fun l p a e h => pyN_ok s n l p a e h) r e1)
    · cases e
theorem pyW_ok {v : V} {w : Wv} {p : PyData} (s : Sto X.prog X.w X.K pn ps H μ) (r : RW X pn H0 ps H v w) (e : pyW μ w = some p) : Dp X.K H v p := by
  cases w with
  | d x => exact py_ok (fun l p a e h => pyN_ok s 5 l p a e h) r e
  | o o =>
    cases o with
    | lst xs =>
      obtain ⟨qs, e1, e2⟩ := Option.map_eq_some_iff.mp e
      subst e2
      obtain ⟨a, ho, e3, _, _, e4, r⟩ := r
      obtain ⟨vs, e5, r⟩ := r.lst
      subst e3 e5
      exact .lst (SqL.of e4) (pys_ok (fun l p a e h => pyN_ok s 5 l p a e h) r e1)
    | dct kvs => cases e
    | ins c fs => cases e
    | lk kvs => cases e
end
/-- a comparison of data -/
def cmpW (g : PyData → PyData → Option Bool) : Wv → Wv → Mu → Option Wv := fun x y mu => match pyW mu x, pyW mu y with
  | some p, some q => if SeqAt.shaped p = true ∧ SeqAt.shaped q = true then (g p q).map fun b => .d (.bl b) else none
  | _, _ => none
def notNone : PyData → Bool
  | .none => false
  | _ => true
def eqW := cmpW fun p q => some (PyData.eqv p q)
def neW := cmpW fun p q => some (!PyData.eqv p q)
def ordG (f : PyData → PyData → Bool) : PyData → PyData → Option Bool := fun p q => if PySem.W.alike p q = true ∧ notNone p = true then some (f p q) else none
def ltW := cmpW (ordG fun p q => PySem.W.dataLt p q)
def gtW := cmpW (ordG fun p q => PySem.W.dataLt q p)
def leW := cmpW (ordG fun p q => !PySem.W.dataLt q p)
def geW := cmpW (ordG fun p q => !PySem.W.dataLt p q)
section
variable {X : Cx} {pn : List (Addr × Obj)}
theorem cmp_d {op : CmpOp} {g : PyData → PyData → Option Bool} (h : ∀ (s : Shared) (a b : Value) (p q : PyData) (as bs : List Addr) (Q : Value → Shared → Prop) (k : Bool), Reads s.heap a p as → Reads s.heap b q bs → SeqAt.shaped p = true → SeqAt.shaped q = true → g p q = some k → Q (.bool k) s → wpAny (model X.prog X.w) X.A (compareOp op a b) Q X.xe s) :
    OpR X (compareOp op) (rO X pn (cmpW g)) := by
  intro pins s σ H x y v u Q I rx ry ⟨H0, ps, μ, w1, w2, z, st, r1, r2, e, k⟩
  unfold cmpW at e
  split at e
  · rename_i p q e1 e2
    split at e
    · rename_i hs
      obtain ⟨b, e3, e4⟩ := Option.map_eq_some_iff.mp e
      subst e4
      obtain ⟨as, h1⟩ := Dp.reads I p x v (pyW_ok st r1 e1) rx
      obtain ⟨bs, h2⟩ := Dp.reads I q y u (pyW_ok st r2 e2) ry
      exact h s v u p q as bs _ b h1 h2 hs.1 hs.2 e3 ⟨.bl b, H, I, rfl, k _ H ps Grow.refl st (.bl b)⟩
    · cases e
  · cases e
theorem ord_some {f : PyData → PyData → Bool} {p q : PyData} {k : Bool} (e : ordG f p q = some k) : PySem.W.alike p q = true ∧ p ≠ .none ∧ k = f p q := by
  unfold ordG at e
  split at e
  · rename_i h
    cases e
    exact ⟨h.1, (fun z => by rw [z] at h; cases h.2 : p ≠ .none), rfl⟩
  · cases e
theorem room_min {p q : PyData} (hu : X.A.units + 64 < cLine) (h : SeqAt.shaped p = true) : X.A.units + min p.depth q.depth < cLine := SeqAt.room_of_shaped h hu
theorem o_eq (hu : X.A.units + 64 < cLine) : OpR X (compareOp .Eq) (rO X pn eqW) := cmp_d fun s a b p q as bs Q k h1 h2 s1 s2 e hq => by
  cases e
  exact SeqAt.compareEq_shaped h1 h2 s1 s2 hu hq
theorem o_ne (hu : X.A.units + 64 < cLine) : OpR X (compareOp .NotEq) (rO X pn neW) := cmp_d fun s a b p q as bs Q k h1 h2 s1 s2 e hq => by
  cases e
  exact SeqAt.compareNe_shaped h1 h2 s1 s2 hu hq
theorem o_lt (hu : X.A.units + 64 < cLine) : OpR X (compareOp .Lt) (rO X pn ltW) := cmp_d fun s a b p q as bs Q k h1 h2 s1 s2 e hq => by
  obtain ⟨ha, hn, rfl⟩ := ord_some e
  exact PySem.W.lt_data h1 h2 ha hn (room_min hu s1) hq
theorem o_gt (hu : X.A.units + 64 < cLine) : OpR X (compareOp .Gt) (rO X pn gtW) := cmp_d fun s a b p q as bs Q k h1 h2 s1 s2 e hq => by
  obtain ⟨ha, hn, rfl⟩ := ord_some e
  exact PySem.W.gt_data h1 h2 ha hn (room_min hu s1) hq
theorem o_le (hu : X.A.units + 64 < cLine) : OpR X (compareOp .LtE) (rO X pn leW) := cmp_d fun s a b p q as bs Q k h1 h2 s1 s2 e hq => by
  obtain ⟨ha, hn, rfl⟩ := ord_some e
  exact PySem.W.le_data h1 h2 ha hn (room_min hu s1) hq
theorem o_ge (hu : X.A.units + 64 < cLine) : OpR X (compareOp .GtE) (rO X pn geW) := cmp_d fun s a b p q as bs Q k h1 h2 s1 s2 e hq => by
  obtain ⟨ha, hn, rfl⟩ := ord_some e
  exact PySem.W.ge_data h1 h2 ha hn (room_min hu s1) hq
/-- is None, is not None -/
def isN : Wv → Option Bool
  | .d .non => some true
  | .d (.bl _) => some false
  | .d (.int _) => some false
  | .d (.str _) => some false
  | .d (.tup _) => some false
  | .d (.rol _) => some false
  | .d (.loc _) => some false
  | .d (.exn _ _ _) => some false
  | .o _ => some false
def isNW (neg : Bool) : Wv → Wv → Mu → Option Wv
  | x, .d .non, _ => (isN x).map fun b => .d (.bl (if neg then !b else b))
  | _, _, _ => none
theorem isN_ok {ps : List Addr} {H H0 : Hp} {v : V} {w : Wv} {b : Bool} (r : RW X pn H0 ps H v w) (e : isN w = some b) : decide (v = .non) = b := by
  cases w with
  | o o =>
    obtain ⟨a, ho, rfl, _⟩ := r
    cases e; rfl
  | d d => cases r <;> (cases e; rfl)
theorem o_is : OpR X (compareOp .Is) (rO X pn (isNW false)) := by
  intro pins s σ H x y v u Q I rx ry ⟨H0, ps, μ, w1, w2, z, st, r1, r2, e, k⟩
  unfold isNW at e
  split at e
  · obtain ⟨b, e1, e2⟩ := Option.map_eq_some_iff.mp e
    subst e2
    cases r2
    exact op_isN pins s σ H _ _ v u Q I rx ry ⟨rfl, by rw [isN_ok r1 e1]; exact k _ H ps Grow.refl st (.bl b)⟩
  · cases e
theorem o_isnt : OpR X (compareOp .IsNot) (rO X pn (isNW true)) := by
  intro pins s σ H x y v u Q I rx ry ⟨H0, ps, μ, w1, w2, z, st, r1, r2, e, k⟩
  unfold isNW at e
  split at e
  · obtain ⟨b, e1, e2⟩ := Option.map_eq_some_iff.mp e
    subst e2
    cases r2
    exact op_notN pins s σ H _ _ v u Q I rx ry ⟨rfl, by rw [isN_ok r1 e1]; exact k _ H ps Grow.refl st (.bl !b)⟩
  · cases e
/-- a < b < c -/
theorem xCh_run {g g' : Wv → Wv → Mu → Option Wv} {ma mb mc : EX} {Wx : WX} {σ : L2.St} {H : Hp} {Q : VK} (h : tE X pn Wx (xCh g g' ma mb mc) σ H Q) : tE X pn Wx ma σ H fun x H1 => tE X pn Wx mb σ H1 fun y H2 => rO X pn g x y H2 fun z H3 => ∃ k, z = .bl k ∧
    if k = true then tE X pn Wx mc σ H3 fun u H4 => rO X pn g' y u H4 Q else Q (.bl false) H3 := by
  obtain ⟨ps, ρ, μ, Rr, h⟩ := h
  refine tE_bind (Po := PoE X pn Wx ps σ H Q) Rr h (fun e m' h => h) (fun h => h) fun w1 m1 x H1 p1 g1 R1 r1 h1 => ?_
  refine tE_bind (Po := PoE X pn Wx ps σ H Q) R1 h1 (fun e m' h cls d H' ps' g s r => h cls d H' ps' (g1.trans g) s r) (fun h => h) fun w2 m2 y H2 p2 g2 R2 r2 h2 => ?_
  unfold M.bind M.opt at h2
  cases q : g w1 w2 m2 with
  | none => rw [q] at h2; exact h2.elim
  | some z =>
    rw [q] at h2
    dsimp only at h2
    refine ⟨H, p2, m2, w1, w2, z, R2.sto, r1.grow g2, r2.base g1, q, fun zv H3 p3 g3 s3 r3 => ?_⟩
    have R3 := R2.step g3 s3
    cases z with
    | o o => exact h2.elim
    | d d =>
      cases d <;> try exact h2.elim
      rename_i b
      cases r3
      refine ⟨b, rfl, ?_⟩
      cases b with
      | false => exact h2 _ H3 p3 ((g1.trans g2).trans g3) s3 (.bl false)
      | true =>
        rw [if_pos rfl]
        refine tE_bind (Po := PoE X pn Wx ps σ H Q) (f := fun u => M.opt (g' w2 u)) R3 h2 (fun e m' h cls d H' ps' g s r => h cls d H' ps' (((g1.trans g2).trans g3).trans g) s r) (fun h => h) fun w4 m4 u H4 p4 g4 R4 r4 h4 => ?_
        exact PoE.opt (H0 := H) R4.sto (((r2.base g1).grow g3).grow g4) (r4.base ((g1.trans g2).trans g3)) (h4.base (((g1.trans g2).trans g3).trans g4))
theorem d_chain {op op' : CmpOp} {g g' : Wv → Wv → Mu → Option Wv} {ma mb mc : EX} {a b c : Expr} {pos : Pos} (ho : OpR X (compareOp op) (rO X pn g)) (ho' : OpR X (compareOp op') (rO X pn g')) (ha : DE X pn ma a) (hb : DE X pn mb b) (hc : DE X pn mc c)
    (hm : lastMarks [op, op'] [b, c] = false := by with_unfolding_all rfl) : DE X pn (xCh g g' ma mb mc) (.Compare a [op, op'] [b, c] pos) := fun Wx tk =>
  PE_imp (pe_chain ho ho' (ha Wx tk) (hb Wx tk) (hc Wx tk) hm) fun σ H Q h => xCh_run h
theorem dt_chain {op op' : CmpOp} {g g' : Wv → Wv → Mu → Option Wv} {ma mb mc : EX} {a b c : Expr} {pos : Pos} (ho : OpR X (compareOp op) (rO X pn g)) (ho' : OpR X (compareOp op') (rO X pn g')) (ha : DE X pn ma a) (hb : DE X pn mb b) (hc : DE X pn mc c)
    (hm : lastMarks [op, op'] [b, c] = false := by with_unfolding_all rfl) : DT X pn (xB (xCh g g' ma mb mc)) (.Compare a [op, op'] [b, c] pos) := fun Wx tk =>
  PT_imp (pt_chain ho ho' (ha Wx tk) (hb Wx tk) (hc Wx tk) hm) fun σ H Q h => by
    have q := xCh_run (tE_bool h)
    exact q
end
end Dn

set_option Elab.async false
set_option linter.all false
set_option maxRecDepth 100000
set_option maxHeartbeats 4000000
set_option autoImplicit false
/-! Dn7: items, slices, stores, methods of lists, built-ins. -/
namespace Dn
open PySem PySem.Spec L2

/-! ### items -/
def ixW : Wv → Wv → Mu → Option Wv
  | .d (.str x), .d (.int i), _ => if x.length ≤ LIM then (atI x.cps.toList i).map fun c => .d (.str ⟨#[c]⟩) else none
  | w, .d (.int i), mu => (seqOf w mu).bind fun xs => (atI xs i).map .d
  | _, _, _ => none
section
variable {X : Cx} {pn : List (Addr × Obj)}
theorem RVs.atI {K : PySem.W.Frag} {ps : List Addr} {H : Hp} {vs : List V} {ds : List D} {i : Int} {d : D} (r : RVs K pn ps H vs ds) (e : L2.atI ds i = some d) : ∃ v, L2.atI vs i = some v ∧ RV K pn ps H v d := by
  unfold L2.atI at e ⊢
  rw [← r.length] at e
  obtain ⟨j, e1, e2⟩ := Option.bind_eq_some_iff.mp e
  obtain ⟨v, h1, h2⟩ := r.get e2
  exact ⟨v, by rw [e1]; exact h1, h2⟩
theorem o_ix : IxR X (rO X pn ixW) := by
  intro value slice pins s σ H x y v u Q I rx ry ⟨H0, ps, μ, w1, w2, z, st, r1, r2, e, k⟩ hs
  unfold ixW at e
  split at e
  · rename_i xs i
    split at e
    · rename_i hl
      obtain ⟨c, e1, e2⟩ := Option.map_eq_some_iff.mp e
      subst e2
      cases r1; cases r2
      exact ix_str value slice pins s σ H _ _ v u Q I rx ry ⟨_, _, c, rfl, rfl, by rw [← LIM_eq]; exact hl, e1, k _ H ps Grow.refl st (.str _)⟩ hs
    · cases e
  · rename_i i _
    obtain ⟨xs, e1, e2⟩ := Option.bind_eq_some_iff.mp e
    obtain ⟨d, e3, e4⟩ := Option.map_eq_some_iff.mp e2
    subst e4
    obtain ⟨a, vs, ea, hq, rv⟩ := seq_ok st r1 e1
    obtain ⟨vd, e5, rd⟩ := rv.atI e3
    cases r2
    rcases hq with hq | hq
    · exact ix_list value slice pins s σ H _ _ v u Q I rx ry ⟨a, vs, _, vd, ea, rfl, hq, e5, k _ H ps Grow.refl st rd⟩ hs
    · exact ix_tup value slice pins s σ H _ _ v u Q I rx ry ⟨a, vs, _, vd, ea, rfl, hq, e5, k _ H ps Grow.refl st rd⟩ hs
  · cases e
theorem d_ix {ma mb : EX} {a b : Expr} {pos : Pos} {g : Wv → Wv → Mu → Option Wv} (hr : IxR X (rO X pn g)) (ha : DE X pn ma a) (hb : DE X pn mb b) (hs : PlainIx b := by intro _ _; rfl) : DE X pn (x2 g ma mb) (.Subscript a b pos) := fun Wx tk =>
  PE_imp (pe_ix hr (ha Wx tk) (hb Wx tk) hs) fun σ H Q h => x2_run h

/-! ### slices -/
def cutD (xs : List D) (lo hi : Option Int) : List D := (xs.drop (HT.sIx xs.length 0 lo)).take (HT.sIx xs.length xs.length hi - HT.sIx xs.length 0 lo)
abbrev OX := Rho → M (Option Int)
def oNo : OX := fun _ => M.ret none
def oI (m : EX) : OX := fun ρ => M.bind (m ρ) fun w => match w with
  | .d (.int i) => M.ret (some i)
  | _ => M.no
def PoO (X : Cf) (pn : List (Addr × Obj)) (Wx : WX) (ps : List Addr) (σ : L2.St) (H : Hp) (Q : Option Int → Hp → Prop) : R (Option Int) → Prop
  | .ok o m' => ∀ H' ps', Grow ps H ps' H' → Sto X.prog X.w X.K pn ps' H' m' → Q o H'
  | .ex e m' => ∀ cls d H' ps', Grow ps H ps' H' → Sto X.prog X.w X.K pn ps' H' m' → RX X.K pn ps' H' cls d e → Wx cls d σ H'
  | .no => False
def tO (X : Cf) (pn : List (Addr × Obj)) (Wx : WX) (m : OX) : TO := fun σ H Q => ∃ ps ρ μ, Rl X pn ps σ H ρ μ ∧ PoO X pn Wx ps σ H Q (m ρ μ)
def DO (X : Cx) (pn : List (Addr × Obj)) (m : OX) (e : Option Expr) : Prop := ∀ Wx, Takes X Wx → PO X e (tO X pn Wx m)
theorem PO_imp {e : Option Expr} {t t' : TO} (h : PO X e t) (i : ∀ σ H Q, t' σ H Q → t σ H Q) : PO X e t' := ⟨fun pins s σ H Q I q => h.run pins s σ H Q I (i σ H Q q)⟩
theorem do_no : DO X pn oNo none := fun Wx tk => PO_imp po_none fun σ H Q ⟨ps, ρ, μ, Rr, h⟩ => h H ps Grow.refl Rr.sto
theorem do_i {m : EX} {e : Expr} (h : DE X pn m e) : DO X pn (oI m) (some e) := fun Wx tk => PO_imp (po_some (h Wx tk)) fun σ H Q ⟨ps, ρ, μ, Rr, h⟩ => by
  refine tE_bind (Po := PoO X pn Wx ps σ H Q) Rr h (fun e m' h => h) (fun h => h) fun w m1 v H1 p1 g1 R1 r1 h1 => ?_
  cases w with
  | o o => exact h1.elim
  | d d =>
    cases d <;> try exact h1.elim
    cases r1
    exact ⟨_, rfl, h1 H1 p1 g1 R1.sto⟩
theorem tO_bind {α : Type} {Po : R α → Prop} {f : Option Int → M α} {m : OX} {Wx : WX} {ps : List Addr} {σ : L2.St} {H : Hp} {ρ : Rho} {μ : Mu} {k : Option Int → Hp → Prop} (Rr : Rl X pn ps σ H ρ μ) (h : Po (M.bind (m ρ) f μ))
    (hex : ∀ e m', Po (.ex e m') → ∀ cls d H' ps', Grow ps H ps' H' → Sto X.prog X.w X.K pn ps' H' m' → RX X.K pn ps' H' cls d e → Wx cls d σ H') (hno : ¬ Po .no)
    (hk : ∀ b m1 H1 p1, Grow ps H p1 H1 → Rl X pn p1 σ H1 ρ m1 → Po (f b m1) → k b H1) : tO X pn Wx m σ H k := by
  refine ⟨ps, ρ, μ, Rr, ?_⟩
  unfold M.bind at h
  cases q : m ρ μ with
  | ok w m1 => rw [q] at h; exact fun H1 p1 g s => hk w m1 H1 p1 g (Rr.step g s) h
  | ex e m1 => rw [q] at h; exact hex e m1 h
  | no => rw [q] at h; exact hno h
def slW : Wv → Option Int → Option Int → Mu → Option Wv
  | .d (.tup xs), lo, hi, _ => some (.d (.tup (cutD xs lo hi)))
  | w, lo, hi, mu => (lstOf w mu).map fun xs => .o (.lst (cutD xs lo hi))
def xSl (a : EX) (lo hi : OX) : EX := fun ρ => M.bind (a ρ) fun w => M.bind (lo ρ) fun l => M.bind (hi ρ) fun h => M.opt (slW w l h)
theorem RVs.cut {K : PySem.W.Frag} {ps : List Addr} {H : Hp} {vs : List V} {ds : List D} (r : RVs K pn ps H vs ds) (lo hi : Option Int) : RVs K pn ps H (cutV vs lo hi) (cutD ds lo hi) := by
  unfold cutV cutD
  rw [r.length]
  exact (r.drop _).take _
theorem cutD_whole (xs : List D) (lo hi : Option Int) (h : HT.sIx xs.length 0 lo = 0 ∧ HT.sIx xs.length xs.length hi = xs.length) : cutD xs lo hi = xs := by
  unfold cutD
  rw [h.1, h.2]
  simp
def rSl (X : Cf) (pn : List (Addr × Obj)) : V → Option Int → Option Int → Hp → VK → Prop := fun x lo hi H Q => ∃ H0 ps μ w z, Sto X.prog X.w X.K pn ps H μ ∧ RW X pn H0 ps H x w ∧ slW w lo hi μ = some z ∧
  ∀ v H' ps', Grow ps H ps' H' → Sto X.prog X.w X.K pn ps' H' μ → RW X pn H ps' H' v z → Q v H'
theorem sl_d : SlR X (rSl X pn) := by
  intro pins s σ H x v vl vu lo hi sl Q I rx hs pl pu ⟨H0, ps, μ, w, z, st, r, e, k⟩
  unfold slW at e
  split at e
  · cases e
    obtain ⟨a, vs, ea, hq, rv⟩ := tup_ok r
    refine sl_tupA pins s σ H x v vl vu lo hi sl Q I rx hs pl pu ⟨a, vs, ea, hq, fun q => ?_, fun q p hp => ?_⟩
    · rw [cutD_whole _ lo hi (by rw [← rv.length]; exact q)] at k
      exact k _ H ps Grow.refl st (.tup hq rv)
    · obtain ⟨g, s2, r2⟩ := new_tup st (rv.cut lo hi) hp
      exact k _ _ ps g s2 r2
  · obtain ⟨xs, e1, e2⟩ := Option.map_eq_some_iff.mp e
    subst e2
    obtain ⟨a, vs, ea, hq, rv⟩ := lst_ok st r e1
    refine sl_list pins s σ H x v vl vu lo hi sl Q I rx hs pl pu ⟨a, vs, ea, hq, fun p hp => ?_⟩
    obtain ⟨g, s2, r2⟩ := new_lst st (rv.cut lo hi) hp
    exact k _ _ ps g s2 r2
theorem d_slice {ma : EX} {ml mh : OX} {a : Expr} {lo hi : Option Expr} {p2 pos : Pos} (ha : DE X pn ma a) (hl : DO X pn ml lo) (hh : DO X pn mh hi) : DE X pn (xSl ma ml mh) (.Subscript a (.Slice lo hi none p2) pos) := fun Wx tk =>
  PE_imp (pe_slice sl_d (ha Wx tk) (hl Wx tk) (hh Wx tk)) fun σ H Q ⟨ps, ρ, μ, Rr, h⟩ => by
    refine tE_bind (Po := PoE X pn Wx ps σ H Q) Rr h (fun e m' h => h) (fun h => h) fun w m1 v H1 p1 g1 R1 r1 h1 => ?_
    refine tO_bind (Po := PoE X pn Wx ps σ H Q) R1 h1 (fun e m' h cls d H' ps' g s r => h cls d H' ps' (g1.trans g) s r) (fun h => h) fun l m2 H2 p2 g2 R2 h2 => ?_
    refine tO_bind (Po := PoE X pn Wx ps σ H Q) R2 h2 (fun e m' h cls d H' ps' g s r => h cls d H' ps' ((g1.trans g2).trans g) s r) (fun h => h) fun u m3 H3 p3 g3 R3 h3 => ?_
    unfold M.opt at h3
    cases q : slW w l u m3 with
    | none => rw [q] at h3; exact h3.elim
    | some z =>
      rw [q] at h3
      exact ⟨H, p3, m3, w, z, R3.sto, (r1.grow g2).grow g3, q, h3.base ((g1.trans g2).trans g3)⟩
end

/-! ### o[i] = v -/
def setW : D → D → D → Mu → Option Mu
  | .loc l, .int i, v, mu => (match mu[l]? with
    | some (.lst xs) => (ixN xs.length i).map fun j => mu.set l (.lst (xs.set j v))
    | _ => none)
  | _, _, _, _ => none
/-- a store by values -/
def rS (X : Cf) (pn : List (Addr × Obj)) (h : D → D → D → Mu → Option Mu) : TSet := fun o i v H Q => ∃ ps μ d1 d2 d3 μ', Sto X.prog X.w X.K pn ps H μ ∧ RV X.K pn ps H o d1 ∧ RV X.K pn ps H i d2 ∧ RV X.K pn ps H v d3 ∧ h d1 d2 d3 μ = some μ' ∧
  ∀ H', Grow ps H ps H' → Sto X.prog X.w X.K pn ps H' μ' → Q H'
def sSub (h : D → D → D → Mu → Option Mu) (o i m : EX) : SX := fun ρ mu => RS.of (m ρ mu) ρ fun w m1 => RS.of (settle w m1) ρ fun d m2 => RS.of (o ρ m2) ρ fun ow m3 => RS.of (i ρ m3) ρ fun iw m4 => match ow, iw with
  | .d od, .d idx => (match h od idx d m4 with
    | some m5 => .ok .nx ρ m5
    | none => .no)
  | _, _ => .no
section
variable {X : Cx} {pn : List (Addr × Obj)}
theorem set_d : PSet X (rS X pn setW) := by
  intro pins s σ H o i v ov iv u Q I ro ri rv ⟨ps, μ, d1, d2, d3, μ', st, r1, r2, r3, e, k⟩
  unfold setW at e
  split at e
  · rename_i l j
    split at e
    · rename_i xs q
      obtain ⟨n, e1, e2⟩ := Option.map_eq_some_iff.mp e
      subst e2
      cases r2
      cases r1 with
      | @loc a _ hl =>
        obtain ⟨ho, h1, h2⟩ := st.get q hl
        have h2' := h2
        obtain ⟨vs, e3, rl⟩ := h2.lst
        subst e3
        refine set_list pins s σ H _ _ v ov iv u Q I ro ri rv ⟨a, vs, _, n, rfl, rfl, h1, by rw [rl.length]; exact e1, ?_⟩
        have g0 : Grow ps H ps (upd H a (.lst (vs.set n v))) := Grow.put h1 (RO.notImm h2') (List.mem_of_getElem? hl)
        obtain ⟨g, s2⟩ := Sto.put (o := .lst (xs.set n d3)) (hn := .lst (vs.set n v)) st hl q h1 (RO.notImm h2') ((rl.set n r3).grow g0)
        exact k _ g s2
    · cases e
  · cases e
theorem ds_sub {hf : D → D → D → Mu → Option Mu} {mo mi m : EX} {o i e : Expr} {pos pos' : Pos} (hst : PSet X (rS X pn hf)) (ho : DE X pn mo o) (hi : DE X pn mi i) (he : DE X pn m e)
    (ha : ∀ v, assign (.Subscript o i pos') X.env v = (do
      let ov ← holding [v] (eval o X.env)
      let iv ← holding [v, ov] (eval i X.env)
      standAt pos'
      holding [v, ov, iv] (setItem ov iv v)
      release [v, ov, iv] []) := by intro _; rfl)
    (hs : swapsWithSole [.Subscript o i pos'] e pos.line X.env = pure false := by rfl) (hw : swappedStores [.Subscript o i pos'] e X.env = pure none := by rfl)
    (h1 : (assignEach [.Subscript o i pos'] X.env).map (·.2) = [assign (.Subscript o i pos') X.env] := by rfl) : DS X pn (sSub hf mo mi m) (.Assign [.Subscript o i pos'] e pos) := fun Wx tk =>
  PS_imp (ps_asg (he Wx tk) (pg_sub (ho Wx tk) (hi Wx tk) hst ha) hs hw h1) fun D σ H ⟨ps, ρ, μ, Rr, h⟩ => by
    refine tE_of Rr h fun w m1 v H1 p1 g1 R1 r1 h1 => ?_
    obtain ⟨d, m2, p2, g2, gw, R2, rv, h2⟩ := settle_of (Po := PoS X pn Wx ps σ H D) g1 R1 r1 h1
    refine tE_of (D := D) R2 (h2.base g2) fun ow m3 ov H3 p3 g3 R3 r3 h3 => ?_
    refine tE_of (D := D) R3 (h3.base g3) fun iw m4 iv H4 p4 g4 R4 r4 h4 => ?_
    cases ow with
    | o o => exact h4.elim
    | d od =>
      cases iw with
      | o o => exact h4.elim
      | d idx =>
        dsimp only at h4
        cases q : hf od idx d m4 with
        | none => rw [q] at h4; exact h4.elim
        | some m5 =>
          rw [q] at h4
          exact ⟨p4, m4, od, idx, d, m5, R4.sto, RV.grow g4 r3, r4, (rv.grow g3).grow g4, q, fun H5 g5 s5 => h4 σ H5 p4 (g4.trans g5) (R4.step g5 s5)⟩
end

/-! ### methods of built-in types -/
/-- by values: what changes is the store; base: p0 H0 -/
def rM (X : Cf) (pn : List (Addr × Obj)) (g : Wv → List Wv → Mu → Option (Wv × Mu)) : V → List V → Hp → VK → Prop := fun x xs H Q => ∃ p0 H0 ps μ w ws z μ', Grow p0 H0 ps H ∧ Sto X.prog X.w X.K pn ps H μ ∧ RW X pn H0 ps H x w ∧ RWs X pn H0 ps H xs ws ∧ g w ws μ = some (z, μ') ∧
  ∀ v H' ps', Grow p0 H0 ps' H' → Sto X.prog X.w X.K pn ps' H' μ' → RW X pn H0 ps' H' v z → Q v H'
def M.optM {α : Type} (o : Mu → Option (α × Mu)) : M α := fun m => match o m with
  | some (a, m') => .ok a m'
  | none => .no
def M.chk (b : Mu → Bool) : M Unit := fun m => bif b m then .ok () m else .no
/-- a value is of a built-in type -/
def isTy (T : String) (w : Wv) (mu : Mu) : Bool := match w with
  | .d (.str _) => decide (T = "str")
  | w => decide (T = "list") && (lstOf w mu).isSome
def xM (T : String) (g : Wv → List Wv → Mu → Option (Wv × Mu)) (o : EX) (as : Rho → M (List Wv)) : EX := fun ρ => M.bind (o ρ) fun w => M.bind (M.chk fun mu => isTy T w mu) fun _ => M.bind (as ρ) fun ws => M.optM (g w ws)
section
variable {X : Cx} {pn : List (Addr × Obj)} {T id : String} {g : Wv → List Wv → Mu → Option (Wv × Mu)} {mo : EX} {ms : Rho → M (List Wv)} {o e : Expr} {es : List Expr} {name : Str} {apos cpos : Pos}
theorem isTy_ok {ps : List Addr} {H H0 : Hp} {μ : Mu} {v : V} {w : Wv} (s : Sto X.prog X.w X.K pn ps H μ) (r : RW X pn H0 ps H v w) (h : isTy T w μ = true) : tyV X.K T v H := by
  unfold isTy at h
  split at h
  · cases r
    show T = "str"
    exact of_decide_eq_true h
  · obtain ⟨h1, h2⟩ := Bool.and_eq_true_iff.mp h
    obtain ⟨xs, e⟩ := Option.isSome_iff_exists.mp h2
    obtain ⟨a, vs, ea, hq, _⟩ := lst_ok s r e
    subst ea
    exact .inl ⟨of_decide_eq_true h1, vs, hq⟩
theorem xM_run {Wx : WX} {σ : L2.St} {H : Hp} {Q : VK} (h : tE X pn Wx (xM T g mo ms) σ H Q) : tE X pn Wx mo σ H fun x H1 => tyV X.K T x H1 ∧ tAW X pn Wx ms σ H1 fun xs H2 => rM X pn g x xs H2 Q := by
  obtain ⟨ps, ρ, μ, Rr, h⟩ := h
  refine tE_bind (Po := PoE X pn Wx ps σ H Q) Rr h (fun e m' h => h) (fun h => h) fun w m1 v H1 p1 g1 R1 r1 h1 => ?_
  dsimp only [M.bind, M.chk] at h1
  cases q : isTy T w m1 with
  | false => rw [q] at h1; exact h1.elim
  | true =>
    rw [q] at h1
    refine ⟨isTy_ok R1.sto r1 q, ?_⟩
    refine tAW_bind (Po := PoE X pn Wx ps σ H Q) (f := fun ws => M.optM (g w ws)) R1 h1 (fun e m' h cls d H' ps' g s r => h cls d H' ps' (g1.trans g) s r) (fun h => h) fun ws m2 vs H2 p2 g2 R2 r2 h2 => ?_
    unfold M.optM at h2
    cases q2 : g w ws m2 with
    | none => rw [q2] at h2; exact h2.elim
    | some zm =>
      obtain ⟨z, m3⟩ := zm
      rw [q2] at h2
      exact ⟨ps, H, p2, m2, w, ws, z, m3, g1.trans g2, R2.sto, r1.grow g2, r2.base g1, q2, fun v H' ps' g s r => h2 v H' ps' g s r⟩
theorem d_bm (pa : PlainAttrs T) (slot : Slot T name id) (hty : typeOf (.builtin id) = pure (.type "method_descriptor")) (hm : MtR X id (rM X pn g)) (ho : DE X pn mo o) (ha : DA X pn ms (e :: es))
    (hbase : attributeBase o name X.env (eval o X.env) = eval o X.env := by rfl)
    (hfew : ((backTo cpos (starEach (e :: es) X.env)).all (fun x => !x.1) && (backToKw cpos (keywordEach [] X.env)).all (fun x => x.1.isSome)
      && decide ((e :: es).length + ([] : List Keyword).length + (if ([] : List Keyword).isEmpty then 0 else 1) < 30)) = true := by rfl)
    (hline : (apos.endLine == cpos.line) = true := by rfl) (hs : starEach (e :: es) X.env = (false, eval e X.env) :: starEach es X.env := by rfl) (hplain : (backTo cpos (starEach es X.env)).any (·.1) = false := by rfl) :
    DE X pn (xM T g mo ms) (.Call (.Attribute o name apos) (e :: es) [] cpos) := fun Wx tk =>
  PE_imp (pe_bm pa slot hty hm (ho Wx tk) (ha Wx tk) hbase hfew hline hs hplain) fun σ H Q h => xM_run h
theorem d_bm0 (pa : PlainAttrs T) (slot : Slot T name id) (hty : typeOf (.builtin id) = pure (.type "method_descriptor")) (hm : MtR X id (rM X pn g)) (ho : DE X pn mo o)
    (hbase : attributeBase o name X.env (eval o X.env) = eval o X.env := by rfl) (hline : (apos.endLine == cpos.line) = true := by rfl) : DE X pn (xM T g mo aNil) (.Call (.Attribute o name apos) [] [] cpos) := fun Wx tk =>
  PE_imp (pe_bm0 pa slot hty hm (ho Wx tk) hbase hline) fun σ H Q h => by
    obtain ⟨ps, ρ, μ, Rr, h⟩ := h
    refine tE_bind (Po := PoE X pn Wx ps σ H Q) Rr h (fun e m' h => h) (fun h => h) fun w m1 v H1 p1 g1 R1 r1 h1 => ?_
    dsimp only [M.bind, M.chk] at h1
    cases q : isTy T w m1 with
    | false => rw [q] at h1; exact h1.elim
    | true =>
      rw [q] at h1
      refine ⟨isTy_ok R1.sto r1 q, ?_⟩
      have h2 : PoE X pn Wx ps σ H Q (M.optM (g w []) m1) := h1
      unfold M.optM at h2
      cases q2 : g w [] m1 with
      | none => rw [q2] at h2; exact h2.elim
      | some zm =>
        obtain ⟨z, m3⟩ := zm
        rw [q2] at h2
        exact ⟨ps, H, p1, m1, w, [], z, m3, g1, R1.sto, r1, .nil, q2, fun v H' ps' g s r => h2 v H' ps' g s r⟩
end
/-- xs.append(e) -/
def appG : Wv → List Wv → Mu → Option (Wv × Mu)
  | .d (.loc l), [w], mu => (match settle w mu with
    | .ok d m1 => (match m1[l]? with
      | some (.lst xs) => if xs.length < LIM then some (.d .non, m1.set l (.lst (xs ++ [d]))) else none
      | _ => none)
    | _ => none)
  | _, _, _ => none
/-- xs.extend(ys): ys another list -/
def extG : Wv → List Wv → Mu → Option (Wv × Mu)
  | .d (.loc l), [w], mu => (match mu[l]?, mlstOf w mu with
    | some (.lst xs), some ys => if xs.length + ys.length ≤ LIM then some (.d .non, mu.set l (.lst (xs ++ ys))) else none
    | _, _ => none)
  | _, _, _ => none
/-- xs.pop() -/
def popG : Wv → List Wv → Mu → Option (Wv × Mu)
  | .d (.loc l), [], mu => (match mu[l]? with
    | some (.lst xs) => (xs[xs.length - 1]?).map fun d => (.d d, mu.set l (.lst xs.dropLast))
    | _ => none)
  | _, _, _ => none
def clrG : Wv → List Wv → Mu → Option (Wv × Mu)
  | .d (.loc l), [], mu => (match mu[l]? with
    | some (.lst xs) => some (.d .non, mu.set l (.lst []))
    | _ => none)
  | _, _, _ => none
section
variable {X : Cx} {pn : List (Addr × Obj)}
theorem RVs.dropLast {K : PySem.W.Frag} {ps : List Addr} {H : Hp} {vs : List V} {ds : List D} (r : RVs K pn ps H vs ds) : RVs K pn ps H vs.dropLast ds.dropLast := by
  rw [List.dropLast_eq_take, List.dropLast_eq_take, r.length]
  exact r.take _
theorem m_append : MtR X "list.append" (rM X pn appG) := by
  intro pins s σ H x xs v us Q I rx rs ⟨p0, H0, ps, μ, w, ws, z, μ', g0, st, r, rws, e, k⟩
  unfold appG at e
  split at e
  · rename_i l w
    cases rws with
    | cons rw1 rn =>
      cases rn
      rename_i yv
      obtain ⟨d, m1, e1, p2, g2, gw, s2, rv⟩ := settle_ok g0 st rw1
      rw [e1] at e
      dsimp only at e
      split at e
      · rename_i ys q
        split at e
        · rename_i hl
          cases e
          cases r with
          | @loc a _ ha =>
            have ha2 := gw.pre ha
            obtain ⟨ho, h1, h2⟩ := s2.get q ha2
            have h2' := h2
            obtain ⟨vs, e3, rl⟩ := h2.lst
            subst e3
            refine mt_append pins s σ H _ _ v us Q I rx rs ⟨a, vs, _, rfl, rfl, h1, by rw [rl.length, ← LIM_eq]; exact hl, ?_⟩
            have gg : Grow p2 H p2 (upd H a (.lst (vs ++ [yv]))) := Grow.put h1 (RO.notImm h2') (List.mem_of_getElem? ha2)
            obtain ⟨g, s3⟩ := Sto.put (o := .lst (ys ++ [d])) (hn := .lst (vs ++ [yv])) s2 ha2 q h1 (RO.notImm h2') ((rl.append (.cons rv .nil)).grow gg)
            exact k _ _ p2 (g2.trans g) s3 .non
        · cases e
      · cases e
  · cases e
theorem m_extend : MtR X "list.extend" (rM X pn extG) := by
  intro pins s σ H x xs v us Q I rx rs ⟨p0, H0, ps, μ, w, ws, z, μ', g0, st, r, rws, e, k⟩
  unfold extG at e
  split at e
  · rename_i l w
    cases rws with
    | cons rw1 rn =>
      cases rn
      split at e
      · rename_i ys zs q q2
        split at e
        · rename_i hl
          cases e
          cases r with
          | @loc a _ ha =>
            obtain ⟨ho, h1, h2⟩ := st.get q ha
            have h2' := h2
            obtain ⟨vs, e3, rl⟩ := h2.lst
            subst e3
            obtain ⟨b, us2, eb, hb, rb⟩ := mlst_ok st rw1 q2
            refine mt_extend pins s σ H _ _ v us Q I rx rs ⟨a, b, vs, us2, rfl, by rw [eb], h1, hb, by rw [rl.length, rb.length, ← LIM_eq]; exact hl, ?_⟩
            have gg : Grow ps H ps (upd H a (.lst (vs ++ us2))) := Grow.put h1 (RO.notImm h2') (List.mem_of_getElem? ha)
            obtain ⟨g, s3⟩ := Sto.put (o := .lst (ys ++ zs)) (hn := .lst (vs ++ us2)) st ha q h1 (RO.notImm h2') ((rl.append rb).grow gg)
            exact k _ _ ps (g0.trans g) s3 .non
        · cases e
      · cases e
  · cases e
theorem m_pop : MtR X "list.pop" (rM X pn popG) := by
  intro pins s σ H x xs v us Q I rx rs ⟨p0, H0, ps, μ, w, ws, z, μ', g0, st, r, rws, e, k⟩
  unfold popG at e
  split at e
  · rename_i l
    cases rws
    split at e
    · rename_i ys q
      obtain ⟨d, e1, e2⟩ := Option.map_eq_some_iff.mp e
      cases e2
      cases r with
      | @loc a _ ha =>
        obtain ⟨ho, h1, h2⟩ := st.get q ha
        have h2' := h2
        obtain ⟨vs, e3, rl⟩ := h2.lst
        subst e3
        obtain ⟨yv, e4, ry⟩ := rl.get e1
        refine mt_pop pins s σ H _ _ v us Q I rx rs ⟨a, vs, yv, rfl, rfl, h1, by rw [rl.length]; exact e4, ?_⟩
        have gg : Grow ps H ps (upd H a (.lst vs.dropLast)) := Grow.put h1 (RO.notImm h2') (List.mem_of_getElem? ha)
        obtain ⟨g, s3⟩ := Sto.put (o := .lst ys.dropLast) (hn := .lst vs.dropLast) st ha q h1 (RO.notImm h2') (rl.dropLast.grow gg)
        exact k _ _ ps (g0.trans g) s3 (ry.grow g)
    · cases e
  · cases e
theorem m_clear : MtR X "list.clear" (rM X pn clrG) := by
  intro pins s σ H x xs v us Q I rx rs ⟨p0, H0, ps, μ, w, ws, z, μ', g0, st, r, rws, e, k⟩
  unfold clrG at e
  split at e
  · rename_i l
    cases rws
    split at e
    · rename_i ys q
      cases e
      cases r with
      | @loc a _ ha =>
        obtain ⟨ho, h1, h2⟩ := st.get q ha
        have h2' := h2
        obtain ⟨vs, e3, rl⟩ := h2.lst
        subst e3
        refine mt_clear pins s σ H _ _ v us Q I rx rs ⟨a, vs, rfl, rfl, h1, ?_⟩
        obtain ⟨g, s3⟩ := Sto.put (o := .lst []) (hn := .lst []) st ha q h1 (RO.notImm h2') (show RVs X.K pn ps (upd H a (.lst [])) [] [] from .nil)
        exact k _ _ ps (g0.trans g) s3 .non
    · cases e
  · cases e
end

/-! ### built-ins by name -/
/-- a call by values; the store isn't changed -/
def rC (X : Cf) (pn : List (Addr × Obj)) (g : List Wv → Mu → Option Wv) : List V → Hp → VK → Prop := fun xs H Q => ∃ H0 ps μ ws z, Sto X.prog X.w X.K pn ps H μ ∧ RWs X pn H0 ps H xs ws ∧ g ws μ = some z ∧
  ∀ v H' ps', Grow ps H ps' H' → Sto X.prog X.w X.K pn ps' H' μ → RW X pn H ps' H' v z → Q v H'
def xCB (g : List Wv → Mu → Option Wv) (as : Rho → M (List Wv)) : EX := fun ρ => M.bind (as ρ) fun ws => M.opt (g ws)
section
variable {X : Cx} {pn : List (Addr × Obj)} {g : List Wv → Mu → Option Wv} {ms : Rho → M (List Wv)} {x : Str} {p pos : Pos} {e : Expr} {es : List Expr} {id T : String}
theorem xCB_run {Wx : WX} {σ : L2.St} {H : Hp} {Q : VK} (h : tE X pn Wx (xCB g ms) σ H Q) : tAW X pn Wx ms σ H fun xs H1 => rC X pn g xs H1 Q := by
  obtain ⟨ps, ρ, μ, Rr, h⟩ := h
  refine tAW_bind (Po := PoE X pn Wx ps σ H Q) Rr h (fun e m' h => h) (fun h => h) fun ws m1 vs H1 p1 g1 R1 r1 h1 => ?_
  unfold M.opt at h1
  cases q : g ws m1 with
  | none => rw [q] at h1; exact h1.elim
  | some z => rw [q] at h1; exact ⟨H, p1, m1, ws, z, R1.sto, r1, q, h1.base g1⟩
theorem d_bi (hc : CallR X (.builtin id) (rC X pn g)) (hg : Gl X x) (hm : X.mg x = none) (hv : bootBuiltins x = some (.builtin id)) (ha : DA X pn ms (e :: es)) (hn : x ≠ "__name__" := by decide) (hdb : (x == ("__debug__" : Str)) = false := by decide)
    (he : starEach (e :: es) X.env = (false, eval e X.env) :: starEach es X.env := by rfl) (hpl : (backTo pos (starEach es X.env)).any (·.1) = false := by rfl) : DE X pn (xCB g ms) (.Call (.Name x p) (e :: es) [] pos) := fun Wx tk =>
  PE_imp (pe_callB hc hg hm hv (ha Wx tk) hn hdb he hpl) fun σ H Q h => xCB_run h
theorem d_ty (hc : CallR X (.type T) (rC X pn g)) (hg : Gl X x) (hm : X.mg x = none) (hv : bootBuiltins x = some (.type T)) (ha : DA X pn ms (e :: es)) (hn : x ≠ "__name__" := by decide) (hdb : (x == ("__debug__" : Str)) = false := by decide)
    (he : starEach (e :: es) X.env = (false, eval e X.env) :: starEach es X.env := by rfl) (hpl : (backTo pos (starEach es X.env)).any (·.1) = false := by rfl) : DE X pn (xCB g ms) (.Call (.Name x p) (e :: es) [] pos) := fun Wx tk =>
  PE_imp (pe_callTy hc hg hm hv (ha Wx tk) hn hdb he hpl) fun σ H Q h => xCB_run h
end
def int1 (f : Int → Int) : List Wv → Mu → Option Wv
  | [.d (.int i)], _ => some (.d (.int (f i)))
  | _, _ => none
def absC := int1 fun i => if i < 0 then -i else i
def intC : List Wv → Mu → Option Wv
  | [.d (.int i)], _ => some (.d (.int i))
  | [.d (.bl b)], _ => some (.d (.int (if b then 1 else 0)))
  | _, _ => none
def tupleC : List Wv → Mu → Option Wv
  | [.d (.tup xs)], _ => some (.d (.tup xs))
  | [w], mu => (lstOf w mu).map fun xs => .d (.tup xs)
  | _, _ => none
def listC : List Wv → Mu → Option Wv
  | [w], mu => (seqOf w mu).map fun xs => .o (.lst xs)
  | _, _ => none
def max2C : List Wv → Mu → Option Wv
  | [.d (.int i), .d (.int j)], _ => some (.d (.int (if j > i then j else i)))
  | _, _ => none
def min2C : List Wv → Mu → Option Wv
  | [.d (.int i), .d (.int j)], _ => some (.d (.int (if j < i then j else i)))
  | _, _ => none
def intsD : List D → Option (List Int)
  | [] => some []
  | .int i :: ds => (intsD ds).map (i :: ·)
  | _ :: _ => none
def blsD : List D → Option (List Bool)
  | [] => some []
  | .bl i :: ds => (blsD ds).map (i :: ·)
  | _ :: _ => none
def sumC : List Wv → Mu → Option Wv
  | [w], mu => (lstOf w mu).bind fun xs => (intsD xs).map fun ns => .d (.int ns.sum)
  | _, _ => none
section
variable {X : Cx} {pn : List (Addr × Obj)}
theorem RWs.one {H0 : Hp} {ps : List Addr} {H : Hp} {xs : List V} {w : Wv} (r : RWs X pn H0 ps H xs [w]) : ∃ v, xs = [v] ∧ RW X pn H0 ps H v w := by
  cases r with
  | cons h r => cases r; exact ⟨_, rfl, h⟩
theorem RWs.two {H0 : Hp} {ps : List Addr} {H : Hp} {xs : List V} {w1 w2 : Wv} (r : RWs X pn H0 ps H xs [w1, w2]) : ∃ v u, xs = [v, u] ∧ RW X pn H0 ps H v w1 ∧ RW X pn H0 ps H u w2 := by
  cases r with
  | cons h r =>
    cases r with
    | cons h2 r => cases r; exact ⟨_, _, rfl, h, h2⟩
theorem c_abs : CallR X (.builtin "abs") (rC X pn absC) := by
  intro pins s σ H xs us Q I rs ⟨H0, ps, μ, ws, z, st, r, e, k⟩
  unfold absC int1 at e
  split at e
  · cases e
    obtain ⟨v, rfl, r1⟩ := r.one
    cases r1
    exact call_abs pins s σ H _ us Q I rs ⟨_, rfl, k _ H ps Grow.refl st (.int _)⟩
  · cases e
theorem c_int : CallR X (.type "int") (rC X pn intC) := by
  intro pins s σ H xs us Q I rs ⟨H0, ps, μ, ws, z, st, r, e, k⟩
  unfold intC at e
  split at e
  · cases e
    obtain ⟨v, rfl, r1⟩ := r.one
    cases r1
    exact call_int1 pins s σ H _ us Q I rs (.inl ⟨_, rfl, k _ H ps Grow.refl st (.int _)⟩)
  · cases e
    obtain ⟨v, rfl, r1⟩ := r.one
    cases r1
    exact call_int1 pins s σ H _ us Q I rs (.inr ⟨_, rfl, k _ H ps Grow.refl st (.int _)⟩)
  · cases e
theorem c_tuple : CallR X (.type "tuple") (rC X pn tupleC) := by
  intro pins s σ H xs us Q I rs ⟨H0, ps, μ, ws, z, st, r, e, k⟩
  unfold tupleC at e
  split at e
  · cases e
    obtain ⟨v, rfl, r1⟩ := r.one
    obtain ⟨a, vs, ea, hq, rv⟩ := tup_ok r1
    subst ea
    exact call_tuple_of pins s σ H _ us Q I rs ⟨a, vs, rfl, .inr ⟨hq, k _ H ps Grow.refl st (.tup hq rv)⟩⟩
  · obtain ⟨v, rfl, r1⟩ := r.one
    obtain ⟨ds, e1, e2⟩ := Option.map_eq_some_iff.mp e
    subst e2
    obtain ⟨a, vs, ea, hq, rv⟩ := lst_ok st r1 e1
    subst ea
    exact call_tuple_of pins s σ H _ us Q I rs ⟨a, vs, rfl, .inl ⟨hq, fun p hp => by
      obtain ⟨g, s2, r2⟩ := new_tup st rv hp
      exact k _ _ ps g s2 r2⟩⟩
  · cases e
theorem c_list : CallR X (.type "list") (rC X pn listC) := by
  intro pins s σ H xs us Q I rs ⟨H0, ps, μ, ws, z, st, r, e, k⟩
  unfold listC at e
  split at e
  · obtain ⟨v, rfl, r1⟩ := r.one
    obtain ⟨ds, e1, e2⟩ := Option.map_eq_some_iff.mp e
    subst e2
    obtain ⟨a, vs, ea, hq, rv⟩ := seq_ok st r1 e1
    subst ea
    exact call_list_of pins s σ H _ us Q I rs ⟨a, vs, rfl, hq, fun p hp => by
      obtain ⟨g, s2, r2⟩ := new_lst st rv hp
      exact k _ _ ps g s2 r2⟩
  · cases e
theorem c_max2 (hc : X.calm = true) : CallR X (.builtin "max") (rC X pn max2C) := by
  intro pins s σ H xs us Q I rs ⟨H0, ps, μ, ws, z, st, r, e, k⟩
  unfold max2C at e
  split at e
  · cases e
    obtain ⟨v, u, rfl, r1, r2⟩ := r.two
    cases r1; cases r2
    exact call_max2 hc pins s σ H _ us Q I rs ⟨_, _, rfl, k _ H ps Grow.refl st (.int _)⟩
  · cases e
theorem c_min2 (hc : X.calm = true) : CallR X (.builtin "min") (rC X pn min2C) := by
  intro pins s σ H xs us Q I rs ⟨H0, ps, μ, ws, z, st, r, e, k⟩
  unfold min2C at e
  split at e
  · cases e
    obtain ⟨v, u, rfl, r1, r2⟩ := r.two
    cases r1; cases r2
    exact call_min2 hc pins s σ H _ us Q I rs ⟨_, _, rfl, k _ H ps Grow.refl st (.int _)⟩
  · cases e
theorem ints_ok {K : PySem.W.Frag} {ps : List Addr} {H : Hp} : ∀ {vs : List V} {ds : List D} {ns : List Int}, RVs K pn ps H vs ds → intsD ds = some ns → vs = ns.map V.int
  | _, _, _, .nil, e => by cases e; rfl
  | _, _, _, .cons h r, e => by
    cases h <;> try (cases e; done)
    unfold intsD at e
    obtain ⟨ms, e1, e2⟩ := Option.map_eq_some_iff.mp e
    subst e2
    rw [ints_ok r e1, List.map_cons]
theorem bls_ok {K : PySem.W.Frag} {ps : List Addr} {H : Hp} : ∀ {vs : List V} {ds : List D} {ns : List Bool}, RVs K pn ps H vs ds → blsD ds = some ns → vs = ns.map V.bl
  | _, _, _, .nil, e => by cases e; rfl
  | _, _, _, .cons h r, e => by
    cases h <;> try (cases e; done)
    unfold blsD at e
    obtain ⟨ms, e1, e2⟩ := Option.map_eq_some_iff.mp e
    subst e2
    rw [bls_ok r e1, List.map_cons]
theorem c_sum (hc : X.calm = true) : CallR X (.builtin "sum") (rC X pn sumC) := by
  intro pins s σ H xs us Q I rs ⟨H0, ps, μ, ws, z, st, r, e, k⟩
  unfold sumC at e
  split at e
  · obtain ⟨v, rfl, r1⟩ := r.one
    obtain ⟨ds, e1, e2⟩ := Option.bind_eq_some_iff.mp e
    obtain ⟨ns, e3, e4⟩ := Option.map_eq_some_iff.mp e2
    subst e4
    obtain ⟨a, vs, ea, hq, rv⟩ := lst_ok st r1 e1
    subst ea
    rw [ints_ok rv e3] at hq
    exact cr_sum hc pins s σ H _ us Q I rs ⟨a, ns, rfl, hq, k _ H ps Grow.refl st (.int _)⟩
  · cases e
end
end Dn

set_option Elab.async false
set_option linter.all false
set_option maxRecDepth 100000
set_option maxHeartbeats 4000000
set_option autoImplicit false
/-! Dn8: for, list comprehensions, all, any. -/
namespace Dn
open PySem PySem.Spec L2

/-- what has to stand while a loop walks -/
def stands (st : List (Nat × O)) (m : Mu) : Prop := ∀ p ∈ st, m[p.1]? = some p.2
/-- the items, and what has to stand -/
abbrev IX := Rho → M (List D × List (Nat × O))
/-- the iterator J yields the items -/
def ItOk (X : Cf) (pn : List (Addr × Obj)) (ps : List Addr) (H : Hp) (items : List D) (st : List (Nat × O)) (J : It) : Prop := ∀ i p2 H2 m2, Grow ps H p2 H2 → Sto X.prog X.w X.K pn p2 H2 m2 → stands st m2 →
  (∀ d, items[i]? = some d → J.go i H2 ∧ ∀ x H3, J.yld i H2 x H3 → Grow p2 H2 p2 H3 ∧ Sto X.prog X.w X.K pn p2 H3 m2 ∧ RV X.K pn p2 H3 x d) ∧ (items.length ≤ i → J.stop i H2)
def PoI (X : Cf) (pn : List (Addr × Obj)) (Wx : WX) (ps : List Addr) (σ : L2.St) (H : Hp) (Q : It → Hp → Prop) : R (List D × List (Nat × O)) → Prop
  | .ok it m' => ∀ J H' ps', Grow ps H ps' H' → Sto X.prog X.w X.K pn ps' H' m' → ItOk X pn ps' H' it.1 it.2 J → Q J H'
  | .ex e m' => ∀ cls d H' ps', Grow ps H ps' H' → Sto X.prog X.w X.K pn ps' H' m' → RX X.K pn ps' H' cls d e → Wx cls d σ H'
  | .no => False
def tI (X : Cf) (pn : List (Addr × Obj)) (Wx : WX) (m : IX) : TI := fun σ H R => ∃ ps ρ μ, Rl X pn ps σ H ρ μ ∧ PoI X pn Wx ps σ H R (m ρ μ)
def DI (X : Cx) (pn : List (Addr × Obj)) (m : IX) (tg e : Expr) : Prop := ∀ Wx, Takes X Wx → PI X tg e (tI X pn Wx m)
theorem PI_imp {X : Cx} {tg e : Expr} {t t' : TI} (h : PI X tg e t) (i : ∀ σ H Q, t' σ H Q → t σ H Q) : PI X tg e t' := ⟨fun pins s σ H Q I q => h.run pins s σ H Q I (i σ H Q q)⟩

open Classical in
noncomputable def loopF (g : D → Rho → Option Rho) (b : SX) (st : List (Nat × O)) : List D → SX
  | [] => fun ρ m => if stands st m then .ok .nx ρ m else .no
  | d :: ds => fun ρ m => if stands st m then (match g d ρ with
      | some ρ1 => (match b ρ1 m with
        | .ok .nx ρ2 m2 => loopF g b st ds ρ2 m2
        | .ok .ct ρ2 m2 => loopF g b st ds ρ2 m2
        | .ok .bk ρ2 m2 => .ok .nx ρ2 m2
        | r => r)
      | none => .no) else .no
noncomputable def sFor (mi : IX) (g : D → Rho → Option Rho) (b : SX) : SX := fun ρ m => RS.of (mi ρ m) ρ fun it m1 => loopF g b it.2 it.1 ρ m1

section
variable {X : Cf} {pn : List (Addr × Obj)} {Wx : WX} {ps : List Addr} {σ : L2.St} {H : Hp} {ρ : Rho} {μ : Mu}
theorem tI_of {D : Ends} {f : List Dn.D × List (Nat × O) → Mu → RS} {m : IX} {k : It → Hp → Prop} (Rr : Rl X pn ps σ H ρ μ) (h : PoS X pn Wx ps σ H D (RS.of (m ρ μ) ρ f))
    (hk : ∀ it m1 J H1 p1, Grow ps H p1 H1 → Rl X pn p1 σ H1 ρ m1 → ItOk X pn p1 H1 it.1 it.2 J → PoS X pn Wx ps σ H D (f it m1) → k J H1) : tI X pn Wx m σ H k := by
  refine ⟨ps, ρ, μ, Rr, ?_⟩
  unfold RS.of at h
  cases q : m ρ μ with
  | ok w m1 => rw [q] at h; exact fun v H1 p1 g s r => hk w m1 v H1 p1 g (Rr.step g s) r h
  | ex e m1 => rw [q] at h; exact fun cls d H' ps' g s r => h cls d σ H' ps' g (Rr.step g s) r
  | no => rw [q] at h; exact h.elim
theorem tI_bind {α : Type} {Po : R α → Prop} {f : List D × List (Nat × O) → M α} {m : IX} {k : It → Hp → Prop} (Rr : Rl X pn ps σ H ρ μ) (h : Po (M.bind (m ρ) f μ))
    (hex : ∀ e m', Po (.ex e m') → ∀ cls d H' ps', Grow ps H ps' H' → Sto X.prog X.w X.K pn ps' H' m' → RX X.K pn ps' H' cls d e → Wx cls d σ H') (hno : ¬ Po .no)
    (hk : ∀ it m1 J H1 p1, Grow ps H p1 H1 → Rl X pn p1 σ H1 ρ m1 → ItOk X pn p1 H1 it.1 it.2 J → Po (f it m1) → k J H1) : tI X pn Wx m σ H k := by
  refine ⟨ps, ρ, μ, Rr, ?_⟩
  unfold M.bind at h
  cases q : m ρ μ with
  | ok w m1 => rw [q] at h; exact fun v H1 p1 g s r => hk w m1 v H1 p1 g (Rr.step g s) r h
  | ex e m1 => rw [q] at h; exact hex e m1 h
  | no => rw [q] at h; exact hno h
end
theorem ds_for {X : Cx} {pn : List (Addr × Obj)} {iter tg : Expr} {body : List Stmt} {mi : IX} {g : D → Rho → Option Rho} {sl : List Nat} {b : SX} {pos : Pos} (hp : PassesOwn (model X.prog X.w) X.A X.env X.xe) (hc : X.calm = true) (hi : DI X pn mi tg iter) (hg : DG X pn g sl tg) (hb : DSs X pn b body)
    (hs : ∀ x, foldedSetIterable iter X.env x = pure x := by intro _; rfl) : DS X pn (sFor mi g b) (.For tg iter body [] pos) := fun Wx tk =>
  PS_imp (ps_for hp hc (hi Wx tk) hg (hb Wx tk) hs) fun D σ H ⟨ps, ρ, μ, Rr, h⟩ => by
    refine tI_of Rr h fun it m1 J H1 p1 g1 R1 ok h1 => ?_
    obtain ⟨items, st⟩ := it
    dsimp only at ok h1
    refine ⟨fun i k σ2 H2 => i + k = items.length ∧ ∃ p2 ρ2 μ2, Grow p1 H1 p2 H2 ∧ Rl X pn p2 σ2 H2 ρ2 μ2 ∧ PoS X pn Wx p2 σ2 H2 D (loopF g b st (items.drop i) ρ2 μ2), ⟨items.length, by omega, p1, ρ, m1, Grow.refl, R1, h1.base g1⟩, ?_⟩
    rintro i k σ2 H2 ⟨hik, p2, ρ2, μ2, g2, R2, h2⟩
    cases k with
    | zero =>
      have e : items.drop i = [] := List.drop_eq_nil_of_le (by omega)
      rw [e] at h2
      unfold loopF at h2
      split at h2
      · rename_i hst
        exact .inl ⟨(ok i p2 H2 μ2 g2 R2.sto hst).2 (by omega), h2 σ2 H2 p2 Grow.refl R2⟩
      · exact h2.elim
    | succ k =>
      have hlt : i < items.length := by omega
      rw [List.drop_eq_getElem_cons hlt] at h2
      unfold loopF at h2
      split at h2
      · rename_i hst
        obtain ⟨go, yl⟩ := (ok i p2 H2 μ2 g2 R2.sto hst).1 items[i] (List.getElem?_eq_getElem hlt)
        refine .inr ⟨go, fun σ3 H3 => ∃ p3 ρ3 μ3, Grow p1 H1 p3 H3 ∧ Rl X pn p3 σ3 H3 ρ3 μ3 ∧ PoS X pn Wx p3 σ3 H3 D (loopF g b st (items.drop (i + 1)) ρ3 μ3), fun σ3 H3 hN => ⟨k, Nat.lt_succ_self k, by omega, hN⟩, fun x H3 hy => ?_⟩
        obtain ⟨g3, s3, r3⟩ := yl x H3 hy
        have R3 := R2.step g3 s3
        cases q : g items[i] ρ2 with
        | none => rw [q] at h2; exact h2.elim
        | some ρ4 =>
          rw [q] at h2
          dsimp only at h2
          refine ⟨p2, ρ2, μ2, items[i], ρ4, R3, r3, q, fun σ4 _ _ R4 => ?_⟩
          refine ⟨p2, ρ4, μ2, R4, ?_⟩
          cases qb : b ρ4 μ2 with
          | no => rw [qb] at h2; exact h2.elim
          | ex e ρ5 m5 => rw [qb] at h2; exact PoS.base (σ := σ2) (σ' := σ4) (D := D) (r := .ex e ρ5 m5) g3 h2
          | ok f ρ5 m5 =>
            rw [qb] at h2
            cases f with
            | nx => exact fun σ5 H5 p5 g5 R5 => ⟨p5, ρ5, m5, (g2.trans g3).trans g5, R5, h2.base (g3.trans g5)⟩
            | ct => exact fun σ5 H5 p5 g5 R5 => ⟨p5, ρ5, m5, (g2.trans g3).trans g5, R5, h2.base (g3.trans g5)⟩
            | bk => exact fun σ5 H5 p5 g5 R5 => h2 σ5 H5 p5 (g3.trans g5) R5
            | rt d => exact fun v H5 p5 g5 s5 r5 => h2 v H5 p5 (g3.trans g5) s5 r5
      · exact h2.elim

/-! ### what is walked -/
def iSeq (m : EX) : IX := fun ρ => M.bind (m ρ) fun w => match w with
  | .d (.tup _) => M.no
  | .d (.loc l) => M.opt fun mu => match mu[l]? with
    | some (.lst xs) => some (xs, [(l, .lst xs)])
    | _ => none
  | .d (.rol xs) => M.ret (xs, [])
  | .o (.lst xs) => M.ret (xs, [])
  | _ => M.no
def iTp (m : EX) : IX := fun ρ => M.bind (m ρ) fun w => match w with
  | .d (.tup xs) => M.ret (xs, [])
  | _ => M.no
def rng (lo : Int) (n : Nat) : List D := (List.range n).map fun i => D.int (lo + (i : Nat))
def iRg1 (m : EX) : IX := fun ρ => M.bind (m ρ) fun w => match w with
  | .d (.int j) => if -(2 ^ 62) ≤ j ∧ j < 2 ^ 62 then M.ret (rng 0 j.toNat, []) else M.no
  | _ => M.no
def iRg2 (a b : EX) : IX := fun ρ => M.bind (a ρ) fun w => M.bind (b ρ) fun u => match w, u with
  | .d (.int i), .d (.int j) => if -(2 ^ 62) ≤ i ∧ i < 2 ^ 62 ∧ -(2 ^ 62) ≤ j ∧ j < 2 ^ 62 then M.ret (rng i (j - i).toNat, []) else M.no
  | _, _ => M.no
section
variable {X : Cx} {pn : List (Addr × Obj)} {tg e a b : Expr} {m ma mb : EX} {p pos : Pos}
theorem RVs.len_get {K : PySem.W.Frag} {ps : List Addr} {H : Hp} {vs : List V} {ds : List D} (r : RVs K pn ps H vs ds) {i : Nat} (h : ds.length ≤ i) : vs.length ≤ i := by rw [r.length]; exact h
/-- a list that stays where it is -/
theorem it_list {C : Cf} {ps : List Addr} {H : Hp} {a : Addr} {vs : List V} {ds : List D} {st : List (Nat × O)} (r : RVs C.K pn ps H vs ds) (hs : ∀ p2 H2 m2, Grow ps H p2 H2 → Sto C.prog C.w C.K pn p2 H2 m2 → stands st m2 → ∃ us, SqL C.K H2 a us ∧ RVs C.K pn p2 H2 us ds) : ItOk C pn ps H ds st (Itl C.K a) := by
  intro i p2 H2 m2 g s hst
  obtain ⟨us, hq, ru⟩ := hs p2 H2 m2 g s hst
  refine ⟨fun d hd => ?_, fun hl => ⟨us, hq, ru.len_get hl⟩⟩
  obtain ⟨v, hv, rv⟩ := ru.get hd
  refine ⟨⟨us, v, hq, hv⟩, fun x H3 hy => ?_⟩
  obtain ⟨rfl, hx⟩ := hy
  have := hx us hq
  rw [hv] at this
  cases this
  exact ⟨Grow.refl, s, rv⟩
theorem di_seq (h : DE X pn m e) : DI X pn (iSeq m) tg e := fun Wx tk =>
  PI_imp (pi_list (h Wx tk)) fun σ H Q ⟨ps, ρ, μ, Rr, h⟩ => by
    refine tE_bind (Po := PoI X pn Wx ps σ H Q) Rr h (fun e m' h => h) (fun h => h) fun w m1 v H1 p1 g1 R1 r1 h1 => ?_
    cases w with
    | o o =>
      cases o <;> try exact h1.elim
      rename_i xs
      obtain ⟨a, ho, e1, h0, hn, e2, r⟩ := r1
      obtain ⟨vs, e3, r⟩ := r.lst
      subst e1 e3
      exact ⟨a, rfl, ⟨vs, SqL.of e2⟩, h1 _ H1 p1 g1 R1.sto (it_list r fun p2 H2 m2 g s _ => ⟨vs, SqL.of (g.keep a _ e2 hn), r.grow g⟩)⟩
    | d d =>
      cases d <;> try exact h1.elim
      · rename_i xs
        cases r1 with
        | @rol a vs _ hf r =>
          exact ⟨a, rfl, ⟨vs, hf.l⟩, h1 _ H1 p1 g1 R1.sto (it_list r fun p2 H2 m2 g s _ => ⟨vs, SqF.l (show SqF X.K H2 a vs from hf.imp (fun ⟨o, z⟩ => ⟨o, g.imm _ _ z trivial⟩) id), r.grow g⟩)⟩
      · rename_i l
        cases r1 with
        | @loc a _ hl =>
          dsimp only [M.opt] at h1
          cases q : m1[l]? with
          | none => rw [q] at h1; exact h1.elim
          | some ob =>
            rw [q] at h1
            cases ob <;> try exact h1.elim
            rename_i xs
            obtain ⟨ho, e1, e2⟩ := R1.sto.get q hl
            obtain ⟨vs, e3, r⟩ := e2.lst
            subst e3
            refine ⟨a, rfl, ⟨vs, SqL.of e1⟩, h1 _ H1 p1 g1 R1.sto (it_list r fun p2 H2 m2 g s hst => ?_)⟩
            have q2 := hst (l, .lst xs) (List.mem_singleton.mpr rfl)
            obtain ⟨ho, e4, e5⟩ := s.get q2 (g.w.pre hl)
            obtain ⟨us, e6, ru⟩ := e5.lst
            subst e6
            exact ⟨us, SqL.of e4, ru⟩
theorem di_tup (h : DE X pn m e) : DI X pn (iTp m) tg e := fun Wx tk =>
  PI_imp (pi_tup (h Wx tk)) fun σ H Q ⟨ps, ρ, μ, Rr, h⟩ => by
    refine tE_bind (Po := PoI X pn Wx ps σ H Q) Rr h (fun e m' h => h) (fun h => h) fun w m1 v H1 p1 g1 R1 r1 h1 => ?_
    cases w with
    | o o => exact h1.elim
    | d d =>
      cases d <;> try exact h1.elim
      rename_i xs
      obtain ⟨a, vs, ea, hq, rv⟩ := tup_ok r1
      refine ⟨a, ea, ⟨vs, hq⟩, h1 _ H1 p1 g1 R1.sto fun i p2 H2 m2 g s hst => ?_⟩
      have hq2 := g.w.sqt hq
      have ru := rv.grow g
      refine ⟨fun d hd => ?_, fun hl => ⟨vs, hq2, ru.len_get hl⟩⟩
      obtain ⟨v, hv, rv⟩ := ru.get hd
      refine ⟨⟨vs, v, hq2, hv⟩, fun x H3 hy => ?_⟩
      obtain ⟨rfl, hx⟩ := hy
      have := hx vs hq2
      rw [hv] at this
      cases this
      exact ⟨Grow.refl, s, rv⟩
theorem it_rng {C : Cf} {ps : List Addr} {H : Hp} (lo : Int) (n : Nat) : ItOk C pn ps H (rng lo n) [] (Itr lo n) := by
  intro i p2 H2 m2 g s hst
  unfold rng
  refine ⟨fun d hd => ?_, fun hl => by rw [List.length_map, List.length_range] at hl; exact hl⟩
  rw [List.getElem?_map] at hd
  obtain ⟨j, hj, e⟩ := Option.map_eq_some_iff.mp hd
  have hlt := (List.getElem?_eq_some_iff.mp hj).1
  rw [List.length_range] at hlt
  rw [List.getElem?_range hlt] at hj
  cases hj
  subst e
  refine ⟨hlt, fun x H3 hy => ?_⟩
  obtain ⟨rfl, rfl⟩ := hy
  exact ⟨Grow.refl, s, .int _⟩
theorem di_rng1 (hg : Gl X "range") (hm : X.mg "range" = none) (ha : DE X pn ma a) (hs : starEach [a] X.env = [(false, eval a X.env)] := by rfl) : DI X pn (iRg1 ma) tg (.Call (.Name "range" p) [a] [] pos) := fun Wx tk =>
  PI_imp (pi_range1 hg hm (pa_cons (ha Wx tk) pa_nil hs) hs) fun σ H Q ⟨ps, ρ, μ, Rr, h⟩ => by
    refine tE_bind (Po := PoI X pn Wx ps σ H Q) Rr h (fun e m' h => h) (fun h => h) fun w m1 v H1 p1 g1 R1 r1 h1 => ?_
    cases w with
    | o o => exact h1.elim
    | d d =>
      cases d <;> try exact h1.elim
      rename_i j
      cases r1
      dsimp only at h1
      split at h1
      · rename_i hj
        exact ⟨j, rfl, hj.1, hj.2, h1 _ H1 p1 g1 R1.sto (it_rng 0 j.toNat)⟩
      · exact h1.elim
theorem di_rng2 (hg : Gl X "range") (hm : X.mg "range" = none) (ha : DE X pn ma a) (hb : DE X pn mb b) (hs : starEach [a, b] X.env = [(false, eval a X.env), (false, eval b X.env)] := by rfl) (hs2 : starEach [b] X.env = [(false, eval b X.env)] := by rfl) : DI X pn (iRg2 ma mb) tg (.Call (.Name "range" p) [a, b] [] pos) := fun Wx tk =>
  PI_imp (pi_range2 hg hm (pa_cons (ha Wx tk) (pa_cons (hb Wx tk) pa_nil hs2) (by rw [hs, hs2])) hs hs2) fun σ H Q ⟨ps, ρ, μ, Rr, h⟩ => by
    refine tE_bind (Po := PoI X pn Wx ps σ H Q) Rr h (fun e m' h => h) (fun h => h) fun w m1 v H1 p1 g1 R1 r1 h1 => ?_
    refine tE_bind (Po := PoI X pn Wx ps σ H Q) R1 h1 (fun e m' h cls d H' ps' g s r => h cls d H' ps' (g1.trans g) s r) (fun h => h) fun w2 m2 v2 H2 p2 g2 R2 r2 h2 => ?_
    cases w with
    | o o => exact h2.elim
    | d d =>
      cases d <;> try exact h2.elim
      cases w2 with
      | o o => exact h2.elim
      | d d =>
        cases d <;> try exact h2.elim
        rename_i i j
        cases r1
        cases r2
        dsimp only at h2
        split at h2
        · rename_i hj
          exact ⟨i, j, rfl, hj, h2 _ H2 p2 (g1.trans g2) R2.sto (it_rng i (j - i).toNat)⟩
        · exact h2.elim
end

/-! ### [e for x in xs if ..] -/
def wipeR (ρ : Rho) : List Nat → Rho
  | [] => ρ
  | v :: vs => (wipeR ρ vs).set v none
theorem Rl.wipe {C : Cf} {pn : List (Addr × Obj)} {ps : List Addr} {σ : L2.St} {H : Hp} {ρ : Rho} {μ : Mu} (R : Rl C pn ps σ H ρ μ) : ∀ vs : List Nat, Rl C pn ps (L2.wipe σ vs) H (wipeR ρ vs) μ
  | [] => R
  | v :: vs => by
    have ih := R.wipe vs
    refine ⟨ih.sto, ?_, fun j x e => ?_⟩
    · unfold L2.wipe wipeR
      rw [List.length_set, List.length_set]
      exact ih.len
    · unfold wipeR at e
      unfold L2.wipe
      by_cases q : v = j
      · subst q
        have hl : v < (wipeR ρ vs).length := by
          have := (List.getElem?_eq_some_iff.mp e).1
          rwa [List.length_set] at this
        rw [List.getElem?_set_self hl] at e
        cases e
      · rw [List.getElem?_set_ne q] at e
        obtain ⟨u, h1, h2⟩ := ih.slot j x e
        exact ⟨u, by rw [List.getElem?_set_ne q]; exact h1, h2⟩
theorem wipe_get {σ : L2.St} : ∀ {vs : List Nat} {i : Nat}, i ∉ vs → (L2.wipe σ vs)[i]? = σ[i]?
  | [], _, _ => rfl
  | v :: vs, i, h => by
    unfold L2.wipe
    rw [List.getElem?_set_ne (fun e => h (by rw [e]; exact List.mem_cons_self)), wipe_get fun z => h (List.mem_cons_of_mem _ z)]
theorem wipe_in {σ : L2.St} : ∀ {vs : List Nat} {i : Nat}, i ∈ vs → i < σ.length → (L2.wipe σ vs)[i]? = some none
  | v :: vs, i, h, hl => by
    unfold L2.wipe
    by_cases q : v = i
    · subst q
      rw [List.getElem?_set_self (by rw [L2.wipe_length]; exact hl)]
    · rw [List.getElem?_set_ne q]
      rcases List.mem_cons.mp h with e | e
      · exact absurd e.symm q
      · exact wipe_in e hl
theorem wipe_same {σ σ2 : L2.St} {vs sl : List Nat} (hs : ∀ j ∈ sl, j ∈ vs) (hl : σ2.length = (L2.wipe σ vs).length) (h : ∀ j, j ∉ sl → σ2[j]? = (L2.wipe σ vs)[j]?) : L2.wipe σ2 vs = L2.wipe σ vs := by
  refine List.ext_getElem? fun i => ?_
  by_cases q : i ∈ vs
  · by_cases hi : i < σ2.length
    · rw [wipe_in q hi, wipe_in q (by rw [hl, L2.wipe_length] at hi; exact hi)]
    · rw [List.getElem?_eq_none (by rw [L2.wipe_length]; omega), List.getElem?_eq_none (by rw [L2.wipe_length]; rw [hl, L2.wipe_length] at hi; omega)]
  · rw [wipe_get q, h i fun z => q (hs i z)]
/-- a piece of a comprehension: nothing is raised -/
def M.nx {α : Type} (m : M α) : M α := fun mu => match m mu with
  | .ok a m' => .ok a m'
  | _ => .no
open Classical in
noncomputable def compF (g : D → Rho → Option Rho) (tt : TX) (te : EX) (st : List (Nat × O)) (ρ : Rho) : List D → List D → M (List D)
  | [], acc => fun m => if stands st m then .ok acc m else .no
  | d :: ds, acc => fun m => if stands st m then (match g d ρ with
      | some ρ1 => M.bind (M.nx (tt ρ1)) (fun c => bif c then M.bind (M.nx (te ρ1)) (fun w => M.bind (settle w) fun x => if acc.length < LIM then compF g tt te st ρ ds (acc ++ [x]) else M.no) else compF g tt te st ρ ds acc) m
      | none => .no) else .no
noncomputable def xLc (mi : IX) (vs : List Nat) (g : D → Rho → Option Rho) (tt : TX) (te : EX) : EX := fun ρ => M.bind (mi ρ) fun it => M.bind (compF g tt te it.2 (wipeR ρ vs) it.1 []) fun acc => M.ret (.o (.lst acc))
def ttYes : TX := fun _ => M.ret true
/-- the tests of a comprehension -/
def DTs (X : Cx) (pn : List (Addr × Obj)) (m : TX) (ifs : List Expr) : Prop := PTs X ifs (tT X pn (fun _ _ _ _ => False) m)
theorem PTs_imp {X : Cx} {e : List Expr} {t t' : TT} (h : PTs X e t) (i : ∀ σ H Q, t' σ H Q → t σ H Q) : PTs X e t' := ⟨fun pins s σ H Q I q => h.run pins s σ H Q I (i σ H Q q)⟩
section
variable {X : Cx} {pn : List (Addr × Obj)}
theorem dts_nil : DTs X pn ttYes [] := PTs_imp pts_nil fun σ H Q ⟨ps, ρ, μ, Rr, h⟩ => h H ps Grow.refl Rr.sto
theorem dts_one {c : Expr} {m : TX} (h : DT X pn m c) : DTs X pn m [c] := pts_one (h _ takes0)
theorem Grow.upd {ps p2 : List Addr} {H H2 : Hp} {a : Addr} {o : HO} (g : Grow ps H p2 H2) (h : H a = none) : Grow ps H p2 (L2.upd H2 a o) :=
  ⟨g.ext, fun x hx => by
    by_cases e : x = a
    · rw [e, upd_same]; exact fun z => nomatch z
    · rw [upd_ne e]; exact g.dom x hx, fun x u hx hn => by rw [upd_ne (ne_of_none hx h)]; exact g.keep x u hx hn, fun x u hx hi => by rw [upd_ne (ne_of_none hx h)]; exact g.imm x u hx hi⟩
/-- an object beside the store is written -/
theorem Sto.beside {P : Program} {w : World} {K : PySem.W.Frag} {ps : List Addr} {H : Hp} {μ : Mu} {a : Addr} {vs us : List V} (s : Sto P w K pn ps H μ) (ha : H a = some (.lst vs)) (hn : a ∉ ps) : Gw ps H ps (L2.upd H a (.lst us)) ∧ Sto P w K pn ps (L2.upd H a (.lst us)) μ := by
  have gw : Gw ps H ps (L2.upd H a (.lst us)) := ⟨⟨[], by simp⟩, fun x u hx hi => by rw [upd_ne (fun e => by subst e; rw [ha] at hx; cases hx; exact hi)]; exact hx⟩
  refine ⟨gw, s.len, s.nd, fun l o e => ?_⟩
  obtain ⟨b, ho, h1, h2, h3⟩ := s.at_ l o e
  exact ⟨b, ho, h1, by rw [upd_ne (fun e => hn (by rw [← e]; exact List.mem_of_getElem? h1))]; exact h2, h3.mono gw fun _ z => z⟩
theorem Rl.gw {C : Cf} {ps p2 : List Addr} {σ : L2.St} {H H2 : Hp} {ρ : Rho} {μ m2 : Mu} (R : Rl C pn ps σ H ρ μ) (g : Gw ps H p2 H2) (s : Sto C.prog C.w C.K pn p2 H2 m2) : Rl C pn p2 σ H2 ρ m2 :=
  ⟨s, R.len, fun i d e => let ⟨v, h1, h2⟩ := R.slot i d e; ⟨v, h1, h2.mono g fun _ z => z⟩⟩
/-- the reading of a list comprehension -/
theorem xLc_run {Wx : WX} {mi : IX} {vs sl : List Nat} {g : D → Rho → Option Rho} {tt : TX} {te : EX} {σ : L2.St} {H : Hp} {Q : VK} (hsl : ∀ j ∈ sl, j ∈ vs) (h : tE X pn Wx (xLc mi vs g tt te) σ H Q) :
    tLc (tI X pn Wx mi) (tG X pn g sl) (tT X pn (fun _ _ _ _ => False) tt) (tE X pn (fun _ _ _ _ => False) te) vs σ H Q := by
  obtain ⟨ps, ρ, μ, Rr, h⟩ := h
  refine tI_bind (Po := PoE X pn Wx ps σ H Q) Rr h (fun e m' h => h) (fun h => h) fun it m1 J H1 p1 g1 R1 ok h1 => ?_
  obtain ⟨items, st⟩ := it
  dsimp only at ok h1
  intro Dl hD
  refine ⟨fun i k H2 => i + k = items.length ∧ ∃ p2 μ2 acc av, Grow p1 H1 p2 H2 ∧ Rl X pn p2 σ H2 ρ μ2 ∧ Dl ∉ p2 ∧ H2 Dl = some (.lst av) ∧ RVs X.K pn p2 H2 av acc ∧
    PoE X pn Wx ps σ H Q (M.bind (compF g tt te st (wipeR ρ vs) (items.drop i) acc) (fun acc => M.ret (.o (.lst acc))) μ2), ⟨items.length, by omega, p1, m1, [], [], Grow.new hD, ?_, R1.sto.notIn hD, upd_same, .nil, h1⟩, ?_⟩
  · exact R1.step (Grow.new hD) (R1.sto.new hD)
  rintro i k H2 ⟨hik, p2, μ2, acc, av, g2, R2, hn, hDl, ra, h2⟩
  cases k with
  | zero =>
    have e : items.drop i = [] := List.drop_eq_nil_of_le (by omega)
    rw [e] at h2
    unfold compF at h2
    by_cases hst : stands st μ2
    · simp only [M.bind, if_pos hst] at h2
      exact .inl ⟨(ok i p2 H2 μ2 g2 R2.sto hst).2 (by omega), h2 (.ref Dl) H2 p2 (g1.trans g2) R2.sto ⟨Dl, _, rfl, g1.back hD, hn, hDl, (ra : RVs X.K pn p2 H2 av acc)⟩⟩
    · simp only [M.bind, if_neg hst] at h2
      exact h2.elim
  | succ k =>
    have hlt : i < items.length := by omega
    rw [List.drop_eq_getElem_cons hlt] at h2
    unfold compF at h2
    by_cases hst : stands st μ2
    · obtain ⟨go, yl⟩ := (ok i p2 H2 μ2 g2 R2.sto hst).1 items[i] (List.getElem?_eq_getElem hlt)
      refine .inr ⟨go, fun H3 => ∃ p3 μ3 acc av, Grow p1 H1 p3 H3 ∧ Rl X pn p3 σ H3 ρ μ3 ∧ Dl ∉ p3 ∧ H3 Dl = some (.lst av) ∧ RVs X.K pn p3 H3 av acc ∧
        PoE X pn Wx ps σ H Q (M.bind (compF g tt te st (wipeR ρ vs) (items.drop (i + 1)) acc) (fun acc => M.ret (.o (.lst acc))) μ3), fun H3 hN => ⟨k, Nat.lt_succ_self k, by omega, hN⟩, fun x H3 hy => ?_⟩
      obtain ⟨g3, s3, r3⟩ := yl x H3 hy
      have R3 := R2.step g3 s3
      have hD3 : H3 Dl = some (.lst av) := g3.keep Dl _ hDl hn
      cases q : g items[i] (wipeR ρ vs) with
      | none =>
        simp only [M.bind, if_pos hst, q] at h2
        exact h2.elim
      | some ρ4 =>
        refine ⟨p2, wipeR ρ vs, μ2, items[i], ρ4, R3.wipe vs, r3, q, fun σ4 l4 k4 R4 => ⟨wipe_same hsl l4 k4, p2, ρ4, μ2, R4, ?_⟩⟩
        simp only [M.bind, if_pos hst, q, M.nx] at h2
        cases qt : tt ρ4 μ2 with
        | no => rw [qt] at h2; exact h2.elim
        | ex e m5 => rw [qt] at h2; exact h2.elim
        | ok c m5 =>
          rw [qt] at h2
          dsimp only at h2
          refine fun H5 p5 g5 s5 => ?_
          have R5 := R3.step g5 s5
          have R5' := R4.step g5 s5
          have hD5 : H5 Dl = some (.lst av) := g5.keep Dl _ hD3 hn
          have hn5 : Dl ∉ p5 := fun hm => by
            obtain ⟨n, en, fn⟩ := g5.ext
            rw [en] at hm
            rcases List.mem_append.mp hm with z | z
            · exact hn z
            · have := fn _ z
              rw [hD3] at this; cases this
          cases c with
          | false => exact ⟨p5, m5, acc, av, (g2.trans g3).trans g5, R5, hn5, hD5, (ra.grow g3).grow g5, h2⟩
          | true =>
            dsimp only
            rw [if_pos rfl]
            refine ⟨p5, ρ4, m5, R5', ?_⟩
            simp only [cond_true, M.bind, M.nx] at h2
            cases qe : te ρ4 m5 with
            | no => rw [qe] at h2; exact h2.elim
            | ex e m6 => rw [qe] at h2; exact h2.elim
            | ok w m6 =>
              rw [qe] at h2
              dsimp only at h2
              refine fun yv H6 p6 g6 s6 r6 => ?_
              have hD6 : H6 Dl = some (.lst av) := g6.keep Dl _ hD5 hn5
              have hn6 : Dl ∉ p6 := fun hm => by
                obtain ⟨n, en, fn⟩ := g6.ext
                rw [en] at hm
                rcases List.mem_append.mp hm with z | z
                · exact hn5 z
                · have := fn _ z
                  rw [hD5] at this; cases this
              obtain ⟨d, m7, e7, p7, g7, gw, s7, rv⟩ := settle_ok g6 s6 r6
              rw [e7] at h2
              dsimp only at h2
              have hn7 : Dl ∉ p7 := fun hm => by
                obtain ⟨n, en, fn⟩ := g7.ext
                rw [en] at hm
                rcases List.mem_append.mp hm with z | z
                · exact hn5 z
                · have := fn _ z
                  rw [hD5] at this; cases this
              by_cases hl : acc.length < LIM
              · rw [if_pos hl] at h2
                have gall : Grow p1 H1 p7 H6 := ((g2.trans g3).trans g5).trans g7
                obtain ⟨gw8, s8⟩ := s7.beside (us := av ++ [yv]) hD6 hn7
                have R7 : Rl X pn p7 σ H6 ρ m7 := R5.step g7 s7
                refine ⟨av, hD6, by rw [ra.length, ← LIM_eq]; exact hl, p7, m7, acc ++ [d], av ++ [yv], gall.upd hD, R7.gw gw8 s8, hn7, upd_same, ?_, h2⟩
                exact (((((ra.grow g3).grow g5).grow g7).append (.cons rv .nil)).mono gw8 fun _ z => z)
              · rw [if_neg hl] at h2; exact h2.elim
    · simp only [M.bind, if_neg hst] at h2
      exact h2.elim
end
section
variable {X : Cx} {pn : List (Addr × Obj)} {mi : IX} {sl : List Nat} {g : D → Rho → Option Rho} {tt : TX} {te : EX} {elt tg iter : Expr} {ifs : List Expr} {scope : Scope} {own : List (Str × Nat)} {pos : Pos}
theorem d_lc (hc : X.calm = true) (hN : X.N.Nodup) (hi : DI X pn mi tg iter) (ok : BlkOk X.N X.env.scope scope own)
    (hg : ∀ (s : Shared) (H : Hp) (C : Addr) (cl : List (Str × Addr)) (fp : List Addr), DG (X.blk s H scope (compEnvC scope cl C X.env) fp) pn g sl tg) (ht : ∀ (s : Shared) (H : Hp) (C : Addr) (cl : List (Str × Addr)) (fp : List Addr), DTs (X.blk s H scope (compEnvC scope cl C X.env) fp) pn tt ifs)
    (he : ∀ (s : Shared) (H : Hp) (C : Addr) (cl : List (Str × Addr)) (fp : List Addr), DE (X.blk s H scope (compEnvC scope cl C X.env) fp) pn te elt) (hsl : ∀ j ∈ sl, j ∈ own.map (·.2)) (hs : ∀ x, foldedSetIterable iter X.env x = pure x := by intro _; rfl) :
    DE X pn (xLc mi (own.map (·.2)) g tt te) (.ListComp elt [⟨tg, iter, ifs, 0⟩] scope pos) := fun Wx tk =>
  PE_imp (pe_lc (g := tG (cf X) pn g sl) (tt := tT (cf X) pn (fun _ _ _ _ => False) tt) (te := tE (cf X) pn (fun _ _ _ _ => False) te) hc hN (hi Wx tk) ok hg ht (fun s H C cl fp => he s H C cl fp _ takes0) hs) fun σ H Q h => xLc_run hsl h
/-- y = [e for x in xs if ..] -/
theorem ds_setLc {i : Nat} {y : Str} {py spos : Pos} (hc : X.calm = true) (hN : X.N.Nodup) (hy : X.N[i]? = some y) (hyl : X.env.scope.names.lookup y = some .local)
    (hsw : swapsWith (.ListComp elt [⟨tg, iter, ifs, 0⟩] scope pos) (some (.Name y py)) spos.line X.env = pure true) (hi : DI X pn mi tg iter) (ok : BlkOk X.N X.env.scope scope own)
    (hg : ∀ (s : Shared) (H : Hp) (C : Addr) (cl : List (Str × Addr)) (fp : List Addr), DG (X.blk s H scope (compEnvC scope cl C X.env) fp) pn g sl tg) (ht : ∀ (s : Shared) (H : Hp) (C : Addr) (cl : List (Str × Addr)) (fp : List Addr), DTs (X.blk s H scope (compEnvC scope cl C X.env) fp) pn tt ifs)
    (he : ∀ (s : Shared) (H : Hp) (C : Addr) (cl : List (Str × Addr)) (fp : List Addr), DE (X.blk s H scope (compEnvC scope cl C X.env) fp) pn te elt) (hsl : ∀ j ∈ sl, j ∈ own.map (·.2)) (hs : ∀ x, foldedSetIterable iter X.env x = pure x := by intro _; rfl) :
    DS X pn (sSet i (xLc mi (own.map (·.2)) g tt te)) (.Assign [.Name y py] (.ListComp elt [⟨tg, iter, ifs, 0⟩] scope pos) spos) := fun Wx tk =>
  PS_imp (ps_setLc (g := tG (cf X) pn g sl) (tt := tT (cf X) pn (fun _ _ _ _ => False) tt) (te := tE (cf X) pn (fun _ _ _ _ => False) te) hc hN hy hyl hsw (hi Wx tk) ok hg ht (fun s H C cl fp => he s H C cl fp _ takes0) hs) fun D σ H h => xLc_run hsl (sSet_run h)
end
end Dn

set_option Elab.async false
set_option linter.all false
set_option maxRecDepth 100000
set_option maxHeartbeats 4000000
set_option autoImplicit false
/-! Dn9: dicts. -/
namespace Dn
open PySem PySem.Spec PyProof.Rows L2

def isT : D → Bool
  | .tup _ => true
  | _ => false
/-- a tuple that may be a key -/
def kTup (k : D) : Bool := isT k && (match nk k with
  | some q => decide (q.depth ≤ 8)
  | none => false)
def kVal : D → Option Key
  | .int i => some (.inl i)
  | .str x => some (.inr x)
  | _ => none
def dfind (kvs : List (D × D)) (k : D) : Option D := (kvs.find? fun q => decide (nk q.1 = nk k)).map (·.2)
def dput (kvs : List (D × D)) (k v : D) : List (D × D) := if (kvs.any fun q => decide (nk q.1 = nk k)) = true then kvs.map (fun q => if nk q.1 = nk k then (q.1, v) else q) else kvs ++ [(k, v)]
def dT (kvs : List (D × D)) : Bool := kvs.all fun q => isT q.1
def dV (kvs : List (D × D)) : Bool := kvs.all fun q => (kVal q.1).isSome
/-- what the dict holds at k -/
def dlook (kvs : List (D × D)) (k : D) : Option (Option D) := if (kTup k && dT kvs || (kVal k).isSome && dV kvs) = true then some (dfind kvs k) else none
/-- the dict behind a value, to be read -/
def dctOf (w : Wv) (mu : Mu) : Option (List (D × D)) := match w with
  | .d (.loc l) => (match mu[l]? with
    | some (.dct kvs) => some kvs
    | some (.lk kvs) => some kvs
    | _ => none)
  | .o (.dct kvs) => some kvs
  | _ => none

theorem nk_dk {a b : Key} (h : nk (dk a) = nk (dk b)) : a = b := by
  cases a <;> cases b <;> simp [dk, nk] at h <;> rw [h]
theorem kVal_dk : ∀ {d : D} {k : Key}, kVal d = some k → d = dk k
  | .int i, _, e => by cases e; rfl
  | .str x, _, e => by cases e; rfl
  | .non, _, e => by cases e
  | .bl _, _, e => by cases e
  | .tup _, _, e => by cases e
  | .rol _, _, e => by cases e
  | .loc _, _, e => by cases e
  | .exn _ _ _, _, e => by cases e
theorem kV_dk (k : Key) : kVal (dk k) = some k := by cases k <;> rfl
theorem kTup_nk {k : D} (h : kTup k = true) : ∃ ds q, k = .tup ds ∧ nk k = some q ∧ q.depth ≤ 8 := by
  unfold kTup at h
  obtain ⟨h1, h2⟩ := Bool.and_eq_true_iff.mp h
  cases k <;> try (cases h1; done)
  cases e : nk (.tup _) with
  | none => rw [e] at h2; cases h2
  | some q => rw [e] at h2; exact ⟨_, q, rfl, rfl, of_decide_eq_true h2⟩

section
variable {X : Cx} {pins pn : List (Addr × Obj)} {ps : List Addr} {σ : L2.St} {H H0 : Hp} {s : Shared} {μ : Mu}
mutual
theorem key_is (I : Inv X pins σ H s) : ∀ {v : V} {d : D} {k : NestedKey} {u : Value}, RV X.K pn ps H v d → nk d = some k → RelV v u → NestedIs s.heap k u
  | _, _, _, _, .non, e, r => by cases e; cases r; exact .none
  | _, _, _, _, .bl b, e, r => by cases e; cases r; exact .bool rfl
  | _, _, _, _, .int i, e, r => by cases e; obtain ⟨t, rfl⟩ := r; exact .int i t
  | _, _, _, _, .str x, e, r => by cases e; obtain ⟨t, rfl⟩ := r; exact .text x t
  | _, _, _, _, .tup h q, e, r => by
    cases r
    obtain ⟨ks, e1, e2⟩ := Option.map_eq_some_iff.mp e
    subst e2
    obtain ⟨its, rv, ⟨o, ho, hc, n, hd⟩, _⟩ := I.tuple h
    exact .tup ho hc hd (by simpa using keys_are I q e1 rv)
  | _, _, _, _, .rol _ _, e, _ => by cases e
  | _, _, _, _, .loc _, e, _ => by cases e
  | _, _, _, _, .exn0 _ _ _, e, _ => by cases e
  | _, _, _, _, .exn1 _ _ _ _ _, e, _ => by cases e
theorem keys_are (I : Inv X pins σ H s) : ∀ {vs : List V} {ds : List D} {ks : List NestedKey} {us : List Value}, RVs X.K pn ps H vs ds → nks ds = some ks → Vals vs us → NestedAll s.heap ks us
  | _, _, _, _, .nil, e, r => by cases e; cases r; exact .nil
  | _, _, _, _, .cons h q, e, r => by
    unfold nks at e
    split at e
    · rename_i k ks e1 e2
      cases e
      cases r with
      | cons ra rb => exact .cons (key_is I h e1 ra) (keys_are I q e2 rb)
    · cases e
end

/-- how the dict at a stands, its keys tuples -/
theorem ho_dctT (I : Inv X pins σ H s) {a : Addr} {ho : HO} {kvs : List (D × D)} (h1 : Rd H a ho) (h2 : RO X.prog X.w X.K pn ps H a ho (.dct kvs)) (hk : dT kvs = true) :
    (a == sysModules) = false ∧ ∃ xs, s.heap.DictOfH (nestedKind X.prog X.w) a xs ∧ Paired (RN X.K pn ps H) xs kvs ∧ xs.length ≤ sizeLine := by
  cases ho <;> first | exact h2.elim | (rename_i u; cases u <;> exact h2.elim) | skip
  · rename_i kv
    obtain ⟨z, hd, vs, rel, dd⟩ := dk_rd I.hok h1
    cases (show Paired (RK X.K pn ps H) kv kvs from h2) with
    | nil =>
      cases rel
      obtain ⟨o, es, ep, ho, hc, hdat, _, hp, _⟩ := dd
      have he : es.toList = [] := List.length_eq_zero_iff.mp hp.length
      exact ⟨hd, [], ⟨o, es, ep, ho, hc, hdat, he, fun _ h => (nomatch h), List.nodup_nil⟩, .nil, Nat.zero_le _⟩
    | cons r t =>
      rename_i p q _ _
      unfold dT at hk
      rw [List.all_cons, r.1] at hk
      cases hp : p.1 <;> rw [hp] at hk <;> cases hk
  · obtain ⟨xs, e, r, nd, z, hd⟩ := h2
    subst e
    obtain ⟨⟨o, es, ep, ho, hc, hdat, he⟩, _⟩ := h1.ok I.hok
    refine ⟨hd, xs, ⟨o, es, ep, ho, hc, hdat, he, fun x hx => ?_, nd⟩, r, z⟩
    have all : ∀ {l : List (NestedKey × Addr × Value)} {m : List (D × D)}, Paired (RN X.K pn ps H) l m → ∀ x ∈ l, NestedIs s.heap x.1 (.ref x.2.1) ∧ x.1.depth ≤ 8 := by
      intro l m q
      induction q with
      | nil => exact fun x hx => nomatch hx
      | cons hq t ih =>
        intro x hx
        rcases List.mem_cons.mp hx with e | hx
        · subst e; exact ⟨key_is I hq.2.2.1 hq.1 rfl, hq.2.1⟩
        · exact ih x hx
    exact all r x hx
/-- .. its keys ints and texts -/
theorem ho_dctV (I : Inv X pins σ H s) {a : Addr} {ho : HO} {kvs : List (D × D)} (h1 : Rd H a ho) (h2 : RO X.prog X.w X.K pn ps H a ho (.dct kvs)) (hk : dV kvs = true) :
    (a == sysModules) = false ∧ ∃ kv vs, KV kv vs ∧ s.heap.DictOf (mixKind X.prog X.w) a vs ∧ Paired (RK X.K pn ps H) kv kvs ∧ vs.length ≤ sizeLine := by
  cases ho <;> first | exact h2.elim | (rename_i u; cases u <;> exact h2.elim) | skip
  · rename_i kv
    obtain ⟨z, hd, vs, rel, dd⟩ := dk_rd I.hok h1
    exact ⟨hd, kv, vs, rel, dd, h2, by rw [← rel.length]; exact z⟩
  · obtain ⟨xs, e, r, nd, z, hd⟩ := h2
    subst e
    obtain ⟨⟨o, es, ep, ho, hc, hdat, he⟩, _⟩ := h1.ok I.hok
    cases r with
    | nil =>
      refine ⟨hd, [], [], .nil, ⟨o, es, ep, ho, hc, hdat, ?_⟩, .nil, Nat.zero_le _⟩
      have he0 := he
      rw [show es.toList = [] from he]
      exact ⟨fun e he => (nomatch (show e ∈ ([] : List DictEntry) from (show es.toList = [] from he0) ▸ (Array.mem_toList_iff.mpr he))), .nil, List.nodup_nil⟩
    | cons r t =>
      obtain ⟨ds, e⟩ := r.2.2.2.1
      unfold dV at hk
      rw [List.all_cons, e] at hk
      cases hk

theorem rn_find {xs : List (NestedKey × Addr × Value)} {kvs : List (D × D)} {k : D} {q : NestedKey} (hq : nk k = some q) (r : Paired (RN X.K pn ps H) xs kvs) : match dfind kvs k with
    | some d => ∃ p v, atKey xs q = some p ∧ RelV v p.2 ∧ RV X.K pn ps H v d
    | none => atKey xs q = none := by
  induction r with
  | nil => exact rfl
  | @cons x y l m h t ih =>
    obtain ⟨e1, _, _, _, v, rv, rd⟩ := h
    by_cases e : x.1 = q
    · have b : dfind (y :: m) k = some y.2 := by simp [dfind, List.find?_cons, e1, hq, e]
      have c : atKey (x :: l) q = some x.2 := by simp [atKey, List.find?_cons, e]
      rw [b, c]
      exact ⟨x.2, v, rfl, rv, rd⟩
    · have b : dfind (y :: m) k = dfind m k := by simp [dfind, List.find?_cons, e1, hq, e]
      have c : atKey (x :: l) q = atKey l q := by simp [atKey, List.find?_cons, e]
      rw [b, c]
      exact ih
theorem rk_find {kv : List (Key × V)} {vs : List (Key × Value)} {kvs : List (D × D)} {k : Key} (h : KV kv vs) (r : Paired (RK X.K pn ps H) kv kvs) : match dfind kvs (dk k) with
    | some d => ∃ w v, valueAt vs k = some w ∧ RelV v w ∧ RV X.K pn ps H v d
    | none => valueAt vs k = none := by
  have hv := h.val k
  have hh : match dfind kvs (dk k) with
    | some d => ∃ v, valV kv k = some v ∧ RV X.K pn ps H v d
    | none => valV kv k = none := by
    clear h hv
    induction r with
    | nil => exact rfl
    | @cons x y l m h t ih =>
      obtain ⟨e1, rd⟩ := h
      by_cases e : x.1 = k
      · have b : dfind (y :: m) (dk k) = some y.2 := by simp [dfind, List.find?_cons, e1, e]
        rw [b, valV_pos e]
        exact ⟨x.2, rfl, rd⟩
      · have b : dfind (y :: m) (dk k) = dfind m (dk k) := by
          have : ¬ nk (dk x.1) = nk (dk k) := fun z => e (nk_dk z)
          simp [dfind, List.find?_cons, e1, this]
        rw [b, valV_neg e]
        exact ih
  cases q : dfind kvs (dk k) with
  | some d =>
    rw [q] at hh
    obtain ⟨v, e, rd⟩ := hh
    rw [e] at hv
    cases q2 : valueAt vs k with
    | none => rw [q2] at hv; exact hv.elim
    | some w => rw [q2] at hv; exact ⟨w, v, rfl, hv, rd⟩
  | none =>
    rw [q] at hh
    have hh : valV kv k = none := hh
    rw [hh] at hv
    cases q2 : valueAt vs k with
    | none => rfl
    | some w => rw [q2] at hv; exact hv.elim
def ROp (K : PySem.W.Frag) (pn : List (Addr × Obj)) (ps : List Addr) (H : Hp) : Option Value → Option D → Prop
  | some w, some d => ∃ v, RelV v w ∧ RV K pn ps H v d
  | none, none => True
  | _, _ => False
theorem look_cases (I : Inv X pins σ H s) {a : Addr} {ho : HO} {kvs : List (D × D)} {k : D} {v : V} {u : Value} {r : Option D} (h1 : Rd H a ho) (h2 : RO X.prog X.w X.K pn ps H a ho (.dct kvs)) (rk : RV X.K pn ps H v k) (ru : RelV v u) (e : dlook kvs k = some r) :
    (a == sysModules) = false ∧ ((∃ b q xs, u = .ref b ∧ (nestedKind X.prog X.w).is s.heap q b ∧ s.heap.DictOfH (nestedKind X.prog X.w) a xs ∧ ROp X.K pn ps H ((atKey xs q).map (·.2)) r) ∨
      ∃ kk vs, (mixKind X.prog X.w).is kk u = true ∧ s.heap.DictOf (mixKind X.prog X.w) a vs ∧ ROp X.K pn ps H (valueAt vs kk) r) := by
  unfold dlook at e
  split at e
  · rename_i hc
    cases e
    rcases Bool.or_eq_true_iff.mp hc with hc | hc
    · obtain ⟨c1, c2⟩ := Bool.and_eq_true_iff.mp hc
      obtain ⟨ds, q, e1, e2, e3⟩ := kTup_nk c1
      obtain ⟨hd, xs, dd, rr, _⟩ := ho_dctT I h1 h2 c2
      refine ⟨hd, .inl ?_⟩
      have ki := key_is I rk e2 ru
      subst e1
      cases rk with
      | @tup b _ _ hs rs =>
        cases ru
        refine ⟨b, q, xs, rfl, ⟨ki, e3⟩, dd, ?_⟩
        have f := rn_find e2 rr
        cases z : dfind kvs (.tup ds) with
        | some d => rw [z] at f; obtain ⟨p, v, f1, f2, f3⟩ := f; rw [f1]; exact ⟨v, f2, f3⟩
        | none => rw [z] at f; rw [show atKey xs q = none from f]; trivial
    · obtain ⟨c1, c2⟩ := Bool.and_eq_true_iff.mp hc
      obtain ⟨kk, e1⟩ := Option.isSome_iff_exists.mp c1
      have ek := kVal_dk e1
      subst ek
      obtain ⟨hd, kv, vs, rel, dd, rr, _⟩ := ho_dctV I h1 h2 c2
      refine ⟨hd, .inr ⟨kk, vs, ?_, dd, ?_⟩⟩
      · cases kk with
        | inl i => cases rk; exact kV_is (k := .inl i) ru
        | inr x => cases rk; exact kV_is (k := .inr x) ru
      · have f := rk_find (k := kk) rel rr
        cases z : dfind kvs (dk kk) with
        | some d => rw [z] at f; obtain ⟨p, v, f1, f2, f3⟩ := f; rw [f1]; exact ⟨v, f2, f3⟩
        | none => rw [z] at f; rw [show valueAt vs kk = none from f]; trivial
  · cases e
theorem dct_ok {v : V} {w : Wv} {kvs : List (D × D)} (st : Sto X.prog X.w X.K pn ps H μ) (r : RW X pn H0 ps H v w) (e : dctOf w μ = some kvs) : ∃ a ho, v = .ref a ∧ Rd H a ho ∧ RO X.prog X.w X.K pn ps H a ho (.dct kvs) := by
  unfold dctOf at e
  split at e
  · cases r with
    | @loc a l hl =>
      split at e
      · rename_i q
        cases e
        obtain ⟨ho, h1, h2⟩ := st.get q hl
        exact ⟨a, ho, rfl, .inl h1, h2⟩
      · rename_i q
        cases e
        obtain ⟨ho, h1, h2⟩ := st.get q hl
        cases ho with
        | frz ob u =>
          cases u <;> first | exact h2.elim | exact ⟨a, _, rfl, .inr ⟨ob, h1⟩, h2⟩
        | _ => exact h2.elim
      · cases e
  · cases e
    obtain ⟨a, ho, e1, _, _, e2, r⟩ := r
    exact ⟨a, ho, e1, .inl e2, r⟩
  · cases e
theorem typeIs_dct (I : Inv X pins σ H s) {a : Addr} {ho : HO} {kvs : List (D × D)} (h1 : Rd H a ho) (h2 : RO X.prog X.w X.K pn ps H a ho (.dct kvs)) : ∃ o, s.heap.get? a = some o ∧ o.ExactDict := by
  cases ho <;> first | exact h2.elim | (rename_i u; cases u <;> exact h2.elim) | skip
  · obtain ⟨z, hd, vs, rel, o, es, ep, ho, hc, _⟩ := dk_rd I.hok h1
    exact ⟨o, ho, hc⟩
  · obtain ⟨xs, e, _⟩ := h2
    subst e
    obtain ⟨⟨o, es, ep, ho, hc, _⟩, _⟩ := h1.ok I.hok
    exact ⟨o, ho, hc⟩
end
end Dn

set_option Elab.async false
set_option linter.all false
set_option maxRecDepth 100000
set_option maxHeartbeats 4000000
set_option autoImplicit false
/-! Dn10: operations on dicts. -/
namespace Dn
open PySem PySem.Spec PyProof.Rows L2

section
variable {X : Cx} {pins pn : List (Addr × Obj)} {ps : List Addr} {σ : L2.St} {H H0 : Hp} {s : Shared} {μ : Mu}
theorem ROp.some {o : Option Value} {d : D} (h : ROp X.K pn ps H o (.some d)) : ∃ w v, o = .some w ∧ RelV v w ∧ RV X.K pn ps H v d := by
  cases o with
  | none => exact h.elim
  | some w => obtain ⟨v, h1, h2⟩ := h; exact ⟨w, v, rfl, h1, h2⟩
theorem ROp.isSome {o : Option Value} {r : Option D} (h : ROp X.K pn ps H o r) : o.isSome = r.isSome := by
  cases o <;> cases r <;> first | rfl | exact h.elim

/-- x[i], every kind -/
def ixA : Wv → Wv → Mu → Option Wv := fun w y mu => match dctOf w mu with
  | some kvs => (match y with
    | .d k => ((dlook kvs k).bind id).map .d
    | _ => none)
  | none => ixW w y mu
theorem o_ixA (hu : X.A.units + 64 < cLine) : IxR X (rO X pn ixA) := by
  intro value slice pins s σ H x y v u Q I rx ry ⟨H0, ps, μ, w1, w2, z, st, r1, r2, e, k⟩ hs
  unfold ixA at e
  split at e
  · rename_i kvs q
    split at e
    · rename_i kd
      obtain ⟨d, e1, e2⟩ := Option.map_eq_some_iff.mp e
      obtain ⟨r, e3, e4⟩ := Option.bind_eq_some_iff.mp e1
      have e4 : r = some d := e4
      subst e2 e4
      obtain ⟨a, ho, rfl, h1, h2⟩ := dct_ok st r1 q
      cases rx
      obtain ⟨o, ho, hc⟩ := typeIs_dct I h1 h2
      obtain ⟨hd, hcase⟩ := look_cases I h1 h2 r2 ry e3
      rcases hcase with ⟨b, q, xs, rfl, ki, dd, hr⟩ | ⟨kk, vs, ki, dd, hr⟩
      · obtain ⟨wv, vv, f1, f2, f3⟩ := hr.some
        obtain ⟨p, p1, p2⟩ := Option.map_eq_some_iff.mp f1
        subst p2
        exact subscriptTail_builtinR (x := p.2) ⟨o, ho, hc.1⟩ slot_dict_getitem.lookup
          (wpAny_getItem_heap (knd := nestedKind X.prog X.w) (show X.A.units + 1 + 8 < cLine by omega) ki dd p1 ⟨rfl, vv, H, I.tok _, f2, k _ H ps Grow.refl st f3⟩) hs
      · obtain ⟨wv, vv, f1, f2, f3⟩ := hr.some
        exact subscriptTail_builtinR (x := wv) ⟨o, ho, hc.1⟩ slot_dict_getitem.lookup
          (wpAny_getItem_of (knd := mixKind X.prog X.w) ki dd.mapOf f1 ⟨rfl, vv, H, I.tok _, f2, k _ H ps Grow.refl st f3⟩) hs
    · cases e
  · exact o_ix value slice pins s σ H x y v u Q I rx ry ⟨H0, ps, μ, w1, w2, z, st, r1, r2, e, k⟩ hs

/-- y in d, y not in d: dicts -/
def inDW (neg : Bool) : Wv → Wv → Mu → Option Wv := fun y w mu => match dctOf w mu, y with
  | some kvs, .d k => (dlook kvs k).map fun r => .d (.bl (if neg then !r.isSome else r.isSome))
  | _, _ => none
theorem o_inD (hu : X.A.units + 64 < cLine) : OpR X (compareOp .In) (rO X pn (inDW false)) := by
  intro pins s σ H y x u v Q I ry rx ⟨H0, ps, μ, w1, w2, z, st, r1, r2, e, k⟩
  unfold inDW at e
  split at e
  · rename_i kvs kd q
    obtain ⟨r, e1, e2⟩ := Option.map_eq_some_iff.mp e
    subst e2
    obtain ⟨a, ho, rfl, h1, h2⟩ := dct_ok st r2 q
    cases rx
    obtain ⟨hd, hcase⟩ := look_cases I h1 h2 r1 ry e1
    rcases hcase with ⟨b, q, xs, rfl, ki, dd, hr⟩ | ⟨kk, vs, ki, dd, hr⟩
    · refine wpAny_in_heap (knd := nestedKind X.prog X.w) (show X.A.units + 1 + 8 < cLine by omega) ki hd dd ?_
      have := hr.isSome
      rw [Option.isSome_map] at this
      rw [this]
      exact ⟨.bl r.isSome, H, I.tok _, rfl, k _ H ps Grow.refl st (.bl _)⟩
    · refine wpAny_in_of (knd := mixKind X.prog X.w) ki hd dd.mapOf ?_
      rw [hr.isSome]
      exact ⟨.bl r.isSome, H, I.tok _, rfl, k _ H ps Grow.refl st (.bl _)⟩
  · cases e
theorem o_notInD (hu : X.A.units + 64 < cLine) : OpR X (compareOp .NotIn) (rO X pn (inDW true)) := by
  intro pins s σ H y x u v Q I ry rx ⟨H0, ps, μ, w1, w2, z, st, r1, r2, e, k⟩
  unfold inDW at e
  split at e
  · rename_i kvs kd q
    obtain ⟨r, e1, e2⟩ := Option.map_eq_some_iff.mp e
    subst e2
    obtain ⟨a, ho, rfl, h1, h2⟩ := dct_ok st r2 q
    cases rx
    obtain ⟨hd, hcase⟩ := look_cases I h1 h2 r1 ry e1
    rcases hcase with ⟨b, q, xs, rfl, ki, dd, hr⟩ | ⟨kk, vs, ki, dd, hr⟩
    · refine wpAny_notIn_heap (knd := nestedKind X.prog X.w) (show X.A.units + 1 + 8 < cLine by omega) ki hd dd ?_
      have := hr.isSome
      rw [Option.isSome_map] at this
      rw [this]
      exact ⟨.bl (!r.isSome), H, I.tok _, rfl, k _ H ps Grow.refl st (.bl _)⟩
    · refine wpAny_notIn_of (knd := mixKind X.prog X.w) ki hd dd.mapOf ?_
      rw [hr.isSome]
      exact ⟨.bl (!r.isSome), H, I.tok _, rfl, k _ H ps Grow.refl st (.bl _)⟩
  · cases e

/-! ### d.get -/
def getG : Wv → List Wv → Mu → Option (Wv × Mu)
  | w, [.d k], mu => (dctOf w mu).bind fun kvs => (dlook kvs k).map fun r => (.d (r.getD .non), mu)
  | w, [.d k, x], mu => (dctOf w mu).bind fun kvs => (dlook kvs k).map fun r => (match r with
    | some d => .d d
    | none => x, mu)
  | _, _, _ => none
theorem RWs.cons1 {vs : List V} {w : Wv} {ws : List Wv} (r : RWs X pn H0 ps H vs (w :: ws)) : ∃ v us, vs = v :: us ∧ RW X pn H0 ps H v w ∧ RWs X pn H0 ps H us ws := by
  cases r with
  | cons h r => exact ⟨_, _, rfl, h, r⟩
theorem m_get (hu : X.A.units + 64 < cLine) : MtR X "dict.get" (rM X pn getG) := by
  intro pins s σ H x xs v us Q I rx rs ⟨p0, H0, ps, μ, w, ws, z, μ', g0, st, r, rws, e, k⟩
  unfold getG at e
  split at e
  · rename_i kd
    obtain ⟨kvs, e1, e2⟩ := Option.bind_eq_some_iff.mp e
    obtain ⟨rr, e3, e4⟩ := Option.map_eq_some_iff.mp e2
    cases e4
    obtain ⟨a, ho, rfl, h1, h2⟩ := dct_ok st r e1
    cases rx
    obtain ⟨vk, rfl, rk⟩ := rws.one
    obtain ⟨uk, rfl, ru⟩ := rs.one
    obtain ⟨o, ho, hc⟩ := typeIs_dct I h1 h2
    obtain ⟨hd, hcase⟩ := look_cases I h1 h2 rk ru e3
    rcases hcase with ⟨b, q, xs, rfl, ki, dd, hr⟩ | ⟨kk, vs, ki, dd, hr⟩
    · refine call_meetsIn PySem.F.slot_dict_get dd.typeIs PySem.F.entry_dict_get (PySem.F.args_dict_get_2 _ _) (meetsH_dict_get (nestedKind X.prog X.w) a b hd) ⟨show X.A.units + 1 + 8 < cLine by omega, q, xs, ki, dd, ?_⟩
      cases rr with
      | some d =>
        obtain ⟨wv, vv, f1, f2, f3⟩ := hr.some
        rw [f1]
        exact ⟨vv, H, I.tok _, f2, k _ H ps g0 st f3⟩
      | none =>
        cases f1 : (atKey xs q).map (·.2) with
        | some _ => rw [f1] at hr; exact hr.elim
        | none => exact ⟨.non, H, I.tok _, rfl, k _ H ps g0 st .non⟩
    · refine call_meetsIn PySem.F.slot_dict_get dd.typeIs PySem.F.entry_dict_get (PySem.F.args_dict_get_2 _ _) (meets_dict_get (mixKind X.prog X.w) a ki hd) ⟨_, dd.mapOf, ?_⟩
      cases rr with
      | some d =>
        obtain ⟨wv, vv, f1, f2, f3⟩ := hr.some
        rw [f1]
        exact ⟨vv, H, I.tok _, f2, k _ H ps g0 st f3⟩
      | none =>
        cases f1 : valueAt vs kk with
        | some _ => rw [f1] at hr; exact hr.elim
        | none => exact ⟨.non, H, I.tok _, rfl, k _ H ps g0 st .non⟩
  · rename_i kd xw
    obtain ⟨kvs, e1, e2⟩ := Option.bind_eq_some_iff.mp e
    obtain ⟨rr, e3, e4⟩ := Option.map_eq_some_iff.mp e2
    cases e4
    obtain ⟨a, ho, rfl, h1, h2⟩ := dct_ok st r e1
    cases rx
    obtain ⟨vk, vx, rfl, rk, rxw⟩ := rws.two
    obtain ⟨uk, ux, rfl, ru, rux⟩ := rs.two
    obtain ⟨o, ho, hc⟩ := typeIs_dct I h1 h2
    obtain ⟨hd, hcase⟩ := look_cases I h1 h2 rk ru e3
    rcases hcase with ⟨b, q, xs, rfl, ki, dd, hr⟩ | ⟨kk, vs, ki, dd, hr⟩
    · refine call_meetsIn PySem.F.slot_dict_get dd.typeIs PySem.F.entry_dict_get (PySem.F.args_dict_get_3 _ _ _) (meetsH_dict_get_default (nestedKind X.prog X.w) a b hd ux) ⟨show X.A.units + 1 + 8 < cLine by omega, q, xs, ki, dd, ?_⟩
      cases rr with
      | some d =>
        obtain ⟨wv, vv, f1, f2, f3⟩ := hr.some
        rw [f1]
        exact ⟨vv, H, I.tok _, f2, k _ H ps g0 st f3⟩
      | none =>
        cases f1 : (atKey xs q).map (·.2) with
        | some _ => rw [f1] at hr; exact hr.elim
        | none => exact ⟨vx, H, I.tok _, rux, k _ H ps g0 st rxw⟩
    · refine call_meetsIn PySem.F.slot_dict_get dd.typeIs PySem.F.entry_dict_get (PySem.F.args_dict_get_3 _ _ _) (meets_dict_get_default (mixKind X.prog X.w) a ki hd ux) ⟨_, dd.mapOf, ?_⟩
      cases rr with
      | some d =>
        obtain ⟨wv, vv, f1, f2, f3⟩ := hr.some
        rw [f1]
        exact ⟨vv, H, I.tok _, f2, k _ H ps g0 st f3⟩
      | none =>
        cases f1 : valueAt vs kk with
        | some _ => rw [f1] at hr; exact hr.elim
        | none => exact ⟨vx, H, I.tok _, rux, k _ H ps g0 st rxw⟩
  · cases e

/-! ### d[k] = v -/
theorem rn_put {xs : List (NestedKey × Addr × Value)} {kvs : List (D × D)} {k d : D} {q : NestedKey} {b : Addr} {y : V} {u : Value} (hq : nk k = some q) (hdep : q.depth ≤ 8) (rk : RV X.K pn ps H (.ref b) k) (ht : ∃ ds, k = .tup ds) (ry : RelV y u) (rd : RV X.K pn ps H y d)
    (r : Paired (RN X.K pn ps H) xs kvs) : Paired (RN X.K pn ps H) (storedH xs q b u) (dput kvs k d) := by
  have hany : ∀ {xs : List (NestedKey × Addr × Value)} {kvs : List (D × D)}, Paired (RN X.K pn ps H) xs kvs → (kvs.any fun z => decide (nk z.1 = nk k)) = (atKey xs q).isSome := by
    intro xs kvs r
    induction r with
    | nil => rfl
    | @cons x z l m h t ih =>
      rw [List.any_cons, ih]
      by_cases e : x.1 = q
      · simp [h.1, hq, e, atKey, List.find?_cons]
      · simp [h.1, hq, e, atKey, List.find?_cons]
  unfold storedH dput
  rw [hany r]
  by_cases e : (atKey xs q).isSome = true
  · rw [if_pos e, if_pos e]
    clear e
    induction r with
    | nil => exact .nil
    | @cons x z l m h t ih =>
      rw [List.map_cons, List.map_cons]
      refine .cons ?_ ih
      obtain ⟨e1, e2, e3, e4, e5⟩ := h
      unfold putAt
      by_cases e : x.1 = q
      · rw [if_pos e, if_pos (by rw [e1, hq, e])]
        exact ⟨e1, e2, e3, e4, y, ry, rd⟩
      · rw [if_neg e, if_neg (by rw [e1, hq]; exact fun z => e (Option.some.inj z))]
        exact ⟨e1, e2, e3, e4, e5⟩
  · rw [if_neg e, if_neg e]
    exact Paired.snoc r ⟨hq, hdep, rk, ht, y, ry, rd⟩
theorem rk_put {kv : List (Key × V)} {kvs : List (D × D)} {k : Key} {d : D} {y : V} (rd : RV X.K pn ps H y d) (r : Paired (RK X.K pn ps H) kv kvs) : Paired (RK X.K pn ps H) (putK kv k y) (dput kvs (dk k) d) := by
  have hany : ∀ {kv : List (Key × V)} {kvs : List (D × D)}, Paired (RK X.K pn ps H) kv kvs → (kvs.any fun z => decide (nk z.1 = nk (dk k))) = (kv.any fun z => decide (z.1 = k)) := by
    intro xs kvs r
    induction r with
    | nil => rfl
    | @cons x z l m h t ih =>
      rw [List.any_cons, ih, List.any_cons, h.1]
      by_cases e : x.1 = k
      · simp [e]
      · have : ¬ nk (dk x.1) = nk (dk k) := fun z => e (nk_dk z)
        simp [e, this]
  unfold putK dput
  rw [hany r]
  by_cases e : (kv.any fun z => decide (z.1 = k)) = true
  · rw [if_pos e, if_pos e]
    clear e
    induction r with
    | nil => exact .nil
    | @cons x z l m h t ih =>
      rw [List.map_cons, List.map_cons]
      refine .cons ?_ ih
      obtain ⟨e1, e2⟩ := h
      by_cases e : x.1 = k
      · rw [if_pos e, if_pos (by rw [e1, e])]
        exact ⟨e1, rd⟩
      · have : ¬ nk z.1 = nk (dk k) := by rw [e1]; exact fun z => e (nk_dk z)
        rw [if_neg e, if_neg this]
        exact ⟨e1, e2⟩
  · rw [if_neg e, if_neg e]
    exact Paired.snoc r ⟨rfl, rd⟩
theorem RO.mut {a : Addr} {ho : HO} {kvs : List (D × D)} (h2 : RO X.prog X.w X.K pn ps H a ho (.dct kvs)) : Mut (some ho) := by
  cases ho <;> first | exact h2.elim | (rename_i u; cases u <;> exact h2.elim) | exact True.intro
theorem length_dput (kvs : List (D × D)) (k v : D) : (dput kvs k v).length ≤ kvs.length + 1 := by
  unfold dput
  split
  · rw [List.length_map]; omega
  · rw [List.length_append, List.length_cons, List.length_nil]; omega
/-- the dict's object is written; E: what it is then -/
theorem put_cases {A : Around} {E : Value → Shared → Prop} (hu : A.units + 9 < cLine) (I : Inv X pins σ H s) (st : Sto X.prog X.w X.K pn ps H μ) {l : Nat} {a : Addr} {kvs : List (D × D)} {k d : D} {vk vd : V} {uk ud : Value} {Q : Unit → Shared → Prop} (hm : μ[l]? = some (.dct kvs)) (ha : ps[l]? = some a)
    (rk : RV X.K pn ps H vk k) (ruk : RelV vk uk) (rd : RV X.K pn ps H vd d) (rud : RelV vd ud) (hc : (kTup k && dT kvs || (kVal k).isSome && dV kvs) = true) (hl : kvs.length < LIM)
    (h : ∀ s' H', Inv X pins σ H' s' → Grow ps H ps H' → Sto X.prog X.w X.K pn ps H' (μ.set l (.dct (dput kvs k d))) → Q () s') : wpAny (model X.prog X.w) A (setItem (.ref a) uk ud) Q E s := by
  obtain ⟨ho, h1, h2⟩ := st.get hm ha
  have mu := h2.mut
  have hin := List.mem_of_getElem? ha
  rw [← h1] at mu
  rcases Bool.or_eq_true_iff.mp hc with hc | hc
  · obtain ⟨c1, c2⟩ := Bool.and_eq_true_iff.mp hc
    obtain ⟨ds, q, e1, e2, e3⟩ := kTup_nk c1
    obtain ⟨hd, xs, dd, rr, hz⟩ := ho_dctT I (.inl h1) h2 c2
    have ki := key_is I rk e2 ruk
    have e1' := e1
    subst e1
    cases rk with
    | @tup b _ _ hs rs =>
      cases ruk
      refine wpAny_setItem_heap (knd := nestedKind X.prog X.w) (hsz := hz) (show A.units + 1 + 8 < cLine by omega) ⟨ki, e3⟩ dd fun h' dd' sb => ?_
      obtain ⟨o, es, ep, hq, h2', h3, h4, _, h5⟩ := dd'
      have hl' : (storedH xs q b ud).length ≤ sizeLine := by
        have := Paired.length (rn_put e2 e3 (.tup hs rs) ⟨_, rfl⟩ rud rd rr)
        rw [this, ← LIM_eq]
        have := length_dput kvs (.tup ds) d
        omega
      have g0 : Grow ps H ps (upd H a (.ext (DctAt X.prog X.w a (storedH xs q b ud)))) := Grow.put h1 (RO.notImm h2) hin
      have I2 : Inv X pins σ (upd H a (.ext (DctAt X.prog X.w a (storedH xs q b ud)))) { s with heap := h', toks := s.toks + (nestedKind X.prog X.w).draws q } :=
        d_write I mu sb ⟨o, hq⟩ ⟨⟨o, es, ep, hq, h2', h3, h4⟩, ⟨o, hq⟩, fun h1 h2 ⟨o, es, ep, z1, z2, z3, z4⟩ st => ⟨o, es, ep, st _ z1, z2, z3, z4⟩⟩
      obtain ⟨g, s3⟩ := Sto.put (o := .dct (dput kvs (.tup ds) d)) (hn := .ext (DctAt X.prog X.w a (storedH xs q b ud))) st ha hm h1 (RO.notImm h2)
        (show RO X.prog X.w X.K pn ps (upd H a (.ext (DctAt X.prog X.w a (storedH xs q b ud)))) a (.ext (DctAt X.prog X.w a (storedH xs q b ud))) (.dct (dput kvs (.tup ds) d)) from
          ⟨_, rfl, rn_put e2 e3 (RV.grow g0 (.tup hs rs)) ⟨_, rfl⟩ rud (rd.grow g0) (Paired.mapP rr fun p q z => ⟨z.1, z.2.1, z.2.2.1.mono g0.w fun _ z => z, z.2.2.2.1, let ⟨v, r1, r2⟩ := z.2.2.2.2; ⟨v, r1, r2.mono g0.w fun _ z => z⟩⟩), h5, hl', hd⟩)
      exact h _ _ I2 g s3
  · obtain ⟨c1, c2⟩ := Bool.and_eq_true_iff.mp hc
    obtain ⟨kk, e1⟩ := Option.isSome_iff_exists.mp c1
    have ek := kVal_dk e1
    subst ek
    obtain ⟨hd, kv, vs, rel, dd, rr, hz⟩ := ho_dctV I (.inl h1) h2 c2
    have ki : (mixKind X.prog X.w).is kk uk = true := by
      cases kk with
      | inl i => cases rk; exact kV_is (k := .inl i) ruk
      | inr x => cases rk; exact kV_is (k := .inr x) ruk
    refine wpAny_setItem_pairs (hsz := hz) ki dd fun h' dd' sb => ?_
    have he : ∃ q, h'.get? a = some q := let ⟨q, _, _, hq, _⟩ := dd'; ⟨q, hq⟩
    have hl' : (putK kv kk vd).length ≤ sizeLine := by
      have := length_putK kv kk vd
      have := Paired.length rr
      rw [← LIM_eq]
      omega
    have g0 : Grow ps H ps (upd H a (.dK (putK kv kk vd))) := Grow.put h1 (RO.notImm h2) hin
    have I2 := d_write (ob := .dK (putK kv kk vd)) (t' := s.toks + 1) I mu sb he (dk_new hl' hd (rel.put kk rud) dd')
    obtain ⟨g, s3⟩ := Sto.put (o := .dct (dput kvs (dk kk) d)) (hn := .dK (putK kv kk vd)) st ha hm h1 (RO.notImm h2)
      (show Paired (RK X.K pn ps (upd H a (.dK (putK kv kk vd)))) (putK kv kk vd) (dput kvs (dk kk) d) from rk_put (rd.grow g0) (Paired.mapP rr fun p q z => ⟨z.1, z.2.grow g0⟩))
    exact h _ _ I2 g s3
def setA : D → D → D → Mu → Option Mu := fun o i v mu => match o with
  | .loc l => (match mu[l]? with
    | some (.dct kvs) => if (kTup i && dT kvs || (kVal i).isSome && dV kvs) = true ∧ kvs.length < LIM then some (mu.set l (.dct (dput kvs i v))) else none
    | _ => setW o i v mu)
  | _ => none
theorem set_A (hu : X.A.units + 64 < cLine) : PSet X (rS X pn setA) := by
  intro pins s σ H o i v ov iv u Q I ro ri rv ⟨ps, μ, d1, d2, d3, μ', st, r1, r2, r3, e, k⟩
  unfold setA at e
  split at e
  · rename_i l
    split at e
    · rename_i kvs q
      split at e
      · rename_i hc
        cases e
        cases r1 with
        | @loc a _ hl =>
          cases ro
          exact put_cases (by omega) I st q hl r2 ri r3 rv hc.1 hc.2 fun s' H' I' g s2 => ⟨H', I', k H' g s2⟩
      · cases e
    · exact set_d pins s σ H o i v ov iv u Q I ro ri rv ⟨ps, μ, _, d2, d3, μ', st, r1, r2, r3, e, k⟩
  · cases e
end
end Dn

set_option Elab.async false
set_option linter.all false
set_option maxRecDepth 100000
set_option maxHeartbeats 4000000
set_option autoImplicit false
/-! Dn11: isinstance, len, all, any, {}. -/
namespace Dn
open PySem PySem.Spec PyProof.Rows L2

inductive BT where
  | non | bl | int | str | tup | lst | dct
  deriving DecidableEq
def BT.nm : BT → String
  | .non => "NoneType"
  | .bl => "bool"
  | .int => "int"
  | .str => "str"
  | .tup => "tuple"
  | .lst => "list"
  | .dct => "dict"
def BT.sub (a b : BT) : Bool := decide (a = b) || (decide (a = .bl) && decide (b = .int))
theorem BT.sub_ok (K : PySem.W.Frag) (a b : BT) (hb : b ≠ .non) : PySem.W.kitOne K (.type a.nm) (.type b.nm) = some (a.sub b) := by
  refine kit_ty ?_
  cases b <;> first | exact absurd rfl hb | (cases a <;> decide +kernel)
/-- what type(v) is -/
inductive Tg where
  | b (t : BT) | c (C : Str) | e (C : Str)
def tagW (w : Wv) (mu : Mu) : Option Tg := match w with
  | .d .non => some (.b .non)
  | .d (.bl _) => some (.b .bl)
  | .d (.int _) => some (.b .int)
  | .d (.str _) => some (.b .str)
  | .d (.tup _) => some (.b .tup)
  | .d (.rol _) => some (.b .lst)
  | .d (.exn C _ _) => some (.e C)
  | .d (.loc l) => (match mu[l]? with
    | some (.lst _) => some (.b .lst)
    | some (.dct _) => some (.b .dct)
    | some (.lk _) => some (.b .dct)
    | some (.ins C _) => some (.c C)
    | none => none)
  | .o (.lst _) => some (.b .lst)
  | .o (.dct _) => some (.b .dct)
  | .o (.lk _) => none
  | .o (.ins C _) => some (.c C)
structure InsK (K : PySem.W.Frag) (C : Str) : Prop where
  cl : Cls K (He.ga K C)
  ha : PySem.W.findIn K (.ref (He.ga K C)) "__class__" = some (some (.builtin "object.__class__"))
  hn : PySem.W.specialIn K (.builtin "object.__class__") "__get__" = some (some (.builtin "getset_descriptor.__get__"))
  htk : PySem.W.takesIn K (.builtin "object.__class__") = some true
  hm : PySem.W.mroIn K (He.ga K C) (.type "object") = some true
/-- what the asked class says of types -/
structure AskK (K : PySem.W.Frag) (cv : Value) (own : List Str) (exc : List (Str × Bool)) (bt : BT → Bool) (ow : Str → Bool) : Prop where
  bt : ∀ t : BT, PySem.W.kitOne K (.type t.nm) cv = some (bt t)
  own : ∀ C ∈ own, InsK K C ∧ PySem.W.kitOne K (.ref (He.ga K C)) cv = some (ow C)
  exc : ∀ p ∈ exc, L2.ExcC K (He.ga K p.1) ∧ PySem.W.kitOne K (.ref (He.ga K p.1)) cv = some p.2
def isiW (own : List Str) (exc : List (Str × Bool)) (bt : BT → Bool) (ow : Str → Bool) (w : Wv) (mu : Mu) : Option Bool := (tagW w mu).bind fun t => match t with
  | .b t => some (bt t)
  | .c C => if C ∈ own then some (ow C) else none
  | .e C => (exc.find? fun p => decide (p.1 = C)).map (·.2)
section
variable {X : Cx} {pins pn : List (Addr × Obj)} {ps : List Addr} {σ : L2.St} {H H0 : Hp} {s : Shared} {μ : Mu}
theorem kit_w {cv : Value} {own : List Str} {exc : List (Str × Bool)} {bt : BT → Bool} {ow : Str → Bool} {v : V} {u : Value} {w : Wv} {r : Bool} (hpn : ∀ p ∈ pn, p ∈ X.pn) (A : AskK X.K cv own exc bt ow) (I : Inv X pins σ H s) (st : Sto X.prog X.w X.K pn ps H μ) (rw_ : RW X pn H0 ps H v w) (ru : RelV v u) (e : isiW own exc bt ow w μ = some r) :
    ∃ (P : Heap → Prop) (t : Value), PySem.W.KitX X.K u t P ∧ P s.heap ∧ u ≠ .builtin "__main__.__loader__#opaque" ∧ PySem.W.kitOne X.K t cv = some r := by
  obtain ⟨t, e1, e2⟩ := Option.bind_eq_some_iff.mp e
  have ins_ok : ∀ {a C dx fs c}, H a = some (.ins C dx fs) → C = He.ga X.K c → c ∈ own → ow c = r → ∃ (P : Heap → Prop) (t : Value), PySem.W.KitX X.K (.ref a) t P ∧ P s.heap ∧ (Value.ref a) ≠ .builtin "__main__.__loader__#opaque" ∧ PySem.W.kitOne X.K t cv = some r := by
    intro a C dx fs c ea ec hc hr
    subst ec
    obtain ⟨K1, k⟩ := A.own c hc
    obtain ⟨mA, O, _⟩ := ins_get I.hok ea
    obtain ⟨od, J, _⟩ := O.look
    exact ⟨_, _, PySem.W.kitx_own (K1.cl.get _) K1.cl.hd K1.ha K1.hn K1.htk K1.hm, J, (fun z => nomatch z), by rw [← hr]; exact k⟩
  have lst_ok : ∀ {a xs}, SqL X.K H a xs → bt .lst = r → ∃ (P : Heap → Prop) (t : Value), PySem.W.KitX X.K (.ref a) t P ∧ P s.heap ∧ (Value.ref a) ≠ .builtin "__main__.__loader__#opaque" ∧ PySem.W.kitOne X.K t cv = some r := by
    intro a xs hq hr
    obtain ⟨its, _, ⟨o, n, e, c, _, _⟩, _⟩ := I.list hq
    exact ⟨_, _, PySem.W.kitx_list, ⟨o, e, c⟩, (fun z => nomatch z), by rw [← hr]; exact A.bt .lst⟩
  have dct_ok : ∀ {a ho kvs}, Rd H a ho → RO X.prog X.w X.K pn ps H a ho (.dct kvs) → bt .dct = r → ∃ (P : Heap → Prop) (t : Value), PySem.W.KitX X.K (.ref a) t P ∧ P s.heap ∧ (Value.ref a) ≠ .builtin "__main__.__loader__#opaque" ∧ PySem.W.kitOne X.K t cv = some r := by
    intro a ho kvs h1 h2 hr
    obtain ⟨o, e, c⟩ := typeIs_dct I h1 h2
    exact ⟨_, _, PySem.W.kitx_dict, ⟨o, e, c.1⟩, (fun z => nomatch z), by rw [← hr]; exact A.bt .dct⟩
  cases w with
  | o o =>
    obtain ⟨a, ho, ev, _, _, ea, ro⟩ := rw_
    subst ev
    cases (show u = Value.ref a from ru)
    cases o with
    | lst xs =>
      cases e1; cases e2
      obtain ⟨vs, e3, _⟩ := ro.lst
      subst e3
      exact lst_ok (SqL.of ea) rfl
    | dct kvs => cases e1; cases e2; exact dct_ok (.inl ea) ro rfl
    | ins C fs =>
      cases e1
      dsimp only at e2
      split at e2
      · rename_i hc
        cases ho <;> first | exact ro.elim | (rename_i u; cases u <;> exact ro.elim) | skip
        exact ins_ok ea ro.1 hc (Option.some.inj e2)
      · cases e2
    | lk kvs => cases e1
  | d d =>
    cases rw_ with
    | non => cases e1; cases e2; cases (show u = Value.none from ru); exact ⟨_, _, PySem.W.kitx_none, True.intro, (fun z => nomatch z), A.bt .non⟩
    | bl b => cases e1; cases e2; cases (show u = Value.bool b from ru); exact ⟨_, _, PySem.W.kitx_bool, True.intro, (fun z => nomatch z), A.bt .bl⟩
    | int i => cases e1; cases e2; obtain ⟨t, q⟩ := (show ∃ t, u = Value.int i t from ru); cases q; exact ⟨_, _, PySem.W.kitx_int, True.intro, (fun z => nomatch z), A.bt .int⟩
    | str x => cases e1; cases e2; obtain ⟨t, q⟩ := (show ∃ t, u = Value.str x t from ru); cases q; exact ⟨_, _, PySem.W.kitx_str, True.intro, (fun z => nomatch z), A.bt .str⟩
    | @tup a vs ds h q =>
      cases e1; cases e2
      cases (show u = Value.ref a from ru)
      obtain ⟨its, _, ⟨o, h1, h2, _⟩, _⟩ := I.tuple h
      exact ⟨_, _, PySem.W.kitx_tuple, ⟨o, h1, h2⟩, (fun z => nomatch z), A.bt .tup⟩
    | @rol a vs ds h q =>
      cases e1; cases e2
      cases (show u = Value.ref a from ru)
      exact lst_ok h.l rfl
    | @loc a l hl =>
      cases (show u = Value.ref a from ru)
      dsimp only [tagW] at e1
      split at e1
      · rename_i xs q
        cases e1; cases e2
        obtain ⟨ho, ea, ro⟩ := st.get q hl
        obtain ⟨vs, e3, _⟩ := ro.lst
        subst e3
        exact lst_ok (SqL.of ea) rfl
      · rename_i kvs q
        cases e1; cases e2
        obtain ⟨ho, ea, ro⟩ := st.get q hl
        exact dct_ok (.inl ea) ro rfl
      · rename_i kvs q
        cases e1; cases e2
        obtain ⟨ho, ea, ro⟩ := st.get q hl
        cases ho with
        | frz ob u => cases u <;> first | exact ro.elim | exact dct_ok (.inr ⟨ob, ea⟩) ro rfl
        | _ => exact ro.elim
      · rename_i C fs q
        cases e1
        dsimp only at e2
        split at e2
        · rename_i hc
          obtain ⟨ho, ea, ro⟩ := st.get q hl
          cases ho <;> first | exact ro.elim | (rename_i u; cases u <;> exact ro.elim) | skip
          exact ins_ok ea ro.1 hc (Option.some.inj e2)
        · cases e2
      · cases e1
    | @exn0 a oe c f hin z g =>
      cases e1
      obtain ⟨p, hp, e3⟩ := Option.map_eq_some_iff.mp e2
      have hc0 := List.find?_some hp
      have hc : p.1 = c := of_decide_eq_true hc0
      obtain ⟨C, k⟩ := A.exc p (List.mem_of_find?_eq_some hp)
      rw [hc] at C k
      cases (show u = Value.ref a from ru)
      obtain ⟨hget, _⟩ := I.pin (a, oe) (List.mem_append.mpr (.inl (hpn _ hin)))
      obtain ⟨vs, hv⟩ := g
      have J : PySem.W.InstAt s.heap a oe (He.ga X.K c) none := by
        obtain ⟨oc, od, oda, osl⟩ := oe
        obtain ⟨h1, h2⟩ := z
        dsimp only at h1 h2 hv
        subst h1 h2 hv
        exact ⟨hget, rfl, rfl, trivial⟩
      exact ⟨_, _, PySem.W.handS_kitx_exc C.hg C.hk C.hs C.hd C.ha C.hn C.ht C.hm, J, (fun z => nomatch z), by rw [← e3]; exact k⟩
    | @exn1 a dx oe c f v d hin z g x rd =>
      cases e1
      obtain ⟨p, hp, e3⟩ := Option.map_eq_some_iff.mp e2
      have hc0 := List.find?_some hp
      have hc : p.1 = c := of_decide_eq_true hc0
      obtain ⟨C, k⟩ := A.exc p (List.mem_of_find?_eq_some hp)
      rw [hc] at C k
      cases (show u = Value.ref a from ru)
      obtain ⟨hget, _⟩ := I.pin (a, oe) (List.mem_append.mpr (.inl (hpn _ hin)))
      obtain ⟨vs, hv⟩ := g
      obtain ⟨mA, hns, _⟩ := (show ObjOk X.prog X.w H s.heap dx (.xd [(f, v)]) from I.hok dx _ x)
      obtain ⟨od, ho, _⟩ := lookIn_ns hns
      have J : PySem.W.InstAt s.heap a oe (He.ga X.K c) (some od) := by
        obtain ⟨oc, od', oda, osl⟩ := oe
        obtain ⟨h1, h2⟩ := z
        dsimp only at h1 h2 hv
        subst h1 h2 hv
        exact ⟨hget, rfl, rfl, ho⟩
      have hcl : (PySem.W.clsIn X.K (He.ga X.K c)).isSome = true := by
        have hd := C.hd
        unfold PySem.W.hasDictIn at hd
        cases q : PySem.W.clsIn X.K (He.ga X.K c) with
        | none => rw [q] at hd; cases hd
        | some _ => rfl
      exact ⟨_, _, PySem.W.kitx_exc hcl C.hg C.hk C.hs C.ha C.hn C.ht C.hm, J, (fun z => nomatch z), by rw [← e3]; exact k⟩
def xIsi (own : List Str) (exc : List (Str × Bool)) (bt : BT → Bool) (ow : Str → Bool) (m : EX) : EX := x1 (fun w mu => (isiW own exc bt ow w mu).map fun b => .d (.bl b)) m
/-- isinstance(e, C) -/
theorem d_isi {cv : Value} {cx : V} {own : List Str} {exc : List (Str × Bool)} {bt : BT → Bool} {ow : Str → Bool} {m : EX} {e c : Expr} {p pos : Pos} (hpn : ∀ p ∈ pn, p ∈ X.pn) (hcx : ∀ u, RelV cx u → u = cv) (A : AskK X.K cv own exc bt ow) (hg : Gl X "isinstance") (hm : X.mg "isinstance" = none)
    (he : DE X pn m e) (hc : PE X c (tC cx)) (hs : starEach [e, c] X.env = [(false, eval e X.env), (false, eval c X.env)] := by rfl) (hs2 : starEach [c] X.env = [(false, eval c X.env)] := by rfl) (hpl : (backTo pos (starEach [c] X.env)).any (·.1) = false := by rfl) :
    DE X pn (xIsi own exc bt ow m) (.Call (.Name "isinstance" p) [e, c] [] pos) := fun Wx tk =>
  PE_imp (pe_callB (id := "isinstance") (r := fun xs H Q => ∃ x, xs = [x, cx] ∧ rU1 X pn (fun w mu => (isiW own exc bt ow w mu).map fun b => .d (.bl b)) x H Q) (fun pins s σ H xs us Q I r ⟨x, exs, H0, ps, μ, w1, z, st, r1, e1, k⟩ => by
      subst exs
      obtain ⟨u1, u2, rfl, ra, rb⟩ := vals2 r
      have e2 := hcx u2 rb
      subst e2
      obtain ⟨b, e3, e4⟩ := Option.map_eq_some_iff.mp e1
      subst e4
      obtain ⟨P, t, Z, hP, hne, hk⟩ := kit_w hpn A I st r1 ra e3
      exact PySem.W.kia_one Z I.kIn hP hk hne fun tk => ⟨.bl b, H, I.tok tk, rfl, k _ H ps Grow.refl st (.bl _)⟩) hg hm boot_isinstance (pa_cons (he Wx tk) (pa_cons hc pa_nil hs2) (by rw [hs, hs2])) (by decide) (by decide) (by rw [hs, hs2]) hpl) fun σ H Q h => by
    have h2 := x1_run h
    obtain ⟨ps, ρ, μ, Rr, h3⟩ := h2
    refine ⟨ps, ρ, μ, Rr, ?_⟩
    cases q : m ρ μ with
    | no => rw [q] at h3; exact h3
    | ex e' m' => rw [q] at h3; exact h3
    | ok w m' => rw [q] at h3; exact fun v H' ps' g s r => ⟨v, rfl, h3 v H' ps' g s r⟩
end
end Dn

set_option Elab.async false
set_option linter.all false
set_option maxRecDepth 100000
set_option maxHeartbeats 4000000
set_option autoImplicit false
/-! Dn12: len, all, any, {}, dict(d), setdefault. -/
namespace Dn
open PySem PySem.Spec PyProof.Rows L2

def lenC : List Wv → Mu → Option Wv
  | [.d (.str x)], _ => if x.length ≤ LIM then some (.d (.int x.length)) else none
  | [w], mu => (match dctOf w mu with
    | some kvs => if dT kvs || dV kvs then some (.d (.int kvs.length)) else none
    | none => (seqOf w mu).map fun xs => .d (.int xs.length))
  | _, _ => none
def allC : List Wv → Mu → Option Wv
  | [w], mu => (lstOf w mu).bind fun xs => (blsD xs).map fun bs => .d (.bl (bs.all id))
  | _, _ => none
def anyC : List Wv → Mu → Option Wv
  | [w], mu => (lstOf w mu).bind fun xs => (blsD xs).map fun bs => .d (.bl (bs.any id))
  | _, _ => none
section
variable {X : Cx} {pins pn : List (Addr × Obj)} {ps : List Addr} {σ : L2.St} {H H0 : Hp} {s : Shared} {μ : Mu}
theorem c_len : CallR X (.builtin "len") (rC X pn lenC) := by
  intro pins s σ H xs us Q I rs ⟨H0, ps, μ, ws, z, st, r, e, k⟩
  unfold lenC at e
  split at e
  · rename_i x
    split at e
    · rename_i hl
      cases e
      obtain ⟨v, rfl, r1⟩ := r.one
      cases r1
      exact call_len_str pins s σ H _ us Q I rs ⟨_, rfl, by rw [← LIM_eq]; exact hl, k _ H ps Grow.refl st (.int _)⟩
    · cases e
  · obtain ⟨v, rfl, r1⟩ := r.one
    split at e
    · rename_i kvs q
      split at e
      · rename_i hk
        cases e
        obtain ⟨a, ho, rfl, h1, h2⟩ := dct_ok st r1 q
        obtain ⟨u, rfl, rx⟩ := vals1 rs
        obtain rfl : u = .ref a := rx
        rcases Bool.or_eq_true_iff.mp hk with hk | hk
        · obtain ⟨hd, xs, dd, rr, hz⟩ := ho_dctT I h1 h2 hk
          refine call_len_dictH hd dd (by rw [sizeLine_eq] at hz; omega) ?_
          rw [Paired.length rr]
          exact ⟨.int _, H, I.tok _, ⟨_, rfl⟩, k _ H ps Grow.refl st (.int _)⟩
        · obtain ⟨hd, kv, vs, rel, dd, rr, hz⟩ := ho_dctV I h1 h2 hk
          refine call_len_dict hd dd (by rw [sizeLine_eq] at hz; omega) ?_
          rw [← rel.length, Paired.length rr]
          exact ⟨.int _, H, I.tok _, ⟨_, rfl⟩, k _ H ps Grow.refl st (.int _)⟩
      · cases e
    · obtain ⟨ds, e1, e2⟩ := Option.map_eq_some_iff.mp e
      subst e2
      obtain ⟨a, vs, ea, hq, rv⟩ := seq_ok st r1 e1
      subst ea
      refine call_len_seq pins s σ H _ us Q I rs ⟨a, vs, rfl, hq, ?_⟩
      rw [rv.length]
      exact k _ H ps Grow.refl st (.int _)
  · cases e
theorem c_all (hc : X.calm = true) : CallR X (.builtin "all") (rC X pn allC) := by
  intro pins s σ H xs us Q I rs ⟨H0, ps, μ, ws, z, st, r, e, k⟩
  unfold allC at e
  split at e
  · obtain ⟨v, rfl, r1⟩ := r.one
    obtain ⟨ds, e1, e2⟩ := Option.bind_eq_some_iff.mp e
    obtain ⟨ns, e3, e4⟩ := Option.map_eq_some_iff.mp e2
    subst e4
    obtain ⟨a, vs, ea, hq, rv⟩ := lst_ok st r1 e1
    subst ea
    rw [bls_ok rv e3] at hq
    exact cr_all hc pins s σ H _ us Q I rs ⟨a, ns, rfl, hq, k _ H ps Grow.refl st (.bl _)⟩
  · cases e
theorem c_any (hc : X.calm = true) : CallR X (.builtin "any") (rC X pn anyC) := by
  intro pins s σ H xs us Q I rs ⟨H0, ps, μ, ws, z, st, r, e, k⟩
  unfold anyC at e
  split at e
  · obtain ⟨v, rfl, r1⟩ := r.one
    obtain ⟨ds, e1, e2⟩ := Option.bind_eq_some_iff.mp e
    obtain ⟨ns, e3, e4⟩ := Option.map_eq_some_iff.mp e2
    subst e4
    obtain ⟨a, vs, ea, hq, rv⟩ := lst_ok st r1 e1
    subst ea
    rw [bls_ok rv e3] at hq
    exact cr_any hc pins s σ H _ us Q I rs ⟨a, ns, rfl, hq, k _ H ps Grow.refl st (.bl _)⟩
  · cases e
/-- {} -/
def xDct0 : EX := fun _ => M.ret (.o (.dct []))
theorem d_dict0 {pos : Pos} : DE X pn xDct0 (.Dict [] [] pos) := fun Wx tk =>
  PE_imp pe_dnewK fun σ H Q ⟨ps, ρ, μ, Rr, h⟩ p hp =>
    h (.ref p) _ ps (Grow.new hp) (Rr.sto.new hp) ⟨p, .dK [], rfl, hp, Rr.sto.notIn hp, upd_same, (.nil : Paired (RK X.K pn ps (upd H p (.dK []))) [] [])⟩
end
/-! ### methods of dicts -/
def isDct (w : Wv) (mu : Mu) : Bool := (dctOf w mu).isSome
def xMd (g : Wv → List Wv → Mu → Option (Wv × Mu)) (o : EX) (as : Rho → M (List Wv)) : EX := fun ρ => M.bind (o ρ) fun w => M.bind (M.chk fun mu => isDct w mu) fun _ => M.bind (as ρ) fun ws => M.optM (g w ws)
section
variable {X : Cx} {pn : List (Addr × Obj)} {id : String} {g : Wv → List Wv → Mu → Option (Wv × Mu)} {mo : EX} {ms : Rho → M (List Wv)} {o e : Expr} {es : List Expr} {name : Str} {apos cpos : Pos}
/-- the value is a dict as the heap knows it -/
def dcV (X : Cx) (pn : List (Addr × Obj)) (x : V) (H : Hp) : Prop := ∃ a ho kvs ps, x = .ref a ∧ Rd H a ho ∧ RO X.prog X.w X.K pn ps H a ho (.dct kvs)
theorem xMd_run {Wx : WX} {σ : L2.St} {H : Hp} {Q : VK} (h : tE X pn Wx (xMd g mo ms) σ H Q) : tE X pn Wx mo σ H fun x H1 => dcV X pn x H1 ∧ tAW X pn Wx ms σ H1 fun xs H2 => rM X pn g x xs H2 Q := by
  obtain ⟨ps, ρ, μ, Rr, h⟩ := h
  refine tE_bind (Po := PoE X pn Wx ps σ H Q) Rr h (fun e m' h => h) (fun h => h) fun w m1 v H1 p1 g1 R1 r1 h1 => ?_
  dsimp only [M.bind, M.chk] at h1
  cases q : isDct w m1 with
  | false => rw [q] at h1; exact h1.elim
  | true =>
    rw [q] at h1
    obtain ⟨kvs, e⟩ := Option.isSome_iff_exists.mp q
    obtain ⟨a, ho, ea, h2, h3⟩ := dct_ok R1.sto r1 e
    refine ⟨⟨a, ho, kvs, p1, ea, h2, h3⟩, ?_⟩
    refine tAW_bind (Po := PoE X pn Wx ps σ H Q) (f := fun ws => M.optM (g w ws)) R1 h1 (fun e m' h cls d H' ps' g s r => h cls d H' ps' (g1.trans g) s r) (fun h => h) fun ws m2 vs H2 p2 g2 R2 r2 h2 => ?_
    unfold M.optM at h2
    cases q2 : g w ws m2 with
    | none => rw [q2] at h2; exact h2.elim
    | some zm =>
      obtain ⟨z, m3⟩ := zm
      rw [q2] at h2
      exact ⟨ps, H, p2, m2, w, ws, z, m3, g1.trans g2, R2.sto, r1.grow g2, r2.base g1, q2, fun v H' ps' g s r => h2 v H' ps' g s r⟩
theorem d_dm (slot : Slot "dict" name id) (hty : typeOf (.builtin id) = pure (.type "method_descriptor")) (hm : MtR X id (rM X pn g)) (ho : DE X pn mo o) (ha : DA X pn ms (e :: es))
    (hbase : attributeBase o name X.env (eval o X.env) = eval o X.env := by rfl)
    (hfew : ((backTo cpos (starEach (e :: es) X.env)).all (fun x => !x.1) && (backToKw cpos (keywordEach [] X.env)).all (fun x => x.1.isSome)
      && decide ((e :: es).length + ([] : List Keyword).length + (if ([] : List Keyword).isEmpty then 0 else 1) < 30)) = true := by rfl)
    (hline : (apos.endLine == cpos.line) = true := by rfl) (hs : starEach (e :: es) X.env = (false, eval e X.env) :: starEach es X.env := by rfl) (hplain : (backTo cpos (starEach es X.env)).any (·.1) = false := by rfl) :
    DE X pn (xMd g mo ms) (.Call (.Attribute o name apos) (e :: es) [] cpos) := fun Wx tk => by
  refine ⟨fun pins s σ H Q I h => ?_⟩
  refine wpAny_Call_method_late hbase hfew hline rfl (thn ((ho Wx tk).run pins s σ H _ I (xMd_run h)) fun v s1 ⟨x, H1, I1, r1, ⟨a, hoo, kvs, ps, ex, h2, h3⟩, q1⟩ => ?_)
  subst ex
  obtain rfl : v = Value.ref a := r1
  obtain ⟨ob, hg, hc⟩ := typeIs_dct I1 h2 h3
  refine ⟨"dict", id, PySem.F.plainAttrs_dict, slot, hty, ⟨ob, hg, hc.1⟩, fun b eb => by cases eb; exact ⟨ob, hg, hc.2.1⟩, ?_⟩
  have hA := (ha Wx tk).run cpos pins s1 σ H1 _ I1 q1
  rw [hs] at hA ⊢
  refine Calls.callWith_builtin (by show (false || (backTo cpos (starEach es X.env)).any (·.1)) = false; rw [hplain] <;> rfl) (Calls.evalArgs_plain ?_)
  exact thn hA fun us s2 ⟨vs, H2, I2, r2, q2⟩ => hm pins s2 σ H2 (.ref a) vs (.ref a) us Q I2 rfl r2 q2
theorem d_get (hu : X.A.units + 64 < cLine) (ho : DE X pn mo o) (ha : DA X pn ms (e :: es))
    (hbase : attributeBase o "get" X.env (eval o X.env) = eval o X.env := by rfl)
    (hfew : ((backTo cpos (starEach (e :: es) X.env)).all (fun x => !x.1) && (backToKw cpos (keywordEach [] X.env)).all (fun x => x.1.isSome)
      && decide ((e :: es).length + ([] : List Keyword).length + (if ([] : List Keyword).isEmpty then 0 else 1) < 30)) = true := by rfl)
    (hline : (apos.endLine == cpos.line) = true := by rfl) (hs : starEach (e :: es) X.env = (false, eval e X.env) :: starEach es X.env := by rfl) (hplain : (backTo cpos (starEach es X.env)).any (·.1) = false := by rfl) :
    DE X pn (xMd getG mo ms) (.Call (.Attribute o "get" apos) (e :: es) [] cpos) := d_dm PySem.F.slot_dict_get PySem.F.type_dict_get (m_get hu) ho ha hbase hfew hline hs hplain
end
end Dn

set_option Elab.async false
set_option linter.all false
set_option maxRecDepth 100000
set_option maxHeartbeats 4000000
set_option autoImplicit false
/-! Dn13: walks of dicts. -/
namespace Dn
open PySem PySem.Spec PyProof.Rows L2

/-! ### locked while a statement runs -/
/-- the dict that is to be locked -/
def lkOf (m : EX) : Rho → Mu → Option (Nat × List (D × D)) := fun ρ μ => match m ρ μ with
  | .ok (.d (.loc l)) _ => (match μ[l]? with
    | some (.dct kvs) => some (l, kvs)
    | _ => none)
  | _ => none
theorem lkOf_get {m : EX} {ρ : Rho} {μ : Mu} {l : Nat} {kvs : List (D × D)} (h : lkOf m ρ μ = some (l, kvs)) : μ[l]? = some (.dct kvs) := by
  unfold lkOf at h
  split at h
  · split at h
    · rename_i q; cases h; exact q
    · cases h
  · cases h
def sLk (m : EX) (s : SX) : SX := fun ρ μ => match lkOf m ρ μ with
  | some (l, kvs) => (match s ρ (μ.set l (.lk kvs)) with
    | .ok f ρ' m' => .ok f ρ' (m'.set l (.dct kvs))
    | r => r)
  | none => s ρ μ
def xLk (m : EX) (x : EX) : EX := fun ρ μ => match lkOf m ρ μ with
  | some (l, kvs) => (match x ρ (μ.set l (.lk kvs)) with
    | .ok w m' => .ok w (m'.set l (.dct kvs))
    | r => r)
  | none => x ρ μ
section
variable {X : Cf} {pn : List (Addr × Obj)} {ps ps' : List Addr} {σ σ' : L2.St} {H H' : Hp} {μ m' : Mu} {ρ ρ' : Rho} {l : Nat} {a : Addr} {kvs : List (D × D)} {ho : HO} {od : Obj}
theorem RO.lkd {P : Program} {w : World} {K : PySem.W.Frag} (h2 : RO P w K pn ps H a ho (.dct kvs)) : RO P w K pn ps H a (.frz od ho) (.lk kvs) := by
  cases ho <;> first | exact h2.elim | (rename_i u; cases u <;> exact h2.elim) | exact h2
theorem lock_in (st : Sto X.prog X.w X.K pn ps H μ) (hl : ps[l]? = some a) (hm : μ[l]? = some (.dct kvs)) (h1 : H a = some ho) (h2 : RO X.prog X.w X.K pn ps H a ho (.dct kvs)) :
    Grow ps H ps (upd H a (.frz od ho)) ∧ Sto X.prog X.w X.K pn ps (upd H a (.frz od ho)) (μ.set l (.lk kvs)) := by
  have g0 : Grow ps H ps (upd H a (.frz od ho)) := Grow.put h1 (RO.notImm h2) (List.mem_of_getElem? hl)
  exact Sto.put (o := .lk kvs) (hn := .frz od ho) st hl hm h1 (RO.notImm h2) (RO.lkd (h2.mono g0.w fun _ z => z))
theorem lock_out (hl : ps[l]? = some a) (h1 : H a = some ho) (h2 : RO X.prog X.w X.K pn ps H a ho (.dct kvs)) (g : Grow ps (upd H a (.frz od ho)) ps' H') (s' : Sto X.prog X.w X.K pn ps' H' m') (hlen : l < m'.length) :
    H' a = some (.frz od ho) ∧ Grow ps H ps' (upd H' a ho) ∧ Gw ps' H' ps' (upd H' a ho) ∧ Sto X.prog X.w X.K pn ps' (upd H' a ho) (m'.set l (.dct kvs)) := by
  have hin := List.mem_of_getElem? hl
  have e0 : H' a = some (.frz od ho) := g.imm a _ upd_same True.intro
  have gg : Grow ps H ps' (upd H' a ho) := by
    obtain ⟨n, e, f⟩ := g.ext
    refine ⟨⟨n, e, fun b hb => ?_⟩, fun b hb => ?_, fun b o hb hn => ?_, fun b o hb hi => ?_⟩
    · have := f b hb
      by_cases q : b = a
      · rw [q, upd_same] at this; cases this
      · rw [upd_ne q] at this; exact this
    · by_cases q : b = a
      · rw [q, upd_same]; exact fun z => nomatch z
      · rw [upd_ne q]
        exact g.dom b (by rw [upd_ne q]; exact hb)
    · have q : b ≠ a := fun e => hn (by rw [e]; exact hin)
      rw [upd_ne q]
      exact g.keep b o (by rw [upd_ne q]; exact hb) hn
    · have q : b ≠ a := fun e => by rw [e, h1] at hb; cases hb; exact RO.notImm h2 rfl hi
      rw [upd_ne q]
      exact g.imm b o (by rw [upd_ne q]; exact hb) hi
  have gw : Gw ps' H' ps' (upd H' a ho) := ⟨⟨[], by simp⟩, fun b o hb hi => by
    by_cases q : b = a
    · rw [q, e0] at hb
      cases hb
      cases ho <;> first | exact h2.elim | exact hi.elim
    · rw [upd_ne q]; exact hb⟩
  refine ⟨e0, gg, gw, ⟨by rw [s'.len, List.length_set], s'.nd, fun j o hj => ?_⟩⟩
  by_cases q : l = j
  · subst q
    rw [List.getElem?_set_self hlen] at hj
    cases hj
    exact ⟨a, ho, g.w.pre hl, upd_same, h2.mono gg.w fun _ z => z⟩
  · rw [List.getElem?_set_ne q] at hj
    obtain ⟨b, hb, e1, e2, e3⟩ := s'.at_ j o hj
    have hne : b ≠ a := fun e => by
      rw [e] at e1
      have e4 := g.w.pre hl
      exact q ((List.getElem?_inj (List.getElem?_eq_some_iff.mp e4).1 s'.nd).mp (e4.trans e1.symm))
    exact ⟨b, hb, e1, by rw [upd_ne hne]; exact e2, e3.mono gw fun _ z => z⟩
theorem lt_of {P : Program} {w : World} {K : PySem.W.Frag} (g : Gw ps H ps' H') (s' : Sto P w K pn ps' H' m') (hl : ps[l]? = some a) : l < m'.length := by
  rw [← s'.len]
  exact (List.getElem?_eq_some_iff.mp (g.pre hl)).1
end
theorem ps_or {X : Cx} {st : Stmt} {t u : TS} (h : PS X st t) (h' : PS X st u) : PS X st (fun D σ H => t D σ H ∨ u D σ H) := ⟨fun pins s σ H D I q => q.elim (h.run pins s σ H D I) (h'.run pins s σ H D I)⟩
theorem pe_or2 {X : Cx} {e : Expr} {t u : TE} (h : PE X e t) (h' : PE X e u) : PE X e (fun σ H Q => t σ H Q ∨ u σ H Q) := ⟨fun pins s σ H Q I q => q.elim (h.run pins s σ H Q I) (h'.run pins s σ H Q I)⟩
section
variable {X : Cx} {pn : List (Addr × Obj)} {m : EX}
theorem ds_lock {s : SX} {st : Stmt} (h : DS X pn s st) : DS X pn (sLk m s) st := fun Wx tk =>
  PS_imp (ps_or (h Wx tk) (ps_lock (h Wx tk))) fun D σ H ⟨ps, ρ, μ, Rr, h⟩ => by
    unfold sLk at h
    cases q : lkOf m ρ μ with
    | none => rw [q] at h; exact .inl ⟨ps, ρ, μ, Rr, h⟩
    | some lk =>
      obtain ⟨l, kvs⟩ := lk
      rw [q] at h
      dsimp only at h
      have hm := lkOf_get q
      obtain ⟨a, ho, hl, h1, h2⟩ := Rr.sto.at_ l _ hm
      refine .inr ⟨a, ho, h1, h2.mut, fun od => ?_⟩
      obtain ⟨g0, s0⟩ := lock_in (X := X) (od := od) Rr.sto hl hm h1 h2
      refine ⟨ps, ρ, μ.set l (.lk kvs), Rr.step g0 s0, ?_⟩
      cases e : s ρ (μ.set l (.lk kvs)) with
      | no => rw [e] at h; exact h
      | ex ee ρ' m' => rw [e] at h; exact PoS.base (σ := σ) (σ' := σ) (D := D) (r := .ex ee ρ' m') g0 h
      | ok f ρ' m' =>
        rw [e] at h
        have fin : ∀ {σ' : L2.St} {H' : Hp} {ps' : List Addr}, Grow ps (upd H a (.frz od ho)) ps' H' → Rl X pn ps' σ' H' ρ' m' → H' a = some (.frz od ho) ∧ Grow ps H ps' (upd H' a ho) ∧ Rl X pn ps' σ' (upd H' a ho) ρ' (m'.set l (.dct kvs)) := by
          intro σ' H' ps' g R'
          obtain ⟨e0, gg, gw, s2⟩ := lock_out (X := X) hl h1 h2 g R'.sto (lt_of g.w R'.sto hl)
          exact ⟨e0, gg, s2, R'.len, fun i d e => let ⟨v, z1, z2⟩ := R'.slot i d e; ⟨v, z1, z2.mono gw fun _ z => z⟩⟩
        cases f with
        | nx => exact fun σ' H' ps' g R' => let ⟨e0, gg, R2⟩ := fin g R'; ⟨e0, h σ' _ ps' gg R2⟩
        | bk => exact fun σ' H' ps' g R' => let ⟨e0, gg, R2⟩ := fin g R'; ⟨e0, h σ' _ ps' gg R2⟩
        | ct => exact fun σ' H' ps' g R' => let ⟨e0, gg, R2⟩ := fin g R'; ⟨e0, h σ' _ ps' gg R2⟩
        | rt d =>
          refine fun v H' ps' g s' r' => ?_
          obtain ⟨e0, gg, gw, s2⟩ := lock_out (X := X) hl h1 h2 g s' (lt_of g.w s' hl)
          exact ⟨e0, h v _ ps' gg s2 (r'.mono gw fun _ z => z)⟩
theorem d_lock {x : EX} {e : Expr} (h : DE X pn x e) : DE X pn (xLk m x) e := fun Wx tk =>
  PE_imp (pe_or2 (h Wx tk) (pe_lock (h Wx tk))) fun σ H Q ⟨ps, ρ, μ, Rr, h⟩ => by
    unfold xLk at h
    cases q : lkOf m ρ μ with
    | none => rw [q] at h; exact .inl ⟨ps, ρ, μ, Rr, h⟩
    | some lk =>
      obtain ⟨l, kvs⟩ := lk
      rw [q] at h
      dsimp only at h
      have hm := lkOf_get q
      obtain ⟨a, ho, hl, h1, h2⟩ := Rr.sto.at_ l _ hm
      refine .inr ⟨a, ho, h1, h2.mut, fun od => ?_⟩
      obtain ⟨g0, s0⟩ := lock_in (X := X) (od := od) Rr.sto hl hm h1 h2
      refine ⟨ps, ρ, μ.set l (.lk kvs), Rr.step g0 s0, ?_⟩
      cases e : x ρ (μ.set l (.lk kvs)) with
      | no => rw [e] at h; exact h
      | ex ee m' => rw [e] at h; exact fun cls d H' ps' g s r => h cls d H' ps' (g0.trans g) s r
      | ok w m' =>
        rw [e] at h
        refine fun v H' ps' g s' r' => ?_
        obtain ⟨e0, gg, gw, s2⟩ := lock_out (X := X) hl h1 h2 g s' (lt_of g.w s' hl)
        refine ⟨e0, h v _ ps' gg s2 ?_⟩
        cases w with
        | d x => exact RV.mono gw (fun _ z => z) r'
        | o o =>
          obtain ⟨b, hb, e1, e2, e3, e4, e5⟩ := r'
          have hne : b ≠ a := fun z => by rw [z, upd_same] at e2; cases e2
          refine ⟨b, hb, e1, ?_, e3, by rw [upd_ne hne]; exact e4, e5.mono gw fun _ z => z⟩
          rw [upd_ne hne] at e2
          exact e2
end

/-! ### a locked dict's entries -/
def ItRaw (d : Addr) (o : Obj) (u : HO) (ks : List V) : It := ⟨fun i H => H d = some (.frz o u) ∧ i < ks.length, fun i H x H' => H' = H ∧ ks[i]? = some x, fun i H => H d = some (.frz o u) ∧ ks.length ≤ i⟩
def ItRawI (d : Addr) (o : Obj) (u : HO) (kvs : List (V × V)) : It :=
  ⟨fun i H => H d = some (.frz o u) ∧ i < kvs.length, fun i H x H' => ∃ p k v, kvs[i]? = some (k, v) ∧ x = .ref p ∧ H p = none ∧ H' = upd H p (.tup [k, v]), fun i H => H d = some (.frz o u) ∧ kvs.length ≤ i⟩
theorem Vals.at {ks : List V} {us : List Value} (h : Vals ks us) {i : Nat} (hi : i < ks.length) : ∃ k u, ks[i]? = some k ∧ us[i]? = some u ∧ RelV k u :=
  let ⟨u, h1, h2⟩ := h.get (List.getElem?_eq_getElem hi)
  ⟨_, u, List.getElem?_eq_getElem hi, h1, h2⟩
section
variable {P : Program} {w : World} {K : PySem.W.Frag} {tg : Expr} {d : Addr} {o : Obj} {u : HO} {es : Array DictEntry} {ep : Nat}
theorem turn_rawK {ks : List V} (it : Addr) (hod : o.data = .dict es ep) (hx : o.ExactDict) (hk : Vals ks (es.toList.map (·.key))) : Turn P w K tg (ItRaw d o u ks) [it] it (fun i h => h.IsKeyIter it d i es.size ep) where
  mem := by simp
  obj := fun i h st b hb => by
    have e : b = it := by simpa using hb
    subst e
    obtain ⟨oi, e, c, dd⟩ := st
    exact ⟨oi, e, fun v z => by rw [dd] at z; cases z⟩
  keep := fun i h h' st k => st.at fun oi e => k it (by simp) oi e
  item := by
    intro X hP hw hK hc i pins s σ H E I hf st hg
    subst hP hw hK
    obtain ⟨hd, hi⟩ := hg
    obtain ⟨f0, f1, f2, f3, f4, f5⟩ := hf it (by simp)
    obtain ⟨hgd, _⟩ := (show ObjOk X.prog X.w H s.heap d (.frz o u) from I.hok d _ hd)
    obtain ⟨k, uu, hk1, hk2, rk⟩ := Vals.at hk hi
    rw [List.getElem?_map] at hk2
    obtain ⟨en, hen, hkey⟩ := Option.map_eq_some_iff.mp hk2
    rw [Array.getElem?_toList] at hen
    refine next_key_item st hgd hod rfl hen fun h' st' sb => ?_
    have I1 : Inv X pins σ H { s with heap := h' } := I.turned (t' := s.toks) (fun b ob hb e => (sb.2 b hb).trans e) f0 f1 f3 f4 f5
    obtain ⟨oi, e, c, dd⟩ := id st'
    exact ⟨en.key, rfl, go_of (s := { s with heap := h' }) e c dd (by decide) ⟨k, H, I1, by rw [hkey]; exact rk, ⟨rfl, hk1⟩, st', fun b hb => (hf b hb).1⟩⟩
  done := by
    intro X hP hw hK hc i pins s σ H E I hf st hg
    subst hP hw hK
    obtain ⟨hd, hi⟩ := hg
    obtain ⟨f0, f1, f2, f3, f4, f5⟩ := hf it (by simp)
    obtain ⟨hgd, _⟩ := (show ObjOk X.prog X.w H s.heap d (.frz o u) from I.hok d _ hd)
    have hl := hk.length
    rw [List.length_map] at hl
    have hl2 : es.toList.length = es.size := Array.length_toList
    exact next_key_end (I.ok.hd hc) st hgd hod rfl (by omega) fun h' eb => ⟨rfl, I.turned (t' := s.toks) (fun b ob hb e => eb b ob hb e) f0 f1 f3 f4 f5⟩
  self := fun A i s Q E st h => by
    refine wpAny_pyIter_slot st.typeIs F.slot_dict_keyiterator_iter (wpAny_call_entry F.slot_dict_keyiterator_iter st.typeIs F.entry_dict_keyiterator_iter ?_ (F.args_dict_keyiterator_iter_1 _))
    show wpAny _ _ (ret (.ref it)) _ _ s
    exact wpAny_pure ⟨_, rfl, "dict_keyiterator", _, st.typeIs, F.slot_dict_keyiterator_next.lookup, h⟩
theorem turn_rawI {kvs : List (V × V)} {elts : List Expr} {kk : Nat} {tpos : Pos} (it : Addr) (hod : o.data = .dict es ep) (hx : o.ExactDict) (hk : Vals (kvs.map (·.1)) (es.toList.map (·.key))) (hv : Vals (kvs.map (·.2)) (es.toList.map (·.val))) :
    Turn P w K (.Tuple elts kk tpos) (ItRawI d o u kvs) [it] it (fun i h => ∃ ok ov, IsItemIter h it d i es.size ep ok ov) where
  mem := by simp
  obj := fun i h st b hb => by
    have e : b = it := by simpa using hb
    subst e
    obtain ⟨ok, ov, e⟩ := st
    exact ⟨_, e, fun v z => nomatch z⟩
  keep := fun i h h' st k => let ⟨ok, ov, e⟩ := st; ⟨ok, ov, k it (by simp) _ e⟩
  item := by
    intro X hP hw hK hc i pins s σ H E I hf st hg
    subst hP hw hK
    obtain ⟨hd, hi⟩ := hg
    obtain ⟨hgd, _⟩ := (show ObjOk X.prog X.w H s.heap d (.frz o u) from I.hok d _ hd)
    have hl := hk.length
    rw [List.length_map, List.length_map] at hl
    have hl2 : es.toList.length = es.size := Array.length_toList
    have hi2 : i < es.size := by omega
    obtain ⟨k, uu, hk1, hk2, rk⟩ := Vals.at hk (i := i) (by rw [List.length_map]; exact hi)
    obtain ⟨v, vv, hv1, hv2, rv⟩ := Vals.at hv (i := i) (by rw [List.length_map]; exact hi)
    rw [List.getElem?_map] at hk1 hk2 hv1 hv2
    rw [List.getElem?_eq_getElem hi] at hk1 hv1
    rw [Array.getElem?_toList, Array.getElem?_eq_getElem hi2] at hk2 hv2
    cases hk1; cases hv1; cases hk2; cases hv2
    obtain ⟨ok, ov, he⟩ := st
    have hlt : it < s.heap.objs.size := Heap.lt_size he
    refine wpAny_pyNext_items_item_raw he ⟨o, hgd, hx, hod⟩ hi2 fun h' ho hT hz hkp => ?_
    refine ⟨_, rfl, wpAny_letOwnedTupleGo_items (s := { s with heap := h' }) ho fun h'' he' sb => ?_⟩
    have hT2 : h''.get? s.heap.objs.size = some { cls := .type "tuple", data := .seq #[es[i].key, es[i].val] } := (sb.2 _ (Nat.ne_of_gt hlt)).trans hT
    have new : ObjOk X.prog X.w (upd H s.heap.objs.size (.tup [kvs[i].1, kvs[i].2])) h'' s.heap.objs.size (.tup [kvs[i].1, kvs[i].2]) :=
      ⟨by show 2 ≤ sizeLine; decide, [es[i].key, es[i].val], .cons rk (.cons rv .nil), ⟨_, hT2, rfl, _, rfl⟩⟩
    have I1 : Inv X pins σ (upd H s.heap.objs.size (.tup [kvs[i].1, kvs[i].2])) { s with heap := h'' } :=
      I.turnedNew (t' := s.toks) (ch := [it]) (fun b ob hb e => (sb.2 b (by simpa using hb)).trans (hkp b ob (by simpa using hb) e)) hf (Nat.le_refl _) new
    refine ⟨.ref s.heap.objs.size, _, I1, rfl, ⟨_, kvs[i].1, kvs[i].2, List.getElem?_eq_getElem hi, rfl, I.hok.fresh (Nat.le_refl _), rfl⟩, ⟨_, _, he'⟩, fun b hb => ?_⟩
    have e : b = it := by simpa using hb
    rw [e, upd_ne (Nat.ne_of_lt hlt)]
    exact (hf it (by simp)).1
  done := by
    intro X hP hw hK hc i pins s σ H E I hf st hg
    subst hP hw hK
    obtain ⟨hd, hi⟩ := hg
    obtain ⟨f0, f1, f2, f3, f4, f5⟩ := hf it (by simp)
    obtain ⟨hgd, _⟩ := (show ObjOk X.prog X.w H s.heap d (.frz o u) from I.hok d _ hd)
    have hl := hk.length
    rw [List.length_map, List.length_map] at hl
    have hl2 : es.toList.length = es.size := Array.length_toList
    obtain ⟨ok, ov, he⟩ := st
    exact wpAny_pyNext_items_end_raw (I.ok.hd hc) he ⟨o, hgd, hx, hod⟩ (by omega) fun h' eb => ⟨rfl, I.turned (t' := s.toks) (fun b ob hb e => eb b ob hb e) f0 f1 f3 f4 f5⟩
  self := fun A i s Q E st h => let ⟨_, _, e⟩ := st; PySem.W.kcp_self e h
end
section
variable {X : Cx} {pins pn : List (Addr × Obj)} {ps : List Addr} {σ : L2.St} {H H0 : Hp} {s : Shared} {μ : Mu}
theorem kv_keys {P : Program} {w : World} : ∀ {kv : List (Key × V)} {vs : List (Key × Value)} {l : List DictEntry}, KV kv vs → Pairs (mixKind P w) l vs → Vals (kv.map fun p => kV p.1) (l.map (·.key))
  | [], _, _, .nil, .nil => .nil
  | p :: kv, _, _, .cons h t, .cons q1 q2 q3 => .cons (by rw [← h.1] at q1; exact relV_key q1) (kv_keys t q3)
theorem kv_vals {P : Program} {w : World} : ∀ {kv : List (Key × V)} {vs : List (Key × Value)} {l : List DictEntry}, KV kv vs → Pairs (mixKind P w) l vs → Vals (kv.map fun p => p.2) (l.map (·.val))
  | [], _, _, .nil, .nil => .nil
  | p :: kv, _, _, .cons h t, .cons q1 q2 q3 => .cons (by show RelV p.2 _; dsimp only; rw [q2]; exact h.2) (kv_vals t q3)
theorem rk_keys : ∀ {kv : List (Key × V)} {kvs : List (D × D)}, Paired (RK X.K pn ps H) kv kvs → RVs X.K pn ps H (kv.map fun p => kV p.1) (kvs.map (·.1))
  | [], _, .nil => .nil
  | p :: kv, q :: kvs, .cons h t => by
    refine .cons (v := kV p.1) (d := q.1) ?_ (rk_keys t)
    rw [h.1]
    generalize p.1 = k
    cases k with
    | inl i => exact .int i
    | inr x => exact .str x
theorem rk_vals : ∀ {kv : List (Key × V)} {kvs : List (D × D)}, Paired (RK X.K pn ps H) kv kvs → RVs X.K pn ps H (kv.map fun p => p.2) (kvs.map (·.2))
  | [], _, .nil => .nil
  | p :: kv, q :: kvs, .cons h t => .cons h.2 (rk_vals t)
theorem rn_all : ∀ {xs : List (NestedKey × Addr × Value)} {kvs : List (D × D)}, Paired (RN X.K pn ps H) xs kvs → ∃ kv : List (V × V), Vals (kv.map (·.1)) (xs.map fun x => Value.ref x.2.1) ∧ Vals (kv.map (·.2)) (xs.map fun x => x.2.2) ∧ RVs X.K pn ps H (kv.map (·.1)) (kvs.map (·.1)) ∧ RVs X.K pn ps H (kv.map (·.2)) (kvs.map (·.2))
  | [], _, .nil => ⟨[], .nil, .nil, .nil, .nil⟩
  | p :: xs, q :: kvs, .cons hh t => by
    obtain ⟨kv, i1, i2, i3, i4⟩ := rn_all t
    obtain ⟨_, _, rk, _, v, rv, rd⟩ := hh
    exact ⟨(.ref p.2.1, v) :: kv, .cons rfl i1, .cons rv i2, .cons rk i3, .cons rd i4⟩
/-- what is known of a locked dict -/
theorem lk_raw (I : Inv X pins σ H s) {a : Addr} {ob : Obj} {ho : HO} {kvs : List (D × D)} (h1 : H a = some (.frz ob ho)) (h2 : RO X.prog X.w X.K pn ps H a ho (.dct kvs)) :
    (a == sysModules) = false ∧ s.heap.get? a = some ob ∧ ob.ExactDict ∧ ∃ (es : Array DictEntry) (ep : Nat) (kv : List (V × V)), ob.data = .dict es ep ∧ Vals (kv.map (·.1)) (es.toList.map (·.key)) ∧ Vals (kv.map (·.2)) (es.toList.map (·.val)) ∧ RVs X.K pn ps H (kv.map (·.1)) (kvs.map (·.1)) ∧ RVs X.K pn ps H (kv.map (·.2)) (kvs.map (·.2)) := by
  cases ho <;> first | exact h2.elim | (rename_i u; cases u <;> exact h2.elim) | skip
  · rename_i kv
    obtain ⟨hd, z, hs, vs, rel, o', es, ep, ho, hx, hdt, r⟩ := I.hok a _ h1
    rw [hd] at ho
    cases ho
    refine ⟨hs, hd, hx, es, ep, kv.map (fun p => (kV p.1, p.2)), hdt, ?_, ?_, ?_, ?_⟩
    · rw [List.map_map]; exact kv_keys rel r.2.1
    · rw [List.map_map]; exact kv_vals rel r.2.1
    · rw [List.map_map]; exact rk_keys (show Paired (RK X.K pn ps H) kv kvs from h2)
    · rw [List.map_map]; exact rk_vals (show Paired (RK X.K pn ps H) kv kvs from h2)
  · obtain ⟨xs, e, rr, nd, z, hs⟩ := h2
    subst e
    obtain ⟨hd, ⟨o', es, ep, ho, hx, hdt, he⟩, _⟩ := I.hok a _ h1
    rw [hd] at ho
    cases ho
    obtain ⟨kv, i1, i2, i3, i4⟩ := rn_all rr
    refine ⟨hs, hd, hx, es, ep, kv, hdt, ?_, ?_, i3, i4⟩
    · rw [he, List.map_map]; exact i1
    · rw [he, List.map_map]; exact i2
/-- the keys of a locked dict -/
def iKeysD (m : EX) : IX := fun ρ => M.bind (m ρ) fun w => match w with
  | .d (.loc l) => M.opt fun mu => match mu[l]? with
    | some (.lk kvs) => some (kvs.map (·.1), [(l, .lk kvs)])
    | _ => none
  | _ => M.no
def iItemsD (m : EX) : IX := fun ρ => M.bind (m ρ) fun w => match w with
  | .d (.loc l) => M.opt fun mu => match mu[l]? with
    | some (.lk kvs) => some (kvs.map fun q => .tup [q.1, q.2], [(l, .lk kvs)])
    | _ => none
  | _ => M.no
theorem lk_get {l : Nat} {a : Addr} {kvs : List (D × D)} (st : Sto X.prog X.w X.K pn ps H μ) (hm : μ[l]? = some (.lk kvs)) (hl : ps[l]? = some a) : ∃ ob ho, H a = some (.frz ob ho) ∧ RO X.prog X.w X.K pn ps H a ho (.dct kvs) := by
  obtain ⟨ho, h1, h2⟩ := st.get hm hl
  cases ho with
  | frz ob u => cases u <;> first | exact h2.elim | exact ⟨ob, _, h1, h2⟩
  | _ => exact h2.elim
theorem it_rawK {C : Cf} {a : Addr} {ob : Obj} {ho : HO} {ks : List V} {ds : List D} (h1 : H a = some (.frz ob ho)) (r : RVs C.K pn ps H ks ds) (st : List (Nat × O)) : ItOk C pn ps H ds st (ItRaw a ob ho ks) := by
  intro i p2 H2 m2 g s hst
  have e := g.imm a _ h1 True.intro
  have r2 := r.grow g
  refine ⟨fun d hd => ?_, fun hl => ⟨e, r2.len_get hl⟩⟩
  obtain ⟨v, hv, rv⟩ := r2.get hd
  refine ⟨⟨e, (List.getElem?_eq_some_iff.mp hv).1⟩, fun x H3 hy => ?_⟩
  obtain ⟨rfl, hx⟩ := hy
  rw [hv] at hx
  cases hx
  exact ⟨Grow.refl, s, rv⟩
theorem it_rawI {C : Cf} {a : Addr} {ob : Obj} {ho : HO} {kv : List (V × V)} {kvs : List (D × D)} (h1 : H a = some (.frz ob ho)) (r1 : RVs C.K pn ps H (kv.map (·.1)) (kvs.map (·.1))) (r2 : RVs C.K pn ps H (kv.map (·.2)) (kvs.map (·.2))) (st : List (Nat × O)) : ItOk C pn ps H (kvs.map fun q => .tup [q.1, q.2]) st (ItRawI a ob ho kv) := by
  intro i p2 H2 m2 g s hst
  have e := g.imm a _ h1 True.intro
  have r1 := r1.grow g
  have r2 := r2.grow g
  have hlen : kv.length = kvs.length := by have := r1.length; rwa [List.length_map, List.length_map] at this
  refine ⟨fun d hd => ?_, fun hl => ⟨e, by rw [List.length_map] at hl; omega⟩⟩
  rw [List.getElem?_map] at hd
  obtain ⟨q, hq, ed⟩ := Option.map_eq_some_iff.mp hd
  subst ed
  have hi := (List.getElem?_eq_some_iff.mp hq).1
  obtain ⟨k, hk, rk⟩ := r1.get (i := i) (d := q.1) (by rw [List.getElem?_map, hq]; rfl)
  obtain ⟨v, hv, rv⟩ := r2.get (i := i) (d := q.2) (by rw [List.getElem?_map, hq]; rfl)
  refine ⟨⟨e, by omega⟩, fun x H3 hy => ?_⟩
  obtain ⟨p, k', v', e1, rfl, hp, rfl⟩ := hy
  rw [List.getElem?_map, e1] at hk hv
  cases hk; cases hv
  have gn : Grow p2 H2 p2 (upd H2 p (.tup [k', v'])) := Grow.new hp
  exact ⟨gn, s.new hp, .tup (SqT.of upd_same) (.cons (rk.grow gn) (.cons (rv.grow gn) .nil))⟩
theorem di_keys {m : EX} {e tg : Expr} (h : DE X pn m e) : DI X pn (iKeysD m) tg e := fun Wx tk => by
  refine ⟨fun pins s σ H R I h0 => ?_⟩
  obtain ⟨ps, ρ, μ, Rr, h0⟩ := h0
  have he : tE X pn Wx m σ H (fun x H1 => ∃ d ob ho kvs p1, x = .ref d ∧ H1 d = some (.frz ob ho) ∧ RO X.prog X.w X.K pn p1 H1 d ho (.dct kvs) ∧ ∀ J, ItOk X pn p1 H1 (kvs.map (·.1)) [] J → R J H1) := by
    refine tE_bind (Po := PoI X pn Wx ps σ H R) Rr h0 (fun e m' h => h) (fun h => h) fun w m1 v H1 p1 g1 R1 r1 h1 => ?_
    cases w with
    | o o => exact h1.elim
    | d d =>
      cases d <;> try exact h1.elim
      rename_i l
      cases r1 with
      | @loc a _ hl =>
        dsimp only [M.opt] at h1
        split at h1
        · rename_i z q
          split at q
          · rename_i kvs q2
            cases q
            obtain ⟨ob, ho, e1, e2⟩ := lk_get R1.sto q2 hl
            exact ⟨a, ob, ho, kvs, p1, rfl, e1, e2, fun J ok => h1 J H1 p1 g1 R1.sto fun i p2 H2 m2 g s _ => ok i p2 H2 m2 g s (fun _ hx => nomatch hx)⟩
          · cases q
        · exact h1.elim
  refine thn ((h Wx tk).run pins s σ H _ I he) fun u s1 ⟨x, H1, I1, rx, d, ob, ho, kvs, p1, ex, hd, hr, q⟩ => ?_
  subst ex
  obtain rfl : u = Value.ref d := rx
  obtain ⟨hs, hgd, hx, es, ep, kv, hdt, k1, k2, k3, k4⟩ := lk_raw I1 hd hr
  refine iter_keys hs hgd hx hdt (pi_one (tk := s1.toks) I1 _ (turn_rawK _ hdt hx k1) ⟨_, Heap.get?_push_size _ rfl, rfl, ?_⟩ (q _ (it_rawK hd k3 _)))
  rfl
theorem di_items {m : EX} {e : Expr} {elts : List Expr} {kk : Nat} {tpos apos cpos : Pos} (h : DE X pn m e) (hbase : attributeBase e "items" X.env (eval e X.env) = eval e X.env := by rfl) (hline : (apos.endLine == cpos.line) = true := by rfl) :
    DI X pn (iItemsD m) (.Tuple elts kk tpos) (.Call (.Attribute e "items" apos) [] [] cpos) := fun Wx tk => by
  refine ⟨fun pins s σ H R I h0 => ?_⟩
  obtain ⟨ps, ρ, μ, Rr, h0⟩ := h0
  have he : tE X pn Wx m σ H (fun x H1 => ∃ d ob ho kvs p1, x = .ref d ∧ H1 d = some (.frz ob ho) ∧ RO X.prog X.w X.K pn p1 H1 d ho (.dct kvs) ∧ ∀ J, ItOk X pn p1 H1 (kvs.map fun q => .tup [q.1, q.2]) [] J → R J H1) := by
    refine tE_bind (Po := PoI X pn Wx ps σ H R) Rr h0 (fun e m' h => h) (fun h => h) fun w m1 v H1 p1 g1 R1 r1 h1 => ?_
    cases w with
    | o o => exact h1.elim
    | d d =>
      cases d <;> try exact h1.elim
      rename_i l
      cases r1 with
      | @loc a _ hl =>
        dsimp only [M.opt] at h1
        split at h1
        · rename_i z q
          split at q
          · rename_i kvs q2
            cases q
            obtain ⟨ob, ho, e1, e2⟩ := lk_get R1.sto q2 hl
            exact ⟨a, ob, ho, kvs, p1, rfl, e1, e2, fun J ok => h1 J H1 p1 g1 R1.sto fun i p2 H2 m2 g s _ => ok i p2 H2 m2 g s (fun _ hx => nomatch hx)⟩
          · cases q
        · exact h1.elim
  refine wpAny_Call_method (T := "dict") (id := "dict.items") hbase rfl hline F.plainAttrs_dict F.slot_dict_items F.type_dict_items (thn ((h Wx tk).run pins s σ H _ I he) fun u s1 ⟨x, H1, I1, rx, d, ob, ho, kvs, p1, ex, hd, hr, q⟩ => ?_)
  subst ex
  obtain rfl : u = Value.ref d := rx
  obtain ⟨hs, hgd, hx, es, ep, kv, hdt, k1, k2, k3, k4⟩ := lk_raw I1 hd hr
  have raw : s1.heap.DictRaw d es ep := ⟨ob, hgd, hx, hdt⟩
  refine ⟨raw.typeIs, fun b eb => by cases eb; exact ⟨ob, hgd, hx.2.1⟩, ?_⟩
  have I2 : Inv X pins σ H1 { s1 with heap := s1.heap.push { cls := .type "dict_items", data := .fields #[.ref d] } } := I1.kept (t' := s1.toks) fun b ob q => Heap.get?_push_of_some _ q
  have fin : wpAny (model X.prog X.w) X.A (pyIter (.ref s1.heap.objs.size)) (PIE X pins σ (.Tuple elts kk tpos) R) X.xe { s1 with heap := s1.heap.push { cls := .type "dict_items", data := .fields #[.ref d] } } := by
    refine wpAny_pyIter_items_raw (d := d) ⟨_, Heap.get?_push_size _ rfl, rfl, rfl⟩ (raw.at fun _ e => Heap.get?_push_of_some _ e) (pi_one (tk := s1.toks) I2 _ (turn_rawI _ hdt hx k1 k2) ⟨.none, .none, ?_⟩ (q _ (it_rawI hd k3 k4 _)))
    exact Heap.get?_push_size _ rfl
  show wpAny _ _ (callWith cpos (.builtin "dict.items") [.ref d] [] []) _ X.xe s1
  exact method_meetsIn F.slot_dict_items F.entry_dict_items rfl (PySem.evalArgs_none ⟨rfl, raw.typeIs, F.args_dict_items_1 _, _, meets_dict_items_raw d hs, ⟨es, ep, raw⟩, fin⟩)
end
end Dn

set_option Elab.async false
set_option linter.all false
set_option maxRecDepth 100000
set_option maxHeartbeats 4000000
set_option autoImplicit false
/-! Dn14: dict comprehensions, keys of any kind; dict(d). -/
namespace Dn
open PySem PySem.Spec PyProof.Rows L2

/-- d[y] = z inside a comprehension, by values: what stands behind it -/
abbrev PutP := Addr → V → V → Hp → (Hp → Prop) → Prop
def PutOk (X : Cx) (Pd : PutP) : Prop := ∀ (pins : List (Addr × Obj)) (s : Shared) (σ : L2.St) (H : Hp) (Dd : Addr) (y z : V) (u r : Value) (N : Hp → Prop) (E : Value → Shared → Prop), Inv X pins σ H s → RelV y u → RelV z r → Pd Dd y z H N →
  wpAny (model X.prog X.w) X.A (dictSet Dd u r) (fun _ s' => ∃ H', Inv X pins σ H' s' ∧ N H') E s
/-- {k: v for target in iter if ..}: the reading -/
def tDcN (wi : TI) (g : TG) (tt : TT) (tk tv : TE) (vs : List Nat) (Pd : PutP) : TE := fun σ H Q => wi σ H fun J H1 => ∀ Dd, H1 Dd = none → ∃ W : Nat → Nat → Hp → Prop, (∃ m, W 0 m (upd H1 Dd (.dK []))) ∧ ∀ i m H, W i m H →
  (J.stop i H ∧ Q (.ref Dd) H) ∨ (J.go i H ∧ ∃ Nx : Hp → Prop, (∀ H', Nx H' → ∃ m', m' < m ∧ W (i + 1) m' H') ∧ ∀ x H', J.yld i H x H' → g x (wipe σ vs) H' fun σ2 H2 => wipe σ2 vs = wipe σ vs ∧ tt σ2 H2 fun b H3 =>
    if b = true then tk σ2 H3 fun y H4 => tv σ2 H4 fun z H5 => Pd Dd y z H5 Nx else Nx H3)
section
variable {X : Cx}
theorem pe_dcN {kx vx tg iter : Expr} {ifs : List Expr} {scope : Scope} {own : List (Str × Nat)} {pos : Pos} {wi : TI} {g : TG} {tt : TT} {tk tv : TE} {Pd : PutP} (hc : X.calm = true) (hN : X.N.Nodup) (hi : PI X tg iter wi) (ok : BlkOk X.N X.env.scope scope own)
    (hg : ∀ (s : Shared) (H : Hp) (C : Addr) (cl : List (Str × Addr)) (fp : List Addr), PG (X.blk s H scope (compEnvC scope cl C X.env) fp) tg g) (ht : ∀ (s : Shared) (H : Hp) (C : Addr) (cl : List (Str × Addr)) (fp : List Addr), PTs (X.blk s H scope (compEnvC scope cl C X.env) fp) ifs tt)
    (hk : ∀ (s : Shared) (H : Hp) (C : Addr) (cl : List (Str × Addr)) (fp : List Addr), PE (X.blk s H scope (compEnvC scope cl C X.env) fp) kx tk)
    (he : ∀ (s : Shared) (H : Hp) (C : Addr) (cl : List (Str × Addr)) (fp : List Addr), PE (X.blk s H scope (compEnvC scope cl C X.env) fp) vx tv)
    (hp : ∀ (s : Shared) (H : Hp) (C : Addr) (cl : List (Str × Addr)) (fp : List Addr), PutOk (X.blk s H scope (compEnvC scope cl C X.env) fp) Pd) (hs : ∀ x, foldedSetIterable iter X.env x = pure x := by intro _; rfl) :
    PE X (.DictComp kx vx [⟨tg, iter, ifs, 0⟩] scope pos) (tDcN wi g tt tk tv (own.map (·.2)) Pd) := by
  refine ⟨fun pins s σ H Q I h => ?_⟩
  rw [arm_eval_DictComp]
  have hfree : ∀ y ∈ scope.names, y.2 = .free → ∃ c, X.env.cells.lookup y.1 = some c := fun y hy e => (ok.free y hy e).elim (fun k => I.ok.has _ (.inl k)) fun k => I.ok.has _ (.inr k)
  refine wpAny_comprehension_free rfl hs (closure_ok hfree) ok.kind (fun y hy e => by rw [ok.uniq y hy, e])
    (thn (hi.run pins s σ H _ I h) fun xv s1 hx => thn hx fun itv s2 ⟨it, fp, tn, J, H2, e, I2, T, st2, f2, q⟩ => ?_)
  subst e
  refine wpAny_newObj_type (newEnv_comp ?_)
  obtain ⟨W, ⟨m0, w0⟩, turn⟩ := q s2.heap.objs.size (I2.hok.fresh (Nat.le_refl _))
  -- the new dict is laid and tracked
  have I3 : Inv X pins σ (upd H2 s2.heap.objs.size (.dK [])) { s2 with heap := s2.heap.push { cls := .type "dict", data := .dict #[] } } :=
    I2.laid (t' := s2.toks) (fun b o e => Heap.get?_push_of_some _ e) (Nat.le_refl _) (dk_empty s2.heap I2.big)
  have f3 : ∀ b ∈ fp, FpOk X pins (upd H2 s2.heap.objs.size (.dK [])) b ∧ b < (s2.heap.push { cls := .type "dict", data := .dict #[] }).objs.size := fun b hb => by
    obtain ⟨o, e, _⟩ := T.obj _ _ st2 b hb
    have hlt := Heap.lt_size e
    refine ⟨⟨?_, (f2 b hb).2⟩, by rw [Heap.size_push]; exact Nat.lt_succ_of_lt hlt⟩
    rw [upd_ne (Nat.ne_of_lt hlt)]
    exact (f2 b hb).1
  have st3 : tn 0 (s2.heap.push { cls := .type "dict", data := .dict #[] }) := T.keep _ _ _ st2 fun b _ o e => Heap.get?_push_of_some _ e
  generalize hD : s2.heap.objs.size = Dd at *
  generalize hs3 : ({ s2 with heap := s2.heap.push { cls := .type "dict", data := .dict #[] } } : Shared) = s3 at *
  have h3 : s2.heap.push { cls := .type "dict", data := .dict #[] } = s3.heap := by rw [← hs3]
  rw [h3] at f3 st3
  generalize upd H2 Dd (.dK []) = H3 at *
  have I4 := block_start I3 ok hN f3
  -- the block's pieces
  have pg := hg s3 H3 s3.heap.objs.size (cellsFrom (s3.heap.objs.size + 1) scope.names (cloFrom X.env.cells scope.names [])) fp
  have pt := ht s3 H3 s3.heap.objs.size (cellsFrom (s3.heap.objs.size + 1) scope.names (cloFrom X.env.cells scope.names [])) fp
  have pk := hk s3 H3 s3.heap.objs.size (cellsFrom (s3.heap.objs.size + 1) scope.names (cloFrom X.env.cells scope.names [])) fp
  have pe := he s3 H3 s3.heap.objs.size (cellsFrom (s3.heap.objs.size + 1) scope.names (cloFrom X.env.cells scope.names [])) fp
  have pp := hp s3 H3 s3.heap.objs.size (cellsFrom (s3.heap.objs.size + 1) scope.names (cloFrom X.env.cells scope.names [])) fp
  have cL : (compEnvC scope (cellsFrom (s3.heap.objs.size + 1) scope.names (cloFrom X.env.cells scope.names [])) s3.heap.objs.size X.env).locals = s3.heap.objs.size := rfl
  show codeAny _ _ (.compStart (.DictComp kx vx [⟨tg, iter, ifs, 0⟩] scope pos) 0 (.ref it) (.ref Dd) (compEnvC scope (cellsFrom (s3.heap.objs.size + 1) scope.names (cloFrom X.env.cells scope.names [])) s3.heap.objs.size X.env)) (compPost (model X.prog X.w) X.A X.xe none (EP X pins σ Q) (.ref Dd) s3.heap.objs.size) { s3 with heap := pushCells (s3.heap.push { cls := .type "dict", data := .dict #[] }) scope.names }
  have st4 : tn 0 (pushCells (s3.heap.push { cls := .type "dict", data := .dict #[] }) scope.names) := T.keep _ _ _ st3 fun b _ o e => pushCells_keeps _ _ _ _ (Heap.get?_push_of_some _ e)
  generalize compEnvC scope (cellsFrom (s3.heap.objs.size + 1) scope.names (cloFrom X.env.cells scope.names [])) s3.heap.objs.size X.env = ce at *
  generalize hs4 : ({ s3 with heap := pushCells (s3.heap.push { cls := .type "dict", data := .dict #[] }) scope.names } : Shared) = s4 at *
  have h4 : pushCells (s3.heap.push { cls := .type "dict", data := .dict #[] }) scope.names = s4.heap := by rw [← hs4]
  rw [h4] at st4
  have fpk : ∀ {σ' : L2.St} {H' : Hp} {s' : Shared}, Inv (X.blk s3 H3 scope ce fp) [] σ' H' s' → (∀ b ∈ fp, H' b = none) → ∀ b ∈ fp, FpOk (X.blk s3 H3 scope ce fp) [] H' b := fun {σ' H' s'} I' hn b hb =>
    ⟨hn b hb, (I'.ok.exf b hb).1, I'.ok.exfs b hb, .inl hb, fun x c e => (I'.ok.exf b hb).2 x c e, fun p hp => absurd (show p ∈ ([] : List (Addr × Obj)) ++ [] from hp) (by simp)⟩
  have loop : codeAny (model X.prog X.w) X.A (.compLoop (.DictComp kx vx [⟨tg, iter, ifs, 0⟩] scope pos) 0 (.ref it) (.ref Dd) ce) (compPost (model X.prog X.w) X.A X.xe none (EP X pins σ Q) (.ref Dd) s3.heap.objs.size) s4 := by
    refine compLoop_anyD (fun n s' => ∃ i H', Inv (X.blk s3 H3 scope ce fp) [] (wipe σ (own.map (·.2))) H' s' ∧ tn i s'.heap ∧ (∀ b ∈ fp, H' b = none) ∧ W i n H') ?_ m0 ⟨0, H3, I4, st4, fun b hb => (f3 b hb).1.1, w0⟩
    rintro n s5 ⟨i, H5, I5, st5, n5, w5⟩
    rcases turn i n H5 w5 with ⟨stop, qq⟩ | ⟨go, Nx, hNx, step⟩
    · refine thnF (T.done (X.blk s3 H3 scope ce fp) rfl rfl rfl hc i [] s5 _ H5 (fun _ _ => False) I5 (fpk I5 n5) st5 stop) fun r s6 ⟨hr, I6⟩ => ?_
      subst hr
      have I7 : Inv X pins σ H5 s6 := I3.call' (ch := fp) I6.os I6.base I6.hok I6.bare fun b hb => ⟨(f3 b hb).1.2.2.2.1, (f3 b hb).1.2.1, (f3 b hb).1.2.2.2.2.1, (f3 b hb).1.2.2.2.2.2⟩
      have nC : H5 s3.heap.objs.size = none := by
        have z : H5 ce.locals = none := I6.free
        rwa [cL] at z
      obtain ⟨m, hn, _⟩ := I6.loc
      have hn : s6.heap.Ns ce.locals m := hn
      rw [cL] at hn
      refine ⟨m, hn, fun h'' sb => ?_⟩
      obtain ⟨f0, f1, f2, f3, f4, f5⟩ := I3.fpOk (Nat.le_refl _) nC
      exact ⟨.ref Dd, H5, I7.turned (t' := s6.toks) (fun b o hb e => (sb.2 b hb).trans e) f0 f1 f3 f4 f5, rfl, qq⟩
    · refine thnF (T.item (X.blk s3 H3 scope ce fp) rfl rfl rfl hc i [] s5 _ H5 (fun _ _ => False) I5 (fpk I5 n5) st5 go) fun r s6 ⟨u, hr, h6⟩ => ?_
      subst hr
      refine thnF h6 fun _ s7 ⟨x, H7, I7, r7, y7, st7, n7⟩ => ?_
      have I7' := I7.pinned (fpk I7 n7) (T.obj _ _ st7)
      refine thnF (pg.run _ s7 _ H7 x u _ I7' r7 (step x H7 y7)) fun _ s8 ⟨σ8, H8, I8, hw8, q8⟩ => ?_
      refine thnF (pt.run _ s8 σ8 H8 _ I8 q8) fun b s9 ⟨H9, I9, q9⟩ => ?_
      have fin : ∀ {s' : Shared} {H' : Hp}, Inv (X.blk s3 H3 scope ce fp) ([] ++ pinsAt fp s7.heap) σ8 H' s' → Nx H' → ∃ m, m < n ∧ ∃ i H', Inv (X.blk s3 H3 scope ce fp) [] (wipe σ (own.map (·.2))) H' s' ∧ tn i s'.heap ∧ (∀ b ∈ fp, H' b = none) ∧ W i m H' := fun {s' H'} I' nx => by
        obtain ⟨m', hm, w'⟩ := hNx H' nx
        have there : ∀ b ∈ fp, ∀ o, s7.heap.get? b = some o → s'.heap.get? b = some o ∧ H' b = none := fun b hb o e =>
          let z := I'.pin (b, o) (List.mem_append_right _ (List.mem_append_right _ (mem_pinsAt hb e)))
          ⟨z.1, z.2.1⟩
        refine ⟨m', hm, i + 1, H', (I'.unpinned (pins := [])).weak (by rw [← hw8, wipe_length]) (fun j v e => ?_), T.keep _ _ _ st7 fun b hb o e => (there b hb o e).1, fun b hb => ?_, w'⟩
        · rw [← hw8] at e
          exact (wipe_some e).1
        · obtain ⟨o, e, _⟩ := T.obj _ _ st7 b hb
          exact (there b hb o e).2
      cases b with
      | false => exact fin I9 (by simpa using q9)
      | true =>
        simp only [if_true] at q9 ⊢
        refine thnF (pk.run _ s9 σ8 H9 _ I9 q9) fun z s10 ⟨yk, H10, I10, r10, q10⟩ => ?_
        refine thnF (pe.run _ s10 σ8 H10 _ I10 q10) fun z2 s11 ⟨yv, H11, I11, r11, pd⟩ => ?_
        exact thnF (pp _ s11 σ8 H11 Dd yk yv z z2 Nx (fun _ _ => False) I11 r10 r11 pd) fun _ s12 ⟨H12, I12, nx⟩ => fin I12 nx
  exact codeAny_compStart_dict loop (T.self X.A 0 _ _ _ st4 loop)
end

/-! ### by values -/
def kOk (kvs : List (D × D)) (k : D) : Bool := (kTup k && dT kvs || (kVal k).isSome && dV kvs) && decide (kvs.length < LIM)
section
variable {X : Cx} {pins pn : List (Addr × Obj)} {ps : List Addr} {σ : L2.St} {H H0 : Hp} {s : Shared} {μ : Mu}
theorem Sto.beside2 {P : Program} {w : World} {K : PySem.W.Frag} {a : Addr} {ho hn : HO} (s : Sto P w K pn ps H μ) (ha : H a = some ho) (hi : ¬ Imm ho) (hnot : a ∉ ps) : Gw ps H ps (L2.upd H a hn) ∧ Sto P w K pn ps (L2.upd H a hn) μ := by
  have gw : Gw ps H ps (L2.upd H a hn) := ⟨⟨[], by simp⟩, fun x u hx h => by rw [upd_ne (fun e => by subst e; rw [ha] at hx; cases hx; exact hi h.imm)]; exact hx⟩
  refine ⟨gw, s.len, s.nd, fun l o e => ?_⟩
  obtain ⟨b, ho, h1, h2, h3⟩ := s.at_ l o e
  exact ⟨b, ho, h1, by rw [upd_ne (fun e => hnot (by rw [← e]; exact List.mem_of_getElem? h1))]; exact h2, h3.mono gw fun _ z => z⟩
/-- a dict that isn't in the store is written -/
theorem dset_cases {A : Around} {E : Value → Shared → Prop} (hu : A.units + 9 < cLine) (I : Inv X pins σ H s) (st : Sto X.prog X.w X.K pn ps H μ) {a : Addr} {ho : HO} {kvs : List (D × D)} {k d : D} {vk vd : V} {uk ud : Value} {Q : Unit → Shared → Prop} (h1 : H a = some ho) (h2 : RO X.prog X.w X.K pn ps H a ho (.dct kvs))
    (rk : RV X.K pn ps H vk k) (ruk : RelV vk uk) (rd : RV X.K pn ps H vd d) (rud : RelV vd ud) (hc : kOk kvs k = true) (hnot : a ∉ ps)
    (h : ∀ s' hn, Inv X pins σ (upd H a hn) s' → Gw ps H ps (upd H a hn) → Sto X.prog X.w X.K pn ps (upd H a hn) μ → RO X.prog X.w X.K pn ps (upd H a hn) a hn (.dct (dput kvs k d)) → Q () s') : wpAny (model X.prog X.w) A (dictSet a uk ud) Q E s := by
  have mu := h2.mut
  rw [← h1] at mu
  obtain ⟨hc, hl⟩ := Bool.and_eq_true_iff.mp hc
  have hl : kvs.length < LIM := of_decide_eq_true hl
  rcases Bool.or_eq_true_iff.mp hc with hc | hc
  · obtain ⟨c1, c2⟩ := Bool.and_eq_true_iff.mp hc
    obtain ⟨ds, q, e1, e2, e3⟩ := kTup_nk c1
    obtain ⟨hd, xs, dd, rr, hz⟩ := ho_dctT I (.inl h1) h2 c2
    have ki := key_is I rk e2 ruk
    subst e1
    cases rk with
    | @tup b _ _ hs rs =>
      cases ruk
      refine wpAny_dictSet_heap (knd := nestedKind X.prog X.w) (hsz := hz) (show A.units + 8 < cLine by omega) ⟨ki, e3⟩ dd fun h' dd' sb => ?_
      obtain ⟨o, es, ep, hq, h2', h3, h4, _, h5⟩ := dd'
      have hl' : (storedH xs q b ud).length ≤ sizeLine := by
        have := Paired.length (rn_put e2 e3 (.tup hs rs) ⟨_, rfl⟩ rud rd rr)
        rw [this, ← LIM_eq]
        have := length_dput kvs (.tup ds) d
        omega
      obtain ⟨gw, s3⟩ := st.beside2 (hn := .ext (DctAt X.prog X.w a (storedH xs q b ud))) h1 (RO.notImm h2) hnot
      have I2 : Inv X pins σ (upd H a (.ext (DctAt X.prog X.w a (storedH xs q b ud)))) { s with heap := h', toks := s.toks + (nestedKind X.prog X.w).draws q } :=
        d_write I mu sb ⟨o, hq⟩ ⟨⟨o, es, ep, hq, h2', h3, h4⟩, ⟨o, hq⟩, fun h1 h2 ⟨o, es, ep, z1, z2, z3, z4⟩ st => ⟨o, es, ep, st _ z1, z2, z3, z4⟩⟩
      exact h _ _ I2 gw s3 ⟨_, rfl, rn_put e2 e3 (RV.mono gw (fun _ z => z) (.tup hs rs)) ⟨_, rfl⟩ rud (rd.mono gw fun _ z => z) (Paired.mapP rr fun p q z => ⟨z.1, z.2.1, z.2.2.1.mono gw fun _ z => z, z.2.2.2.1, let ⟨v, r1, r2⟩ := z.2.2.2.2; ⟨v, r1, r2.mono gw fun _ z => z⟩⟩), h5, hl', hd⟩
  · obtain ⟨c1, c2⟩ := Bool.and_eq_true_iff.mp hc
    obtain ⟨kk, e1⟩ := Option.isSome_iff_exists.mp c1
    have ek := kVal_dk e1
    subst ek
    obtain ⟨hd, kv, vs, rel, dd, rr, hz⟩ := ho_dctV I (.inl h1) h2 c2
    have ki : (mixKind X.prog X.w).is kk uk = true := by
      cases kk with
      | inl i => cases rk; exact kV_is (k := .inl i) ruk
      | inr x => cases rk; exact kV_is (k := .inr x) ruk
    refine wpAny_dictSet_pairs (hsz := hz) ki dd fun h' dd' sb => ?_
    have he : ∃ q, h'.get? a = some q := let ⟨q, _, _, hq, _⟩ := dd'; ⟨q, hq⟩
    have hl' : (putK kv kk vd).length ≤ sizeLine := by
      have := length_putK kv kk vd
      have := Paired.length rr
      rw [← LIM_eq]
      omega
    obtain ⟨gw, s3⟩ := st.beside2 (hn := .dK (putK kv kk vd)) h1 (RO.notImm h2) hnot
    have I2 := d_write (ob := .dK (putK kv kk vd)) (t' := s.toks + 1) I mu sb he (dk_new hl' hd (rel.put kk rud) dd')
    exact h _ _ I2 gw s3 (show Paired (RK X.K pn ps (upd H a (.dK (putK kv kk vd)))) (putK kv kk vd) (dput kvs (dk kk) d) from rk_put (X := X) (rd.mono gw fun _ z => z) (Paired.mapP rr fun p q z => ⟨z.1, z.2.mono gw fun _ z => z⟩))
def pdD (X : Cf) (pn : List (Addr × Obj)) : PutP := fun Dd y z H N => ∃ ps μ k d kvs ho, Sto X.prog X.w X.K pn ps H μ ∧ Dd ∉ ps ∧ H Dd = some ho ∧ RO X.prog X.w X.K pn ps H Dd ho (.dct kvs) ∧ RV X.K pn ps H y k ∧ RV X.K pn ps H z d ∧ kOk kvs k = true ∧
  ∀ hn, Gw ps H ps (upd H Dd hn) → Sto X.prog X.w X.K pn ps (upd H Dd hn) μ → RO X.prog X.w X.K pn ps (upd H Dd hn) Dd hn (.dct (dput kvs k d)) → N (upd H Dd hn)
theorem pdD_ok (hu : X.A.units + 64 < cLine) : PutOk X (pdD X pn) := by
  intro pins s σ H Dd y z u r N E I ru rr ⟨ps, μ, k, d, kvs, ho, st, hn, h1, h2, rk, rd, hk, hN⟩
  exact dset_cases (by omega) I st h1 h2 rk ru rd rr hk hn fun s' hn I' gw st' ro => ⟨_, I', hN hn gw st' ro⟩
open Classical in
noncomputable def compD (g : D → Rho → Option Rho) (tt : TX) (tk tv : EX) (st : List (Nat × O)) (ρ : Rho) : List D → List (D × D) → M (List (D × D))
  | [], acc => fun m => if stands st m then .ok acc m else .no
  | d :: ds, acc => fun m => if stands st m then (match g d ρ with
      | some ρ1 => M.bind (M.nx (tt ρ1)) (fun c => bif c then M.bind (M.nx (tk ρ1)) (fun w => M.bind (settle w) fun x => M.bind (M.nx (tv ρ1)) (fun w => M.bind (settle w) fun y => if kOk acc x = true then compD g tt tk tv st ρ ds (dput acc x y) else M.no)) else compD g tt tk tv st ρ ds acc) m
      | none => .no) else .no
noncomputable def xDc (mi : IX) (vs : List Nat) (g : D → Rho → Option Rho) (tt : TX) (tk tv : EX) : EX := fun ρ => M.bind (mi ρ) fun it => M.bind (compD g tt tk tv it.2 (wipeR ρ vs) it.1 []) fun acc => M.ret (.o (.dct acc))
theorem notin_grow {p1 p2 : List Addr} {H1 H2 : Hp} {a : Addr} {o : HO} (g : Grow p1 H1 p2 H2) (h : H1 a = some o) (hn : a ∉ p1) : a ∉ p2 := fun hm => by
  obtain ⟨n, en, fn⟩ := g.ext
  rw [en] at hm
  rcases List.mem_append.mp hm with z | z
  · exact hn z
  · have := fn _ z
    rw [h] at this; cases this
theorem xDc_run {Wx : WX} {mi : IX} {vs sl : List Nat} {g : D → Rho → Option Rho} {tt : TX} {tk tv : EX} {Q : VK} (hsl : ∀ j ∈ sl, j ∈ vs) (h : tE X pn Wx (xDc mi vs g tt tk tv) σ H Q) :
    tDcN (tI X pn Wx mi) (tG X pn g sl) (tT X pn (fun _ _ _ _ => False) tt) (tE X pn (fun _ _ _ _ => False) tk) (tE X pn (fun _ _ _ _ => False) tv) vs (pdD X pn) σ H Q := by
  obtain ⟨ps, ρ, μ, Rr, h⟩ := h
  refine tI_bind (Po := PoE X pn Wx ps σ H Q) Rr h (fun e m' h => h) (fun h => h) fun it m1 J H1 p1 g1 R1 ok h1 => ?_
  obtain ⟨items, st⟩ := it
  dsimp only at ok h1
  intro Dl hD
  refine ⟨fun i k H2 => i + k = items.length ∧ ∃ p2 μ2 acc ho, Grow p1 H1 p2 H2 ∧ Rl X pn p2 σ H2 ρ μ2 ∧ Dl ∉ p2 ∧ H2 Dl = some ho ∧ RO X.prog X.w X.K pn p2 H2 Dl ho (.dct acc) ∧
    PoE X pn Wx ps σ H Q (M.bind (compD g tt tk tv st (wipeR ρ vs) (items.drop i) acc) (fun acc => M.ret (.o (.dct acc))) μ2), ⟨items.length, by omega, p1, m1, [], .dK [], Grow.new hD, ?_, R1.sto.notIn hD, upd_same, (.nil : Paired (RK X.K pn p1 (upd H1 Dl (.dK []))) [] []), h1⟩, ?_⟩
  · exact R1.step (Grow.new hD) (R1.sto.new hD)
  rintro i k H2 ⟨hik, p2, μ2, acc, ho, g2, R2, hn, hDl, ra, h2⟩
  cases k with
  | zero =>
    have e : items.drop i = [] := List.drop_eq_nil_of_le (by omega)
    rw [e] at h2
    unfold compD at h2
    by_cases hst : stands st μ2
    · simp only [M.bind, if_pos hst] at h2
      exact .inl ⟨(ok i p2 H2 μ2 g2 R2.sto hst).2 (by omega), h2 (.ref Dl) H2 p2 (g1.trans g2) R2.sto ⟨Dl, _, rfl, g1.back hD, hn, hDl, ra⟩⟩
    · simp only [M.bind, if_neg hst] at h2
      exact h2.elim
  | succ k =>
    have hlt : i < items.length := by omega
    rw [List.drop_eq_getElem_cons hlt] at h2
    unfold compD at h2
    by_cases hst : stands st μ2
    · obtain ⟨go, yl⟩ := (ok i p2 H2 μ2 g2 R2.sto hst).1 items[i] (List.getElem?_eq_getElem hlt)
      refine .inr ⟨go, fun H3 => ∃ p3 μ3 acc ho, Grow p1 H1 p3 H3 ∧ Rl X pn p3 σ H3 ρ μ3 ∧ Dl ∉ p3 ∧ H3 Dl = some ho ∧ RO X.prog X.w X.K pn p3 H3 Dl ho (.dct acc) ∧
        PoE X pn Wx ps σ H Q (M.bind (compD g tt tk tv st (wipeR ρ vs) (items.drop (i + 1)) acc) (fun acc => M.ret (.o (.dct acc))) μ3), fun H3 hN => ⟨k, Nat.lt_succ_self k, by omega, hN⟩, fun x H3 hy => ?_⟩
      obtain ⟨g3, s3, r3⟩ := yl x H3 hy
      have R3 := R2.step g3 s3
      have hD3 : H3 Dl = some ho := g3.keep Dl _ hDl hn
      cases q : g items[i] (wipeR ρ vs) with
      | none =>
        simp only [M.bind, if_pos hst, q] at h2
        exact h2.elim
      | some ρ4 =>
        refine ⟨p2, wipeR ρ vs, μ2, items[i], ρ4, R3.wipe vs, r3, q, fun σ4 l4 k4 R4 => ⟨wipe_same hsl l4 k4, p2, ρ4, μ2, R4, ?_⟩⟩
        simp only [M.bind, if_pos hst, q, M.nx] at h2
        cases qt : tt ρ4 μ2 with
        | no => rw [qt] at h2; exact h2.elim
        | ex e m5 => rw [qt] at h2; exact h2.elim
        | ok c m5 =>
          rw [qt] at h2
          dsimp only at h2
          refine fun H5 p5 g5 s5 => ?_
          have R5 := R3.step g5 s5
          have R5' := R4.step g5 s5
          have hD5 : H5 Dl = some ho := g5.keep Dl _ hD3 hn
          have hn5 : Dl ∉ p5 := notin_grow g5 hD3 hn
          cases c with
          | false => exact ⟨p5, m5, acc, ho, (g2.trans g3).trans g5, R5, hn5, hD5, ra.mono (g3.trans g5).w (fun _ z => z), h2⟩
          | true =>
            dsimp only
            rw [if_pos rfl]
            refine ⟨p5, ρ4, m5, R5', ?_⟩
            simp only [cond_true, M.bind, M.nx] at h2
            cases qe : tk ρ4 m5 with
            | no => rw [qe] at h2; exact h2.elim
            | ex e m6 => rw [qe] at h2; exact h2.elim
            | ok w m6 =>
              rw [qe] at h2
              dsimp only at h2
              refine fun yv H6 p6 g6 s6 r6 => ?_
              obtain ⟨d, m7, e7, p7, g7, gw, s7, rv⟩ := settle_ok g6 s6 r6
              rw [e7] at h2
              dsimp only at h2
              have hD6 : H6 Dl = some ho := g6.keep Dl _ hD5 hn5
              have hn7 : Dl ∉ p7 := notin_grow g7 hD5 hn5
              have R7' : Rl X pn p7 σ4 H6 ρ4 m7 := R5'.step g7 s7
              refine ⟨p7, ρ4, m7, R7', ?_⟩
              cases qv : tv ρ4 m7 with
              | no => rw [qv] at h2; exact h2.elim
              | ex e m8 => rw [qv] at h2; exact h2.elim
              | ok w2 m8 =>
                rw [qv] at h2
                dsimp only at h2
                refine fun zv H8 p8 g8 s8 r8 => ?_
                obtain ⟨d2, m9, e9, p9, g9, gw9, s9, rv9⟩ := settle_ok g8 s8 r8
                rw [e9] at h2
                dsimp only at h2
                have hD8 : H8 Dl = some ho := g8.keep Dl _ hD6 hn7
                have hn9 : Dl ∉ p9 := notin_grow g9 hD6 hn7
                by_cases hl : kOk acc d = true
                · rw [if_pos hl] at h2
                  have gg := (g3.trans g5).trans (g7.trans g9)
                  have gall : Grow p1 H1 p9 H8 := g2.trans gg
                  have R9 : Rl X pn p9 σ H8 ρ m9 := (R5.step g7 s7).step g9 s9
                  refine ⟨p9, m9, d, d2, acc, ho, s9, hn9, hD8, ra.mono gg.w (fun _ z => z), rv.grow g9, rv9, hl, fun hnw gw2 s10 ro => ?_⟩
                  exact ⟨p9, m9, dput acc d d2, hnw, gall.upd hD, R9.gw gw2 s10, hn9, upd_same, ro, h2⟩
                · rw [if_neg hl] at h2; exact h2.elim
    · simp only [M.bind, if_neg hst] at h2
      exact h2.elim
theorem d_dc {mi : IX} {sl : List Nat} {g : D → Rho → Option Rho} {tt : TX} {tk tv : EX} {kx vx tg iter : Expr} {ifs : List Expr} {scope : Scope} {own : List (Str × Nat)} {pos : Pos} (hu : X.A.units + 64 < cLine) (hc : X.calm = true) (hN : X.N.Nodup) (hi : DI X pn mi tg iter) (ok : BlkOk X.N X.env.scope scope own)
    (hg : ∀ (s : Shared) (H : Hp) (C : Addr) (cl : List (Str × Addr)) (fp : List Addr), DG (X.blk s H scope (compEnvC scope cl C X.env) fp) pn g sl tg) (ht : ∀ (s : Shared) (H : Hp) (C : Addr) (cl : List (Str × Addr)) (fp : List Addr), DTs (X.blk s H scope (compEnvC scope cl C X.env) fp) pn tt ifs)
    (hk : ∀ (s : Shared) (H : Hp) (C : Addr) (cl : List (Str × Addr)) (fp : List Addr), DE (X.blk s H scope (compEnvC scope cl C X.env) fp) pn tk kx) (hv : ∀ (s : Shared) (H : Hp) (C : Addr) (cl : List (Str × Addr)) (fp : List Addr), DE (X.blk s H scope (compEnvC scope cl C X.env) fp) pn tv vx)
    (hsl : ∀ j ∈ sl, j ∈ own.map (·.2)) (hs : ∀ x, foldedSetIterable iter X.env x = pure x := by intro _; rfl) : DE X pn (xDc mi (own.map (·.2)) g tt tk tv) (.DictComp kx vx [⟨tg, iter, ifs, 0⟩] scope pos) := fun Wx tk0 =>
  PE_imp (pe_dcN (g := tG (cf X) pn g sl) (tt := tT (cf X) pn (fun _ _ _ _ => False) tt) (tk := tE (cf X) pn (fun _ _ _ _ => False) tk) (tv := tE (cf X) pn (fun _ _ _ _ => False) tv) (Pd := pdD X pn) hc hN (hi Wx tk0) ok hg ht (fun s H C cl fp => hk s H C cl fp _ takes0) (fun s H C cl fp => hv s H C cl fp _ takes0) (fun s H C cl fp => pdD_ok (X := X.blk s H scope (compEnvC scope cl C X.env) fp) hu) hs) fun σ H Q h => xDc_run hsl h
end
end Dn

set_option Elab.async false
set_option linter.all false
set_option maxRecDepth 100000
set_option maxHeartbeats 4000000
set_option autoImplicit false
/-! Dn15: an own exception class over ValueError: super().__init__(text); self.f = x. -/
namespace Dn
open PySem PySem.Spec PyProof.Rows L2 NdefX

/-- the words of such an __init__ -/
def supBody (tx fl a x : Str) (p0 p1 p2 p3 p4 p5 q0 q1 q2 q3 : Pos) (j : Nat) : List Stmt :=
  [.Expr (.Call (.Attribute (.Call (.Name "super" p0) [] [] p1) "__init__" p2) [.Constant (.str tx) j p3] [] p4) p5, .Assign [.Attribute (.Name a q0) fl q1] (.Name x q2) q3]
/-- what the written part says of the class c -/
structure SupK (P : Program) (K : PySem.W.Frag) (C fI cc cda : Addr) (nm qual : Str) (params : Arguments) (body : List Stmt) (scope : Scope) (fl : Str) : Prop where
  oex : OexC K C
  code : PySem.W.codeIn K (.ref cda) qual = true
  cdo : ∃ ccl cdd vs ccs file tf, K.lookup cda = some ⟨ccl, cdd, .fields vs, ccs⟩ ∧ vs[2]? = some (.str file tf) ∧ ((P.main.file : Str) == file) = true
  cell : ∃ cl cld csl, K.lookup cc = some ⟨cl, cld, .cell (some (.ref C)), csl⟩
  sub : PySem.W.mroIn K C (.ref C) = some true
  sup : PySem.W.nsIn K mainGlobals "super" = some none
  opq : PySem.W.nsIn K cStatics "thirdparty.any" = some none
  along : PySem.W.ks_superIn K C C "__init__" = some (some (.builtin "ValueError.__init__"))
  isv : PySem.W.subIn K (.ref C) (.type "ValueError") = some true
  noat : PySem.W.findIn K (.ref C) fl = some none
/-- what such a call does: the exception gets its dict -/
def spSup (C : Addr) (fl : Str) : Sp := fun vs H Q E => ∃ (a : Addr) (v : V), vs = [.ref a, v] ∧ H a = some (exo a C none) ∧ ∀ dx, H dx = none → dx ≠ a → Q .non (upd (upd H dx (exd dx [(fl, v)])) a (exo a C (some dx)))
/-- super().__init__(..)'s own call, bound to the exception -/
theorem call_supI {X : Cx} {pins : List (Addr × Obj)} {σ : L2.St} {H : Hp} {s : Shared} {a C u : Addr} {us : List Value} {Q : Value → Shared → Prop} {E : Value → Shared → Prop} {A : Around} (T : OexC X.K C) (I : Inv X pins σ H s) (e : H a = some (exo a C none)) (hu : s.heap.get? u = some (PySem.W.kxs_mw "ValueError.__init__" a)) (hl : us.length ≤ sizeLine)
    (h : ∀ s', Inv X pins σ H s' → Q .none s') : wpAny (model X.prog X.w) A (call (.ref u) us) Q E s := by
  obtain ⟨nm, q, N, bs, bm, sn, sub, ab, col, dd, k0, k1, k2, k3, k5, hC, hbm⟩ := T.cls
  obtain ⟨t1, ho⟩ := exo_at I.hok e
  have hC' := I.kIn _ _ hC
  obtain ⟨hp, g, d, t, os⟩ := s
  refine wpAny_call (codeAny_of_tree ?_)
  show wpAny _ A.in1 (callAny (.ref u) ⟨us, []⟩) _ _ _
  simp only [callAny]
  refine wpAny_bind (wpAny_load hu ?_)
  simp only [PySem.W.kxs_mw, show (Value.type "method-wrapper" == Value.type "method" || Value.type "method-wrapper" == Value.type "builtin_function_or_method" || Value.type "method-wrapper" == Value.type "method-wrapper") = true by decide, if_true]
  refine PySem.W.KFB.if_so (by decide) ?_
  refine wpAny_bind (PySem.W.check_bound_init F.excBase_ValueError.toExcCallFacts hC' ho rfl ?_)
  refine wpAny_bind (wpAny_pure (wpAny_pure ?_))
  refine ⟨plainId_quiet F.excBase_ValueError.init.plain _, codeAny_builtin F.excBase_ValueError.initEntry ?_⟩
  refine PySem.W.exc_init_tree (cls := .ref C) (t0 := t1) (dv := none) (c2 := .none) (c3 := .none) (b4 := .bool false) ho hl fun h' k hx _ => ?_
  have J := I.write (t' := t) (x := a) (e := a) (o := exo a C none) (by rw [e]; exact True.intro) (.inl rfl) k ⟨_, hx⟩ (exo_ok hx)
  have eu : upd H a (exo a C none) = H := by
    funext b
    by_cases hb : b = a
    · rw [hb, upd_same, e]
    · rw [upd_ne hb]
  rw [eu] at J
  exact h _ J

section
variable {P : Program} {w : World} {K : PySem.W.Frag} {mg : Str → Option Value} {base : Heap} {CX : CXT} {C fI cc cda : Addr} {nm qual : Str} {params : Arguments} {body : List Stmt} {scope : Scope} {fl a x tx : Str} {p0 p1 p2 p3 p4 p5 q0 q1 q2 q3 : Pos} {j : Nat}
theorem sup_ok (hbody : body = supBody tx fl a x p0 p1 p2 p3 p4 p5 q0 q1 q2 q3 j) (S : SupK P K C fI cc cda nm qual params body scope fl) (Sc : NScope [a, x, "__class__"] [a, x] ["__class__"] scope) (hax : (x == a) = false) (hd1 : (a == ("__debug__" : Str)) = false) (hd2 : (a == ("__classdict__" : Str)) = false) (hd3 : (x == ("__debug__" : Str)) = false) (hd4 : (x == ("__classdict__" : Str)) = false)
    (hhead : ∃ ar, (params.posonlyargs ++ params.args).head? = some ar ∧ ar.arg = a) (hks : scope.names.lookup ("super" : Str) = some .globalImplicit) (htop : (P.main.scope.names.lookup ("super" : Str)).isSome = false)
    (hc : ∀ env : Env, ∃ pl : Sem Bool, eval (.Call (.Attribute (.Call (.Name "super" p0) [] [] p1) "__init__" p2) [.Constant (.str tx) j p3] [] p4) env = (do
      let ov ← attributeBase (.Call (.Name "super" p0) [] [] p1) "__init__" env (eval (.Call (.Name "super" p0) [] [] p1) env)
      standAt p2.atName
      let (f, first) ← holding [ov] (getMethod ov "__init__" pl)
      callWith p4 f first (backTo p4 (starEach [.Constant (.str tx) j p3] env)) []))
    (hi : ∀ env : Env, swapsWith (.Call (.Attribute (.Call (.Name "super" p0) [] [] p1) "__init__" p2) [.Constant (.str tx) j p3] [] p4) none p5.line env = pure false)
    (hin : ∀ (L f : Addr) (cd : Value) (cl : List (Str × Addr)), interactive (PySem.W.envX qual scope L f cd cl) = false)
    (hsw : ∀ env : Env, swapsWith (.Name x q2) (some (.Attribute (.Name a q0) fl q1)) q3.line env = pure false)
    (he : ∀ env : Env, starEach [.Constant (.str tx) j p3] env = [(false, eval (.Constant (.str tx) j p3) env)]) {oc : Value} {od : Option Addr} {osl : Array (Option Value)} {dV kV doc pm ct : Value} {an : Option Addr} (hfn : K.lookup fI = some ⟨oc, od, .func (PySem.W.ksFn nm qual params body scope dV kV doc pm an (.ref cda) ct cc), osl⟩) :
      FnOk P w K mg base CX 1 fI (PySem.W.ksFn nm qual params body scope dV kV doc pm an (.ref cda) ct cc) [a, x] (spSup C fl) := by
  refine ⟨fun vs H Q E h => ?_, fun A outer s H args us vs Q E hr e0 hbind r hsp => ?_⟩
  · obtain ⟨b, v, e, _⟩ := h
    subst e
    rfl
  obtain ⟨b, v, ev, hb, hQ⟩ := hsp
  subst ev
  have KX : K.In s.heap := e0.mod.kin.keeps fun b o e => (e0.bs b o e).1
  have lim : s.heap.NoLimit := e0.mod.nolimit.keeps fun b o e => (e0.bs b o e).1
  have nb : ∀ q o, K.lookup q = some o → H q = none := fun q o e => (e0.bs q o (e0.mod.kin _ _ e)).2
  obtain ⟨cl0, cld, csl, hcell⟩ := S.cell
  obtain ⟨u0, u1, rfl, ra, rx⟩ := r.two
  cases (show u0 = Value.ref b from ra)
  have Cl : CellsAt [("__class__", cc)] ["__class__"] [some (V.ref C)] s.heap H := by
    refine ⟨rfl, fun y c e => ?_, fun x y c e1 e2 => ?_, fun i y hi => ?_⟩
    · have hy : c = cc := by
        simp only [List.lookup] at e
        split at e
        · exact (Option.some.inj e).symm
        · cases e
      subst hy
      exact ⟨nb _ _ hcell, _, _, KX _ _ hcell, rfl⟩
    · have z : ∀ {z c}, ([("__class__", cc)] : List (Str × Addr)).lookup z = some c → z = "__class__" := by
        intro z c e
        simp only [List.lookup] at e
        split at e
        · rename_i q; exact beq_iff_eq.mp q
        · cases e
      rw [z e1, z e2]
    · cases i with
      | zero =>
        simp at hi
        subst hi
        refine ⟨cc, rfl, fun v hv => ?_⟩
        simp at hv
        subst hv
        exact ⟨.ref C, rfl, _, KX _ _ hcell, rfl⟩
      | succ i => simp at hi
  refine PySem.ks_codeAny_call_defAt (fd := PySem.W.ksFn nm qual params body scope dV kV doc pm an (.ref cda) ct cc) (body := body) (binds := [a, x].zip [Value.ref b, u1]) hr.depth (KX _ _ hfn) rfl lim (PySem.W.codeRec_of KX S.code) rfl hbind Sc.nocell (fun y hy => Sc.par y.1 (List.of_mem_zip hy).1) (fun h₁ hns kp => ?_) Sc.co Sc.gen Sc.kind
  have I : Inv (ncx CX P w K mg base [a, x, "__class__"] ⟨nm, qual, params, body, scope, [("__class__", cc)], cda⟩ fI A outer s H E) [] (startF [a, x, "__class__"] [.ref b, v] [some (V.ref C)]) H { s with heap := h₁, toks := s.toks + ([a, x].zip [Value.ref b, u1]).length } :=
    inv_startN (F := ⟨nm, qual, params, body, scope, [("__class__", cc)], cda⟩) Sc hr.hd e0 rfl (.cons rfl (.cons rx .nil)) Cl hns kp
  show PySem.wpAt _ (A.deeper (PySem.W.envX qual scope s.heap.objs.size fI (.ref cda) [("__class__", cc)])) (.func body (PySem.W.envX qual scope s.heap.objs.size fI (.ref cda) [("__class__", cc)])) (execs body (PySem.W.envX qual scope s.heap.objs.size fI (.ref cda) [("__class__", cc)])) _ _ _
  -- the call's own frame
  have kself : scope.names.lookup a = some .local := Sc.par a (by simp)
  have kcls : scope.names.lookup ("__class__" : Str) = some .free := Sc.frk _ (by simp)
  obtain ⟨t1, hob⟩ := exo_at I.hok hb
  obtain ⟨nm', q', N', bs', bm', sn', sub', ab', col', dd', k0, k1, k2, k3, k5, hC, hbm⟩ := S.oex.cls
  obtain ⟨cdD, hcd⟩ : ∃ cd, PySem.W.clsIn K C = some cd := ⟨_, by unfold PySem.W.clsIn; rw [hC] <;> rfl⟩
  obtain ⟨ccl, cdd, vs, ccs, file, tf, hcda, hvs, hfile⟩ := S.cdo
  obtain ⟨ar, hh1, hh2⟩ := hhead
  have X1 : K.In h₁ := I.kIn
  generalize hs1 : ({ s with heap := h₁, toks := s.toks + ([a, x].zip [Value.ref b, u1]).length } : Shared) = s1 at *
  have hh : s1.heap = h₁ := by rw [← hs1]
  rw [← hh] at X1 hns
  have hself : ([a, x].zip [Value.ref b, u1]).reverse.lookup a = some (Value.ref b) := by
    have : (a == x) = false := by
      cases q : (a == x) with
      | false => rfl
      | true => rw [beq_iff_eq.mp q] at hax; rw [beq_self_eq_true] at hax; cases hax
    simp [List.lookup, this]
  subst hbody
  obtain ⟨pl, hpl⟩ := hc (PySem.W.envX qual scope s.heap.objs.size fI (.ref cda) [("__class__", cc)])
  refine ks_wpAt_execs_cons (ks_wpAt_Expr_any (ks_wpAt_MethodCall (pl := pl) (ks_wpAt_super_base hks kcls (by decide) rfl (X1 _ _ hfn) rfl hh1 rfl (X1 _ _ hcda) rfl hvs hfile htop ?_) hpl) (hin _ _ _ _) (hi _))
  obtain ⟨mb, hmb1, hmb2⟩ := I.mod.blt
  refine PySem.W.ks_loadName_global Sc.kind hks (Calls.loadGlobal_builtin (I.mod.glob.keeps I.bk) (PySem.W.mg_none_of e0.mod.kin e0.mod.glob S.sup) (hmb1.keeps I.bk) ((hmb2 _ (by decide)).trans (show bootBuiltins "super" = some (.type "super") by decide +kernel)) ⟨rfl, ?_⟩)
  refine wpAny_loadName_free Sc.kind kcls rfl ⟨_, X1 _ _ hcell, rfl⟩ ?_
  rw [hh2]
  refine wpAny_loadName_local Sc.kind kself hns hself ?_
  have hCs : ∃ oD, s1.heap.get? C = some oD ∧ oD.data = .cls cdD := by
    unfold PySem.W.clsIn at hcd
    split at hcd
    · rename_i c d cd' sl ho
      cases hcd
      exact ⟨_, X1 _ _ ho, rfl⟩
    · cases hcd
  obtain ⟨oD, hD1, hD2⟩ := hCs
  have hobI : PySem.W.InstAt s1.heap b { cls := .ref C, dict := none, data := .fields #[.ref t1, .none, .none, .none, .bool false, .none] } C none := ⟨hob, rfl, rfl, trivial⟩
  obtain ⟨hp1, g1, dr1, tk1, os1⟩ := s1
  refine ks_wpAny_isType_cls hD1 hD2 ⟨rfl, ?_⟩
  refine ks_wpAny_call_super hD1 hD2 hob rfl (fun c e => nomatch e) (PySem.W.looks_mroIn X1 S.sub) fun h2 e2 k2 => ?_
  have I2 := I.kept (t' := tk1) k2
  have X2 : K.In h2 := I2.kIn
  have hobI2 : PySem.W.InstAt h2 b { cls := .ref C, dict := none, data := .fields #[.ref t1, .none, .none, .none, .bool false, .none] } C none := ⟨k2 _ _ hob, rfl, rfl, trivial⟩
  have along : PySem.W.alongIn K "__init__" ((cdD.mro.dropWhile (· != .ref C)).drop 1) = some (some (.builtin "ValueError.__init__")) := by
    have := S.along
    unfold PySem.W.ks_superIn at this
    rw [hcd] at this
    exact this
  refine PySem.W.kxs_getMethod PySem.W.kxs_ValueError e2 (PySem.W.looks_opaque X2 S.opq) (l₀ := cdD.mro) (fun A Q E s k q => wpAny_bind ((PySem.W.looks_clsIn X2 hcd) A _ E s k (wpAny_pure q))) rfl X2 along (hobI2.type.andThen (PySem.W.looks_subIn X2 S.isv)) (PySem.W.ks_ne X2 hobI2 hcd) (by decide) ?_
  have I3 := I2.kept (h' := h2.push (PySem.W.kxs_mw "ValueError.__init__" b)) (t' := tk1 + 1) (fun c o e => Heap.get?_push_of_some _ e)
  have hu : (h2.push (PySem.W.kxs_mw "ValueError.__init__" b)).get? h2.objs.size = some (PySem.W.kxs_mw "ValueError.__init__" b) := Heap.get?_push_size _ rfl
  have I3p := I3.pinned (fp := [h2.objs.size]) (fun c hc => by rw [List.mem_singleton.mp hc]; exact I2.fpOk (Nat.le_refl _) (I2.hok.fresh (Nat.le_refl _))) (fun c hc => by rw [List.mem_singleton.mp hc]; exact ⟨_, hu, fun v z => nomatch z⟩)
  have hA := (pa_cons (X := ncx CX P w K mg base [a, x, "__class__"] ⟨nm, qual, params, supBody tx fl a x p0 p1 p2 p3 p4 p5 q0 q1 q2 q3 j, scope, [("__class__", cc)], cda⟩ fI A outer s H E) (e := .Constant (.str tx) j p3) (es := []) pe_str pa_nil (he _)).run p4 _ _ _ _ (fun vs H1 => vs = [.str tx] ∧ H1 = H) I3p ⟨rfl, rfl⟩
  rw [show (ncx CX P w K mg base [a, x, "__class__"] ⟨nm, qual, params, supBody tx fl a x p0 p1 p2 p3 p4 p5 q0 q1 q2 q3 j, scope, [("__class__", cc)], cda⟩ fI A outer s H E).env = PySem.W.envX qual scope s.heap.objs.size fI (.ref cda) [("__class__", cc)] from rfl, he] at hA
  rw [he]
  refine PySem.W.kxs_callWith (i := "ValueError.__init__") (x := b) rfl (Calls.evalArgs_plain ?_)
  refine wpAny_mono hA (fun us s4 ⟨vs, H4, I4, r4, ev, eH⟩ => ?_) fun _ _ z => z
  subst ev
  rw [eH] at I4
  obtain ⟨ut, rfl, rt⟩ := r4.one
  have hu4 : s4.heap.get? h2.objs.size = some (PySem.W.kxs_mw "ValueError.__init__" b) := (I4.pin (h2.objs.size, PySem.W.kxs_mw "ValueError.__init__" b) (List.mem_append_right _ (List.mem_append_right _ (mem_pinsAt (List.mem_singleton.mpr rfl) hu)))).1
  have I5 := I4.unpinned (pins := [])
  refine ⟨hu4, ?_⟩
  refine call_supI (X := ncx CX P w K mg base [a, x, "__class__"] ⟨nm, qual, params, supBody tx fl a x p0 p1 p2 p3 p4 p5 q0 q1 q2 q3 j, scope, [("__class__", cc)], cda⟩ fI A outer s H E) S.oex I5 hb hu4 (by show 1 ≤ sizeLine; rw [sizeLine_eq]; decide) fun s6 I6 => ?_
  -- self.f = x
  refine wpAt_of_wpAny ?_
  have hpost : PSs (ncx CX P w K mg base [a, x, "__class__"] ⟨nm, qual, params, supBody tx fl a x p0 p1 p2 p3 p4 p5 q0 q1 q2 q3 j, scope, [("__class__", cc)], cda⟩ fI A outer s H E) [.Assign [.Attribute (.Name a q0) fl q1] (.Name x q2) q3] (tOst K fl (tVar 0) (tVar 1)) :=
    pss_one (ps_ost (pe_var (i := 0) (x := a) rfl (.inl kself) hd1 hd2) (pe_var (i := 1) (x := x) rfl (.inl (Sc.par x (by simp))) hd3 hd4) (hsw _))
  refine wpAny_mono (hpost.run [] s6 (startF [a, x, "__class__"] [.ref b, v] [some (V.ref C)]) H { nx := fun _ H' => Q .non H', rt := Q } I6 ⟨v, rfl, .ref b, rfl, b, C, rfl, S.oex, S.noat, .inl ⟨hb, fun dx h1 h2 => hQ dx h1 h2⟩⟩) (fun f s7 hs => ?_) fun e s7 hs => hs
  cases f with
  | ret u =>
    obtain ⟨v, σ', H', J, rv, q⟩ := hs
    exact ⟨v, H', J.os, J.bare, J.base, J.hok, rv, q⟩
  | next =>
    obtain ⟨σ', H', J, q⟩ := hs
    exact ⟨.non, H', J.os, J.bare, J.base, J.hok, rfl, q⟩
  | brk => obtain ⟨_, _, _, q⟩ := hs; exact q.elim
  | cont => obtain ⟨_, _, _, q⟩ := hs; exact q.elim
end
end Dn

set_option Elab.async false
set_option linter.all false
set_option maxRecDepth 100000
set_option maxHeartbeats 4000000
set_option autoImplicit false
/-! Dn16: raise, try, e.f. -/
namespace Dn
open PySem PySem.Spec PyProof.Rows L2

/-! ### data without an exception -/
mutual
def NoX : D → Bool
  | .exn _ _ _ => false
  | .tup xs => NoXs xs
  | .rol xs => NoXs xs
  | _ => true
def NoXs : List D → Bool
  | [] => true
  | d :: ds => NoX d && NoXs ds
end
def NoXO : O → Prop
  | .lst xs => NoXs xs = true
  | .dct kvs => ∀ p ∈ kvs, NoX p.1 = true ∧ NoX p.2 = true
  | .lk kvs => ∀ p ∈ kvs, NoX p.1 = true ∧ NoX p.2 = true
  | .ins _ fs => ∀ p ∈ fs, NoX p.2 = true
section
variable {P : Program} {w : World} {K : PySem.W.Frag} {pn : List (Addr × Obj)} {ps : List Addr} {H : Hp}
mutual
theorem RV.nox : ∀ {v : V} {d : D}, RV K [] ps H v d → NoX d = true
  | _, _, .non => rfl
  | _, _, .bl _ => rfl
  | _, _, .int _ => rfl
  | _, _, .str _ => rfl
  | _, _, .tup _ r => RVs.nox r
  | _, _, .rol _ r => RVs.nox r
  | _, _, .loc _ => rfl
  | _, _, .exn0 h _ _ => nomatch h
  | _, _, .exn1 h _ _ _ _ => nomatch h
theorem RVs.nox : ∀ {vs : List V} {ds : List D}, RVs K [] ps H vs ds → NoXs ds = true
  | _, _, .nil => rfl
  | _, _, .cons h r => by unfold NoXs; rw [RV.nox h, RVs.nox r]; rfl
end
mutual
theorem RV.nil : ∀ {v : V} {d : D}, RV K pn ps H v d → NoX d = true → RV K [] ps H v d
  | _, _, .non, _ => .non
  | _, _, .bl b, _ => .bl b
  | _, _, .int i, _ => .int i
  | _, _, .str x, _ => .str x
  | _, _, .tup h r, n => .tup h (RVs.nilx r n)
  | _, _, .rol h r, n => .rol h (RVs.nilx r n)
  | _, _, .loc h, _ => .loc h
  | _, _, .exn0 _ _ _, n => by cases n
  | _, _, .exn1 _ _ _ _ _, n => by cases n
theorem RVs.nilx : ∀ {vs : List V} {ds : List D}, RVs K pn ps H vs ds → NoXs ds = true → RVs K [] ps H vs ds
  | _, _, .nil, _ => .nil
  | _, _, .cons h r, n => by
    unfold NoXs at n
    obtain ⟨n1, n2⟩ := Bool.and_eq_true_iff.mp n
    exact .cons (RV.nil h n1) (RVs.nilx r n2)
end
theorem paired_r {α β : Type} {F G : α → β → Prop} : ∀ {l₁ : List α} {l₂ : List β}, Paired F l₁ l₂ → (∀ a b, b ∈ l₂ → F a b → G a b) → Paired G l₁ l₂
  | _, _, .nil, _ => .nil
  | _, _, .cons r t, f => .cons (f _ _ List.mem_cons_self r) (paired_r t fun a b h => f a b (List.mem_cons_of_mem _ h))
theorem paired_all {α β : Type} {F : α → β → Prop} {p : β → Prop} : ∀ {l₁ : List α} {l₂ : List β}, Paired F l₁ l₂ → (∀ a b, F a b → p b) → ∀ b ∈ l₂, p b
  | _, _, .nil, _, b, h => nomatch h
  | _, _, .cons r t, f, b, h => by
    rcases List.mem_cons.mp h with e | h
    · rw [e]; exact f _ _ r
    · exact paired_all t f b h
theorem nox_dk (k : Key) : NoX (dk k) = true := by cases k <;> rfl
theorem RO.nox {a : Addr} {ho : HO} {o : O} (h : RO P w K [] ps H a ho o) : NoXO o := by
  have hd : ∀ {ho : HO} {kvs : List (D × D)}, RO P w K [] ps H a ho (.dct kvs) → ∀ p ∈ kvs, NoX p.1 = true ∧ NoX p.2 = true := by
    intro ho kvs h
    cases ho <;> first | exact h.elim | (rename_i u; cases u <;> exact h.elim) | skip
    · exact paired_all (F := RK K [] ps H) h fun a b z => ⟨by rw [z.1]; exact nox_dk _, z.2.nox⟩
    · obtain ⟨xs, _, r, _⟩ := h
      exact paired_all r fun a b z => ⟨z.2.2.1.nox, let ⟨v, _, r2⟩ := z.2.2.2.2; r2.nox⟩
  cases o with
  | lst xs =>
    cases ho <;> first | exact h.elim | (rename_i u; cases u <;> exact h.elim) | exact RVs.nox h
  | dct kvs => exact hd h
  | ins C fs =>
    cases ho <;> first | exact h.elim | (rename_i u; cases u <;> exact h.elim) | exact paired_all h.2 fun a b z => z.2.nox
  | lk kvs =>
    cases ho with
    | frz ob u => cases u <;> first | exact h.elim | exact hd (ho := .dK _) h | exact hd (ho := .ext _) h
    | _ => exact h.elim
theorem RO.nil {a : Addr} {ho : HO} {o : O} (h : RO P w K pn ps H a ho o) (n : NoXO o) : RO P w K [] ps H a ho o := by
  have hd : ∀ {ho : HO} {kvs : List (D × D)}, RO P w K pn ps H a ho (.dct kvs) → (∀ p ∈ kvs, NoX p.1 = true ∧ NoX p.2 = true) → RO P w K [] ps H a ho (.dct kvs) := by
    intro ho kvs h n
    cases ho <;> first | exact h.elim | (rename_i u; cases u <;> exact h.elim) | skip
    · exact paired_r (F := RK K pn ps H) (G := RK K [] ps H) h fun a b hb z => ⟨z.1, z.2.nil (n b hb).2⟩
    · obtain ⟨xs, e, r, m⟩ := h
      exact ⟨xs, e, paired_r r fun a b hb z => ⟨z.1, z.2.1, z.2.2.1.nil (n b hb).1, z.2.2.2.1, let ⟨v, r1, r2⟩ := z.2.2.2.2; ⟨v, r1, r2.nil (n b hb).2⟩⟩, m⟩
  cases o with
  | lst xs =>
    cases ho <;> first | exact h.elim | (rename_i u; cases u <;> exact h.elim) | exact RVs.nilx h n
  | dct kvs => exact hd h n
  | ins C fs =>
    cases ho <;> first | exact h.elim | (rename_i u; cases u <;> exact h.elim) | exact ⟨h.1, paired_r h.2 fun a b hb z => ⟨z.1, z.2.nil (n b hb)⟩⟩
  | lk kvs =>
    cases ho with
    | frz ob u => cases u <;> first | exact h.elim | exact hd (ho := .dK _) h n | exact hd (ho := .ext _) h n
    | _ => exact h.elim
theorem Sto.nil {m : Mu} (s : Sto P w K pn ps H m) (n : ∀ (l : Nat) (o : O), m[l]? = some o → NoXO o) : Sto P w K [] ps H m :=
  ⟨s.len, s.nd, fun l o e => let ⟨a, ho, h1, h2, h3⟩ := s.at_ l o e; ⟨a, ho, h1, h2, h3.nil (n l o e)⟩⟩
theorem Sto.nox {m : Mu} (s : Sto P w K [] ps H m) (l : Nat) (o : O) (e : m[l]? = some o) : NoXO o := let ⟨_, _, _, _, h3⟩ := s.at_ l o e; h3.nox
theorem Sto.up {m : Mu} (s : Sto P w K [] ps H m) : Sto P w K pn ps H m := ⟨s.len, s.nd, fun l o e => let ⟨a, ho, h1, h2, h3⟩ := s.at_ l o e; ⟨a, ho, h1, h2, h3.mono ⟨⟨[], by simp⟩, fun _ _ h _ => h⟩ (fun p (z : p ∈ []) => by cases z)⟩⟩
theorem RV.up {v : V} {d : D} (h : RV K [] ps H v d) : RV K pn ps H v d := h.mono ⟨⟨[], by simp⟩, fun _ _ h _ => h⟩ (fun p (z : p ∈ []) => by cases z)
end

/-! ### raise -/
/-- a class with the __init__ of Dn15 -/
def XCal1 (P : Program) (w : World) (K : PySem.W.Frag) (mg : Str → Option Value) (base : Heap) (c fl : Str) : Prop :=
  ∃ fI fd ps, mg c = some (.ref (He.ga K c)) ∧ OexC K (He.ga K c) ∧ PySem.W.findIn K (.ref (He.ga K c)) "__init__" = some (some (.ref fI)) ∧ PySem.W.typeIn K (.ref fI) = some (.type "function") ∧
    Binds K fd ps [] ∧ FnOk P w K mg base (L2.CX P w) 1 fI fd ps (spSup (He.ga K c) fl)
/-- a class without own __init__ -/
def XCal0 (K : PySem.W.Frag) (mg : Str → Option Value) (c : Str) : Prop :=
  mg c = some (.ref (He.ga K c)) ∧ PySem.W.excIn K (He.ga K c) He.veBase "ValueError.__new__" = true ∧ PySem.W.keepIn K (.ref (He.ga K c)) = true ∧ PySem.W.subIn K (.ref (He.ga K c)) (.type "BaseException") = some true ∧ PySem.W.typeIn K (.ref (He.ga K c)) = some (.type "type")
def sRaise0 (c : Str) : SX := fun ρ m => .ex (.exn c "" []) ρ m
def sRaise1 (c fl : Str) (m : EX) : SX := fun ρ mu => RS.of (adCons m adNil ρ mu) ρ fun ds m1 => match ds with
  | [d] => .ex (.exn c fl [d]) ρ m1
  | _ => .no
section
variable {X : Cx} {pn : List (Addr × Obj)}
theorem pmk_own0 {C : Addr} {bmB : List Value} {B newId initId : String} {x : Str} {p pos : Pos} (F : ExcBaseFacts B newId initId bmB) (q : PySem.W.excIn X.K C bmB newId = true) (gC : X.mg x = some (.ref C)) (kC : PySem.W.keepIn X.K (.ref C) = true) (r : Raises X (.ref C)) (hg : Gl X x)
    (hdb : (x == ("__debug__" : Str)) = false) : PMk X (.Call (.Name x p) [] [] pos) (fun _ H Q => Q (.ref C) none H) := by
  intro pins s σ H Q I h
  refine wpAny_Call_Name_kw (ld_glob I hg gC ?_ hdb)
  refine PySem.W.callWith_K0 I.kIn kC ?_
  show wpAny _ _ (call (.ref C) []) _ _ _
  obtain ⟨bm, N, nm, qn, bs, hdct, sn, sub, ab, col, dd, k0, k1, k2, k3, k5, mN, hC, hN, hni, T⟩ := exc_obj I.kIn q
  refine wpAny_call_exc_subT F T hC hN hni (fun h' e hm => ?_) (Nat.zero_le _)
  exact mk_of I hm r h (I.hok.gone hm.new)
theorem ds_raise0 {c : Str} {p pos pos' : Pos} (hc : X.calm = true) (k : XCal0 X.K X.mg c) (hg : Gl X c) (hdb : (c == ("__debug__" : Str)) = false := by decide) : DS X pn (sRaise0 c) (.Raise (some (.Call (.Name c p) [] [] pos)) none pos') := fun Wx tk =>
  PS_imp (ps_raise hc tk (pmk_own0 F.excBase_ValueError k.2.1 k.1 k.2.2.1 (raises_own k.2.2.2.1 k.2.2.2.2) hg hdb)) fun D σ H ⟨ps, ρ, μ, Rr, h⟩ => h _ _ σ H ps Grow.refl Rr ⟨c, "", [], rfl, rfl, .inl ⟨rfl, rfl⟩⟩
theorem tAD_of {D : Ends} {Wx : WX} {ps : List Addr} {σ : L2.St} {H : Hp} {ρ : Rho} {μ : Mu} {f : List Dn.D → Mu → RS} {m : AX} {k : List V → Hp → Prop} (Rr : Rl X pn ps σ H ρ μ) (h : PoS X pn Wx ps σ H D (RS.of (m ρ μ) ρ f))
    (hk : ∀ ds m1 vs H1 p1, Grow ps H p1 H1 → Rl X pn p1 σ H1 ρ m1 → RVs X.K pn p1 H1 vs ds → PoS X pn Wx ps σ H D (f ds m1) → k vs H1) : tAD X pn Wx m σ H k := by
  refine ⟨ps, ρ, μ, Rr, ?_⟩
  unfold RS.of at h
  cases q : m ρ μ with
  | ok w m1 => rw [q] at h; exact fun v H1 p1 g s r => hk w m1 v H1 p1 g (Rr.step g s) r h
  | ex e m1 => rw [q] at h; exact fun cls d H' ps' g s r => h cls d σ H' ps' g (Rr.step g s) r
  | no => rw [q] at h; exact h.elim
theorem ds_raise1 {c fl : Str} {m : EX} {e : Expr} {p pos pos' : Pos} (hc : X.calm = true) (q : XCal1 X.prog X.w X.K X.mg X.base c fl) (hr : Room 2 X.A) (hg : Gl X c) (he : DE X pn m e) (hdb : (c == ("__debug__" : Str)) = false := by decide)
    (hs : starEach [e] X.env = [(false, eval e X.env)] := by rfl) (hpl : (backTo pos (starEach [] X.env)).any (·.1) = false := by rfl) : DS X pn (sRaise1 c fl m) (.Raise (some (.Call (.Name c p) [e] [] pos)) none pos') := fun Wx tk => by
  obtain ⟨fI, fd, ps0, h1, h2, h3, h4, h5, h6⟩ := q
  refine PS_imp (ps_raise hc tk (pmk_oex (ds := []) (dvs := []) h2 h3 h4 h6 hr h5 .nil (fun pins σ H s e s' I c => passAt (W := fun _ _ _ _ => False) takes0 σ pins H s e s' I c) hg h1 (dd_cons he dd_nil hs Wx tk) hdb hs hpl)) fun D σ H ⟨ps, ρ, μ, Rr, h⟩ => ?_
  unfold sRaise1 at h
  refine tAD_of (D := D) Rr h fun ds m1 vs H1 p1 g1 R1 rv h1' => ?_
  cases rv with
  | nil => exact h1'.elim
  | @cons v vs' d ds' hv rr =>
    cases rr with
    | cons _ _ => exact h1'.elim
    | nil =>
      refine ⟨by show 1 ≤ 1000; decide, fun a ha => ⟨a, v, by simp, upd_same, fun dx hdx hne => ⟨rfl, dx, [(fl, v)], upd_same, by rw [upd_ne hne, upd_same], ?_, ?_⟩⟩⟩
      · rw [upd_ne hne] at hdx; exact hdx
      · have hd1 : H1 dx = none := by rw [upd_ne hne] at hdx; exact hdx
        have e1 : upd (del (upd (upd (upd H1 a (exo a (He.ga X.K c) none)) dx (exd dx [(fl, v)])) a (exo a (He.ga X.K c) (some dx))) a) dx (.xd [(fl, v)]) = upd H1 dx (.xd [(fl, v)]) := by
          funext b
          by_cases hb : b = dx
          · subst hb; rw [upd_same, upd_same]
          · rw [upd_ne hb, upd_ne hb]
            by_cases hba : b = a
            · subst hba; rw [del_same, ha]
            · rw [del_ne hba, upd_ne hba, upd_ne hb, upd_ne hba]
        rw [e1]
        have gn : Grow p1 H1 p1 (upd H1 dx (.xd [(fl, v)])) := Grow.new hd1
        exact h1' _ _ σ _ p1 (g1.trans gn) (R1.step gn (R1.sto.new hd1)) ⟨c, fl, [d], rfl, rfl, .inr ⟨dx, v, d, rfl, rfl, upd_same, hv.grow gn⟩⟩
end
end Dn

set_option Elab.async false
set_option linter.all false
set_option maxRecDepth 100000
set_option maxHeartbeats 4000000
set_option autoImplicit false
/-! Dn17: try .. except C as e, e.f. -/
namespace Dn
open PySem PySem.Spec PyProof.Rows L2

/-- behind an except suite nothing holds the exception -/
def EndOk (i : Nat) (ρ1 : Rho) (m1 : Mu) (ρ2 : Rho) (m2 : Mu) : Prop := (∀ (l : Nat) (o : O), m2[l]? = some o → m1[l]? = some o ∨ NoXO o) ∧ ∀ (j : Nat) (d : D), j ≠ i → ρ2[j]? = some (some d) → ρ1[j]? = some (some d) ∨ NoX d = true
def NoXF : Fl → Prop
  | .rt d => NoX d = true
  | _ => True
open Classical in
noncomputable def sTry (i : Nat) (mt : Str → Option Bool) (body suite : SX) : SX := fun ρ μ => match body ρ μ with
  | .ex (.exn C f ds) ρ1 m1 => (match mt C with
    | some true => (match suite (ρ1.set i (some (.exn C f ds))) m1 with
      | .ok fl ρ2 m2 => if EndOk i ρ1 m1 ρ2 m2 ∧ NoXF fl then .ok fl (ρ2.set i none) m2 else .no
      | _ => .no)
    | some false => .ex (.exn C f ds) ρ1 m1
    | none => .no)
  | .ex _ _ _ => .no
  | r => r
section
variable {X : Cx}
theorem PSs_and {X : Cx} {e : List Stmt} {ι : Type} {t : TS} {t' : ι → TS} (i : ι) (h : PSs X e (t' i)) (hh : ∀ D σ H, t D σ H → t' i D σ H) : PSs X e t := PSs_imp h hh
theorem slot_set {C : Cf} {pn : List (Addr × Obj)} {ps : List Addr} {σ : L2.St} {H : Hp} {ρ : Rho} {i : Nat} {v : V} {x : D} (hl : σ.length = ρ.length) (h : ∀ (j : Nat) (d : D), ρ[j]? = some (some d) → ∃ u, σ[j]? = some (some u) ∧ RV C.K pn ps H u d) (r : RV C.K pn ps H v x) :
    ∀ (j : Nat) (d : D), (ρ.set i (some x))[j]? = some (some d) → ∃ u, (σ.set i (some v))[j]? = some (some u) ∧ RV C.K pn ps H u d := by
  intro j d e
  rw [List.getElem?_set] at e ⊢
  split at e
  · rename_i q
    split at e
    · rename_i q2
      cases e
      rw [if_pos q, if_pos (by rw [hl]; exact q2)]
      exact ⟨v, rfl, r⟩
    · cases e
  · rename_i q
    rw [if_neg q]
    exact h j d e
theorem slot_del {C : Cf} {pn : List (Addr × Obj)} {ps : List Addr} {σ : L2.St} {H : Hp} {ρ : Rho} {i : Nat} (h : ∀ (j : Nat) (d : D), j ≠ i → ρ[j]? = some (some d) → ∃ u, σ[j]? = some (some u) ∧ RV C.K pn ps H u d) :
    ∀ (j : Nat) (d : D), (ρ.set i none)[j]? = some (some d) → ∃ u, (σ.set i none)[j]? = some (some u) ∧ RV C.K pn ps H u d := by
  intro j d e
  rw [List.getElem?_set] at e ⊢
  split at e
  · split at e <;> cases e
  · rename_i q
    rw [if_neg q]
    exact h j d (fun z => q z.symm) e
theorem ds_try {i : Nat} {mt : Str → Option Bool} {mb ms : SX} {body suite : List Stmt} {b₀ : Stmt} {cn n : Str} {np pos pos' : Pos} (hs : X.stack = X.env :: X.outer) (hf : X.env.frame = some X.env.locals) (hN : X.N.Nodup) (hi : X.N[i]? = some n) (hln : X.env.kindOf n = some .local) (hc : Names X cn (.ref (He.ga X.K cn)))
    (hm : ∀ C b, mt C = some b → PySem.W.exmOne X.K (.ref (He.ga X.K C)) (.ref (He.ga X.K cn)) = some b)
    (hb : ∀ (pn : List (Addr × Obj)) (xe : Value → Shared → Prop), PassesOwn (model X.prog X.w) X.A X.env xe → DSs (X.tr pn xe) [] mb body)
    (hsu : ∀ (a : Addr) (oe : Obj) (pn : List (Addr × Obj)), DSs (X.suite a ((a, oe) :: pn)) [(a, oe)] ms (b₀ :: suite)) :
    DS X [] (sTry i mt mb ms) (.Try body [.ExceptHandler (some (.Name cn np)) (some n) (b₀ :: suite) pos'] [] [] pos) := fun Wx tk =>
  PS_imp (ps_try_as (tb := fun W => tS X [] W mb) (ts := fun a cls d D σ H => ∀ oe, Zc cls d oe → (∃ vs, oe.data = .fields vs) → tS X [(a, oe)] (fun _ _ _ _ => False) ms D σ H) (Wout := Wx) hs hf hN hi hln hc tk
    (fun W pn xe tkW hx => hb pn xe hx W tkW) (fun a oe cls d pn hz hf => PSs_imp (hsu a oe pn _ takes0) fun D σ H h => h oe hz hf)) fun D σ H ⟨ps, ρ, μ, Rr, h⟩ => by
    refine ⟨ps, ρ, μ, Rr, ?_⟩
    unfold sTry at h
    cases q : mb ρ μ with
    | no => rw [q] at h; exact h.elim
    | ok f ρ' m' => rw [q] at h; cases f <;> exact h
    | ex e ρ1 m1 =>
      rw [q] at h
      intro cls d σ1 H1 p1 g1 R1 ⟨C, f, ds, ee, ec, hx⟩
      subst ee
      dsimp only at h
      subst ec
      cases q2 : mt C with
      | none => rw [q2] at h; exact h.elim
      | some b =>
        rw [q2] at h
        refine ⟨b, hm C b q2, fun hbt a ha oe hz hfl => ?_, fun hbf => ?_⟩
        · subst hbt
          dsimp only at h
          have hin : (a, oe) ∈ [(a, oe)] := List.mem_singleton.mpr rfl
          have rx : RV X.K [(a, oe)] p1 H1 (.ref a) (.exn C f ds) := by
            rcases hx with ⟨h1, h2⟩ | ⟨dx, v, x, h1, h2, h3, h4⟩
            · subst h1 h2; exact .exn0 hin hz hfl
            · subst h1 h2; exact .exn1 hin hz hfl h3 h4.up
          refine ⟨p1, ρ1.set i (some (.exn C f ds)), m1, ⟨R1.sto.up, by rw [List.length_set, List.length_set]; exact R1.len, slot_set (C := X) R1.len (fun j d e => let ⟨u, z1, z2⟩ := R1.slot j d e; ⟨u, z1, z2.up⟩) rx⟩, ?_⟩
          cases q3 : ms (ρ1.set i (some (.exn C f ds))) m1 with
          | no => rw [q3] at h; exact h.elim
          | ex e ρ2 m2 => rw [q3] at h; exact h.elim
          | ok fl ρ2 m2 =>
            rw [q3] at h
            dsimp only at h
            split at h
            · rename_i hok
              obtain ⟨⟨ok1, ok2⟩, ok3⟩ := hok
              have stn : ∀ {p2 : List Addr} {H2 : Hp}, Sto X.prog X.w X.K [(a, oe)] p2 H2 m2 → Sto X.prog X.w X.K [] p2 H2 m2 := fun {p2 H2} s => s.nil fun l o e => (ok1 l o e).elim (fun z => R1.sto.nox l o z) id
              have fin : ∀ {σ2 : L2.St} {H2 : Hp} {p2 : List Addr}, Rl X [(a, oe)] p2 σ2 H2 ρ2 m2 → Rl X [] p2 (σ2.set i none) H2 (ρ2.set i none) m2 := fun {σ2 H2 p2} R2 =>
                ⟨stn R2.sto, by rw [List.length_set, List.length_set]; exact R2.len, slot_del (C := X) fun j d hj e => by
                  obtain ⟨u, z1, z2⟩ := R2.slot j d e
                  refine ⟨u, z1, z2.nil ((ok2 j d hj e).elim (fun z => ?_) id)⟩
                  obtain ⟨u1, y1, y2⟩ := R1.slot j d z
                  exact y2.nox⟩
              cases fl with
              | nx => exact fun σ2 H2 p2 g2 R2 => h _ H2 p2 (g1.trans g2) (fin R2)
              | bk => exact fun σ2 H2 p2 g2 R2 => h _ H2 p2 (g1.trans g2) (fin R2)
              | ct => exact fun σ2 H2 p2 g2 R2 => h _ H2 p2 (g1.trans g2) (fin R2)
              | rt x => exact fun v H2 p2 g2 s2 r2 => h v H2 p2 (g1.trans g2) (stn s2) (r2.nil ok3)
            · exact h.elim
        · subst hbf
          exact h _ _ σ1 H1 p1 g1 R1 ⟨C, f, ds, rfl, rfl, hx⟩
/-- e.f of a caught exception -/
def xfW (cs : List Str) (f : Str) : Wv → Mu → Option Wv
  | .d (.exn C g [d]), _ => if C ∈ cs ∧ g = f then some (.d d) else none
  | _, _ => none
theorem d_xf {pn : List (Addr × Obj)} {cs : List Str} {m : EX} {e : Expr} {n : Str} {pos : Pos} (hpn : ∀ p ∈ pn, p ∈ X.pn) (hC : ∀ C ∈ cs, XfC X.K (He.ga X.K C) ∧ PySem.W.findIn X.K (.ref (He.ga X.K C)) n = some none) (he : DE X pn m e) (hb : attributeBase e n X.env (eval e X.env) = eval e X.env := by rfl) :
    DE X pn (x1 (xfW cs n) m) (.Attribute e n pos) := fun Wx tk => by
  refine ⟨fun pins s σ H Q I h => ?_⟩
  have h2 := x1_run h
  refine attr_of hb (thn ((he Wx tk).run pins s σ H _ I h2) fun u s1 ⟨x, H1, I1, rx, H0, ps, μ, w1, z, st, r1, e1, k⟩ => ?_)
  unfold xfW at e1
  split at e1
  · rename_i C g d
    split at e1
    · rename_i hc
      cases e1
      obtain ⟨hcs, rfl⟩ := hc
      obtain ⟨T, hno⟩ := hC C hcs
      cases r1 with
      | @exn1 a dx oe _ _ v _ hin hz hfl hxd rd =>
        obtain rfl : u = Value.ref a := rx
        obtain ⟨ha, _⟩ := I1.pin (a, oe) (List.mem_append_left _ (hpn _ hin))
        obtain ⟨vs, hd⟩ := hfl
        obtain ⟨mA, hns, hr⟩ := (show ObjOk X.prog X.w H1 s1.heap dx (.xd [(g, v)]) from I1.hok dx _ hxd)
        obtain ⟨od, ho, hl⟩ := lookIn_ns hns
        obtain ⟨u, hu, ru⟩ := RelO.some_of (v := v) (o := mA g) (by have := hr g; simpa [List.lookup] using this)
        have J : PySem.W.InstAt s1.heap a oe (He.ga X.K C) (some od) := ⟨ha, hz.1, by unfold PySem.W.notCls; rw [hd] <;> rfl, by rw [hz.2]; exact ho⟩
        exact HandSPX.exc_get I1.kIn J T.ga T.gg T.exC (PySem.W.findObj_own T.hdC hno rfl (by rw [hl, hu])) (handed_of ru) ⟨v, H1, I1.tok _, ru, k _ H1 ps Grow.refl st rd⟩
    · cases e1
  · cases e1
end
end Dn

set_option Elab.async false
set_option linter.all false
set_option maxRecDepth 100000
set_option maxHeartbeats 4000000
set_option autoImplicit false
/-! Dn18: walks of lists, tuples, locked dicts by one rule; facts by names. -/
namespace Dn
open PySem PySem.Spec PyProof.Rows L2

def iAny (m : EX) : IX := fun ρ => M.bind (m ρ) fun w => match w with
  | .d (.tup xs) => M.ret (xs, [])
  | .d (.rol xs) => M.ret (xs, [])
  | .d (.loc l) => M.opt fun mu => match mu[l]? with
    | some (.lst xs) => some (xs, [(l, .lst xs)])
    | some (.lk kvs) => some (kvs.map (·.1), [(l, .lk kvs)])
    | _ => none
  | .o (.lst xs) => M.ret (xs, [])
  | _ => M.no
section
variable {X : Cx} {pn : List (Addr × Obj)} {pins : List (Addr × Obj)} {ps : List Addr} {σ : L2.St} {H : Hp} {s : Shared} {tg e : Expr} {m : EX}
theorem it_tup {C : Cf} {a : Addr} {vs : List V} {xs : List D} (hq : SqT C.K H a vs) (rv : RVs C.K pn ps H vs xs) : ItOk C pn ps H xs [] (Itt C.K a) := by
  intro i p2 H2 m2 g s hst
  have hq2 := g.w.sqt hq
  have ru := rv.grow g
  refine ⟨fun d hd => ?_, fun hl => ⟨vs, hq2, ru.len_get hl⟩⟩
  obtain ⟨v, hv, rv⟩ := ru.get hd
  refine ⟨⟨vs, v, hq2, hv⟩, fun x H3 hy => ?_⟩
  obtain ⟨rfl, hx⟩ := hy
  have := hx vs hq2
  rw [hv] at this
  cases this
  exact ⟨Grow.refl, s, rv⟩
theorem di_any (h : DE X pn m e) : DI X pn (iAny m) tg e := fun Wx tk => by
  refine ⟨fun pins s σ H R I h0 => ?_⟩
  obtain ⟨ps, ρ, μ, Rr, h0⟩ := h0
  have he : tE X pn Wx m σ H (fun x H1 => ∃ a, x = .ref a ∧ ((∃ xs, SqL X.K H1 a xs ∧ R (Itl X.K a) H1) ∨ (∃ xs, SqT X.K H1 a xs ∧ R (Itt X.K a) H1) ∨
      ∃ ob ho kvs p1, H1 a = some (.frz ob ho) ∧ RO X.prog X.w X.K pn p1 H1 a ho (.dct kvs) ∧ ∀ J, ItOk X pn p1 H1 (kvs.map (·.1)) [] J → R J H1)) := by
    refine tE_bind (Po := PoI X pn Wx ps σ H R) Rr h0 (fun e m' h => h) (fun h => h) fun w m1 v H1 p1 g1 R1 r1 h1 => ?_
    cases w with
    | o o =>
      cases o <;> try exact h1.elim
      obtain ⟨a, ho, e1, h0, hn, e2, r⟩ := r1
      obtain ⟨vs, e3, r⟩ := r.lst
      subst e1 e3
      exact ⟨a, rfl, .inl ⟨vs, SqL.of e2, h1 _ H1 p1 g1 R1.sto (it_list r fun p2 H2 m2 g s _ => ⟨vs, SqL.of (g.keep a _ e2 hn), r.grow g⟩)⟩⟩
    | d d =>
      cases d <;> try exact h1.elim
      · obtain ⟨a, vs, ea, hq, rv⟩ := tup_ok r1
        exact ⟨a, ea, .inr (.inl ⟨vs, hq, h1 _ H1 p1 g1 R1.sto (it_tup hq rv)⟩)⟩
      · cases r1 with
        | @rol a vs _ hf r =>
          exact ⟨a, rfl, .inl ⟨vs, hf.l, h1 _ H1 p1 g1 R1.sto (it_list r fun p2 H2 m2 g s _ => ⟨vs, SqF.l (show SqF X.K H2 a vs from hf.imp (fun ⟨o, z⟩ => ⟨o, g.imm _ _ z trivial⟩) id), r.grow g⟩)⟩⟩
      · rename_i l
        cases r1 with
        | @loc a _ hl =>
          dsimp only [M.opt] at h1
          split at h1
          · rename_i z q
            split at q
            · rename_i xs q2
              cases q
              obtain ⟨ho, e1, e2⟩ := R1.sto.get q2 hl
              obtain ⟨vs, e3, r⟩ := e2.lst
              subst e3
              refine ⟨a, rfl, .inl ⟨vs, SqL.of e1, h1 _ H1 p1 g1 R1.sto (it_list r fun p2 H2 m2 g s hst => ?_)⟩⟩
              have q2 := hst (l, .lst xs) (List.mem_singleton.mpr rfl)
              obtain ⟨ho, e4, e5⟩ := s.get q2 (g.w.pre hl)
              obtain ⟨us, e6, ru⟩ := e5.lst
              subst e6
              exact ⟨us, SqL.of e4, ru⟩
            · rename_i kvs q2
              cases q
              obtain ⟨ob, ho, e1, e2⟩ := lk_get R1.sto q2 hl
              exact ⟨a, rfl, .inr (.inr ⟨ob, ho, kvs, p1, e1, e2, fun J ok => h1 J H1 p1 g1 R1.sto fun i p2 H2 m2 g s _ => ok i p2 H2 m2 g s (fun _ hx => nomatch hx)⟩)⟩
            · cases q
          · exact h1.elim
  refine thn ((h Wx tk).run pins s σ H _ I he) fun u s1 ⟨x, H1, I1, rx, a, ex, q⟩ => ?_
  subst ex
  obtain rfl : u = Value.ref a := rx
  rcases q with ⟨xs, hq, q⟩ | ⟨xs, hq, q⟩ | ⟨ob, ho, kvs, p1, hd, hr, q⟩
  · obtain ⟨its, rv, p, hz⟩ := I1.list hq
    exact wpAny_pyIter_list p.isList (pi_one (tk := s1.toks) I1 _ (turn_list a _) ⟨_, Heap.get?_push_size _ rfl, rfl, rfl⟩ q)
  · obtain ⟨its, rv, p, hz⟩ := I1.tuple hq
    exact wpAny_pyIter_tuple (show s1.heap.IsTuple a its.toArray from p) (pi_one (tk := s1.toks) I1 _ (turn_tuple a _) ⟨_, Heap.get?_push_size _ rfl, rfl, rfl⟩ q)
  · obtain ⟨hs, hgd, hx, es, ep, kv, hdt, k1, k2, k3, k4⟩ := lk_raw I1 hd hr
    exact iter_keys hs hgd hx hdt (pi_one (tk := s1.toks) I1 _ (turn_rawK _ hdt hx k1) ⟨_, Heap.get?_push_size _ rfl, rfl, rfl⟩ (q _ (it_rawK hd k3 _)))
/-! ### by names -/
theorem d_gi {x : Str} {i : Int} {pos : Pos} (hg : Gl X x) (hm : ∃ t, X.mg x = some (.int i t)) (hd : (x == ("__debug__" : Str)) = false := by decide) : DE X pn (xC (.int i)) (.Name x pos) := let ⟨_, h⟩ := hm; d_gint hg h hd
theorem cx_ty {n : String} : ∀ u, RelV (.ty n) u → u = Value.type n := fun u h => h
theorem cx_own {a : Addr} : ∀ u, RelV (.ref a) u → u = Value.ref a := fun u h => h
theorem pe_ty {x : Str} {n : String} {pos : Pos} (hg : Gl X x) (hm : X.mg x = none) (hv : bootBuiltins x = some (.type n)) (hn : x ≠ "__name__" := by decide) (hd : (x == ("__debug__" : Str)) = false := by decide) : PE X (.Name x pos) (tC (.ty n)) := pe_bltn hg hm hv rfl hn hd
theorem pe_own {x : Str} {pos : Pos} (hg : Gl X x) (hm : X.mg x = some (.ref (He.ga X.K x))) (hd : (x == ("__debug__" : Str)) = false := by decide) : PE X (.Name x pos) (tC (.ref (He.ga X.K x))) := pe_glob hg hm rfl hd
end
end Dn

set_option Elab.async false
set_option linter.all false
set_option maxRecDepth 100000
set_option maxHeartbeats 4000000
set_option autoImplicit false
/-! Dn19: the head's facts, read by a Hook with facts of one's own; defs with a captured __class__. -/
namespace Dn
open PySem PySem.Spec PyProof.Rows L2

/-! ### the Hook -/
abbrev FnC : Type := Option (Str × Str × Arguments × FuncBody × Scope × Addr × List Str × Addr)
def fnC (K : PySem.W.Frag) (p : Str × Option Str) : FnC := match K.lookup (He.fAd K p) with
  | some ⟨_, _, .func fd, _⟩ => some (fd.name, fd.qualname, fd.params, fd.body, fd.scope, fd.globals, fd.closure.map (·.1), fd.builtins)
  | _ => none
def valC (d : He.DefD × List Str) : FnC := some (d.1.name, d.1.qual, d.1.params, .stmts d.1.body, d.1.scope, mainGlobals, d.2, builtinsNs)
abbrev AlN : Type := Bool × List FnC
abbrev Fb := PySem.W.Frag → Bool
def obsN (fb : List Fb) (fn : List (He.DefD × List Str)) (K : PySem.W.Frag) : AlN := ((fb.all fun f => f K) && fn.all fun d => d.1.ok K, fn.map fun d => fnC K d.1.at_)
def valN (fn : List (He.DefD × List Str)) : AlN := (true, fn.map valC)
def SaysN (fb : List Fb) (fn : List (He.DefD × List Str)) (K : PySem.W.Frag) : Prop := obsN fb fn K = valN fn
def asN (g : Addr → Option Obj) (n : Nat) : List Addr := cStatics :: He.asD g n
def obsNG (n : Nat) (fb : List Fb) (fn : List (He.DefD × List Str)) (g : Addr → Option Obj) : AlN := obsN fb fn (He.frG g (asN g n))
def hookN (n : Nat) (fb : List Fb) (fn : List (He.DefD × List Str)) : PySem.W.Hook where
  α := AlN
  obs := fun s => obsNG n fb fn s.heap.get?
  val := fun _ => valN fn
  says := fun _ h => ∃ K : PySem.W.Frag, K.In h ∧ SaysN fb fn K
  of := fun _ _ e => ⟨_, He.frG_in, e⟩
  keeps := fun _ _ _ ⟨K, hK, c⟩ k => ⟨K, PySem.W.Frag.In.keeps hK k, c⟩
theorem obsNG_eq {n : Nat} {fb : List Fb} {fn : List (He.DefD × List Str)} {g : Addr → Option Obj} {s : Shared} (h : ∀ a, g a = s.heap.get? a) : obsNG n fb fn g = (hookN n fb fn).obs s := by
  have e : g = s.heap.get? := funext h
  rw [e] <;> rfl
section
variable {fb : List Fb} {fn : List (He.DefD × List Str)} {K : PySem.W.Frag}
theorem SaysN.fact (c : SaysN fb fn K) (i : Nat) {f : Fb} (h : fb[i]? = some f := by rfl) : f K = true := by
  have c1 := (He.ba (show ((fb.all fun f => f K) && fn.all fun d => d.1.ok K) = true from congrArg (fun z : AlN => z.1) c)).1
  exact List.all_eq_true.mp c1 f (List.mem_of_getElem? h)
theorem SaysN.at_ (c : SaysN fb fn K) (i : Nat) {d : He.DefD × List Str} (h : fn[i]? = some d) : fnC K d.1.at_ = valC d ∧ d.1.ok K = true := by
  have c2 := (He.ba (show ((fb.all fun f => f K) && fn.all fun d => d.1.ok K) = true from congrArg (fun z : AlN => z.1) c)).2
  have e : fn.map (fun d => fnC K d.1.at_) = fn.map valC := congrArg (fun z : AlN => z.2) c
  have e2 : (fn.map fun d => fnC K d.1.at_)[i]? = (fn.map valC)[i]? := by rw [e]
  rw [List.getElem?_map, List.getElem?_map, h] at e2
  exact ⟨Option.some.inj e2, List.all_eq_true.mp c2 d (List.mem_of_getElem? h)⟩
theorem SaysN.def_ (c : SaysN fb fn K) (i : Nat) {d : He.DefD} (h : fn[i]? = some (d, []) := by rfl) : ∃ fd, FunD K d.name d.qual d.params d.body d.scope (d.dvs K) (d.kws K) (He.fAd K d.at_) fd := by
  obtain ⟨e, ok⟩ := c.at_ i h
  refine He.DefD.funD ?_ ok
  unfold fnC valC at e
  unfold He.fnW He.DefD.val
  split at e
  · rename_i fd _ q
    simp only [Option.some.injEq, Prod.mk.injEq, List.map_eq_nil_iff] at e
    obtain ⟨h1, h2, h3, h4, h5, h6, h7, h8⟩ := e
    rw [q]
    dsimp only
    rw [h1, h2, h3, h4, h5, h6, h7, h8]
  · cases e
theorem SaysN.sup (c : SaysN fb fn K) (i : Nat) {d : He.DefD} (h : fn[i]? = some (d, [("__class__" : Str)]) := by rfl) : ∃ oc od osl dV kV doc pm an cdv ct cc, K.lookup (He.fAd K d.at_) = some ⟨oc, od, .func (PySem.W.ksFn d.name d.qual d.params d.body d.scope dV kV doc pm an cdv ct cc), osl⟩ ∧ PySem.W.codeIn K cdv d.qual = true ∧ He.dflB K dV (d.dvs K) = true := by
  obtain ⟨e, ok⟩ := c.at_ i h
  obtain ⟨kp, c2⟩ := He.ba ok
  unfold fnC valC at e
  cases q : K.lookup (He.fAd K d.at_) with
  | none => rw [q] at c2; cases c2
  | some o =>
    obtain ⟨oc, od, dt, osl⟩ := o
    rw [q] at c2 e
    cases dt with
    | func fd =>
      obtain ⟨n1, n2, n3, n4, n5, n6, n7, n8, n9, n10, n11, n12, n13, n14, n15⟩ := fd
      simp only [Option.some.injEq, Prod.mk.injEq] at e
      obtain ⟨h1, h2, h3, h4, h5, h6, h7, h8⟩ := e
      have : ∃ cc : Addr, n7 = [(("__class__" : Str), cc)] := by
        cases n7 with
        | nil => cases h7
        | cons p r =>
          cases r with
          | nil =>
            obtain ⟨x, cc⟩ := p
            simp at h7
            exact ⟨cc, by rw [h7]⟩
          | cons _ _ => simp at h7
      obtain ⟨cc, rfl⟩ := this
      subst h1 h2 h3 h4 h5 h6 h8
      obtain ⟨k1, k2⟩ := He.ba (show (PySem.W.codeIn K n13 d.qual && (He.dflB K n8 (d.dvs K) && He.kwdB K n9 (d.kws K))) = true from c2)
      exact ⟨oc, od, osl, n8, n9, n10, n11, n12, n13, n14, cc, rfl, k1, (He.ba k2).1⟩
    | _ => cases c2
end

/-! ### facts -/
def eqOB (a : Option Bool) (b : Bool) : Bool := match a with
  | some c => c == b
  | none => false
theorem eqOB_ok {a : Option Bool} {b : Bool} (h : eqOB a b = true) : a = some b := by
  unfold eqOB at h
  split at h
  · rw [beq_iff_eq.mp h]
  · cases h
def insB (C : Str) : Fb := fun K => (He.Fa.cls C).ok K && (He.eqO (PySem.W.findIn K (.ref (He.ga K C)) "__class__") (some (some (.builtin "object.__class__"))) && (He.eqO (PySem.W.specialIn K (.builtin "object.__class__") "__get__") (some (some (.builtin "getset_descriptor.__get__"))) &&
  (eqOB (PySem.W.takesIn K (.builtin "object.__class__")) true && eqOB (PySem.W.mroIn K (He.ga K C) (.type "object")) true)))
theorem insB_ok {C : Str} {K : PySem.W.Frag} (h : insB C K = true) : InsK K C := by
  obtain ⟨h1, h⟩ := He.ba h
  obtain ⟨h2, h⟩ := He.ba h
  obtain ⟨h3, h⟩ := He.ba h
  obtain ⟨h4, h5⟩ := He.ba h
  exact ⟨He.cls_ok h1, He.eqO_ok h2, He.eqO_ok h3, eqOB_ok h4, eqOB_ok h5⟩
def excB (C : Str) : Fb := fun K => He.eqO (PySem.W.findIn K (.ref (He.ga K C)) "__getattribute__") (some (some (.builtin "BaseException.__getattribute__"))) && (He.eqO (PySem.W.findIn K (.ref (He.ga K C)) "__getattr__") (some none) && (eqOB (PySem.W.subIn K (.ref (He.ga K C)) (.type "BaseException")) true &&
  (PySem.W.hasDictIn K (He.ga K C) && (He.eqO (PySem.W.findIn K (.ref (He.ga K C)) "__class__") (some (some (.builtin "object.__class__"))) && (He.eqO (PySem.W.specialIn K (.builtin "object.__class__") "__get__") (some (some (.builtin "getset_descriptor.__get__"))) &&
  (eqOB (PySem.W.takesIn K (.builtin "object.__class__")) true && eqOB (PySem.W.mroIn K (He.ga K C) (.type "object")) true))))))
theorem excB_ok {C : Str} {K : PySem.W.Frag} (h : excB C K = true) : L2.ExcC K (He.ga K C) := by
  obtain ⟨h1, h⟩ := He.ba h
  obtain ⟨h2, h⟩ := He.ba h
  obtain ⟨h3, h⟩ := He.ba h
  obtain ⟨h4, h⟩ := He.ba h
  obtain ⟨h5, h⟩ := He.ba h
  obtain ⟨h6, h⟩ := He.ba h
  obtain ⟨h7, h8⟩ := He.ba h
  exact ⟨He.eqO_ok h1, He.eqO_ok h2, eqOB_ok h3, h4, He.eqO_ok h5, He.eqO_ok h6, eqOB_ok h7, eqOB_ok h8⟩
/-- a built-in type is asked -/
def askT (T : String) (own : List Str) (exc : List (Str × Bool)) : Fb := fun K => (own.all fun C => insB C K && eqOB (PySem.W.kitOne K (.ref (He.ga K C)) (.type T)) false) && exc.all fun p => excB p.1 K && eqOB (PySem.W.kitOne K (.ref (He.ga K p.1)) (.type T)) p.2
theorem askT_ok {T : String} {own : List Str} {exc : List (Str × Bool)} {bt : BT → Bool} {K : PySem.W.Frag} (hb : ∀ t : BT, PySem.W.kitOne K (.type t.nm) (.type T) = some (bt t)) (h : askT T own exc K = true) : AskK K (.type T) own exc bt (fun _ => false) := by
  obtain ⟨h1, h2⟩ := He.ba h
  refine ⟨hb, fun C hC => ?_, fun p hp => ?_⟩
  · obtain ⟨a, b⟩ := He.ba (List.all_eq_true.mp h1 C hC)
    exact ⟨insB_ok a, eqOB_ok b⟩
  · obtain ⟨a, b⟩ := He.ba (List.all_eq_true.mp h2 p hp)
    exact ⟨excB_ok a, eqOB_ok b⟩
theorem askB_ok {b : BT} {own : List Str} {K : PySem.W.Frag} (hb : b ≠ .non) (h : askT b.nm own [] K = true) : AskK K (.type b.nm) own [] (BT.sub · b) (fun _ => false) := askT_ok (fun t => BT.sub_ok K t b hb) h
theorem askVE_ok {own : List Str} {exc : List (Str × Bool)} {K : PySem.W.Frag} (h : askT "ValueError" own exc K = true) : AskK K (.type "ValueError") own exc (fun _ => false) (fun _ => false) := askT_ok (fun t => kit_ty (by cases t <;> decide +kernel)) h
def allBT : List BT := [.non, .bl, .int, .str, .tup, .lst, .dct]
theorem mem_allBT (t : BT) : t ∈ allBT := by cases t <;> simp [allBT]
/-- an own class is asked -/
def askC (c : Str) (own : List Str) (exc : List (Str × Bool)) (ow : Str → Bool) : Fb := fun K => (allBT.all fun t => eqOB (PySem.W.kitOne K (.type t.nm) (.ref (He.ga K c))) false) && ((own.all fun C => insB C K && eqOB (PySem.W.kitOne K (.ref (He.ga K C)) (.ref (He.ga K c))) (ow C)) &&
  exc.all fun p => excB p.1 K && eqOB (PySem.W.kitOne K (.ref (He.ga K p.1)) (.ref (He.ga K c))) p.2)
theorem askC_ok {c : Str} {own : List Str} {exc : List (Str × Bool)} {ow : Str → Bool} {K : PySem.W.Frag} (h : askC c own exc ow K = true) : AskK K (.ref (He.ga K c)) own exc (fun _ => false) ow := by
  obtain ⟨h0, h⟩ := He.ba h
  obtain ⟨h1, h2⟩ := He.ba h
  refine ⟨fun t => eqOB_ok (List.all_eq_true.mp h0 t (mem_allBT t)), fun C hC => ?_, fun p hp => ?_⟩
  · obtain ⟨a, b⟩ := He.ba (List.all_eq_true.mp h1 C hC)
    exact ⟨insB_ok a, eqOB_ok b⟩
  · obtain ⟨a, b⟩ := He.ba (List.all_eq_true.mp h2 p hp)
    exact ⟨excB_ok a, eqOB_ok b⟩
def attB (t : ATab) : Fb := fun K => t.all fun p => (He.Fa.cls p.1).ok K && p.2.all fun f => (He.Fa.noat p.1 f).ok K
theorem attB_ok {t : ATab} {K : PySem.W.Frag} (h : attB t K = true) : ATab.Ok K t := fun c fs hm => by
  obtain ⟨a, b⟩ := He.ba (List.all_eq_true.mp h (c, fs) hm)
  exact ⟨He.cls_ok a, fun f hf => He.noat_ok (List.all_eq_true.mp b f hf)⟩
def xmB (t : List (Str × Bool)) (c : Str) : Fb := fun K => t.all fun p => eqOB (PySem.W.exmOne K (.ref (He.ga K p.1)) (.ref (He.ga K c))) p.2
theorem xmB_ok {t : List (Str × Bool)} {c : Str} {K : PySem.W.Frag} (h : xmB t c K = true) : ∀ C b, (t.find? fun p => decide (p.1 = C)).map (·.2) = some b → PySem.W.exmOne K (.ref (He.ga K C)) (.ref (He.ga K c)) = some b := fun C b e => by
  obtain ⟨p, hp, e2⟩ := Option.map_eq_some_iff.mp e
  have hc := List.find?_some hp
  have hc : p.1 = C := of_decide_eq_true hc
  have := eqOB_ok (List.all_eq_true.mp h p (List.mem_of_find?_eq_some hp))
  rw [hc, e2] at this
  exact this
def xfsB (cs : List Str) (f : Str) : Fb := fun K => cs.all fun C => xfB K (He.ga K C) && (He.Fa.noat C f).ok K
theorem xfsB_ok {cs : List Str} {f : Str} {K : PySem.W.Frag} (h : xfsB cs f K = true) : ∀ C ∈ cs, XfC K (He.ga K C) ∧ PySem.W.findIn K (.ref (He.ga K C)) f = some none := fun C hC => by
  obtain ⟨a, b⟩ := He.ba (List.all_eq_true.mp h C hC)
  exact ⟨xfB_ok a, He.noat_ok b⟩
/-- an exception class over ValueError -/
def oexB (K : PySem.W.Frag) (C : Addr) : Bool := (match K.lookup C with
  | some ⟨.type t, _, .cls cd, sl⟩ => (match cd.mro, sl.toList with
    | .ref C' :: bm, [_, _, _, _, some (.builtin n), _] => decide (t = "type") && (C' == C && (n == "ValueError.__new__" && (!cd.hasDel && (cd.hasDict && HandSPX.refsVE bm))))
    | _, _ => false)
  | _ => false) && (He.eqO (PySem.W.findIn K (.ref C) "__setattr__") (some (some (.builtin "object.__setattr__"))) && (eqOB (PySem.W.subIn K (.ref C) (.type "BaseException")) true && (decide (PySem.W.typeIn K (.ref C) = some (.type "type")) && PySem.W.keepIn K (.ref C))))
theorem oexB_ok {K : PySem.W.Frag} {C : Addr} (h : oexB K C = true) : OexC K C := by
  obtain ⟨q, h⟩ := He.ba h
  obtain ⟨h1, h⟩ := He.ba h
  obtain ⟨h2, h⟩ := He.ba h
  obtain ⟨h3, h4⟩ := He.ba h
  refine ⟨?_, He.eqO_ok h1, eqOB_ok h2, of_decide_eq_true h3, h4⟩
  split at q
  · rename_i t dd cd sl ho
    split at q
    · rename_i C' bm k0 k1 k2 k3 n k5 hm hs
      simp only [Bool.and_eq_true, beq_iff_eq, Bool.not_eq_true', decide_eq_true_eq] at q
      obtain ⟨rfl, rfl, rfl, hdel, hd, hv⟩ := q
      obtain ⟨nm, bs, mro, ns, qn, hd', sn, sub, ab, col, del⟩ := cd
      dsimp only at hm hdel hd
      subst hm hdel hd
      have hsl : sl = #[k0, k1, k2, k3, some (.builtin "ValueError.__new__"), k5] := by
        obtain ⟨l⟩ := sl
        simp only at hs
        rw [hs]
      subst hsl
      exact ⟨nm, qn, ns, bs, bm, sn, sub, ab, col, dd, k0, k1, k2, k3, k5, ho, hv⟩
    · cases q
  · cases q
/-- a class with the __init__ of Dn15 -/
def supB (c fl file : Str) : Fb := fun K => oexB K (He.ga K c) && (He.eqO (PySem.W.findIn K (.ref (He.ga K c)) "__init__") (some (some (.ref (He.ma K (He.ga K c) "__init__")))) && (decide (PySem.W.typeIn K (.ref (He.ma K (He.ga K c) "__init__")) = some (.type "function")) &&
  ((match K.lookup (He.ma K (He.ga K c) "__init__") with
    | some ⟨_, _, .func fd, _⟩ => (match fd.code, fd.closure with
      | .ref cda, [(_, cc)] => (match K.lookup cda with
        | some ⟨_, _, .fields vs, _⟩ => (match (vs[2]? : Option Value) with
          | some (Value.str f _) => (file == f)
          | _ => false)
        | _ => false) && (match K.lookup cc with
        | some ⟨_, _, .cell (some (.ref D)), _⟩ => D == He.ga K c
        | _ => false)
      | _, _ => false)
    | _ => false) && (eqOB (PySem.W.mroIn K (He.ga K c) (.ref (He.ga K c))) true && (He.eqO (PySem.W.nsIn K mainGlobals "super") (some none) && (He.eqO (PySem.W.nsIn K cStatics "thirdparty.any") (some none) &&
  (He.eqO (PySem.W.ks_superIn K (He.ga K c) (He.ga K c) "__init__") (some (some (.builtin "ValueError.__init__"))) && (eqOB (PySem.W.subIn K (.ref (He.ga K c)) (.type "ValueError")) true && He.eqO (PySem.W.findIn K (.ref (He.ga K c)) fl) (some none)))))))))
theorem supB_ok {P : Program} {c fl : Str} {K : PySem.W.Frag} {nm qual : Str} {params : Arguments} {body : List Stmt} {scope : Scope} (h : supB c fl P.main.file K = true)
    {oc : Value} {od : Option Addr} {osl : Array (Option Value)} {dV kV doc pm cdv ct : Value} {an : Option Addr} {cc : Addr} (hl : K.lookup (He.ma K (He.ga K c) "__init__") = some ⟨oc, od, .func (PySem.W.ksFn nm qual params body scope dV kV doc pm an cdv ct cc), osl⟩) (hc : PySem.W.codeIn K cdv qual = true) :
    PySem.W.findIn K (.ref (He.ga K c)) "__init__" = some (some (.ref (He.ma K (He.ga K c) "__init__"))) ∧ PySem.W.typeIn K (.ref (He.ma K (He.ga K c) "__init__")) = some (.type "function") ∧ ∃ cda, cdv = .ref cda ∧ SupK P K (He.ga K c) (He.ma K (He.ga K c) "__init__") cc cda nm qual params body scope fl := by
  obtain ⟨h1, h⟩ := He.ba h
  obtain ⟨h2, h⟩ := He.ba h
  obtain ⟨h3, h⟩ := He.ba h
  obtain ⟨h4, h⟩ := He.ba h
  obtain ⟨h5, h⟩ := He.ba h
  obtain ⟨h6, h⟩ := He.ba h
  obtain ⟨h7, h⟩ := He.ba h
  obtain ⟨h8, h⟩ := He.ba h
  obtain ⟨h9, h10⟩ := He.ba h
  refine ⟨He.eqO_ok h2, of_decide_eq_true h3, ?_⟩
  rw [hl] at h4
  dsimp only at h4
  cases cdv with
  | ref cda =>
    dsimp only at h4
    obtain ⟨a, b⟩ := He.ba h4
    split at a
    · rename_i oc2 od2 vs sl2 q
      split at a
      · rename_i f t qv
        split at b
        · rename_i oc3 od3 Dd sl3 q3
          have eD := beq_iff_eq.mp b
          subst eD
          exact ⟨cda, rfl, oexB_ok h1, hc, ⟨oc2, od2, vs, sl2, f, t, q, qv, a⟩, ⟨oc3, od3, sl3, q3⟩, eqOB_ok h5, He.eqO_ok h6, He.eqO_ok h7, He.eqO_ok h8, eqOB_ok h9, He.eqO_ok h10⟩
        · cases b
      · cases a
    · cases a
  | _ => cases h4
theorem xcal1_ok {P : Program} {w : World} {K : PySem.W.Frag} {mg : Str → Option Value} {base : Heap} {c fl nm qual : Str} {params : Arguments} {body : List Stmt} {scope : Scope} {a x tx : Str} {p0 p1 p2 p3 p4 p5 q0 q1 q2 q3 : Pos} {j : Nat} (hg : mg c = some (.ref (He.ga K c))) (h : supB c fl P.main.file K = true)
    (hf : ∃ oc od osl dV kV doc pm an cdv ct cc, K.lookup (He.ma K (He.ga K c) "__init__") = some ⟨oc, od, .func (PySem.W.ksFn nm qual params body scope dV kV doc pm an cdv ct cc), osl⟩ ∧ PySem.W.codeIn K cdv qual = true ∧ He.dflB K dV [] = true)
    (hbody : body = supBody tx fl a x p0 p1 p2 p3 p4 p5 q0 q1 q2 q3 j) (Sc : NdefX.NScope [a, x, "__class__"] [a, x] ["__class__"] scope) (hax : (x == a) = false) (hd1 : (a == ("__debug__" : Str)) = false) (hd2 : (a == ("__classdict__" : Str)) = false) (hd3 : (x == ("__debug__" : Str)) = false) (hd4 : (x == ("__classdict__" : Str)) = false)
    (hhead : ∃ ar, (params.posonlyargs ++ params.args).head? = some ar ∧ ar.arg = a) (hks : scope.names.lookup ("super" : Str) = some .globalImplicit) (htop : (P.main.scope.names.lookup ("super" : Str)).isSome = false)
    (hc : ∀ env : Env, ∃ pl : Sem Bool, eval (.Call (.Attribute (.Call (.Name "super" p0) [] [] p1) "__init__" p2) [.Constant (.str tx) j p3] [] p4) env = (do
      let ov ← attributeBase (.Call (.Name "super" p0) [] [] p1) "__init__" env (eval (.Call (.Name "super" p0) [] [] p1) env)
      standAt p2.atName
      let (f, first) ← holding [ov] (getMethod ov "__init__" pl)
      callWith p4 f first (backTo p4 (starEach [.Constant (.str tx) j p3] env)) []))
    (hi : ∀ env : Env, swapsWith (.Call (.Attribute (.Call (.Name "super" p0) [] [] p1) "__init__" p2) [.Constant (.str tx) j p3] [] p4) none p5.line env = pure false)
    (hin : ∀ (L f : Addr) (cd : Value) (cl : List (Str × Addr)), interactive (PySem.W.envX qual scope L f cd cl) = false)
    (hsw : ∀ env : Env, swapsWith (.Name x q2) (some (.Attribute (.Name a q0) fl q1)) q3.line env = pure false)
    (he : ∀ env : Env, starEach [.Constant (.str tx) j p3] env = [(false, eval (.Constant (.str tx) j p3) env)])
    (hb : ∀ (kV doc pm : Value) (an : Option Addr) (cdv ct : Value) (cc : Addr) (us : List Value), us.length = 2 → bindArgs (PySem.W.ksFn nm qual params body scope .none kV doc pm an cdv ct cc) ⟨us, []⟩ = pure ([a, x].zip us)) : XCal1 P w K mg base c fl := by
  obtain ⟨oc, od, osl, dV, kV, doc, pm, an, cdv, ct, cc, hl, hcd, hD⟩ := hf
  obtain ⟨h1, h2, cda, rfl, S⟩ := supB_ok h hl hcd
  have : dV = .none := by cases dV <;> first | rfl | cases hD
  subst this
  exact ⟨_, _, [a, x], hg, S.oex, h1, h2, Binds.all fun us hu => hb kV doc pm an (.ref cda) ct cc us hu, sup_ok hbody S Sc hax hd1 hd2 hd3 hd4 hhead hks htop hc hi hin hsw he hl⟩
end Dn

set_option Elab.async false
set_option linter.all false
set_option maxRecDepth 100000
set_option maxHeartbeats 4000000
set_option autoImplicit false
/-! Dn20: the end. -/
namespace Dn
open PySem PySem.Spec PyProof.Rows L2

def cxAny (P : Program) : CXT := fun outer H s E u s' => ∃ w, L2.CX P w outer H s E u s'
theorem cxAny_no {P : Program} (H : Hp) (s : Shared) (e : Value) (s' : Shared) (h : cxAny P [] H s (fun _ _ _ => False) e s') : False := by
  obtain ⟨w, _, _, _, _, _, _, _, _, _, _, _, _, z⟩ := h
  exact z
theorem fnOk_any {P : Program} {w : World} {K : PySem.W.Frag} {mg : Str → Option Value} {base : Heap} {k : Nat} {f : Addr} {fd : FuncData} {ps : List Str} {sp : Sp} (F : FnOk P w K mg base (L2.CX P w) k f fd ps sp) : FnOk P w K mg base (cxAny P) k f fd ps sp :=
  ⟨F.len, fun A outer s H args us vs Q E hr he hb hv hs => codeAny_mono (F.run A outer s H args us vs Q E hr he hb hv hs) fun r s' h => by
    cases r with
    | error e => exact ⟨w, h⟩
    | ok fl => cases fl <;> exact h⟩
theorem sp_law {P : Program} {w : World} {K : PySem.W.Frag} {F : FM} (hF : ∀ ns : List Int, ns.length ≤ 63 → ∃ m, F [.rol (ns.map D.int)] [] = .ok (.bl true) m) (H : Hp) (a : Addr) (ns : List Int) (hl : ns.length ≤ 63) (hO : Only H) (hS : SqL K H a (ns.map V.int)) :
    spF P w K 1 F [.ref a] H (fun v _ => v = .bl true) (fun _ _ _ => False) := by
  have rv : ∀ ns : List Int, RVs K [] [] H (ns.map V.int) (ns.map D.int) := fun ns => by
    induction ns with
    | nil => exact .nil
    | cons n ns ih => exact .cons (.int n) ih
  have sq : SqF K H a (ns.map V.int) := by
    rcases hS with (h | h) | h
    · rcases hO a with z | ⟨o, xs, z⟩
      · rw [h] at z; cases z
      · rw [h] at z; cases z
    · exact .inl h
    · exact .inr h
  obtain ⟨m, e⟩ := hF ns hl
  refine ⟨[], [.rol (ns.map D.int)], [], rfl, ⟨rfl, List.nodup_nil, fun l o h => by simp at h⟩, .cons (.rol sq (rv ns)) .nil, ?_⟩
  rw [e]
  intro v H' ps' g s r
  cases r
  rfl
end Dn

set_option Elab.async false
set_option linter.all false
set_option maxRecDepth 100000
set_option maxHeartbeats 8000000
set_option autoImplicit false
namespace Dn
open PySem PySem.Spec PyProof.Rows L2
def top (i : Nat) : Stmt := PySem.Challenge.pw_heardseams_k67_books_too_large_to_be_loo.main.body.getD i (.Pass ⟨0, 0, 0, 0⟩)
def meth (i j : Nat) : Stmt := match top i with
  | .ClassDef _ _ _ b _ _ _ _ _ _ _ => b.getD j (.Pass ⟨0, 0, 0, 0⟩)
  | _ => .Pass ⟨0, 0, 0, 0⟩
def owns : List Str := ["Book"]
def atab : ATab := [("Book", ["kept_sounds", "kept_ahead", "kept_behind", "kept_table"])]
def xsub (c : Str) : List (Str × Bool) := [("SeamError", ["SeamError"]), ("NoWords", ["NoWords", "SeamError"]), ("NoBook", ["NoBook", "SeamError"]), ("TooMany", ["TooMany", "SeamError"])].map fun p => (p.1, p.2.any fun b => decide (b = c))
def xall : List (Str × Bool) := [("SeamError", true), ("NoWords", true), ("NoBook", true), ("TooMany", true)]
def xmt (c C : Str) : Option Bool := ((xsub c).find? fun p => decide (p.1 = C)).map (·.2)
structure Fx (P : Program) (w : World) (K : PySem.W.Frag) (mg : Str → Option Value) (base : Heap) : Prop where
  att : ATab.Ok K atab
  e_SeamError : ∀ C b, xmt "SeamError" C = some b → PySem.W.exmOne K (.ref (He.ga K C)) (.ref (He.ga K "SeamError")) = some b
  f_most : ∀ C ∈ (["TooMany"] : List Str), XfC K (He.ga K C) ∧ PySem.W.findIn K (.ref (He.ga K C)) "most" = some none
  g_NoWords : mg "NoWords" = some (.ref (He.ga K "NoWords"))
  g_SeamError : mg "SeamError" = some (.ref (He.ga K "SeamError"))
  g_TooMany : mg "TooMany" = some (.ref (He.ga K "TooMany"))
  i_MOST_ENTRIES : ∃ t, mg "MOST_ENTRIES" = some (.int 4000 t)
  i_MOST_SIDE : ∃ t, mg "MOST_SIDE" = some (.int 4 t)
  i_MOST_SOUNDS : ∃ t, mg "MOST_SOUNDS" = some (.int 8 t)
  i_MOST_TRIPLES : ∃ t, mg "MOST_TRIPLES" = some (.int 20000 t)
  k_NoWords : AskK K (.ref (He.ga K "NoWords")) owns (xsub "NoWords") (fun _ => false) (fun c => decide (c = "NoWords"))
  k_TooMany : AskK K (.ref (He.ga K "TooMany")) owns (xsub "TooMany") (fun _ => false) (fun c => decide (c = "TooMany"))
  k_bool : AskK K (.type "bool") owns [] (BT.sub · .bl) (fun _ => false)
  k_dict : AskK K (.type "dict") owns [] (BT.sub · .dct) (fun _ => false)
  k_int : AskK K (.type "int") owns [] (BT.sub · .int) (fun _ => false)
  k_tuple : AskK K (.type "tuple") owns [] (BT.sub · .tup) (fun _ => false)
  n_abs : mg "abs" = none
  n_all : mg "all" = none
  n_bool : mg "bool" = none
  n_dict : mg "dict" = none
  n_int : mg "int" = none
  n_isinstance : mg "isinstance" = none
  n_len : mg "len" = none
  n_range : mg "range" = none
  n_tuple : mg "tuple" = none
  x_NoBook : XCal1 P w K mg base "NoBook" "part"
  x_TooMany : XCal1 P w K mg base "TooMany" "most"
/-- def _law_dice(_law_script): -/
noncomputable def m__law_dice : SX :=
  (sRet (xLst (adCons (xLc (iAny (xSl (xVar 0) oNo (oI (xC (.int 63))))) [1] (gN 1) ttYes (xCB absC (aCons (xCB intC (aCons (xVar 1) aNil)) aNil))) (adCons (xC (.int 0)) (adCons (xC (.int 0)) (adCons (xC (.int 1)) (adCons (xC (.int 0)) adNil)))))))
noncomputable def fm__law_dice : FM := fnM 1 2 m__law_dice
/-- def _law_draw(_law_dice_here, _law_sides): -/
noncomputable def m__law_draw : SX :=
  (sSeq (sIf (xtAnd (xB (x2 eqW (x2 ixA (xVar 0) (xC (.int 2))) (xC (.int 0)))) (xB (x2 ltW (x2 ixA (xVar 0) (xC (.int 1))) (xCB lenC (aCons (x2 ixA (xVar 0) (xC (.int 0))) aNil))))) (sSeq (sSet 2 (x2 ixA (x2 ixA (xVar 0) (xC (.int 0))) (x2 ixA (xVar 0) (xC (.int 1)))))
    (sSeq (sSub setA (xVar 0) (xC (.int 1)) (x2 addW (x2 ixA (xVar 0) (xC (.int 1))) (xC (.int 1))))
    (sIf (xB (x2 geW (xVar 2) (x2 powW (xC (.int 10)) (xC (.int 18))))) (sSub setA (xVar 0) (xC (.int 2)) (xVar 2)) (sSub setA (xVar 0) (xC (.int 3)) (x2 modW (xCB intC (aCons (x2 addW (x2 addW (x2 mulW (x2 ixA (xVar 0) (xC (.int 3))) (xC (.int 69621))) (x2 mulW (xVar 2) (xC (.int 40692)))) (x2 ixA (xVar 0) (xC (.int 1)))) aNil)) (xC (.int 2147483647))))))) sNil)
    (sSeq (sIf (xB (x2 gtW (x2 ixA (xVar 0) (xC (.int 2))) (xC (.int 0)))) (sSeq (sSet 3 (x2 modW (xCB intC (aCons (x2 ixA (xVar 0) (xC (.int 2))) aNil)) (xVar 1)))
    (sSeq (sSub setA (xVar 0) (xC (.int 2)) (x2 fdivW (xCB intC (aCons (x2 ixA (xVar 0) (xC (.int 2))) aNil)) (xVar 1)))
    (sRet (xVar 3)))) sNil)
    (sSeq (sSub setA (xVar 0) (xC (.int 4)) (x2 addW (x2 ixA (xVar 0) (xC (.int 4))) (xC (.int 1))))
    (sSeq (sSub setA (xVar 0) (xC (.int 3)) (x2 modW (xCB intC (aCons (x2 addW (x2 addW (x2 mulW (x2 ixA (xVar 0) (xC (.int 3))) (xC (.int 48271))) (x2 mulW (x2 ixA (xVar 0) (xC (.int 4))) (xC (.int 7919)))) (xC (.int 1))) aNil)) (xC (.int 2147483647))))
    (sSeq (sSet 4 (x2 modW (xCB intC (aCons (x2 mulW (x2 ixA (xVar 0) (xC (.int 3))) (x2 addW (x2 fdivW (x2 ixA (xVar 0) (xC (.int 3))) (xC (.int 1009))) (xC (.int 69623)))) aNil)) (xC (.int 2147483399))))
    (sSeq (sSet 4 (x2 modW (xCB intC (aCons (x2 mulW (xVar 4) (x2 addW (x2 fdivW (xVar 4) (xC (.int 2003))) (xC (.int 40693)))) aNil)) (xC (.int 2147483563))))
    (sRet (x2 modW (xCB intC (aCons (x2 fdivW (xVar 4) (xC (.int 16))) aNil)) (xVar 1)))))))))
noncomputable def fm__law_draw : FM := fnM 2 5 m__law_draw
/-- def _law_like(_law_dice_here, _law_sounds, _law_row_here): -/
noncomputable def m__law_like : SX :=
  (sRet (xCB tupleC (aCons (xLc (iAny (xVar 2)) [3] (gN 3) ttYes (xIf (xB (x2 eqW (xCall 2 fm__law_draw (adCons (xVar 0) (adCons (xC (.int 2)) adNil))) (xC (.int 0)))) (xCall 2 fm__law_draw (adCons (xVar 0) (adCons (xVar 1) adNil))) (xVar 3))) aNil)))
noncomputable def fm__law_like : FM := fnM 3 4 m__law_like
/-- def _law_many_rows(_law_sounds, _law_most): -/
noncomputable def m__law_many_rows : SX :=
  (sSeq (sSet 2 (xC (.int 0)))
    (sSeq (sSet 3 (xC (.int 1)))
    (sSeq (sFor (iRg1 (xVar 1)) (gN 4) (sSeq (sSet 3 (x2 mulW (xVar 3) (xVar 0)))
    (sSet 2 (x2 addW (xVar 2) (xVar 3)))))
    (sRet (xVar 2)))))
noncomputable def fm__law_many_rows : FM := fnM 2 5 m__law_many_rows
/-- def _law_row(_law_dice_here, _law_sounds, _law_most): -/
noncomputable def m__law_row : SX :=
  (sRet (xCB tupleC (aCons (xLc (iRg1 (x2 addW (xC (.int 1)) (xCall 2 fm__law_draw (adCons (xVar 0) (adCons (xVar 2) adNil))))) [3] (gN 3) ttYes (xCall 2 fm__law_draw (adCons (xVar 0) (adCons (xVar 1) adNil)))) aNil)))
noncomputable def fm__law_row : FM := fnM 3 4 m__law_row
/-- def told(book, left, right): -/
noncomputable def m_told : SX :=
  (sRet (xMd getG (x1 (fldW atab "kept_table") (xVar 0)) (aCons (xTup (adCons (xVar 1) (adCons (xVar 2) adNil))) (aCons (xTup (adCons (xVar 1) (adCons (xVar 2) adNil))) aNil))))
noncomputable def fm_told : FM := fnM 3 3 m_told
/-- def joined_rows(book, one, other): -/
noncomputable def m_joined_rows : SX :=
  (sSeq (sSet 3 (xSl (xVar 1) (oI (x1 negW (x1 (fldW atab "kept_ahead") (xVar 0)))) oNo))
    (sSeq (sSet 4 (xSl (xVar 2) oNo (oI (x1 (fldW atab "kept_behind") (xVar 0)))))
    (sSeq (sAsg (gT 2 (gsCons (gN 5) (gsCons (gN 6) gsNil))) (xCall 3 fm_told (adCons (xVar 0) (adCons (xVar 3) (adCons (xVar 4) adNil)))))
    (sRet (xTup (adCons (x2 addW (xSl (xVar 1) oNo (oI (x2 subW (xCB lenC (aCons (xVar 1) aNil)) (xCB lenC (aCons (xVar 3) aNil))))) (xVar 5)) (adCons (x2 addW (xVar 6) (xSl (xVar 2) (oI (xCB lenC (aCons (xVar 4) aNil))) oNo)) adNil)))))))
noncomputable def fm_joined_rows : FM := fnM 3 7 m_joined_rows
/-- def met_rows(book, one, other): -/
noncomputable def m_met_rows : SX :=
  (sSeq (sAsg (gT 2 (gsCons (gN 3) (gsCons (gN 4) gsNil))) (xCall 3 fm_joined_rows (adCons (xVar 0) (adCons (xVar 1) (adCons (xVar 2) adNil)))))
    (sRet (x2 addW (xVar 3) (xVar 4))))
noncomputable def fm_met_rows : FM := fnM 3 5 m_met_rows
/-- def matters_at(book, x, y, z): -/
noncomputable def m_matters_at : SX :=
  (sRet (x2 neW (xCall 3 fm_met_rows (adCons (xVar 0) (adCons (xVar 1) (adCons (xCall 3 fm_met_rows (adCons (xVar 0) (adCons (xVar 2) (adCons (xVar 3) adNil)))) adNil)))) (xCall 3 fm_met_rows (adCons (xVar 0) (adCons (xCall 3 fm_met_rows (adCons (xVar 0) (adCons (xVar 1) (adCons (xVar 2) adNil)))) (adCons (xVar 3) adNil))))))
noncomputable def fm_matters_at : FM := fnM 4 4 m_matters_at
/-- def rows_many(sounds, most): -/
noncomputable def m_rows_many : SX :=
  (sSeq (sSet 2 (xC (.int 0)))
    (sSeq (sSet 3 (xC (.int 1)))
    (sSeq (sFor (iRg1 (xVar 1)) (gN 4) (sSeq (sSet 3 (x2 mulW (xVar 3) (xVar 0)))
    (sAug 2 iaddW (xVar 3))))
    (sRet (xVar 2)))))
noncomputable def fm_rows_many : FM := fnM 2 5 m_rows_many
/-- def rows_to(sounds, most): -/
noncomputable def m_rows_to : SX :=
  (sSeq (sSet 2 (xLst adNil))
    (sSeq (sSet 3 (xLst (adCons (xTup adNil) adNil)))
    (sSeq (sFor (iRg1 (xVar 1)) (gN 4) (sSeq (sSet 5 (xLst adNil))
    (sSeq (sFor (iAny (xVar 3)) (gN 6) (sDrop (xM "list" extG (xVar 5) (aCons (xLc (iRg1 (xVar 0)) [7] (gN 7) ttYes (x2 addW (xVar 6) (xTup (adCons (xVar 7) adNil)))) aNil))))
    (sSeq (sDrop (xM "list" extG (xVar 2) (aCons (xVar 5) aNil)))
    (sSet 3 (xVar 5))))))
    (sRet (xVar 2)))))
noncomputable def fm_rows_to : FM := fnM 2 8 m_rows_to
/-- def reach(self): -/
noncomputable def m_Book_reach : SX :=
  (sRet (x2 addW (x1 (fldW atab "kept_ahead") (xVar 0)) (x1 (fldW atab "kept_behind") (xVar 0))))
noncomputable def fm_Book_reach : FM := fnM 1 1 m_Book_reach
/-- def triples(book): -/
noncomputable def m_triples : SX :=
  (sSeq (sSet 1 (xTup (adCons (x1 (fldW atab "kept_ahead") (xVar 0)) (adCons (x2 subW (xMeth "reach" 1 [("Book", fm_Book_reach)] (xVar 0) adNil) (xC (.int 1))) (adCons (x1 (fldW atab "kept_behind") (xVar 0)) adNil)))))
    (sSeq (sSet 2 (xC (.int 1)))
    (sSeq (sFor (iAny (xVar 1)) (gN 3) (sSet 2 (x2 mulW (xVar 2) (xCall 2 fm_rows_many (adCons (x1 (fldW atab "kept_sounds") (xVar 0)) (adCons (xVar 3) adNil))))))
    (sSeq (sIf (xB (x2 gtW (xVar 2) (xC (.int 20000)))) (sRaise1 "TooMany" "most" (xC (.int 20000))) sNil)
    (sSeq (sSet 4 (xLc (iAny (xVar 1)) [3] (gN 3) ttYes (xCall 2 fm_rows_to (adCons (x1 (fldW atab "kept_sounds") (xVar 0)) (adCons (xVar 3) adNil)))))
    (sSeq (sSet 5 (xLst adNil))
    (sSeq (sFor (iAny (x2 ixA (xVar 4) (xC (.int 0)))) (gN 6) (sFor (iAny (x2 ixA (xVar 4) (xC (.int 1)))) (gN 7) (sDrop (xM "list" extG (xVar 5) (aCons (xLc (iAny (x2 ixA (xVar 4) (xC (.int 2)))) [8] (gN 8) ttYes (xTup (adCons (xVar 6) (adCons (xVar 7) (adCons (xVar 8) adNil))))) aNil)))))
    (sRet (xVar 5)))))))))
noncomputable def fm_triples : FM := fnM 1 9 m_triples
/-- def matters(book): -/
noncomputable def m_matters : SX :=
  (sSeq (sSet 1 (xC .non))
    (sSeq (sFor (iAny (xCall 1 fm_triples (adCons (xVar 0) adNil))) (gT 3 (gsCons (gN 2) (gsCons (gN 3) (gsCons (gN 4) gsNil)))) (sSeq (sSet 5 (xTup (adCons (x2 addW (x2 addW (xCB lenC (aCons (xVar 2) aNil)) (xCB lenC (aCons (xVar 3) aNil))) (xCB lenC (aCons (xVar 4) aNil))) (adCons (xTup (adCons (xVar 2) (adCons (xVar 3) (adCons (xVar 4) adNil)))) adNil))))
    (sIf (xtAnd (xtOr (xB (x2 (isNW false) (xVar 1) (xC .non))) (xB (x2 ltW (xVar 5) (xVar 1)))) (xB (xCall 4 fm_matters_at (adCons (xVar 0) (adCons (xVar 2) (adCons (xVar 3) (adCons (xVar 4) adNil))))))) (sSet 1 (xVar 5)) sNil)))
    (sSeq (sIf (xB (x2 (isNW false) (xVar 1) (xC .non))) (sRet (xC .non)) sNil)
    (sRet (x2 ixA (xVar 1) (xC (.int 1)))))))
noncomputable def fm_matters : FM := fnM 1 6 m_matters
/-- def matters_many(book): -/
noncomputable def m_matters_many : SX :=
  (sRet (xCB lenC (aCons (xLc (iAny (xCall 1 fm_triples (adCons (xVar 0) adNil))) [1, 2, 3] (gT 3 (gsCons (gN 1) (gsCons (gN 2) (gsCons (gN 3) gsNil)))) (xB (xCall 4 fm_matters_at (adCons (xVar 0) (adCons (xVar 1) (adCons (xVar 2) (adCons (xVar 3) adNil)))))) (xC (.int 1))) aNil)))
noncomputable def fm_matters_many : FM := fnM 1 4 m_matters_many
/-- def _law_told(_law_which, _law_book): -/
noncomputable def m__law_told : SX :=
  (sSeq (sSet 2 (xTup (adCons (xC (.str "told")) (adCons (xC .non) adNil))))
    (sSeq (sTry 3 (xmt "SeamError") (sIf (xB (x2 eqW (xVar 0) (xC (.int 0)))) (sSet 2 (xTup (adCons (xC (.str "told")) (adCons (xCall 1 fm_matters (adCons (xVar 1) adNil)) adNil)))) (sSet 2 (xTup (adCons (xC (.str "told")) (adCons (xCall 1 fm_matters_many (adCons (xVar 1) adNil)) adNil))))) (sSeq (sSet 2 (xTup (adCons (xC (.str "other")) (adCons (xC .non) adNil))))
    (sIf (xtAnd (xB (xIsi owns (xsub "TooMany") (fun _ => false) (fun c => decide (c = "TooMany")) (xVar 3))) (xtNot (xB (xIsi owns (xsub "NoWords") (fun _ => false) (fun c => decide (c = "NoWords")) (xVar 3))))) (sSet 2 (xTup (adCons (xC (.str "many")) (adCons (x1 (xfW ["TooMany"] "most") (xVar 3)) adNil)))) sNil)))
    (sRet (xVar 2))))
noncomputable def fm__law_told : FM := fnM 2 4 m__law_told
/-- def is_integer(thing): -/
noncomputable def m_is_integer : SX :=
  (sRet (xAnd (xIsi owns [] (BT.sub · .int) (fun _ => false) (xVar 0)) (xNot (xIsi owns [] (BT.sub · .bl) (fun _ => false) (xVar 0)))))
noncomputable def fm_is_integer : FM := fnM 1 1 m_is_integer
/-- def is_between(thing, least, most): -/
noncomputable def m_is_between : SX :=
  (sRet (xAnd (xCall 1 fm_is_integer (adCons (xVar 0) adNil)) (xCh leW leW (xVar 1) (xVar 0) (xVar 2))))
noncomputable def fm_is_between : FM := fnM 3 3 m_is_between
/-- def check_sizes(sounds, ahead, behind): -/
noncomputable def m_check_sizes : SX :=
  (sSeq (sIf (xtNot (xB (xCall 3 fm_is_between (adCons (xVar 0) (adCons (xC (.int 1)) (adCons (xC (.int 8)) adNil)))))) (sRaise1 "NoBook" "part" (xC (.str "sounds"))) sNil)
    (sSeq (sIf (xtNot (xB (xCall 3 fm_is_between (adCons (xVar 1) (adCons (xC (.int 1)) (adCons (xC (.int 4)) adNil)))))) (sRaise1 "NoBook" "part" (xC (.str "ahead"))) sNil)
    (sIf (xtNot (xB (xCall 3 fm_is_between (adCons (xVar 2) (adCons (xC (.int 1)) (adCons (xC (.int 4)) adNil)))))) (sRaise1 "NoBook" "part" (xC (.str "behind"))) sNil)))
noncomputable def fm_check_sizes : FM := fnM 3 3 m_check_sizes
/-- def is_index(thing, many): -/
noncomputable def m_is_index : SX :=
  (sRet (xCall 3 fm_is_between (adCons (xVar 0) (adCons (xC (.int 0)) (adCons (x2 subW (xVar 1) (xC (.int 1))) adNil)))))
noncomputable def fm_is_index : FM := fnM 2 2 m_is_index
/-- def is_sounds(thing, sounds, least, most): -/
noncomputable def m_is_sounds : SX :=
  (sSeq (sIf (xtOr (xtNot (xB (xIsi owns [] (BT.sub · .tup) (fun _ => false) (xVar 0)))) (xtNot (xB (xCh leW leW (xVar 2) (xCB lenC (aCons (xVar 0) aNil)) (xVar 3))))) (sRet (xC (.bl false))) sNil)
    (sRet (xCB allC (aCons (xLc (iAny (xVar 0)) [4] (gN 4) ttYes (xCall 2 fm_is_index (adCons (xVar 4) (adCons (xVar 1) adNil)))) aNil))))
noncomputable def fm_is_sounds : FM := fnM 4 5 m_is_sounds
/-- def is_side_pair(thing, sounds, ahead, behind): -/
noncomputable def m_is_side_pair : SX :=
  (sSeq (sIf (xtOr (xtNot (xB (xIsi owns [] (BT.sub · .tup) (fun _ => false) (xVar 0)))) (xB (x2 neW (xCB lenC (aCons (xVar 0) aNil)) (xC (.int 2))))) (sRet (xC (.bl false))) sNil)
    (sRet (xAnd (xCall 4 fm_is_sounds (adCons (x2 ixA (xVar 0) (xC (.int 0))) (adCons (xVar 1) (adCons (xC (.int 1)) (adCons (xVar 2) adNil))))) (xCall 4 fm_is_sounds (adCons (x2 ixA (xVar 0) (xC (.int 1))) (adCons (xVar 1) (adCons (xC (.int 1)) (adCons (xVar 3) adNil))))))))
noncomputable def fm_is_side_pair : FM := fnM 4 4 m_is_side_pair
/-- def is_table(thing, sounds, ahead, behind): -/
noncomputable def m_is_table : SX :=
  (sSeq (sIf (xtOr (xtNot (xB (xIsi owns [] (BT.sub · .dct) (fun _ => false) (xVar 0)))) (xB (x2 gtW (xCB lenC (aCons (xVar 0) aNil)) (xC (.int 4000))))) (sRet (xC (.bl false))) sNil)
    (sSeq (sLk (xVar 0) (sFor (iAny (xVar 0)) (gN 4) (sSeq (sIf (xtOr (xtNot (xB (xCall 4 fm_is_side_pair (adCons (xVar 4) (adCons (xVar 1) (adCons (xVar 2) (adCons (xVar 3) adNil))))))) (xtNot (xB (xCall 4 fm_is_side_pair (adCons (x2 ixA (xVar 0) (xVar 4)) (adCons (xVar 1) (adCons (xVar 2) (adCons (xVar 3) adNil)))))))) (sRet (xC (.bl false))) sNil)
    (sIf (xB (x2 neW (xLc (iAny (xVar 4)) [5] (gN 5) ttYes (xCB lenC (aCons (xVar 5) aNil))) (xLc (iAny (x2 ixA (xVar 0) (xVar 4))) [5] (gN 5) ttYes (xCB lenC (aCons (xVar 5) aNil))))) (sRet (xC (.bl false))) sNil))))
    (sRet (xC (.bl true)))))
noncomputable def fm_is_table : FM := fnM 4 6 m_is_table
/-- def keep(self, sounds, ahead, behind, table): -/
noncomputable def m_Book_keep : SX :=
  (sSeq (sFldS atab (xVar 0) "kept_sounds" (xVar 1))
    (sSeq (sFldS atab (xVar 0) "kept_ahead" (xVar 2))
    (sSeq (sFldS atab (xVar 0) "kept_behind" (xVar 3))
    (sFldS atab (xVar 0) "kept_table" (xLk (xVar 4) (xDc (iItemsD (xVar 4)) [5, 6] (gT 2 (gsCons (gN 5) (gsCons (gN 6) gsNil))) (xB (x2 neW (xVar 5) (xVar 6))) (xVar 5) (xVar 6)))))))
noncomputable def fm_Book_keep : FM := fnM 5 7 m_Book_keep
/-- def __init__(self, sounds, ahead, behind, table): -/
noncomputable def m_Book_init : SX :=
  (sSeq (sDrop (xCall 3 fm_check_sizes (adCons (xVar 1) (adCons (xVar 2) (adCons (xVar 3) adNil)))))
    (sSeq (sIf (xtNot (xB (xCall 4 fm_is_table (adCons (xVar 4) (adCons (xVar 1) (adCons (xVar 2) (adCons (xVar 3) adNil))))))) (sRaise1 "NoBook" "part" (xC (.str "table"))) sNil)
    (sDrop (xMeth "keep" 5 [("Book", fm_Book_keep)] (xVar 0) (adCons (xVar 1) (adCons (xVar 2) (adCons (xVar 3) (adCons (xVar 4) adNil))))))))
noncomputable def fm_Book_init : FM := fnM 5 5 m_Book_init
/-- def law(_law_script): -/
noncomputable def m_law : SX :=
  (sSeq (sSet 1 (xCall 1 fm__law_dice (adCons (xVar 0) adNil)))
    (sSeq (sSet 2 (x2 addW (xC (.int 1)) (xCall 2 fm__law_draw (adCons (xVar 1) (adCons (xC (.int 8)) adNil)))))
    (sSeq (sSet 3 (x2 addW (xC (.int 1)) (xCall 2 fm__law_draw (adCons (xVar 1) (adCons (xC (.int 4)) adNil)))))
    (sSeq (sSet 4 (x2 addW (xC (.int 1)) (xCall 2 fm__law_draw (adCons (xVar 1) (adCons (xC (.int 4)) adNil)))))
    (sSeq (sSet 5 xDct0)
    (sSeq (sFor (iRg1 (xCall 2 fm__law_draw (adCons (xVar 1) (adCons (xC (.int 7)) adNil)))) (gN 6) (sSeq (sSet 7 (xCall 3 fm__law_row (adCons (xVar 1) (adCons (xVar 2) (adCons (xVar 3) adNil)))))
    (sSeq (sSet 8 (xCall 3 fm__law_row (adCons (xVar 1) (adCons (xVar 2) (adCons (xVar 4) adNil)))))
    (sSub setA (xVar 5) (xTup (adCons (xVar 7) (adCons (xVar 8) adNil))) (xTup (adCons (xCall 3 fm__law_like (adCons (xVar 1) (adCons (xVar 2) (adCons (xVar 7) adNil)))) (adCons (xCall 3 fm__law_like (adCons (xVar 1) (adCons (xVar 2) (adCons (xVar 8) adNil)))) adNil)))))))
    (sSeq (sSet 9 (xMake "Book" 5 fm_Book_init (adCons (xVar 2) (adCons (xVar 3) (adCons (xVar 4) (adCons (xVar 5) adNil))))))
    (sSeq (sSet 10 (x2 mulW (x2 mulW (xCall 2 fm__law_many_rows (adCons (xVar 2) (adCons (xVar 3) adNil))) (xCall 2 fm__law_many_rows (adCons (xVar 2) (adCons (x2 subW (x2 addW (xVar 3) (xVar 4)) (xC (.int 1))) adNil)))) (xCall 2 fm__law_many_rows (adCons (xVar 2) (adCons (xVar 4) adNil)))))
    (sSeq (sIf (xB (xCh ltW leW (xC (.int 1200)) (xVar 10) (xC (.int 20000)))) (sSeq (sIf (xB (x2 gtW (xCall 2 fm__law_draw (adCons (xVar 1) (adCons (xC (.int 12)) adNil))) (xC (.int 0)))) (sRet (xC (.bl true))) sNil)
    (sSeq (sSet 11 (xCall 2 fm__law_told (adCons (xC (.int 1)) (adCons (xVar 9) adNil))))
    (sRet (xAnd (x2 eqW (x2 ixA (xVar 11) (xC (.int 0))) (xC (.str "told"))) (xOr (x2 gtW (xCB lenC (aCons (xVar 5) aNil)) (xC (.int 0))) (x2 eqW (xVar 11) (xTup (adCons (xC (.str "told")) (adCons (xC (.int 0)) adNil))))))))) sNil)
    (sSeq (sFor (iRg1 (xC (.int 2))) (gN 12) (sSeq (sSet 11 (xCall 2 fm__law_told (adCons (xVar 12) (adCons (xVar 9) adNil))))
    (sIf (xtOr (xB (x2 neW (x2 eqW (xVar 11) (xTup (adCons (xC (.str "many")) (adCons (xC (.int 20000)) adNil)))) (x2 gtW (xVar 10) (xC (.int 20000))))) (xtOr (xB (x2 eqW (x2 ixA (xVar 11) (xC (.int 0))) (xC (.str "other")))) (xB (x2 neW (xCall 2 fm__law_told (adCons (xVar 12) (adCons (xVar 9) adNil))) (xVar 11))))) (sRet (xC (.bl false))) sNil)))
    (sSeq (sIf (xtOr (xB (x2 gtW (xVar 10) (xC (.int 20000)))) (xB (x2 gtW (xCB lenC (aCons (xVar 5) aNil)) (xC (.int 0))))) (sRet (xC (.bl true))) sNil)
    (sRet (xAnd (x2 eqW (xCall 2 fm__law_told (adCons (xC (.int 0)) (adCons (xVar 9) adNil))) (xTup (adCons (xC (.str "told")) (adCons (xC .non) adNil)))) (x2 eqW (xCall 2 fm__law_told (adCons (xC (.int 1)) (adCons (xVar 9) adNil))) (xTup (adCons (xC (.str "told")) (adCons (xC (.int 0)) adNil)))))))))))))))))
noncomputable def fm_law : FM := fnM 1 13 m_law
section
variable {P : Program} {w : World} {K : PySem.W.Frag} {mg : Str → Option Value} {base : Heap}
theorem ok__law_dice (F : Fx P w K mg base)  (hd : ∃ fd, FunD K "_law_dice" "_law_dice" (defArgs (top 31)) (defBody (top 31)) (defScope (top 31)) [] [] (He.ga K "_law_dice") fd) :
    ∃ fd, Binds K fd ["_law_script"] [] ∧ PySem.W.keepIn K (.ref (He.ga K "_law_dice")) = true ∧ FnOk P w K mg base (L2.CX P w) 1 (He.ga K "_law_dice") fd ["_law_script"] (spF P w K 1 fm__law_dice) := by
  obtain ⟨fd, FD⟩ := hd
  refine ⟨fd, FD.bindsN (fun _ _ _ _ _ _ us hl => match us, hl with | [_], _ => rfl), FD.kp, ?_⟩
  refine fn_ok (N := ["_law_script", "_law_cell"]) (n := 1) (nN := 2) FD ⟨rfl, rfl, rfl, by decide +kernel, rfl, by decide +kernel, by decide +kernel⟩ rfl rfl fun cdv A outer s0 H E hr => ?_
  have hN : (["_law_script", "_law_cell"] : List Str).Nodup := by decide +kernel
  have hc : (cxOf (L2.CX P w) P w K mg base ["_law_script", "_law_cell"] "_law_dice" (defScope (top 31)) (He.ga K "_law_dice") cdv A outer s0 H E).calm = true := rfl
  have hu : (cxOf (L2.CX P w) P w K mg base ["_law_script", "_law_cell"] "_law_dice" (defScope (top 31)) (He.ga K "_law_dice") cdv A outer s0 H E).A.units + 64 < cLine := hr.units
  have hp : PassesOwn (model P w) (cxOf (L2.CX P w) P w K mg base ["_law_script", "_law_cell"] "_law_dice" (defScope (top 31)) (He.ga K "_law_dice") cdv A outer s0 H E).A (cxOf (L2.CX P w) P w K mg base ["_law_script", "_law_cell"] "_law_dice" (defScope (top 31)) (He.ga K "_law_dice") cdv A outer s0 H E).env (cxOf (L2.CX P w) P w K mg base ["_law_script", "_law_cell"] "_law_dice" (defScope (top 31)) (He.ga K "_law_dice") cdv A outer s0 H E).xe := passes_of rfl
  have hpn : ∀ p ∈ ([] : List (Addr × Obj)), p ∈ (cxOf (L2.CX P w) P w K mg base ["_law_script", "_law_cell"] "_law_dice" (defScope (top 31)) (He.ga K "_law_dice") cdv A outer s0 H E).pn := fun _ h => (nomatch h)
  unfold m__law_dice
  exact (ds_one (ds_ret (d_lst (dd_cons (d_lc (own := [("_law_cell", 1)]) hc hN (di_any (d_slice (d_var (i := 0) rfl (by first | exact .inl rfl | exact .inr (.inl rfl) | exact .inr (.inr rfl))) do_no (do_i d_int))) (blkOk_by (by kernel_rfl)) (fun s1 H1 C1 cl1 fp1 => (dg_name (i := 1) hN rfl (by first | exact .inl rfl | exact .inr rfl))) (fun s1 H1 C1 cl1 fp1 => dts_nil) (fun s1 H1 C1 cl1 fp1 => (d_bi c_abs rfl (F.n_abs) PyProof.Rows.Boot.«abs» (da_cons (d_ty c_int rfl (F.n_int) PyProof.Rows.Boot.«int» (da_cons (d_var (i := 1) rfl (by first | exact .inl rfl | exact .inr (.inl rfl) | exact .inr (.inr rfl))) da_nil)) da_nil))) (by decide)) (dd_cons d_int (dd_cons d_int (dd_cons d_int (dd_cons d_int dd_nil))))))))
theorem ok__law_draw (F : Fx P w K mg base)  (hd : ∃ fd, FunD K "_law_draw" "_law_draw" (defArgs (top 32)) (defBody (top 32)) (defScope (top 32)) [] [] (He.ga K "_law_draw") fd) :
    ∃ fd, Binds K fd ["_law_dice_here", "_law_sides"] [] ∧ PySem.W.keepIn K (.ref (He.ga K "_law_draw")) = true ∧ FnOk P w K mg base (L2.CX P w) 1 (He.ga K "_law_draw") fd ["_law_dice_here", "_law_sides"] (spF P w K 2 fm__law_draw) := by
  obtain ⟨fd, FD⟩ := hd
  refine ⟨fd, FD.bindsN (fun _ _ _ _ _ _ us hl => match us, hl with | [_, _], _ => rfl), FD.kp, ?_⟩
  refine fn_ok (N := ["_law_dice_here", "_law_sides", "_law_cell", "_law_digit", "_law_mixed"]) (n := 2) (nN := 5) FD ⟨rfl, rfl, rfl, by decide +kernel, rfl, by decide +kernel, by decide +kernel⟩ rfl rfl fun cdv A outer s0 H E hr => ?_
  have hN : (["_law_dice_here", "_law_sides", "_law_cell", "_law_digit", "_law_mixed"] : List Str).Nodup := by decide +kernel
  have hc : (cxOf (L2.CX P w) P w K mg base ["_law_dice_here", "_law_sides", "_law_cell", "_law_digit", "_law_mixed"] "_law_draw" (defScope (top 32)) (He.ga K "_law_draw") cdv A outer s0 H E).calm = true := rfl
  have hu : (cxOf (L2.CX P w) P w K mg base ["_law_dice_here", "_law_sides", "_law_cell", "_law_digit", "_law_mixed"] "_law_draw" (defScope (top 32)) (He.ga K "_law_draw") cdv A outer s0 H E).A.units + 64 < cLine := hr.units
  have hp : PassesOwn (model P w) (cxOf (L2.CX P w) P w K mg base ["_law_dice_here", "_law_sides", "_law_cell", "_law_digit", "_law_mixed"] "_law_draw" (defScope (top 32)) (He.ga K "_law_draw") cdv A outer s0 H E).A (cxOf (L2.CX P w) P w K mg base ["_law_dice_here", "_law_sides", "_law_cell", "_law_digit", "_law_mixed"] "_law_draw" (defScope (top 32)) (He.ga K "_law_draw") cdv A outer s0 H E).env (cxOf (L2.CX P w) P w K mg base ["_law_dice_here", "_law_sides", "_law_cell", "_law_digit", "_law_mixed"] "_law_draw" (defScope (top 32)) (He.ga K "_law_draw") cdv A outer s0 H E).xe := passes_of rfl
  have hpn : ∀ p ∈ ([] : List (Addr × Obj)), p ∈ (cxOf (L2.CX P w) P w K mg base ["_law_dice_here", "_law_sides", "_law_cell", "_law_digit", "_law_mixed"] "_law_draw" (defScope (top 32)) (He.ga K "_law_draw") cdv A outer s0 H E).pn := fun _ h => (nomatch h)
  unfold m__law_draw
  exact (ds_cons (ds_if (DW.t (dw_and (dt_cmp (o_eq hu) (d_ix (o_ixA hu) (d_var (i := 0) rfl (by first | exact .inl rfl | exact .inr (.inl rfl) | exact .inr (.inr rfl))) d_int) d_int rfl) (dw_and1 (dt_cmp (o_lt hu) (d_ix (o_ixA hu) (d_var (i := 0) rfl (by first | exact .inl rfl | exact .inr (.inl rfl) | exact .inr (.inr rfl))) d_int) (d_bi c_len rfl (F.n_len) PyProof.Rows.Boot.«len» (da_cons (d_ix (o_ixA hu) (d_var (i := 0) rfl (by first | exact .inl rfl | exact .inr (.inl rfl) | exact .inr (.inr rfl))) d_int) da_nil)) rfl)))) (ds_cons (ds_set (i := 2) hN rfl (by first | exact .inl rfl | exact .inr rfl) (d_ix (o_ixA hu) (d_ix (o_ixA hu) (d_var (i := 0) rfl (by first | exact .inl rfl | exact .inr (.inl rfl) | exact .inr (.inr rfl))) d_int) (d_ix (o_ixA hu) (d_var (i := 0) rfl (by first | exact .inl rfl | exact .inr (.inl rfl) | exact .inr (.inr rfl))) d_int)))
    (ds_cons (ds_sub (set_A hu) (d_var (i := 0) rfl (by first | exact .inl rfl | exact .inr (.inl rfl) | exact .inr (.inr rfl))) d_int (d_op o_add (d_ix (o_ixA hu) (d_var (i := 0) rfl (by first | exact .inl rfl | exact .inr (.inl rfl) | exact .inr (.inr rfl))) d_int) d_int))
    (ds_one (ds_if (dt_cmp (o_ge hu) (d_var (i := 2) rfl (by first | exact .inl rfl | exact .inr (.inl rfl) | exact .inr (.inr rfl))) (d_op o_pow d_int d_int) rfl) (ds_one (ds_sub (set_A hu) (d_var (i := 0) rfl (by first | exact .inl rfl | exact .inr (.inl rfl) | exact .inr (.inr rfl))) d_int (d_var (i := 2) rfl (by first | exact .inl rfl | exact .inr (.inl rfl) | exact .inr (.inr rfl))))) (ds_one (ds_sub (set_A hu) (d_var (i := 0) rfl (by first | exact .inl rfl | exact .inr (.inl rfl) | exact .inr (.inr rfl))) d_int (d_op o_mod (d_ty c_int rfl (F.n_int) PyProof.Rows.Boot.«int» (da_cons (d_op o_add (d_op o_add (d_op o_mul (d_ix (o_ixA hu) (d_var (i := 0) rfl (by first | exact .inl rfl | exact .inr (.inl rfl) | exact .inr (.inr rfl))) d_int) d_int) (d_op o_mul (d_var (i := 2) rfl (by first | exact .inl rfl | exact .inr (.inl rfl) | exact .inr (.inr rfl))) d_int)) (d_ix (o_ixA hu) (d_var (i := 0) rfl (by first | exact .inl rfl | exact .inr (.inl rfl) | exact .inr (.inr rfl))) d_int)) da_nil)) d_int))))))) ds_nil)
    (ds_cons (ds_if (dt_cmp (o_gt hu) (d_ix (o_ixA hu) (d_var (i := 0) rfl (by first | exact .inl rfl | exact .inr (.inl rfl) | exact .inr (.inr rfl))) d_int) d_int rfl) (ds_cons (ds_set (i := 3) hN rfl (by first | exact .inl rfl | exact .inr rfl) (d_op o_mod (d_ty c_int rfl (F.n_int) PyProof.Rows.Boot.«int» (da_cons (d_ix (o_ixA hu) (d_var (i := 0) rfl (by first | exact .inl rfl | exact .inr (.inl rfl) | exact .inr (.inr rfl))) d_int) da_nil)) (d_var (i := 1) rfl (by first | exact .inl rfl | exact .inr (.inl rfl) | exact .inr (.inr rfl)))))
    (ds_cons (ds_sub (set_A hu) (d_var (i := 0) rfl (by first | exact .inl rfl | exact .inr (.inl rfl) | exact .inr (.inr rfl))) d_int (d_op o_fdiv (d_ty c_int rfl (F.n_int) PyProof.Rows.Boot.«int» (da_cons (d_ix (o_ixA hu) (d_var (i := 0) rfl (by first | exact .inl rfl | exact .inr (.inl rfl) | exact .inr (.inr rfl))) d_int) da_nil)) (d_var (i := 1) rfl (by first | exact .inl rfl | exact .inr (.inl rfl) | exact .inr (.inr rfl)))))
    (ds_one (ds_ret (d_var (i := 3) rfl (by first | exact .inl rfl | exact .inr (.inl rfl) | exact .inr (.inr rfl))))))) ds_nil)
    (ds_cons (ds_sub (set_A hu) (d_var (i := 0) rfl (by first | exact .inl rfl | exact .inr (.inl rfl) | exact .inr (.inr rfl))) d_int (d_op o_add (d_ix (o_ixA hu) (d_var (i := 0) rfl (by first | exact .inl rfl | exact .inr (.inl rfl) | exact .inr (.inr rfl))) d_int) d_int))
    (ds_cons (ds_sub (set_A hu) (d_var (i := 0) rfl (by first | exact .inl rfl | exact .inr (.inl rfl) | exact .inr (.inr rfl))) d_int (d_op o_mod (d_ty c_int rfl (F.n_int) PyProof.Rows.Boot.«int» (da_cons (d_op o_add (d_op o_add (d_op o_mul (d_ix (o_ixA hu) (d_var (i := 0) rfl (by first | exact .inl rfl | exact .inr (.inl rfl) | exact .inr (.inr rfl))) d_int) d_int) (d_op o_mul (d_ix (o_ixA hu) (d_var (i := 0) rfl (by first | exact .inl rfl | exact .inr (.inl rfl) | exact .inr (.inr rfl))) d_int) d_int)) d_int) da_nil)) d_int))
    (ds_cons (ds_set (i := 4) hN rfl (by first | exact .inl rfl | exact .inr rfl) (d_op o_mod (d_ty c_int rfl (F.n_int) PyProof.Rows.Boot.«int» (da_cons (d_op o_mul (d_ix (o_ixA hu) (d_var (i := 0) rfl (by first | exact .inl rfl | exact .inr (.inl rfl) | exact .inr (.inr rfl))) d_int) (d_op o_add (d_op o_fdiv (d_ix (o_ixA hu) (d_var (i := 0) rfl (by first | exact .inl rfl | exact .inr (.inl rfl) | exact .inr (.inr rfl))) d_int) d_int) d_int)) da_nil)) d_int))
    (ds_cons (ds_set (i := 4) hN rfl (by first | exact .inl rfl | exact .inr rfl) (d_op o_mod (d_ty c_int rfl (F.n_int) PyProof.Rows.Boot.«int» (da_cons (d_op o_mul (d_var (i := 4) rfl (by first | exact .inl rfl | exact .inr (.inl rfl) | exact .inr (.inr rfl))) (d_op o_add (d_op o_fdiv (d_var (i := 4) rfl (by first | exact .inl rfl | exact .inr (.inl rfl) | exact .inr (.inr rfl))) d_int) d_int)) da_nil)) d_int))
    (ds_one (ds_ret (d_op o_mod (d_ty c_int rfl (F.n_int) PyProof.Rows.Boot.«int» (da_cons (d_op o_fdiv (d_var (i := 4) rfl (by first | exact .inl rfl | exact .inr (.inl rfl) | exact .inr (.inr rfl))) d_int) da_nil)) (d_var (i := 1) rfl (by first | exact .inl rfl | exact .inr (.inl rfl) | exact .inr (.inr rfl))))))))))))
theorem ok__law_like (F : Fx P w K mg base) (c__law_draw : Cal P w K mg base 1 "_law_draw" 2 fm__law_draw) (hd : ∃ fd, FunD K "_law_like" "_law_like" (defArgs (top 33)) (defBody (top 33)) (defScope (top 33)) [] [] (He.ga K "_law_like") fd) :
    ∃ fd, Binds K fd ["_law_dice_here", "_law_sounds", "_law_row_here"] [] ∧ PySem.W.keepIn K (.ref (He.ga K "_law_like")) = true ∧ FnOk P w K mg base (L2.CX P w) 2 (He.ga K "_law_like") fd ["_law_dice_here", "_law_sounds", "_law_row_here"] (spF P w K 3 fm__law_like) := by
  obtain ⟨fd, FD⟩ := hd
  refine ⟨fd, FD.bindsN (fun _ _ _ _ _ _ us hl => match us, hl with | [_, _, _], _ => rfl), FD.kp, ?_⟩
  refine fn_ok (N := ["_law_dice_here", "_law_sounds", "_law_row_here", "_law_sound"]) (n := 3) (nN := 4) FD ⟨rfl, rfl, rfl, by decide +kernel, rfl, by decide +kernel, by decide +kernel⟩ rfl rfl fun cdv A outer s0 H E hr => ?_
  have hN : (["_law_dice_here", "_law_sounds", "_law_row_here", "_law_sound"] : List Str).Nodup := by decide +kernel
  have hc : (cxOf (L2.CX P w) P w K mg base ["_law_dice_here", "_law_sounds", "_law_row_here", "_law_sound"] "_law_like" (defScope (top 33)) (He.ga K "_law_like") cdv A outer s0 H E).calm = true := rfl
  have hu : (cxOf (L2.CX P w) P w K mg base ["_law_dice_here", "_law_sounds", "_law_row_here", "_law_sound"] "_law_like" (defScope (top 33)) (He.ga K "_law_like") cdv A outer s0 H E).A.units + 64 < cLine := hr.units
  have hp : PassesOwn (model P w) (cxOf (L2.CX P w) P w K mg base ["_law_dice_here", "_law_sounds", "_law_row_here", "_law_sound"] "_law_like" (defScope (top 33)) (He.ga K "_law_like") cdv A outer s0 H E).A (cxOf (L2.CX P w) P w K mg base ["_law_dice_here", "_law_sounds", "_law_row_here", "_law_sound"] "_law_like" (defScope (top 33)) (He.ga K "_law_like") cdv A outer s0 H E).env (cxOf (L2.CX P w) P w K mg base ["_law_dice_here", "_law_sounds", "_law_row_here", "_law_sound"] "_law_like" (defScope (top 33)) (He.ga K "_law_like") cdv A outer s0 H E).xe := passes_of rfl
  have hpn : ∀ p ∈ ([] : List (Addr × Obj)), p ∈ (cxOf (L2.CX P w) P w K mg base ["_law_dice_here", "_law_sounds", "_law_row_here", "_law_sound"] "_law_like" (defScope (top 33)) (He.ga K "_law_like") cdv A outer s0 H E).pn := fun _ h => (nomatch h)
  unfold m__law_like
  exact (ds_one (ds_ret (d_ty c_tuple rfl (F.n_tuple) PyProof.Rows.Boot.«tuple» (da_cons (d_lc (own := [("_law_sound", 3)]) hc hN (di_any (d_var (i := 2) rfl (by first | exact .inl rfl | exact .inr (.inl rfl) | exact .inr (.inr rfl)))) (blkOk_by (by kernel_rfl)) (fun s1 H1 C1 cl1 fp1 => (dg_name (i := 3) hN rfl (by first | exact .inl rfl | exact .inr rfl))) (fun s1 H1 C1 cl1 fp1 => dts_nil) (fun s1 H1 C1 cl1 fp1 => (d_ifExp (dt_cmp (o_eq hu) (d_call (c__law_draw.mono (by decide)) hr rfl (dd_cons (d_var (i := 0) rfl (by first | exact .inl rfl | exact .inr (.inl rfl) | exact .inr (.inr rfl))) (dd_cons d_int dd_nil))) d_int rfl) (d_call (c__law_draw.mono (by decide)) hr rfl (dd_cons (d_var (i := 0) rfl (by first | exact .inl rfl | exact .inr (.inl rfl) | exact .inr (.inr rfl))) (dd_cons (d_var (i := 1) rfl (by first | exact .inl rfl | exact .inr (.inl rfl) | exact .inr (.inr rfl))) dd_nil))) (d_var (i := 3) rfl (by first | exact .inl rfl | exact .inr (.inl rfl) | exact .inr (.inr rfl))))) (by decide)) da_nil))))
theorem ok__law_many_rows (F : Fx P w K mg base)  (hd : ∃ fd, FunD K "_law_many_rows" "_law_many_rows" (defArgs (top 36)) (defBody (top 36)) (defScope (top 36)) [] [] (He.ga K "_law_many_rows") fd) :
    ∃ fd, Binds K fd ["_law_sounds", "_law_most"] [] ∧ PySem.W.keepIn K (.ref (He.ga K "_law_many_rows")) = true ∧ FnOk P w K mg base (L2.CX P w) 1 (He.ga K "_law_many_rows") fd ["_law_sounds", "_law_most"] (spF P w K 2 fm__law_many_rows) := by
  obtain ⟨fd, FD⟩ := hd
  refine ⟨fd, FD.bindsN (fun _ _ _ _ _ _ us hl => match us, hl with | [_, _], _ => rfl), FD.kp, ?_⟩
  refine fn_ok (N := ["_law_sounds", "_law_most", "_law_found", "_law_power", "_law_k"]) (n := 2) (nN := 5) FD ⟨rfl, rfl, rfl, by decide +kernel, rfl, by decide +kernel, by decide +kernel⟩ rfl rfl fun cdv A outer s0 H E hr => ?_
  have hN : (["_law_sounds", "_law_most", "_law_found", "_law_power", "_law_k"] : List Str).Nodup := by decide +kernel
  have hc : (cxOf (L2.CX P w) P w K mg base ["_law_sounds", "_law_most", "_law_found", "_law_power", "_law_k"] "_law_many_rows" (defScope (top 36)) (He.ga K "_law_many_rows") cdv A outer s0 H E).calm = true := rfl
  have hu : (cxOf (L2.CX P w) P w K mg base ["_law_sounds", "_law_most", "_law_found", "_law_power", "_law_k"] "_law_many_rows" (defScope (top 36)) (He.ga K "_law_many_rows") cdv A outer s0 H E).A.units + 64 < cLine := hr.units
  have hp : PassesOwn (model P w) (cxOf (L2.CX P w) P w K mg base ["_law_sounds", "_law_most", "_law_found", "_law_power", "_law_k"] "_law_many_rows" (defScope (top 36)) (He.ga K "_law_many_rows") cdv A outer s0 H E).A (cxOf (L2.CX P w) P w K mg base ["_law_sounds", "_law_most", "_law_found", "_law_power", "_law_k"] "_law_many_rows" (defScope (top 36)) (He.ga K "_law_many_rows") cdv A outer s0 H E).env (cxOf (L2.CX P w) P w K mg base ["_law_sounds", "_law_most", "_law_found", "_law_power", "_law_k"] "_law_many_rows" (defScope (top 36)) (He.ga K "_law_many_rows") cdv A outer s0 H E).xe := passes_of rfl
  have hpn : ∀ p ∈ ([] : List (Addr × Obj)), p ∈ (cxOf (L2.CX P w) P w K mg base ["_law_sounds", "_law_most", "_law_found", "_law_power", "_law_k"] "_law_many_rows" (defScope (top 36)) (He.ga K "_law_many_rows") cdv A outer s0 H E).pn := fun _ h => (nomatch h)
  unfold m__law_many_rows
  exact (ds_cons (ds_set (i := 2) hN rfl (by first | exact .inl rfl | exact .inr rfl) d_int)
    (ds_cons (ds_set (i := 3) hN rfl (by first | exact .inl rfl | exact .inr rfl) d_int)
    (ds_cons (ds_for hp hc (di_rng1 rfl (F.n_range) (d_var (i := 1) rfl (by first | exact .inl rfl | exact .inr (.inl rfl) | exact .inr (.inr rfl)))) (dg_name (i := 4) hN rfl (by first | exact .inl rfl | exact .inr rfl)) (ds_cons (ds_set (i := 3) hN rfl (by first | exact .inl rfl | exact .inr rfl) (d_op o_mul (d_var (i := 3) rfl (by first | exact .inl rfl | exact .inr (.inl rfl) | exact .inr (.inr rfl))) (d_var (i := 0) rfl (by first | exact .inl rfl | exact .inr (.inl rfl) | exact .inr (.inr rfl)))))
    (ds_one (ds_set (i := 2) hN rfl (by first | exact .inl rfl | exact .inr rfl) (d_op o_add (d_var (i := 2) rfl (by first | exact .inl rfl | exact .inr (.inl rfl) | exact .inr (.inr rfl))) (d_var (i := 3) rfl (by first | exact .inl rfl | exact .inr (.inl rfl) | exact .inr (.inr rfl))))))))
    (ds_one (ds_ret (d_var (i := 2) rfl (by first | exact .inl rfl | exact .inr (.inl rfl) | exact .inr (.inr rfl))))))))
theorem ok__law_row (F : Fx P w K mg base) (c__law_draw : Cal P w K mg base 1 "_law_draw" 2 fm__law_draw) (hd : ∃ fd, FunD K "_law_row" "_law_row" (defArgs (top 34)) (defBody (top 34)) (defScope (top 34)) [] [] (He.ga K "_law_row") fd) :
    ∃ fd, Binds K fd ["_law_dice_here", "_law_sounds", "_law_most"] [] ∧ PySem.W.keepIn K (.ref (He.ga K "_law_row")) = true ∧ FnOk P w K mg base (L2.CX P w) 2 (He.ga K "_law_row") fd ["_law_dice_here", "_law_sounds", "_law_most"] (spF P w K 3 fm__law_row) := by
  obtain ⟨fd, FD⟩ := hd
  refine ⟨fd, FD.bindsN (fun _ _ _ _ _ _ us hl => match us, hl with | [_, _, _], _ => rfl), FD.kp, ?_⟩
  refine fn_ok (N := ["_law_dice_here", "_law_sounds", "_law_most", "_law_k"]) (n := 3) (nN := 4) FD ⟨rfl, rfl, rfl, by decide +kernel, rfl, by decide +kernel, by decide +kernel⟩ rfl rfl fun cdv A outer s0 H E hr => ?_
  have hN : (["_law_dice_here", "_law_sounds", "_law_most", "_law_k"] : List Str).Nodup := by decide +kernel
  have hc : (cxOf (L2.CX P w) P w K mg base ["_law_dice_here", "_law_sounds", "_law_most", "_law_k"] "_law_row" (defScope (top 34)) (He.ga K "_law_row") cdv A outer s0 H E).calm = true := rfl
  have hu : (cxOf (L2.CX P w) P w K mg base ["_law_dice_here", "_law_sounds", "_law_most", "_law_k"] "_law_row" (defScope (top 34)) (He.ga K "_law_row") cdv A outer s0 H E).A.units + 64 < cLine := hr.units
  have hp : PassesOwn (model P w) (cxOf (L2.CX P w) P w K mg base ["_law_dice_here", "_law_sounds", "_law_most", "_law_k"] "_law_row" (defScope (top 34)) (He.ga K "_law_row") cdv A outer s0 H E).A (cxOf (L2.CX P w) P w K mg base ["_law_dice_here", "_law_sounds", "_law_most", "_law_k"] "_law_row" (defScope (top 34)) (He.ga K "_law_row") cdv A outer s0 H E).env (cxOf (L2.CX P w) P w K mg base ["_law_dice_here", "_law_sounds", "_law_most", "_law_k"] "_law_row" (defScope (top 34)) (He.ga K "_law_row") cdv A outer s0 H E).xe := passes_of rfl
  have hpn : ∀ p ∈ ([] : List (Addr × Obj)), p ∈ (cxOf (L2.CX P w) P w K mg base ["_law_dice_here", "_law_sounds", "_law_most", "_law_k"] "_law_row" (defScope (top 34)) (He.ga K "_law_row") cdv A outer s0 H E).pn := fun _ h => (nomatch h)
  unfold m__law_row
  exact (ds_one (ds_ret (d_ty c_tuple rfl (F.n_tuple) PyProof.Rows.Boot.«tuple» (da_cons (d_lc (own := [("_law_k", 3)]) hc hN (di_rng1 rfl (F.n_range) (d_op o_add d_int (d_call (c__law_draw.mono (by decide)) hr rfl (dd_cons (d_var (i := 0) rfl (by first | exact .inl rfl | exact .inr (.inl rfl) | exact .inr (.inr rfl))) (dd_cons (d_var (i := 2) rfl (by first | exact .inl rfl | exact .inr (.inl rfl) | exact .inr (.inr rfl))) dd_nil))))) (blkOk_by (by kernel_rfl)) (fun s1 H1 C1 cl1 fp1 => (dg_name (i := 3) hN rfl (by first | exact .inl rfl | exact .inr rfl))) (fun s1 H1 C1 cl1 fp1 => dts_nil) (fun s1 H1 C1 cl1 fp1 => (d_call (c__law_draw.mono (by decide)) hr rfl (dd_cons (d_var (i := 0) rfl (by first | exact .inl rfl | exact .inr (.inl rfl) | exact .inr (.inr rfl))) (dd_cons (d_var (i := 1) rfl (by first | exact .inl rfl | exact .inr (.inl rfl) | exact .inr (.inr rfl))) dd_nil)))) (by decide)) da_nil))))
theorem ok_told (F : Fx P w K mg base)  (hd : ∃ fd, FunD K "told" "told" (defArgs (top 20)) (defBody (top 20)) (defScope (top 20)) [] [] (He.ga K "told") fd) :
    ∃ fd, Binds K fd ["book", "left", "right"] [] ∧ PySem.W.keepIn K (.ref (He.ga K "told")) = true ∧ FnOk P w K mg base (L2.CX P w) 1 (He.ga K "told") fd ["book", "left", "right"] (spF P w K 3 fm_told) := by
  obtain ⟨fd, FD⟩ := hd
  refine ⟨fd, FD.bindsN (fun _ _ _ _ _ _ us hl => match us, hl with | [_, _, _], _ => rfl), FD.kp, ?_⟩
  refine fn_ok (N := ["book", "left", "right"]) (n := 3) (nN := 3) FD ⟨rfl, rfl, rfl, by decide +kernel, rfl, by decide +kernel, by decide +kernel⟩ rfl rfl fun cdv A outer s0 H E hr => ?_
  have hN : (["book", "left", "right"] : List Str).Nodup := by decide +kernel
  have hc : (cxOf (L2.CX P w) P w K mg base ["book", "left", "right"] "told" (defScope (top 20)) (He.ga K "told") cdv A outer s0 H E).calm = true := rfl
  have hu : (cxOf (L2.CX P w) P w K mg base ["book", "left", "right"] "told" (defScope (top 20)) (He.ga K "told") cdv A outer s0 H E).A.units + 64 < cLine := hr.units
  have hp : PassesOwn (model P w) (cxOf (L2.CX P w) P w K mg base ["book", "left", "right"] "told" (defScope (top 20)) (He.ga K "told") cdv A outer s0 H E).A (cxOf (L2.CX P w) P w K mg base ["book", "left", "right"] "told" (defScope (top 20)) (He.ga K "told") cdv A outer s0 H E).env (cxOf (L2.CX P w) P w K mg base ["book", "left", "right"] "told" (defScope (top 20)) (He.ga K "told") cdv A outer s0 H E).xe := passes_of rfl
  have hpn : ∀ p ∈ ([] : List (Addr × Obj)), p ∈ (cxOf (L2.CX P w) P w K mg base ["book", "left", "right"] "told" (defScope (top 20)) (He.ga K "told") cdv A outer s0 H E).pn := fun _ h => (nomatch h)
  unfold m_told
  exact (ds_one (ds_ret (d_get hu (d_fld (F.att) (d_var (i := 0) rfl (by first | exact .inl rfl | exact .inr (.inl rfl) | exact .inr (.inr rfl)))) (da_cons (d_tup (dd_cons (d_var (i := 1) rfl (by first | exact .inl rfl | exact .inr (.inl rfl) | exact .inr (.inr rfl))) (dd_cons (d_var (i := 2) rfl (by first | exact .inl rfl | exact .inr (.inl rfl) | exact .inr (.inr rfl))) dd_nil))) (da_cons (d_tup (dd_cons (d_var (i := 1) rfl (by first | exact .inl rfl | exact .inr (.inl rfl) | exact .inr (.inr rfl))) (dd_cons (d_var (i := 2) rfl (by first | exact .inl rfl | exact .inr (.inl rfl) | exact .inr (.inr rfl))) dd_nil))) da_nil)))))
theorem ok_joined_rows (F : Fx P w K mg base) (c_told : Cal P w K mg base 1 "told" 3 fm_told) (hd : ∃ fd, FunD K "joined_rows" "joined_rows" (defArgs (top 22)) (defBody (top 22)) (defScope (top 22)) [] [] (He.ga K "joined_rows") fd) :
    ∃ fd, Binds K fd ["book", "one", "other"] [] ∧ PySem.W.keepIn K (.ref (He.ga K "joined_rows")) = true ∧ FnOk P w K mg base (L2.CX P w) 2 (He.ga K "joined_rows") fd ["book", "one", "other"] (spF P w K 3 fm_joined_rows) := by
  obtain ⟨fd, FD⟩ := hd
  refine ⟨fd, FD.bindsN (fun _ _ _ _ _ _ us hl => match us, hl with | [_, _, _], _ => rfl), FD.kp, ?_⟩
  refine fn_ok (N := ["book", "one", "other", "left", "right", "new_left", "new_right"]) (n := 3) (nN := 7) FD ⟨rfl, rfl, rfl, by decide +kernel, rfl, by decide +kernel, by decide +kernel⟩ rfl rfl fun cdv A outer s0 H E hr => ?_
  have hN : (["book", "one", "other", "left", "right", "new_left", "new_right"] : List Str).Nodup := by decide +kernel
  have hc : (cxOf (L2.CX P w) P w K mg base ["book", "one", "other", "left", "right", "new_left", "new_right"] "joined_rows" (defScope (top 22)) (He.ga K "joined_rows") cdv A outer s0 H E).calm = true := rfl
  have hu : (cxOf (L2.CX P w) P w K mg base ["book", "one", "other", "left", "right", "new_left", "new_right"] "joined_rows" (defScope (top 22)) (He.ga K "joined_rows") cdv A outer s0 H E).A.units + 64 < cLine := hr.units
  have hp : PassesOwn (model P w) (cxOf (L2.CX P w) P w K mg base ["book", "one", "other", "left", "right", "new_left", "new_right"] "joined_rows" (defScope (top 22)) (He.ga K "joined_rows") cdv A outer s0 H E).A (cxOf (L2.CX P w) P w K mg base ["book", "one", "other", "left", "right", "new_left", "new_right"] "joined_rows" (defScope (top 22)) (He.ga K "joined_rows") cdv A outer s0 H E).env (cxOf (L2.CX P w) P w K mg base ["book", "one", "other", "left", "right", "new_left", "new_right"] "joined_rows" (defScope (top 22)) (He.ga K "joined_rows") cdv A outer s0 H E).xe := passes_of rfl
  have hpn : ∀ p ∈ ([] : List (Addr × Obj)), p ∈ (cxOf (L2.CX P w) P w K mg base ["book", "one", "other", "left", "right", "new_left", "new_right"] "joined_rows" (defScope (top 22)) (He.ga K "joined_rows") cdv A outer s0 H E).pn := fun _ h => (nomatch h)
  unfold m_joined_rows
  exact (ds_cons (ds_set (i := 3) hN rfl (by first | exact .inl rfl | exact .inr rfl) (d_slice (d_var (i := 1) rfl (by first | exact .inl rfl | exact .inr (.inl rfl) | exact .inr (.inr rfl))) (do_i (d_un o_neg (d_fld (F.att) (d_var (i := 0) rfl (by first | exact .inl rfl | exact .inr (.inl rfl) | exact .inr (.inr rfl)))))) do_no))
    (ds_cons (ds_set (i := 4) hN rfl (by first | exact .inl rfl | exact .inr rfl) (d_slice (d_var (i := 2) rfl (by first | exact .inl rfl | exact .inr (.inl rfl) | exact .inr (.inr rfl))) do_no (do_i (d_fld (F.att) (d_var (i := 0) rfl (by first | exact .inl rfl | exact .inr (.inl rfl) | exact .inr (.inr rfl)))))))
    (ds_cons (ds_asg (d_call (c_told.mono (by decide)) hr rfl (dd_cons (d_var (i := 0) rfl (by first | exact .inl rfl | exact .inr (.inl rfl) | exact .inr (.inr rfl))) (dd_cons (d_var (i := 3) rfl (by first | exact .inl rfl | exact .inr (.inl rfl) | exact .inr (.inr rfl))) (dd_cons (d_var (i := 4) rfl (by first | exact .inl rfl | exact .inr (.inl rfl) | exact .inr (.inr rfl))) dd_nil)))) (dg_tup hc (dgs_cons (dg_name (i := 5) hN rfl (by first | exact .inl rfl | exact .inr rfl)) (dgs_cons (dg_name (i := 6) hN rfl (by first | exact .inl rfl | exact .inr rfl)) dgs_nil))))
    (ds_one (ds_ret (d_tup (dd_cons (d_op o_add (d_slice (d_var (i := 1) rfl (by first | exact .inl rfl | exact .inr (.inl rfl) | exact .inr (.inr rfl))) do_no (do_i (d_op o_sub (d_bi c_len rfl (F.n_len) PyProof.Rows.Boot.«len» (da_cons (d_var (i := 1) rfl (by first | exact .inl rfl | exact .inr (.inl rfl) | exact .inr (.inr rfl))) da_nil)) (d_bi c_len rfl (F.n_len) PyProof.Rows.Boot.«len» (da_cons (d_var (i := 3) rfl (by first | exact .inl rfl | exact .inr (.inl rfl) | exact .inr (.inr rfl))) da_nil))))) (d_var (i := 5) rfl (by first | exact .inl rfl | exact .inr (.inl rfl) | exact .inr (.inr rfl)))) (dd_cons (d_op o_add (d_var (i := 6) rfl (by first | exact .inl rfl | exact .inr (.inl rfl) | exact .inr (.inr rfl))) (d_slice (d_var (i := 2) rfl (by first | exact .inl rfl | exact .inr (.inl rfl) | exact .inr (.inr rfl))) (do_i (d_bi c_len rfl (F.n_len) PyProof.Rows.Boot.«len» (da_cons (d_var (i := 4) rfl (by first | exact .inl rfl | exact .inr (.inl rfl) | exact .inr (.inr rfl))) da_nil))) do_no)) dd_nil))))))))
theorem ok_met_rows (F : Fx P w K mg base) (c_joined_rows : Cal P w K mg base 2 "joined_rows" 3 fm_joined_rows) (hd : ∃ fd, FunD K "met_rows" "met_rows" (defArgs (top 25)) (defBody (top 25)) (defScope (top 25)) [] [] (He.ga K "met_rows") fd) :
    ∃ fd, Binds K fd ["book", "one", "other"] [] ∧ PySem.W.keepIn K (.ref (He.ga K "met_rows")) = true ∧ FnOk P w K mg base (L2.CX P w) 3 (He.ga K "met_rows") fd ["book", "one", "other"] (spF P w K 3 fm_met_rows) := by
  obtain ⟨fd, FD⟩ := hd
  refine ⟨fd, FD.bindsN (fun _ _ _ _ _ _ us hl => match us, hl with | [_, _, _], _ => rfl), FD.kp, ?_⟩
  refine fn_ok (N := ["book", "one", "other", "ahead", "behind"]) (n := 3) (nN := 5) FD ⟨rfl, rfl, rfl, by decide +kernel, rfl, by decide +kernel, by decide +kernel⟩ rfl rfl fun cdv A outer s0 H E hr => ?_
  have hN : (["book", "one", "other", "ahead", "behind"] : List Str).Nodup := by decide +kernel
  have hc : (cxOf (L2.CX P w) P w K mg base ["book", "one", "other", "ahead", "behind"] "met_rows" (defScope (top 25)) (He.ga K "met_rows") cdv A outer s0 H E).calm = true := rfl
  have hu : (cxOf (L2.CX P w) P w K mg base ["book", "one", "other", "ahead", "behind"] "met_rows" (defScope (top 25)) (He.ga K "met_rows") cdv A outer s0 H E).A.units + 64 < cLine := hr.units
  have hp : PassesOwn (model P w) (cxOf (L2.CX P w) P w K mg base ["book", "one", "other", "ahead", "behind"] "met_rows" (defScope (top 25)) (He.ga K "met_rows") cdv A outer s0 H E).A (cxOf (L2.CX P w) P w K mg base ["book", "one", "other", "ahead", "behind"] "met_rows" (defScope (top 25)) (He.ga K "met_rows") cdv A outer s0 H E).env (cxOf (L2.CX P w) P w K mg base ["book", "one", "other", "ahead", "behind"] "met_rows" (defScope (top 25)) (He.ga K "met_rows") cdv A outer s0 H E).xe := passes_of rfl
  have hpn : ∀ p ∈ ([] : List (Addr × Obj)), p ∈ (cxOf (L2.CX P w) P w K mg base ["book", "one", "other", "ahead", "behind"] "met_rows" (defScope (top 25)) (He.ga K "met_rows") cdv A outer s0 H E).pn := fun _ h => (nomatch h)
  unfold m_met_rows
  exact (ds_cons (ds_asg (d_call (c_joined_rows.mono (by decide)) hr rfl (dd_cons (d_var (i := 0) rfl (by first | exact .inl rfl | exact .inr (.inl rfl) | exact .inr (.inr rfl))) (dd_cons (d_var (i := 1) rfl (by first | exact .inl rfl | exact .inr (.inl rfl) | exact .inr (.inr rfl))) (dd_cons (d_var (i := 2) rfl (by first | exact .inl rfl | exact .inr (.inl rfl) | exact .inr (.inr rfl))) dd_nil)))) (dg_tup hc (dgs_cons (dg_name (i := 3) hN rfl (by first | exact .inl rfl | exact .inr rfl)) (dgs_cons (dg_name (i := 4) hN rfl (by first | exact .inl rfl | exact .inr rfl)) dgs_nil))))
    (ds_one (ds_ret (d_op o_add (d_var (i := 3) rfl (by first | exact .inl rfl | exact .inr (.inl rfl) | exact .inr (.inr rfl))) (d_var (i := 4) rfl (by first | exact .inl rfl | exact .inr (.inl rfl) | exact .inr (.inr rfl)))))))
theorem ok_matters_at (F : Fx P w K mg base) (c_met_rows : Cal P w K mg base 3 "met_rows" 3 fm_met_rows) (hd : ∃ fd, FunD K "matters_at" "matters_at" (defArgs (top 26)) (defBody (top 26)) (defScope (top 26)) [] [] (He.ga K "matters_at") fd) :
    ∃ fd, Binds K fd ["book", "x", "y", "z"] [] ∧ PySem.W.keepIn K (.ref (He.ga K "matters_at")) = true ∧ FnOk P w K mg base (L2.CX P w) 4 (He.ga K "matters_at") fd ["book", "x", "y", "z"] (spF P w K 4 fm_matters_at) := by
  obtain ⟨fd, FD⟩ := hd
  refine ⟨fd, FD.bindsN (fun _ _ _ _ _ _ us hl => match us, hl with | [_, _, _, _], _ => rfl), FD.kp, ?_⟩
  refine fn_ok (N := ["book", "x", "y", "z"]) (n := 4) (nN := 4) FD ⟨rfl, rfl, rfl, by decide +kernel, rfl, by decide +kernel, by decide +kernel⟩ rfl rfl fun cdv A outer s0 H E hr => ?_
  have hN : (["book", "x", "y", "z"] : List Str).Nodup := by decide +kernel
  have hc : (cxOf (L2.CX P w) P w K mg base ["book", "x", "y", "z"] "matters_at" (defScope (top 26)) (He.ga K "matters_at") cdv A outer s0 H E).calm = true := rfl
  have hu : (cxOf (L2.CX P w) P w K mg base ["book", "x", "y", "z"] "matters_at" (defScope (top 26)) (He.ga K "matters_at") cdv A outer s0 H E).A.units + 64 < cLine := hr.units
  have hp : PassesOwn (model P w) (cxOf (L2.CX P w) P w K mg base ["book", "x", "y", "z"] "matters_at" (defScope (top 26)) (He.ga K "matters_at") cdv A outer s0 H E).A (cxOf (L2.CX P w) P w K mg base ["book", "x", "y", "z"] "matters_at" (defScope (top 26)) (He.ga K "matters_at") cdv A outer s0 H E).env (cxOf (L2.CX P w) P w K mg base ["book", "x", "y", "z"] "matters_at" (defScope (top 26)) (He.ga K "matters_at") cdv A outer s0 H E).xe := passes_of rfl
  have hpn : ∀ p ∈ ([] : List (Addr × Obj)), p ∈ (cxOf (L2.CX P w) P w K mg base ["book", "x", "y", "z"] "matters_at" (defScope (top 26)) (He.ga K "matters_at") cdv A outer s0 H E).pn := fun _ h => (nomatch h)
  unfold m_matters_at
  exact (ds_one (ds_ret (d_cmp (o_ne hu) (d_call (c_met_rows.mono (by decide)) hr rfl (dd_cons (d_var (i := 0) rfl (by first | exact .inl rfl | exact .inr (.inl rfl) | exact .inr (.inr rfl))) (dd_cons (d_var (i := 1) rfl (by first | exact .inl rfl | exact .inr (.inl rfl) | exact .inr (.inr rfl))) (dd_cons (d_call (c_met_rows.mono (by decide)) hr rfl (dd_cons (d_var (i := 0) rfl (by first | exact .inl rfl | exact .inr (.inl rfl) | exact .inr (.inr rfl))) (dd_cons (d_var (i := 2) rfl (by first | exact .inl rfl | exact .inr (.inl rfl) | exact .inr (.inr rfl))) (dd_cons (d_var (i := 3) rfl (by first | exact .inl rfl | exact .inr (.inl rfl) | exact .inr (.inr rfl))) dd_nil)))) dd_nil)))) (d_call (c_met_rows.mono (by decide)) hr rfl (dd_cons (d_var (i := 0) rfl (by first | exact .inl rfl | exact .inr (.inl rfl) | exact .inr (.inr rfl))) (dd_cons (d_call (c_met_rows.mono (by decide)) hr rfl (dd_cons (d_var (i := 0) rfl (by first | exact .inl rfl | exact .inr (.inl rfl) | exact .inr (.inr rfl))) (dd_cons (d_var (i := 1) rfl (by first | exact .inl rfl | exact .inr (.inl rfl) | exact .inr (.inr rfl))) (dd_cons (d_var (i := 2) rfl (by first | exact .inl rfl | exact .inr (.inl rfl) | exact .inr (.inr rfl))) dd_nil)))) (dd_cons (d_var (i := 3) rfl (by first | exact .inl rfl | exact .inr (.inl rfl) | exact .inr (.inr rfl))) dd_nil)))) rfl)))
theorem ok_rows_many (F : Fx P w K mg base)  (hd : ∃ fd, FunD K "rows_many" "rows_many" (defArgs (top 18)) (defBody (top 18)) (defScope (top 18)) [] [] (He.ga K "rows_many") fd) :
    ∃ fd, Binds K fd ["sounds", "most"] [] ∧ PySem.W.keepIn K (.ref (He.ga K "rows_many")) = true ∧ FnOk P w K mg base (L2.CX P w) 1 (He.ga K "rows_many") fd ["sounds", "most"] (spF P w K 2 fm_rows_many) := by
  obtain ⟨fd, FD⟩ := hd
  refine ⟨fd, FD.bindsN (fun _ _ _ _ _ _ us hl => match us, hl with | [_, _], _ => rfl), FD.kp, ?_⟩
  refine fn_ok (N := ["sounds", "most", "total", "power", "_"]) (n := 2) (nN := 5) FD ⟨rfl, rfl, rfl, by decide +kernel, rfl, by decide +kernel, by decide +kernel⟩ rfl rfl fun cdv A outer s0 H E hr => ?_
  have hN : (["sounds", "most", "total", "power", "_"] : List Str).Nodup := by decide +kernel
  have hc : (cxOf (L2.CX P w) P w K mg base ["sounds", "most", "total", "power", "_"] "rows_many" (defScope (top 18)) (He.ga K "rows_many") cdv A outer s0 H E).calm = true := rfl
  have hu : (cxOf (L2.CX P w) P w K mg base ["sounds", "most", "total", "power", "_"] "rows_many" (defScope (top 18)) (He.ga K "rows_many") cdv A outer s0 H E).A.units + 64 < cLine := hr.units
  have hp : PassesOwn (model P w) (cxOf (L2.CX P w) P w K mg base ["sounds", "most", "total", "power", "_"] "rows_many" (defScope (top 18)) (He.ga K "rows_many") cdv A outer s0 H E).A (cxOf (L2.CX P w) P w K mg base ["sounds", "most", "total", "power", "_"] "rows_many" (defScope (top 18)) (He.ga K "rows_many") cdv A outer s0 H E).env (cxOf (L2.CX P w) P w K mg base ["sounds", "most", "total", "power", "_"] "rows_many" (defScope (top 18)) (He.ga K "rows_many") cdv A outer s0 H E).xe := passes_of rfl
  have hpn : ∀ p ∈ ([] : List (Addr × Obj)), p ∈ (cxOf (L2.CX P w) P w K mg base ["sounds", "most", "total", "power", "_"] "rows_many" (defScope (top 18)) (He.ga K "rows_many") cdv A outer s0 H E).pn := fun _ h => (nomatch h)
  unfold m_rows_many
  exact (ds_cons (ds_set (i := 2) hN rfl (by first | exact .inl rfl | exact .inr rfl) d_int)
    (ds_cons (ds_set (i := 3) hN rfl (by first | exact .inl rfl | exact .inr rfl) d_int)
    (ds_cons (ds_for hp hc (di_rng1 rfl (F.n_range) (d_var (i := 1) rfl (by first | exact .inl rfl | exact .inr (.inl rfl) | exact .inr (.inr rfl)))) (dg_name (i := 4) hN rfl (by first | exact .inl rfl | exact .inr rfl)) (ds_cons (ds_set (i := 3) hN rfl (by first | exact .inl rfl | exact .inr rfl) (d_op o_mul (d_var (i := 3) rfl (by first | exact .inl rfl | exact .inr (.inl rfl) | exact .inr (.inr rfl))) (d_var (i := 0) rfl (by first | exact .inl rfl | exact .inr (.inl rfl) | exact .inr (.inr rfl)))))
    (ds_one (ds_aug (i := 2) hN rfl (by first | exact .inl rfl | exact .inr rfl) (d_var (i := 3) rfl (by first | exact .inl rfl | exact .inr (.inl rfl) | exact .inr (.inr rfl))) o_iadd))))
    (ds_one (ds_ret (d_var (i := 2) rfl (by first | exact .inl rfl | exact .inr (.inl rfl) | exact .inr (.inr rfl))))))))
theorem ok_rows_to (F : Fx P w K mg base)  (hd : ∃ fd, FunD K "rows_to" "rows_to" (defArgs (top 19)) (defBody (top 19)) (defScope (top 19)) [] [] (He.ga K "rows_to") fd) :
    ∃ fd, Binds K fd ["sounds", "most"] [] ∧ PySem.W.keepIn K (.ref (He.ga K "rows_to")) = true ∧ FnOk P w K mg base (L2.CX P w) 1 (He.ga K "rows_to") fd ["sounds", "most"] (spF P w K 2 fm_rows_to) := by
  obtain ⟨fd, FD⟩ := hd
  refine ⟨fd, FD.bindsN (fun _ _ _ _ _ _ us hl => match us, hl with | [_, _], _ => rfl), FD.kp, ?_⟩
  refine fn_ok (N := ["sounds", "most", "found", "last", "_", "longer", "row", "sound"]) (n := 2) (nN := 8) FD ⟨rfl, rfl, rfl, by decide +kernel, rfl, by decide +kernel, by decide +kernel⟩ rfl rfl fun cdv A outer s0 H E hr => ?_
  have hN : (["sounds", "most", "found", "last", "_", "longer", "row", "sound"] : List Str).Nodup := by decide +kernel
  have hc : (cxOf (L2.CX P w) P w K mg base ["sounds", "most", "found", "last", "_", "longer", "row", "sound"] "rows_to" (defScope (top 19)) (He.ga K "rows_to") cdv A outer s0 H E).calm = true := rfl
  have hu : (cxOf (L2.CX P w) P w K mg base ["sounds", "most", "found", "last", "_", "longer", "row", "sound"] "rows_to" (defScope (top 19)) (He.ga K "rows_to") cdv A outer s0 H E).A.units + 64 < cLine := hr.units
  have hp : PassesOwn (model P w) (cxOf (L2.CX P w) P w K mg base ["sounds", "most", "found", "last", "_", "longer", "row", "sound"] "rows_to" (defScope (top 19)) (He.ga K "rows_to") cdv A outer s0 H E).A (cxOf (L2.CX P w) P w K mg base ["sounds", "most", "found", "last", "_", "longer", "row", "sound"] "rows_to" (defScope (top 19)) (He.ga K "rows_to") cdv A outer s0 H E).env (cxOf (L2.CX P w) P w K mg base ["sounds", "most", "found", "last", "_", "longer", "row", "sound"] "rows_to" (defScope (top 19)) (He.ga K "rows_to") cdv A outer s0 H E).xe := passes_of rfl
  have hpn : ∀ p ∈ ([] : List (Addr × Obj)), p ∈ (cxOf (L2.CX P w) P w K mg base ["sounds", "most", "found", "last", "_", "longer", "row", "sound"] "rows_to" (defScope (top 19)) (He.ga K "rows_to") cdv A outer s0 H E).pn := fun _ h => (nomatch h)
  unfold m_rows_to
  exact (ds_cons (ds_set (i := 2) hN rfl (by first | exact .inl rfl | exact .inr rfl) (d_lst dd_nil))
    (ds_cons (ds_set (i := 3) hN rfl (by first | exact .inl rfl | exact .inr rfl) (d_lst (dd_cons (d_tup dd_nil) dd_nil)))
    (ds_cons (ds_for hp hc (di_rng1 rfl (F.n_range) (d_var (i := 1) rfl (by first | exact .inl rfl | exact .inr (.inl rfl) | exact .inr (.inr rfl)))) (dg_name (i := 4) hN rfl (by first | exact .inl rfl | exact .inr rfl)) (ds_cons (ds_set (i := 5) hN rfl (by first | exact .inl rfl | exact .inr rfl) (d_lst dd_nil))
    (ds_cons (ds_for hp hc (di_any (d_var (i := 3) rfl (by first | exact .inl rfl | exact .inr (.inl rfl) | exact .inr (.inr rfl)))) (dg_name (i := 6) hN rfl (by first | exact .inl rfl | exact .inr rfl)) (ds_one (ds_expr (d_bm PySem.F.plainAttrs_list PySem.F.slot_list_extend PySem.F.type_list_extend m_extend (d_var (i := 5) rfl (by first | exact .inl rfl | exact .inr (.inl rfl) | exact .inr (.inr rfl))) (da_cons (d_lc (own := [("sound", 7)]) hc hN (di_rng1 rfl (F.n_range) (d_var (i := 0) rfl (by first | exact .inl rfl | exact .inr (.inl rfl) | exact .inr (.inr rfl)))) (blkOk_by (by kernel_rfl)) (fun s1 H1 C1 cl1 fp1 => (dg_name (i := 7) hN rfl (by first | exact .inl rfl | exact .inr rfl))) (fun s1 H1 C1 cl1 fp1 => dts_nil) (fun s1 H1 C1 cl1 fp1 => (d_op o_add (d_var (i := 6) rfl (by first | exact .inl rfl | exact .inr (.inl rfl) | exact .inr (.inr rfl))) (d_tup (dd_cons (d_var (i := 7) rfl (by first | exact .inl rfl | exact .inr (.inl rfl) | exact .inr (.inr rfl))) dd_nil)))) (by decide)) da_nil)))))
    (ds_cons (ds_expr (d_bm PySem.F.plainAttrs_list PySem.F.slot_list_extend PySem.F.type_list_extend m_extend (d_var (i := 2) rfl (by first | exact .inl rfl | exact .inr (.inl rfl) | exact .inr (.inr rfl))) (da_cons (d_var (i := 5) rfl (by first | exact .inl rfl | exact .inr (.inl rfl) | exact .inr (.inr rfl))) da_nil)))
    (ds_one (ds_set (i := 3) hN rfl (by first | exact .inl rfl | exact .inr rfl) (d_var (i := 5) rfl (by first | exact .inl rfl | exact .inr (.inl rfl) | exact .inr (.inr rfl)))))))))
    (ds_one (ds_ret (d_var (i := 2) rfl (by first | exact .inl rfl | exact .inr (.inl rfl) | exact .inr (.inr rfl))))))))
theorem ok_Book_reach (F : Fx P w K mg base)  (hd : ∃ fd, FunD K "reach" "Book.reach" (defArgs (meth 17 6)) (defBody (meth 17 6)) (defScope (meth 17 6)) [] [] (He.ma K (He.ga K "Book") "reach") fd) :
    ∃ fd, Binds K fd ["self"] [] ∧ PySem.W.keepIn K (.ref (He.ma K (He.ga K "Book") "reach")) = true ∧ FnOk P w K mg base (L2.CX P w) 1 (He.ma K (He.ga K "Book") "reach") fd ["self"] (spF P w K 1 fm_Book_reach) := by
  obtain ⟨fd, FD⟩ := hd
  refine ⟨fd, FD.bindsN (fun _ _ _ _ _ _ us hl => match us, hl with | [_], _ => rfl), FD.kp, ?_⟩
  refine fn_ok (N := ["self"]) (n := 1) (nN := 1) FD ⟨rfl, rfl, rfl, by decide +kernel, rfl, by decide +kernel, by decide +kernel⟩ rfl rfl fun cdv A outer s0 H E hr => ?_
  have hN : (["self"] : List Str).Nodup := by decide +kernel
  have hc : (cxOf (L2.CX P w) P w K mg base ["self"] "Book.reach" (defScope (meth 17 6)) (He.ma K (He.ga K "Book") "reach") cdv A outer s0 H E).calm = true := rfl
  have hu : (cxOf (L2.CX P w) P w K mg base ["self"] "Book.reach" (defScope (meth 17 6)) (He.ma K (He.ga K "Book") "reach") cdv A outer s0 H E).A.units + 64 < cLine := hr.units
  have hp : PassesOwn (model P w) (cxOf (L2.CX P w) P w K mg base ["self"] "Book.reach" (defScope (meth 17 6)) (He.ma K (He.ga K "Book") "reach") cdv A outer s0 H E).A (cxOf (L2.CX P w) P w K mg base ["self"] "Book.reach" (defScope (meth 17 6)) (He.ma K (He.ga K "Book") "reach") cdv A outer s0 H E).env (cxOf (L2.CX P w) P w K mg base ["self"] "Book.reach" (defScope (meth 17 6)) (He.ma K (He.ga K "Book") "reach") cdv A outer s0 H E).xe := passes_of rfl
  have hpn : ∀ p ∈ ([] : List (Addr × Obj)), p ∈ (cxOf (L2.CX P w) P w K mg base ["self"] "Book.reach" (defScope (meth 17 6)) (He.ma K (He.ga K "Book") "reach") cdv A outer s0 H E).pn := fun _ h => (nomatch h)
  unfold m_Book_reach
  exact (ds_one (ds_ret (d_op o_add (d_fld (F.att) (d_var (i := 0) rfl (by first | exact .inl rfl | exact .inr (.inl rfl) | exact .inr (.inr rfl)))) (d_fld (F.att) (d_var (i := 0) rfl (by first | exact .inl rfl | exact .inr (.inl rfl) | exact .inr (.inr rfl)))))))
theorem ok_triples (F : Fx P w K mg base) (c_rows_many : Cal P w K mg base 1 "rows_many" 2 fm_rows_many) (c_rows_to : Cal P w K mg base 1 "rows_to" 2 fm_rows_to) (c_Book_reach : MCal P w K mg base 1 "Book" "reach" 1 fm_Book_reach) (hd : ∃ fd, FunD K "triples" "triples" (defArgs (top 27)) (defBody (top 27)) (defScope (top 27)) [] [] (He.ga K "triples") fd) :
    ∃ fd, Binds K fd ["book"] [] ∧ PySem.W.keepIn K (.ref (He.ga K "triples")) = true ∧ FnOk P w K mg base (L2.CX P w) 3 (He.ga K "triples") fd ["book"] (spF P w K 1 fm_triples) := by
  obtain ⟨fd, FD⟩ := hd
  refine ⟨fd, FD.bindsN (fun _ _ _ _ _ _ us hl => match us, hl with | [_], _ => rfl), FD.kp, ?_⟩
  refine fn_ok (N := ["book", "sizes", "many", "size", "rows", "found", "x", "y", "z"]) (n := 1) (nN := 9) FD ⟨rfl, rfl, rfl, by decide +kernel, rfl, by decide +kernel, by decide +kernel⟩ rfl rfl fun cdv A outer s0 H E hr => ?_
  have hN : (["book", "sizes", "many", "size", "rows", "found", "x", "y", "z"] : List Str).Nodup := by decide +kernel
  have hc : (cxOf (L2.CX P w) P w K mg base ["book", "sizes", "many", "size", "rows", "found", "x", "y", "z"] "triples" (defScope (top 27)) (He.ga K "triples") cdv A outer s0 H E).calm = true := rfl
  have hu : (cxOf (L2.CX P w) P w K mg base ["book", "sizes", "many", "size", "rows", "found", "x", "y", "z"] "triples" (defScope (top 27)) (He.ga K "triples") cdv A outer s0 H E).A.units + 64 < cLine := hr.units
  have hp : PassesOwn (model P w) (cxOf (L2.CX P w) P w K mg base ["book", "sizes", "many", "size", "rows", "found", "x", "y", "z"] "triples" (defScope (top 27)) (He.ga K "triples") cdv A outer s0 H E).A (cxOf (L2.CX P w) P w K mg base ["book", "sizes", "many", "size", "rows", "found", "x", "y", "z"] "triples" (defScope (top 27)) (He.ga K "triples") cdv A outer s0 H E).env (cxOf (L2.CX P w) P w K mg base ["book", "sizes", "many", "size", "rows", "found", "x", "y", "z"] "triples" (defScope (top 27)) (He.ga K "triples") cdv A outer s0 H E).xe := passes_of rfl
  have hpn : ∀ p ∈ ([] : List (Addr × Obj)), p ∈ (cxOf (L2.CX P w) P w K mg base ["book", "sizes", "many", "size", "rows", "found", "x", "y", "z"] "triples" (defScope (top 27)) (He.ga K "triples") cdv A outer s0 H E).pn := fun _ h => (nomatch h)
  unfold m_triples
  exact (ds_cons (ds_set (i := 1) hN rfl (by first | exact .inl rfl | exact .inr rfl) (d_tup (dd_cons (d_fld (F.att) (d_var (i := 0) rfl (by first | exact .inl rfl | exact .inr (.inl rfl) | exact .inr (.inr rfl)))) (dd_cons (d_op o_sub (d_meth0 (d_var (i := 0) rfl (by first | exact .inl rfl | exact .inr (.inl rfl) | exact .inr (.inr rfl))) (fun c0 F0 h0 => (by cases h0 with | head => exact c_Book_reach.mono (by decide) | tail _ h => cases h)) hr) d_int) (dd_cons (d_fld (F.att) (d_var (i := 0) rfl (by first | exact .inl rfl | exact .inr (.inl rfl) | exact .inr (.inr rfl)))) dd_nil)))))
    (ds_cons (ds_set (i := 2) hN rfl (by first | exact .inl rfl | exact .inr rfl) d_int)
    (ds_cons (ds_for hp hc (di_any (d_var (i := 1) rfl (by first | exact .inl rfl | exact .inr (.inl rfl) | exact .inr (.inr rfl)))) (dg_name (i := 3) hN rfl (by first | exact .inl rfl | exact .inr rfl)) (ds_one (ds_set (i := 2) hN rfl (by first | exact .inl rfl | exact .inr rfl) (d_op o_mul (d_var (i := 2) rfl (by first | exact .inl rfl | exact .inr (.inl rfl) | exact .inr (.inr rfl))) (d_call (c_rows_many.mono (by decide)) hr rfl (dd_cons (d_fld (F.att) (d_var (i := 0) rfl (by first | exact .inl rfl | exact .inr (.inl rfl) | exact .inr (.inr rfl)))) (dd_cons (d_var (i := 3) rfl (by first | exact .inl rfl | exact .inr (.inl rfl) | exact .inr (.inr rfl))) dd_nil)))))))
    (ds_cons (ds_if (dt_cmp (o_gt hu) (d_var (i := 2) rfl (by first | exact .inl rfl | exact .inr (.inl rfl) | exact .inr (.inr rfl))) (d_gi rfl (F.i_MOST_TRIPLES)) rfl) (ds_one (ds_raise1 hc (F.x_TooMany) (hr.mono (by decide)) rfl (d_gi rfl (F.i_MOST_TRIPLES)))) ds_nil)
    (ds_cons (ds_setLc (i := 4) (own := [("size", 3)]) hc hN rfl rfl rfl (di_any (d_var (i := 1) rfl (by first | exact .inl rfl | exact .inr (.inl rfl) | exact .inr (.inr rfl)))) (blkOk_by (by kernel_rfl)) (fun s1 H1 C1 cl1 fp1 => (dg_name (i := 3) hN rfl (by first | exact .inl rfl | exact .inr rfl))) (fun s1 H1 C1 cl1 fp1 => dts_nil) (fun s1 H1 C1 cl1 fp1 => (d_call (c_rows_to.mono (by decide)) hr rfl (dd_cons (d_fld (F.att) (d_var (i := 0) rfl (by first | exact .inl rfl | exact .inr (.inl rfl) | exact .inr (.inr rfl)))) (dd_cons (d_var (i := 3) rfl (by first | exact .inl rfl | exact .inr (.inl rfl) | exact .inr (.inr rfl))) dd_nil)))) (by decide))
    (ds_cons (ds_set (i := 5) hN rfl (by first | exact .inl rfl | exact .inr rfl) (d_lst dd_nil))
    (ds_cons (ds_for hp hc (di_any (d_ix (o_ixA hu) (d_var (i := 4) rfl (by first | exact .inl rfl | exact .inr (.inl rfl) | exact .inr (.inr rfl))) d_int)) (dg_name (i := 6) hN rfl (by first | exact .inl rfl | exact .inr rfl)) (ds_one (ds_for hp hc (di_any (d_ix (o_ixA hu) (d_var (i := 4) rfl (by first | exact .inl rfl | exact .inr (.inl rfl) | exact .inr (.inr rfl))) d_int)) (dg_name (i := 7) hN rfl (by first | exact .inl rfl | exact .inr rfl)) (ds_one (ds_expr (d_bm PySem.F.plainAttrs_list PySem.F.slot_list_extend PySem.F.type_list_extend m_extend (d_var (i := 5) rfl (by first | exact .inl rfl | exact .inr (.inl rfl) | exact .inr (.inr rfl))) (da_cons (d_lc (own := [("z", 8)]) hc hN (di_any (d_ix (o_ixA hu) (d_var (i := 4) rfl (by first | exact .inl rfl | exact .inr (.inl rfl) | exact .inr (.inr rfl))) d_int)) (blkOk_by (by kernel_rfl)) (fun s1 H1 C1 cl1 fp1 => (dg_name (i := 8) hN rfl (by first | exact .inl rfl | exact .inr rfl))) (fun s1 H1 C1 cl1 fp1 => dts_nil) (fun s1 H1 C1 cl1 fp1 => (d_tup (dd_cons (d_var (i := 6) rfl (by first | exact .inl rfl | exact .inr (.inl rfl) | exact .inr (.inr rfl))) (dd_cons (d_var (i := 7) rfl (by first | exact .inl rfl | exact .inr (.inl rfl) | exact .inr (.inr rfl))) (dd_cons (d_var (i := 8) rfl (by first | exact .inl rfl | exact .inr (.inl rfl) | exact .inr (.inr rfl))) dd_nil))))) (by decide)) da_nil)))))))
    (ds_one (ds_ret (d_var (i := 5) rfl (by first | exact .inl rfl | exact .inr (.inl rfl) | exact .inr (.inr rfl))))))))))))
theorem ok_matters (F : Fx P w K mg base) (c_matters_at : Cal P w K mg base 4 "matters_at" 4 fm_matters_at) (c_triples : Cal P w K mg base 3 "triples" 1 fm_triples) (hd : ∃ fd, FunD K "matters" "matters" (defArgs (top 28)) (defBody (top 28)) (defScope (top 28)) [] [] (He.ga K "matters") fd) :
    ∃ fd, Binds K fd ["book"] [] ∧ PySem.W.keepIn K (.ref (He.ga K "matters")) = true ∧ FnOk P w K mg base (L2.CX P w) 5 (He.ga K "matters") fd ["book"] (spF P w K 1 fm_matters) := by
  obtain ⟨fd, FD⟩ := hd
  refine ⟨fd, FD.bindsN (fun _ _ _ _ _ _ us hl => match us, hl with | [_], _ => rfl), FD.kp, ?_⟩
  refine fn_ok (N := ["book", "best", "x", "y", "z", "key"]) (n := 1) (nN := 6) FD ⟨rfl, rfl, rfl, by decide +kernel, rfl, by decide +kernel, by decide +kernel⟩ rfl rfl fun cdv A outer s0 H E hr => ?_
  have hN : (["book", "best", "x", "y", "z", "key"] : List Str).Nodup := by decide +kernel
  have hc : (cxOf (L2.CX P w) P w K mg base ["book", "best", "x", "y", "z", "key"] "matters" (defScope (top 28)) (He.ga K "matters") cdv A outer s0 H E).calm = true := rfl
  have hu : (cxOf (L2.CX P w) P w K mg base ["book", "best", "x", "y", "z", "key"] "matters" (defScope (top 28)) (He.ga K "matters") cdv A outer s0 H E).A.units + 64 < cLine := hr.units
  have hp : PassesOwn (model P w) (cxOf (L2.CX P w) P w K mg base ["book", "best", "x", "y", "z", "key"] "matters" (defScope (top 28)) (He.ga K "matters") cdv A outer s0 H E).A (cxOf (L2.CX P w) P w K mg base ["book", "best", "x", "y", "z", "key"] "matters" (defScope (top 28)) (He.ga K "matters") cdv A outer s0 H E).env (cxOf (L2.CX P w) P w K mg base ["book", "best", "x", "y", "z", "key"] "matters" (defScope (top 28)) (He.ga K "matters") cdv A outer s0 H E).xe := passes_of rfl
  have hpn : ∀ p ∈ ([] : List (Addr × Obj)), p ∈ (cxOf (L2.CX P w) P w K mg base ["book", "best", "x", "y", "z", "key"] "matters" (defScope (top 28)) (He.ga K "matters") cdv A outer s0 H E).pn := fun _ h => (nomatch h)
  unfold m_matters
  exact (ds_cons (ds_set (i := 1) hN rfl (by first | exact .inl rfl | exact .inr rfl) d_non)
    (ds_cons (ds_for hp hc (di_any (d_call (c_triples.mono (by decide)) hr rfl (dd_cons (d_var (i := 0) rfl (by first | exact .inl rfl | exact .inr (.inl rfl) | exact .inr (.inr rfl))) dd_nil))) (dg_tup hc (dgs_cons (dg_name (i := 2) hN rfl (by first | exact .inl rfl | exact .inr rfl)) (dgs_cons (dg_name (i := 3) hN rfl (by first | exact .inl rfl | exact .inr rfl)) (dgs_cons (dg_name (i := 4) hN rfl (by first | exact .inl rfl | exact .inr rfl)) dgs_nil)))) (ds_cons (ds_set (i := 5) hN rfl (by first | exact .inl rfl | exact .inr rfl) (d_tup (dd_cons (d_op o_add (d_op o_add (d_bi c_len rfl (F.n_len) PyProof.Rows.Boot.«len» (da_cons (d_var (i := 2) rfl (by first | exact .inl rfl | exact .inr (.inl rfl) | exact .inr (.inr rfl))) da_nil)) (d_bi c_len rfl (F.n_len) PyProof.Rows.Boot.«len» (da_cons (d_var (i := 3) rfl (by first | exact .inl rfl | exact .inr (.inl rfl) | exact .inr (.inr rfl))) da_nil))) (d_bi c_len rfl (F.n_len) PyProof.Rows.Boot.«len» (da_cons (d_var (i := 4) rfl (by first | exact .inl rfl | exact .inr (.inl rfl) | exact .inr (.inr rfl))) da_nil))) (dd_cons (d_tup (dd_cons (d_var (i := 2) rfl (by first | exact .inl rfl | exact .inr (.inl rfl) | exact .inr (.inr rfl))) (dd_cons (d_var (i := 3) rfl (by first | exact .inl rfl | exact .inr (.inl rfl) | exact .inr (.inr rfl))) (dd_cons (d_var (i := 4) rfl (by first | exact .inl rfl | exact .inr (.inl rfl) | exact .inr (.inr rfl))) dd_nil)))) dd_nil))))
    (ds_one (ds_if (DW.t (dw_and (DW.t (dw_or (dt_cmp o_is (d_var (i := 1) rfl (by first | exact .inl rfl | exact .inr (.inl rfl) | exact .inr (.inr rfl))) d_non rfl) (dw_or1 (dt_cmp (o_lt hu) (d_var (i := 5) rfl (by first | exact .inl rfl | exact .inr (.inl rfl) | exact .inr (.inr rfl))) (d_var (i := 1) rfl (by first | exact .inl rfl | exact .inr (.inl rfl) | exact .inr (.inr rfl))) rfl)))) (dw_and1 (dt_val (d_call (c_matters_at.mono (by decide)) hr rfl (dd_cons (d_var (i := 0) rfl (by first | exact .inl rfl | exact .inr (.inl rfl) | exact .inr (.inr rfl))) (dd_cons (d_var (i := 2) rfl (by first | exact .inl rfl | exact .inr (.inl rfl) | exact .inr (.inr rfl))) (dd_cons (d_var (i := 3) rfl (by first | exact .inl rfl | exact .inr (.inl rfl) | exact .inr (.inr rfl))) (dd_cons (d_var (i := 4) rfl (by first | exact .inl rfl | exact .inr (.inl rfl) | exact .inr (.inr rfl))) dd_nil))))))))) (ds_one (ds_set (i := 1) hN rfl (by first | exact .inl rfl | exact .inr rfl) (d_var (i := 5) rfl (by first | exact .inl rfl | exact .inr (.inl rfl) | exact .inr (.inr rfl))))) ds_nil))))
    (ds_cons (ds_if (dt_cmp o_is (d_var (i := 1) rfl (by first | exact .inl rfl | exact .inr (.inl rfl) | exact .inr (.inr rfl))) d_non rfl) (ds_one (ds_ret d_non)) ds_nil)
    (ds_one (ds_ret (d_ix (o_ixA hu) (d_var (i := 1) rfl (by first | exact .inl rfl | exact .inr (.inl rfl) | exact .inr (.inr rfl))) d_int))))))
theorem ok_matters_many (F : Fx P w K mg base) (c_matters_at : Cal P w K mg base 4 "matters_at" 4 fm_matters_at) (c_triples : Cal P w K mg base 3 "triples" 1 fm_triples) (hd : ∃ fd, FunD K "matters_many" "matters_many" (defArgs (top 29)) (defBody (top 29)) (defScope (top 29)) [] [] (He.ga K "matters_many") fd) :
    ∃ fd, Binds K fd ["book"] [] ∧ PySem.W.keepIn K (.ref (He.ga K "matters_many")) = true ∧ FnOk P w K mg base (L2.CX P w) 5 (He.ga K "matters_many") fd ["book"] (spF P w K 1 fm_matters_many) := by
  obtain ⟨fd, FD⟩ := hd
  refine ⟨fd, FD.bindsN (fun _ _ _ _ _ _ us hl => match us, hl with | [_], _ => rfl), FD.kp, ?_⟩
  refine fn_ok (N := ["book", "x", "y", "z"]) (n := 1) (nN := 4) FD ⟨rfl, rfl, rfl, by decide +kernel, rfl, by decide +kernel, by decide +kernel⟩ rfl rfl fun cdv A outer s0 H E hr => ?_
  have hN : (["book", "x", "y", "z"] : List Str).Nodup := by decide +kernel
  have hc : (cxOf (L2.CX P w) P w K mg base ["book", "x", "y", "z"] "matters_many" (defScope (top 29)) (He.ga K "matters_many") cdv A outer s0 H E).calm = true := rfl
  have hu : (cxOf (L2.CX P w) P w K mg base ["book", "x", "y", "z"] "matters_many" (defScope (top 29)) (He.ga K "matters_many") cdv A outer s0 H E).A.units + 64 < cLine := hr.units
  have hp : PassesOwn (model P w) (cxOf (L2.CX P w) P w K mg base ["book", "x", "y", "z"] "matters_many" (defScope (top 29)) (He.ga K "matters_many") cdv A outer s0 H E).A (cxOf (L2.CX P w) P w K mg base ["book", "x", "y", "z"] "matters_many" (defScope (top 29)) (He.ga K "matters_many") cdv A outer s0 H E).env (cxOf (L2.CX P w) P w K mg base ["book", "x", "y", "z"] "matters_many" (defScope (top 29)) (He.ga K "matters_many") cdv A outer s0 H E).xe := passes_of rfl
  have hpn : ∀ p ∈ ([] : List (Addr × Obj)), p ∈ (cxOf (L2.CX P w) P w K mg base ["book", "x", "y", "z"] "matters_many" (defScope (top 29)) (He.ga K "matters_many") cdv A outer s0 H E).pn := fun _ h => (nomatch h)
  unfold m_matters_many
  exact (ds_one (ds_ret (d_bi c_len rfl (F.n_len) PyProof.Rows.Boot.«len» (da_cons (d_lc (own := [("x", 1), ("y", 2), ("z", 3)]) hc hN (di_any (d_call (c_triples.mono (by decide)) hr rfl (dd_cons (d_var (i := 0) rfl (by first | exact .inl rfl | exact .inr (.inl rfl) | exact .inr (.inr rfl))) dd_nil))) (blkOk_by (by kernel_rfl)) (fun s1 H1 C1 cl1 fp1 => (dg_tup hc (dgs_cons (dg_name (i := 1) hN rfl (by first | exact .inl rfl | exact .inr rfl)) (dgs_cons (dg_name (i := 2) hN rfl (by first | exact .inl rfl | exact .inr rfl)) (dgs_cons (dg_name (i := 3) hN rfl (by first | exact .inl rfl | exact .inr rfl)) dgs_nil))))) (fun s1 H1 C1 cl1 fp1 => dts_one (dt_val (d_call (c_matters_at.mono (by decide)) hr rfl (dd_cons (d_var (i := 0) rfl (by first | exact .inl rfl | exact .inr (.inl rfl) | exact .inr (.inr rfl))) (dd_cons (d_var (i := 1) rfl (by first | exact .inl rfl | exact .inr (.inl rfl) | exact .inr (.inr rfl))) (dd_cons (d_var (i := 2) rfl (by first | exact .inl rfl | exact .inr (.inl rfl) | exact .inr (.inr rfl))) (dd_cons (d_var (i := 3) rfl (by first | exact .inl rfl | exact .inr (.inl rfl) | exact .inr (.inr rfl))) dd_nil))))))) (fun s1 H1 C1 cl1 fp1 => d_int) (by decide)) da_nil))))
theorem ok__law_told (F : Fx P w K mg base) (c_matters : Cal P w K mg base 5 "matters" 1 fm_matters) (c_matters_many : Cal P w K mg base 5 "matters_many" 1 fm_matters_many) (hd : ∃ fd, FunD K "_law_told" "_law_told" (defArgs (top 35)) (defBody (top 35)) (defScope (top 35)) [] [] (He.ga K "_law_told") fd) :
    ∃ fd, Binds K fd ["_law_which", "_law_book"] [] ∧ PySem.W.keepIn K (.ref (He.ga K "_law_told")) = true ∧ FnOk P w K mg base (L2.CX P w) 6 (He.ga K "_law_told") fd ["_law_which", "_law_book"] (spF P w K 2 fm__law_told) := by
  obtain ⟨fd, FD⟩ := hd
  refine ⟨fd, FD.bindsN (fun _ _ _ _ _ _ us hl => match us, hl with | [_, _], _ => rfl), FD.kp, ?_⟩
  refine fn_ok (N := ["_law_which", "_law_book", "_law_found", "e"]) (n := 2) (nN := 4) FD ⟨rfl, rfl, rfl, by decide +kernel, rfl, by decide +kernel, by decide +kernel⟩ rfl rfl fun cdv A outer s0 H E hr => ?_
  have hN : (["_law_which", "_law_book", "_law_found", "e"] : List Str).Nodup := by decide +kernel
  have hc : (cxOf (L2.CX P w) P w K mg base ["_law_which", "_law_book", "_law_found", "e"] "_law_told" (defScope (top 35)) (He.ga K "_law_told") cdv A outer s0 H E).calm = true := rfl
  have hu : (cxOf (L2.CX P w) P w K mg base ["_law_which", "_law_book", "_law_found", "e"] "_law_told" (defScope (top 35)) (He.ga K "_law_told") cdv A outer s0 H E).A.units + 64 < cLine := hr.units
  have hp : PassesOwn (model P w) (cxOf (L2.CX P w) P w K mg base ["_law_which", "_law_book", "_law_found", "e"] "_law_told" (defScope (top 35)) (He.ga K "_law_told") cdv A outer s0 H E).A (cxOf (L2.CX P w) P w K mg base ["_law_which", "_law_book", "_law_found", "e"] "_law_told" (defScope (top 35)) (He.ga K "_law_told") cdv A outer s0 H E).env (cxOf (L2.CX P w) P w K mg base ["_law_which", "_law_book", "_law_found", "e"] "_law_told" (defScope (top 35)) (He.ga K "_law_told") cdv A outer s0 H E).xe := passes_of rfl
  have hpn : ∀ p ∈ ([] : List (Addr × Obj)), p ∈ (cxOf (L2.CX P w) P w K mg base ["_law_which", "_law_book", "_law_found", "e"] "_law_told" (defScope (top 35)) (He.ga K "_law_told") cdv A outer s0 H E).pn := fun _ h => (nomatch h)
  unfold m__law_told
  exact (ds_cons (ds_set (i := 2) hN rfl (by first | exact .inl rfl | exact .inr rfl) (d_tup (dd_cons d_str (dd_cons d_non dd_nil))))
    (ds_cons (ds_try (i := 3) rfl rfl hN rfl rfl ⟨rfl, by decide, .inl (F.g_SeamError)⟩ (F.e_SeamError) (fun pn1 xe1 hp => (ds_one (ds_if (dt_cmp (o_eq hu) (d_var (i := 0) rfl (by first | exact .inl rfl | exact .inr (.inl rfl) | exact .inr (.inr rfl))) d_int rfl) (ds_one (ds_set (i := 2) hN rfl (by first | exact .inl rfl | exact .inr rfl) (d_tup (dd_cons d_str (dd_cons (d_call (c_matters.mono (by decide)) hr rfl (dd_cons (d_var (i := 1) rfl (by first | exact .inl rfl | exact .inr (.inl rfl) | exact .inr (.inr rfl))) dd_nil)) dd_nil))))) (ds_one (ds_set (i := 2) hN rfl (by first | exact .inl rfl | exact .inr rfl) (d_tup (dd_cons d_str (dd_cons (d_call (c_matters_many.mono (by decide)) hr rfl (dd_cons (d_var (i := 1) rfl (by first | exact .inl rfl | exact .inr (.inl rfl) | exact .inr (.inr rfl))) dd_nil)) dd_nil)))))))) (fun a1 oe1 pn1 => have hpn : ∀ p ∈ [(a1, oe1)], p ∈ (a1, oe1) :: pn1 := (fun p h => by rw [List.mem_singleton.mp h]; exact List.mem_cons_self); (ds_cons (ds_set (i := 2) hN rfl (by first | exact .inl rfl | exact .inr rfl) (d_tup (dd_cons d_str (dd_cons d_non dd_nil))))
    (ds_one (ds_if (DW.t (dw_and (dt_val (d_isi hpn cx_own (F.k_TooMany) rfl (F.n_isinstance) (d_var (i := 3) rfl (by first | exact .inl rfl | exact .inr (.inl rfl) | exact .inr (.inr rfl))) (pe_own rfl (F.g_TooMany)))) (dw_and1 (dt_not (dt_val (d_isi hpn cx_own (F.k_NoWords) rfl (F.n_isinstance) (d_var (i := 3) rfl (by first | exact .inl rfl | exact .inr (.inl rfl) | exact .inr (.inr rfl))) (pe_own rfl (F.g_NoWords)))))))) (ds_one (ds_set (i := 2) hN rfl (by first | exact .inl rfl | exact .inr rfl) (d_tup (dd_cons d_str (dd_cons (d_xf hpn (F.f_most) (d_var (i := 3) rfl (by first | exact .inl rfl | exact .inr (.inl rfl) | exact .inr (.inr rfl)))) dd_nil))))) ds_nil)))))
    (ds_one (ds_ret (d_var (i := 2) rfl (by first | exact .inl rfl | exact .inr (.inl rfl) | exact .inr (.inr rfl)))))))
theorem ok_is_integer (F : Fx P w K mg base)  (hd : ∃ fd, FunD K "is_integer" "is_integer" (defArgs (top 6)) (defBody (top 6)) (defScope (top 6)) [] [] (He.ga K "is_integer") fd) :
    ∃ fd, Binds K fd ["thing"] [] ∧ PySem.W.keepIn K (.ref (He.ga K "is_integer")) = true ∧ FnOk P w K mg base (L2.CX P w) 1 (He.ga K "is_integer") fd ["thing"] (spF P w K 1 fm_is_integer) := by
  obtain ⟨fd, FD⟩ := hd
  refine ⟨fd, FD.bindsN (fun _ _ _ _ _ _ us hl => match us, hl with | [_], _ => rfl), FD.kp, ?_⟩
  refine fn_ok (N := ["thing"]) (n := 1) (nN := 1) FD ⟨rfl, rfl, rfl, by decide +kernel, rfl, by decide +kernel, by decide +kernel⟩ rfl rfl fun cdv A outer s0 H E hr => ?_
  have hN : (["thing"] : List Str).Nodup := by decide +kernel
  have hc : (cxOf (L2.CX P w) P w K mg base ["thing"] "is_integer" (defScope (top 6)) (He.ga K "is_integer") cdv A outer s0 H E).calm = true := rfl
  have hu : (cxOf (L2.CX P w) P w K mg base ["thing"] "is_integer" (defScope (top 6)) (He.ga K "is_integer") cdv A outer s0 H E).A.units + 64 < cLine := hr.units
  have hp : PassesOwn (model P w) (cxOf (L2.CX P w) P w K mg base ["thing"] "is_integer" (defScope (top 6)) (He.ga K "is_integer") cdv A outer s0 H E).A (cxOf (L2.CX P w) P w K mg base ["thing"] "is_integer" (defScope (top 6)) (He.ga K "is_integer") cdv A outer s0 H E).env (cxOf (L2.CX P w) P w K mg base ["thing"] "is_integer" (defScope (top 6)) (He.ga K "is_integer") cdv A outer s0 H E).xe := passes_of rfl
  have hpn : ∀ p ∈ ([] : List (Addr × Obj)), p ∈ (cxOf (L2.CX P w) P w K mg base ["thing"] "is_integer" (defScope (top 6)) (He.ga K "is_integer") cdv A outer s0 H E).pn := fun _ h => (nomatch h)
  unfold m_is_integer
  exact (ds_one (ds_ret (d_and (d_isi hpn cx_ty (F.k_int) rfl (F.n_isinstance) (d_var (i := 0) rfl (by first | exact .inl rfl | exact .inr (.inl rfl) | exact .inr (.inr rfl))) (pe_ty rfl (F.n_int) PyProof.Rows.Boot.«int»)) (d_one (d_not (d_isi hpn cx_ty (F.k_bool) rfl (F.n_isinstance) (d_var (i := 0) rfl (by first | exact .inl rfl | exact .inr (.inl rfl) | exact .inr (.inr rfl))) (pe_ty rfl (F.n_bool) PyProof.Rows.Boot.«bool»)))))))
theorem ok_is_between (F : Fx P w K mg base) (c_is_integer : Cal P w K mg base 1 "is_integer" 1 fm_is_integer) (hd : ∃ fd, FunD K "is_between" "is_between" (defArgs (top 7)) (defBody (top 7)) (defScope (top 7)) [] [] (He.ga K "is_between") fd) :
    ∃ fd, Binds K fd ["thing", "least", "most"] [] ∧ PySem.W.keepIn K (.ref (He.ga K "is_between")) = true ∧ FnOk P w K mg base (L2.CX P w) 2 (He.ga K "is_between") fd ["thing", "least", "most"] (spF P w K 3 fm_is_between) := by
  obtain ⟨fd, FD⟩ := hd
  refine ⟨fd, FD.bindsN (fun _ _ _ _ _ _ us hl => match us, hl with | [_, _, _], _ => rfl), FD.kp, ?_⟩
  refine fn_ok (N := ["thing", "least", "most"]) (n := 3) (nN := 3) FD ⟨rfl, rfl, rfl, by decide +kernel, rfl, by decide +kernel, by decide +kernel⟩ rfl rfl fun cdv A outer s0 H E hr => ?_
  have hN : (["thing", "least", "most"] : List Str).Nodup := by decide +kernel
  have hc : (cxOf (L2.CX P w) P w K mg base ["thing", "least", "most"] "is_between" (defScope (top 7)) (He.ga K "is_between") cdv A outer s0 H E).calm = true := rfl
  have hu : (cxOf (L2.CX P w) P w K mg base ["thing", "least", "most"] "is_between" (defScope (top 7)) (He.ga K "is_between") cdv A outer s0 H E).A.units + 64 < cLine := hr.units
  have hp : PassesOwn (model P w) (cxOf (L2.CX P w) P w K mg base ["thing", "least", "most"] "is_between" (defScope (top 7)) (He.ga K "is_between") cdv A outer s0 H E).A (cxOf (L2.CX P w) P w K mg base ["thing", "least", "most"] "is_between" (defScope (top 7)) (He.ga K "is_between") cdv A outer s0 H E).env (cxOf (L2.CX P w) P w K mg base ["thing", "least", "most"] "is_between" (defScope (top 7)) (He.ga K "is_between") cdv A outer s0 H E).xe := passes_of rfl
  have hpn : ∀ p ∈ ([] : List (Addr × Obj)), p ∈ (cxOf (L2.CX P w) P w K mg base ["thing", "least", "most"] "is_between" (defScope (top 7)) (He.ga K "is_between") cdv A outer s0 H E).pn := fun _ h => (nomatch h)
  unfold m_is_between
  exact (ds_one (ds_ret (d_and (d_call (c_is_integer.mono (by decide)) hr rfl (dd_cons (d_var (i := 0) rfl (by first | exact .inl rfl | exact .inr (.inl rfl) | exact .inr (.inr rfl))) dd_nil)) (d_one (d_chain (o_le hu) (o_le hu) (d_var (i := 1) rfl (by first | exact .inl rfl | exact .inr (.inl rfl) | exact .inr (.inr rfl))) (d_var (i := 0) rfl (by first | exact .inl rfl | exact .inr (.inl rfl) | exact .inr (.inr rfl))) (d_var (i := 2) rfl (by first | exact .inl rfl | exact .inr (.inl rfl) | exact .inr (.inr rfl))))))))
theorem ok_check_sizes (F : Fx P w K mg base) (c_is_between : Cal P w K mg base 2 "is_between" 3 fm_is_between) (hd : ∃ fd, FunD K "check_sizes" "check_sizes" (defArgs (top 16)) (defBody (top 16)) (defScope (top 16)) [] [] (He.ga K "check_sizes") fd) :
    ∃ fd, Binds K fd ["sounds", "ahead", "behind"] [] ∧ PySem.W.keepIn K (.ref (He.ga K "check_sizes")) = true ∧ FnOk P w K mg base (L2.CX P w) 3 (He.ga K "check_sizes") fd ["sounds", "ahead", "behind"] (spF P w K 3 fm_check_sizes) := by
  obtain ⟨fd, FD⟩ := hd
  refine ⟨fd, FD.bindsN (fun _ _ _ _ _ _ us hl => match us, hl with | [_, _, _], _ => rfl), FD.kp, ?_⟩
  refine fn_ok (N := ["sounds", "ahead", "behind"]) (n := 3) (nN := 3) FD ⟨rfl, rfl, rfl, by decide +kernel, rfl, by decide +kernel, by decide +kernel⟩ rfl rfl fun cdv A outer s0 H E hr => ?_
  have hN : (["sounds", "ahead", "behind"] : List Str).Nodup := by decide +kernel
  have hc : (cxOf (L2.CX P w) P w K mg base ["sounds", "ahead", "behind"] "check_sizes" (defScope (top 16)) (He.ga K "check_sizes") cdv A outer s0 H E).calm = true := rfl
  have hu : (cxOf (L2.CX P w) P w K mg base ["sounds", "ahead", "behind"] "check_sizes" (defScope (top 16)) (He.ga K "check_sizes") cdv A outer s0 H E).A.units + 64 < cLine := hr.units
  have hp : PassesOwn (model P w) (cxOf (L2.CX P w) P w K mg base ["sounds", "ahead", "behind"] "check_sizes" (defScope (top 16)) (He.ga K "check_sizes") cdv A outer s0 H E).A (cxOf (L2.CX P w) P w K mg base ["sounds", "ahead", "behind"] "check_sizes" (defScope (top 16)) (He.ga K "check_sizes") cdv A outer s0 H E).env (cxOf (L2.CX P w) P w K mg base ["sounds", "ahead", "behind"] "check_sizes" (defScope (top 16)) (He.ga K "check_sizes") cdv A outer s0 H E).xe := passes_of rfl
  have hpn : ∀ p ∈ ([] : List (Addr × Obj)), p ∈ (cxOf (L2.CX P w) P w K mg base ["sounds", "ahead", "behind"] "check_sizes" (defScope (top 16)) (He.ga K "check_sizes") cdv A outer s0 H E).pn := fun _ h => (nomatch h)
  unfold m_check_sizes
  exact (ds_cons (ds_if (dt_not (dt_val (d_call (c_is_between.mono (by decide)) hr rfl (dd_cons (d_var (i := 0) rfl (by first | exact .inl rfl | exact .inr (.inl rfl) | exact .inr (.inr rfl))) (dd_cons d_int (dd_cons (d_gi rfl (F.i_MOST_SOUNDS)) dd_nil)))))) (ds_one (ds_raise1 hc (F.x_NoBook) (hr.mono (by decide)) rfl d_str)) ds_nil)
    (ds_cons (ds_if (dt_not (dt_val (d_call (c_is_between.mono (by decide)) hr rfl (dd_cons (d_var (i := 1) rfl (by first | exact .inl rfl | exact .inr (.inl rfl) | exact .inr (.inr rfl))) (dd_cons d_int (dd_cons (d_gi rfl (F.i_MOST_SIDE)) dd_nil)))))) (ds_one (ds_raise1 hc (F.x_NoBook) (hr.mono (by decide)) rfl d_str)) ds_nil)
    (ds_one (ds_if (dt_not (dt_val (d_call (c_is_between.mono (by decide)) hr rfl (dd_cons (d_var (i := 2) rfl (by first | exact .inl rfl | exact .inr (.inl rfl) | exact .inr (.inr rfl))) (dd_cons d_int (dd_cons (d_gi rfl (F.i_MOST_SIDE)) dd_nil)))))) (ds_one (ds_raise1 hc (F.x_NoBook) (hr.mono (by decide)) rfl d_str)) ds_nil))))
theorem ok_is_index (F : Fx P w K mg base) (c_is_between : Cal P w K mg base 2 "is_between" 3 fm_is_between) (hd : ∃ fd, FunD K "is_index" "is_index" (defArgs (top 8)) (defBody (top 8)) (defScope (top 8)) [] [] (He.ga K "is_index") fd) :
    ∃ fd, Binds K fd ["thing", "many"] [] ∧ PySem.W.keepIn K (.ref (He.ga K "is_index")) = true ∧ FnOk P w K mg base (L2.CX P w) 3 (He.ga K "is_index") fd ["thing", "many"] (spF P w K 2 fm_is_index) := by
  obtain ⟨fd, FD⟩ := hd
  refine ⟨fd, FD.bindsN (fun _ _ _ _ _ _ us hl => match us, hl with | [_, _], _ => rfl), FD.kp, ?_⟩
  refine fn_ok (N := ["thing", "many"]) (n := 2) (nN := 2) FD ⟨rfl, rfl, rfl, by decide +kernel, rfl, by decide +kernel, by decide +kernel⟩ rfl rfl fun cdv A outer s0 H E hr => ?_
  have hN : (["thing", "many"] : List Str).Nodup := by decide +kernel
  have hc : (cxOf (L2.CX P w) P w K mg base ["thing", "many"] "is_index" (defScope (top 8)) (He.ga K "is_index") cdv A outer s0 H E).calm = true := rfl
  have hu : (cxOf (L2.CX P w) P w K mg base ["thing", "many"] "is_index" (defScope (top 8)) (He.ga K "is_index") cdv A outer s0 H E).A.units + 64 < cLine := hr.units
  have hp : PassesOwn (model P w) (cxOf (L2.CX P w) P w K mg base ["thing", "many"] "is_index" (defScope (top 8)) (He.ga K "is_index") cdv A outer s0 H E).A (cxOf (L2.CX P w) P w K mg base ["thing", "many"] "is_index" (defScope (top 8)) (He.ga K "is_index") cdv A outer s0 H E).env (cxOf (L2.CX P w) P w K mg base ["thing", "many"] "is_index" (defScope (top 8)) (He.ga K "is_index") cdv A outer s0 H E).xe := passes_of rfl
  have hpn : ∀ p ∈ ([] : List (Addr × Obj)), p ∈ (cxOf (L2.CX P w) P w K mg base ["thing", "many"] "is_index" (defScope (top 8)) (He.ga K "is_index") cdv A outer s0 H E).pn := fun _ h => (nomatch h)
  unfold m_is_index
  exact (ds_one (ds_ret (d_call (c_is_between.mono (by decide)) hr rfl (dd_cons (d_var (i := 0) rfl (by first | exact .inl rfl | exact .inr (.inl rfl) | exact .inr (.inr rfl))) (dd_cons d_int (dd_cons (d_op o_sub (d_var (i := 1) rfl (by first | exact .inl rfl | exact .inr (.inl rfl) | exact .inr (.inr rfl))) d_int) dd_nil))))))
theorem ok_is_sounds (F : Fx P w K mg base) (c_is_index : Cal P w K mg base 3 "is_index" 2 fm_is_index) (hd : ∃ fd, FunD K "is_sounds" "is_sounds" (defArgs (top 13)) (defBody (top 13)) (defScope (top 13)) [] [] (He.ga K "is_sounds") fd) :
    ∃ fd, Binds K fd ["thing", "sounds", "least", "most"] [] ∧ PySem.W.keepIn K (.ref (He.ga K "is_sounds")) = true ∧ FnOk P w K mg base (L2.CX P w) 4 (He.ga K "is_sounds") fd ["thing", "sounds", "least", "most"] (spF P w K 4 fm_is_sounds) := by
  obtain ⟨fd, FD⟩ := hd
  refine ⟨fd, FD.bindsN (fun _ _ _ _ _ _ us hl => match us, hl with | [_, _, _, _], _ => rfl), FD.kp, ?_⟩
  refine fn_ok (N := ["thing", "sounds", "least", "most", "sound"]) (n := 4) (nN := 5) FD ⟨rfl, rfl, rfl, by decide +kernel, rfl, by decide +kernel, by decide +kernel⟩ rfl rfl fun cdv A outer s0 H E hr => ?_
  have hN : (["thing", "sounds", "least", "most", "sound"] : List Str).Nodup := by decide +kernel
  have hc : (cxOf (L2.CX P w) P w K mg base ["thing", "sounds", "least", "most", "sound"] "is_sounds" (defScope (top 13)) (He.ga K "is_sounds") cdv A outer s0 H E).calm = true := rfl
  have hu : (cxOf (L2.CX P w) P w K mg base ["thing", "sounds", "least", "most", "sound"] "is_sounds" (defScope (top 13)) (He.ga K "is_sounds") cdv A outer s0 H E).A.units + 64 < cLine := hr.units
  have hp : PassesOwn (model P w) (cxOf (L2.CX P w) P w K mg base ["thing", "sounds", "least", "most", "sound"] "is_sounds" (defScope (top 13)) (He.ga K "is_sounds") cdv A outer s0 H E).A (cxOf (L2.CX P w) P w K mg base ["thing", "sounds", "least", "most", "sound"] "is_sounds" (defScope (top 13)) (He.ga K "is_sounds") cdv A outer s0 H E).env (cxOf (L2.CX P w) P w K mg base ["thing", "sounds", "least", "most", "sound"] "is_sounds" (defScope (top 13)) (He.ga K "is_sounds") cdv A outer s0 H E).xe := passes_of rfl
  have hpn : ∀ p ∈ ([] : List (Addr × Obj)), p ∈ (cxOf (L2.CX P w) P w K mg base ["thing", "sounds", "least", "most", "sound"] "is_sounds" (defScope (top 13)) (He.ga K "is_sounds") cdv A outer s0 H E).pn := fun _ h => (nomatch h)
  unfold m_is_sounds
  exact (ds_cons (ds_if (DW.t (dw_or (dt_not (dt_val (d_isi hpn cx_ty (F.k_tuple) rfl (F.n_isinstance) (d_var (i := 0) rfl (by first | exact .inl rfl | exact .inr (.inl rfl) | exact .inr (.inr rfl))) (pe_ty rfl (F.n_tuple) PyProof.Rows.Boot.«tuple»)))) (dw_or1 (dt_not (dt_chain (o_le hu) (o_le hu) (d_var (i := 2) rfl (by first | exact .inl rfl | exact .inr (.inl rfl) | exact .inr (.inr rfl))) (d_bi c_len rfl (F.n_len) PyProof.Rows.Boot.«len» (da_cons (d_var (i := 0) rfl (by first | exact .inl rfl | exact .inr (.inl rfl) | exact .inr (.inr rfl))) da_nil)) (d_var (i := 3) rfl (by first | exact .inl rfl | exact .inr (.inl rfl) | exact .inr (.inr rfl)))))))) (ds_one (ds_ret d_bl)) ds_nil)
    (ds_one (ds_ret (d_bi (c_all hc) rfl (F.n_all) PyProof.Rows.Boot.«all» (da_cons (d_lc (own := [("sound", 4)]) hc hN (di_any (d_var (i := 0) rfl (by first | exact .inl rfl | exact .inr (.inl rfl) | exact .inr (.inr rfl)))) (blkOk_by (by kernel_rfl)) (fun s1 H1 C1 cl1 fp1 => (dg_name (i := 4) hN rfl (by first | exact .inl rfl | exact .inr rfl))) (fun s1 H1 C1 cl1 fp1 => dts_nil) (fun s1 H1 C1 cl1 fp1 => (d_call (c_is_index.mono (by decide)) hr rfl (dd_cons (d_var (i := 4) rfl (by first | exact .inl rfl | exact .inr (.inl rfl) | exact .inr (.inr rfl))) (dd_cons (d_var (i := 1) rfl (by first | exact .inl rfl | exact .inr (.inl rfl) | exact .inr (.inr rfl))) dd_nil)))) (by decide)) da_nil)))))
theorem ok_is_side_pair (F : Fx P w K mg base) (c_is_sounds : Cal P w K mg base 4 "is_sounds" 4 fm_is_sounds) (hd : ∃ fd, FunD K "is_side_pair" "is_side_pair" (defArgs (top 14)) (defBody (top 14)) (defScope (top 14)) [] [] (He.ga K "is_side_pair") fd) :
    ∃ fd, Binds K fd ["thing", "sounds", "ahead", "behind"] [] ∧ PySem.W.keepIn K (.ref (He.ga K "is_side_pair")) = true ∧ FnOk P w K mg base (L2.CX P w) 5 (He.ga K "is_side_pair") fd ["thing", "sounds", "ahead", "behind"] (spF P w K 4 fm_is_side_pair) := by
  obtain ⟨fd, FD⟩ := hd
  refine ⟨fd, FD.bindsN (fun _ _ _ _ _ _ us hl => match us, hl with | [_, _, _, _], _ => rfl), FD.kp, ?_⟩
  refine fn_ok (N := ["thing", "sounds", "ahead", "behind"]) (n := 4) (nN := 4) FD ⟨rfl, rfl, rfl, by decide +kernel, rfl, by decide +kernel, by decide +kernel⟩ rfl rfl fun cdv A outer s0 H E hr => ?_
  have hN : (["thing", "sounds", "ahead", "behind"] : List Str).Nodup := by decide +kernel
  have hc : (cxOf (L2.CX P w) P w K mg base ["thing", "sounds", "ahead", "behind"] "is_side_pair" (defScope (top 14)) (He.ga K "is_side_pair") cdv A outer s0 H E).calm = true := rfl
  have hu : (cxOf (L2.CX P w) P w K mg base ["thing", "sounds", "ahead", "behind"] "is_side_pair" (defScope (top 14)) (He.ga K "is_side_pair") cdv A outer s0 H E).A.units + 64 < cLine := hr.units
  have hp : PassesOwn (model P w) (cxOf (L2.CX P w) P w K mg base ["thing", "sounds", "ahead", "behind"] "is_side_pair" (defScope (top 14)) (He.ga K "is_side_pair") cdv A outer s0 H E).A (cxOf (L2.CX P w) P w K mg base ["thing", "sounds", "ahead", "behind"] "is_side_pair" (defScope (top 14)) (He.ga K "is_side_pair") cdv A outer s0 H E).env (cxOf (L2.CX P w) P w K mg base ["thing", "sounds", "ahead", "behind"] "is_side_pair" (defScope (top 14)) (He.ga K "is_side_pair") cdv A outer s0 H E).xe := passes_of rfl
  have hpn : ∀ p ∈ ([] : List (Addr × Obj)), p ∈ (cxOf (L2.CX P w) P w K mg base ["thing", "sounds", "ahead", "behind"] "is_side_pair" (defScope (top 14)) (He.ga K "is_side_pair") cdv A outer s0 H E).pn := fun _ h => (nomatch h)
  unfold m_is_side_pair
  exact (ds_cons (ds_if (DW.t (dw_or (dt_not (dt_val (d_isi hpn cx_ty (F.k_tuple) rfl (F.n_isinstance) (d_var (i := 0) rfl (by first | exact .inl rfl | exact .inr (.inl rfl) | exact .inr (.inr rfl))) (pe_ty rfl (F.n_tuple) PyProof.Rows.Boot.«tuple»)))) (dw_or1 (dt_cmp (o_ne hu) (d_bi c_len rfl (F.n_len) PyProof.Rows.Boot.«len» (da_cons (d_var (i := 0) rfl (by first | exact .inl rfl | exact .inr (.inl rfl) | exact .inr (.inr rfl))) da_nil)) d_int rfl)))) (ds_one (ds_ret d_bl)) ds_nil)
    (ds_one (ds_ret (d_and (d_call (c_is_sounds.mono (by decide)) hr rfl (dd_cons (d_ix (o_ixA hu) (d_var (i := 0) rfl (by first | exact .inl rfl | exact .inr (.inl rfl) | exact .inr (.inr rfl))) d_int) (dd_cons (d_var (i := 1) rfl (by first | exact .inl rfl | exact .inr (.inl rfl) | exact .inr (.inr rfl))) (dd_cons d_int (dd_cons (d_var (i := 2) rfl (by first | exact .inl rfl | exact .inr (.inl rfl) | exact .inr (.inr rfl))) dd_nil))))) (d_one (d_call (c_is_sounds.mono (by decide)) hr rfl (dd_cons (d_ix (o_ixA hu) (d_var (i := 0) rfl (by first | exact .inl rfl | exact .inr (.inl rfl) | exact .inr (.inr rfl))) d_int) (dd_cons (d_var (i := 1) rfl (by first | exact .inl rfl | exact .inr (.inl rfl) | exact .inr (.inr rfl))) (dd_cons d_int (dd_cons (d_var (i := 3) rfl (by first | exact .inl rfl | exact .inr (.inl rfl) | exact .inr (.inr rfl))) dd_nil))))))))))
theorem ok_is_table (F : Fx P w K mg base) (c_is_side_pair : Cal P w K mg base 5 "is_side_pair" 4 fm_is_side_pair) (hd : ∃ fd, FunD K "is_table" "is_table" (defArgs (top 15)) (defBody (top 15)) (defScope (top 15)) [] [] (He.ga K "is_table") fd) :
    ∃ fd, Binds K fd ["thing", "sounds", "ahead", "behind"] [] ∧ PySem.W.keepIn K (.ref (He.ga K "is_table")) = true ∧ FnOk P w K mg base (L2.CX P w) 6 (He.ga K "is_table") fd ["thing", "sounds", "ahead", "behind"] (spF P w K 4 fm_is_table) := by
  obtain ⟨fd, FD⟩ := hd
  refine ⟨fd, FD.bindsN (fun _ _ _ _ _ _ us hl => match us, hl with | [_, _, _, _], _ => rfl), FD.kp, ?_⟩
  refine fn_ok (N := ["thing", "sounds", "ahead", "behind", "key", "side"]) (n := 4) (nN := 6) FD ⟨rfl, rfl, rfl, by decide +kernel, rfl, by decide +kernel, by decide +kernel⟩ rfl rfl fun cdv A outer s0 H E hr => ?_
  have hN : (["thing", "sounds", "ahead", "behind", "key", "side"] : List Str).Nodup := by decide +kernel
  have hc : (cxOf (L2.CX P w) P w K mg base ["thing", "sounds", "ahead", "behind", "key", "side"] "is_table" (defScope (top 15)) (He.ga K "is_table") cdv A outer s0 H E).calm = true := rfl
  have hu : (cxOf (L2.CX P w) P w K mg base ["thing", "sounds", "ahead", "behind", "key", "side"] "is_table" (defScope (top 15)) (He.ga K "is_table") cdv A outer s0 H E).A.units + 64 < cLine := hr.units
  have hp : PassesOwn (model P w) (cxOf (L2.CX P w) P w K mg base ["thing", "sounds", "ahead", "behind", "key", "side"] "is_table" (defScope (top 15)) (He.ga K "is_table") cdv A outer s0 H E).A (cxOf (L2.CX P w) P w K mg base ["thing", "sounds", "ahead", "behind", "key", "side"] "is_table" (defScope (top 15)) (He.ga K "is_table") cdv A outer s0 H E).env (cxOf (L2.CX P w) P w K mg base ["thing", "sounds", "ahead", "behind", "key", "side"] "is_table" (defScope (top 15)) (He.ga K "is_table") cdv A outer s0 H E).xe := passes_of rfl
  have hpn : ∀ p ∈ ([] : List (Addr × Obj)), p ∈ (cxOf (L2.CX P w) P w K mg base ["thing", "sounds", "ahead", "behind", "key", "side"] "is_table" (defScope (top 15)) (He.ga K "is_table") cdv A outer s0 H E).pn := fun _ h => (nomatch h)
  unfold m_is_table
  exact (ds_cons (ds_if (DW.t (dw_or (dt_not (dt_val (d_isi hpn cx_ty (F.k_dict) rfl (F.n_isinstance) (d_var (i := 0) rfl (by first | exact .inl rfl | exact .inr (.inl rfl) | exact .inr (.inr rfl))) (pe_ty rfl (F.n_dict) PyProof.Rows.Boot.«dict»)))) (dw_or1 (dt_cmp (o_gt hu) (d_bi c_len rfl (F.n_len) PyProof.Rows.Boot.«len» (da_cons (d_var (i := 0) rfl (by first | exact .inl rfl | exact .inr (.inl rfl) | exact .inr (.inr rfl))) da_nil)) (d_gi rfl (F.i_MOST_ENTRIES)) rfl)))) (ds_one (ds_ret d_bl)) ds_nil)
    (ds_cons (ds_lock (m := (xVar 0)) (ds_for hp hc (di_any (d_var (i := 0) rfl (by first | exact .inl rfl | exact .inr (.inl rfl) | exact .inr (.inr rfl)))) (dg_name (i := 4) hN rfl (by first | exact .inl rfl | exact .inr rfl)) (ds_cons (ds_if (DW.t (dw_or (dt_not (dt_val (d_call (c_is_side_pair.mono (by decide)) hr rfl (dd_cons (d_var (i := 4) rfl (by first | exact .inl rfl | exact .inr (.inl rfl) | exact .inr (.inr rfl))) (dd_cons (d_var (i := 1) rfl (by first | exact .inl rfl | exact .inr (.inl rfl) | exact .inr (.inr rfl))) (dd_cons (d_var (i := 2) rfl (by first | exact .inl rfl | exact .inr (.inl rfl) | exact .inr (.inr rfl))) (dd_cons (d_var (i := 3) rfl (by first | exact .inl rfl | exact .inr (.inl rfl) | exact .inr (.inr rfl))) dd_nil))))))) (dw_or1 (dt_not (dt_val (d_call (c_is_side_pair.mono (by decide)) hr rfl (dd_cons (d_ix (o_ixA hu) (d_var (i := 0) rfl (by first | exact .inl rfl | exact .inr (.inl rfl) | exact .inr (.inr rfl))) (d_var (i := 4) rfl (by first | exact .inl rfl | exact .inr (.inl rfl) | exact .inr (.inr rfl)))) (dd_cons (d_var (i := 1) rfl (by first | exact .inl rfl | exact .inr (.inl rfl) | exact .inr (.inr rfl))) (dd_cons (d_var (i := 2) rfl (by first | exact .inl rfl | exact .inr (.inl rfl) | exact .inr (.inr rfl))) (dd_cons (d_var (i := 3) rfl (by first | exact .inl rfl | exact .inr (.inl rfl) | exact .inr (.inr rfl))) dd_nil)))))))))) (ds_one (ds_ret d_bl)) ds_nil)
    (ds_one (ds_if (dt_cmp (o_ne hu) (d_lc (own := [("side", 5)]) hc hN (di_any (d_var (i := 4) rfl (by first | exact .inl rfl | exact .inr (.inl rfl) | exact .inr (.inr rfl)))) (blkOk_by (by kernel_rfl)) (fun s1 H1 C1 cl1 fp1 => (dg_name (i := 5) hN rfl (by first | exact .inl rfl | exact .inr rfl))) (fun s1 H1 C1 cl1 fp1 => dts_nil) (fun s1 H1 C1 cl1 fp1 => (d_bi c_len rfl (F.n_len) PyProof.Rows.Boot.«len» (da_cons (d_var (i := 5) rfl (by first | exact .inl rfl | exact .inr (.inl rfl) | exact .inr (.inr rfl))) da_nil))) (by decide)) (d_lc (own := [("side", 5)]) hc hN (di_any (d_ix (o_ixA hu) (d_var (i := 0) rfl (by first | exact .inl rfl | exact .inr (.inl rfl) | exact .inr (.inr rfl))) (d_var (i := 4) rfl (by first | exact .inl rfl | exact .inr (.inl rfl) | exact .inr (.inr rfl))))) (blkOk_by (by kernel_rfl)) (fun s1 H1 C1 cl1 fp1 => (dg_name (i := 5) hN rfl (by first | exact .inl rfl | exact .inr rfl))) (fun s1 H1 C1 cl1 fp1 => dts_nil) (fun s1 H1 C1 cl1 fp1 => (d_bi c_len rfl (F.n_len) PyProof.Rows.Boot.«len» (da_cons (d_var (i := 5) rfl (by first | exact .inl rfl | exact .inr (.inl rfl) | exact .inr (.inr rfl))) da_nil))) (by decide)) rfl) (ds_one (ds_ret d_bl)) ds_nil)))))
    (ds_one (ds_ret d_bl))))
theorem ok_Book_keep (F : Fx P w K mg base)  (hd : ∃ fd, FunD K "keep" "Book.keep" (defArgs (meth 17 1)) (defBody (meth 17 1)) (defScope (meth 17 1)) [] [] (He.ma K (He.ga K "Book") "keep") fd) :
    ∃ fd, Binds K fd ["self", "sounds", "ahead", "behind", "table"] [] ∧ PySem.W.keepIn K (.ref (He.ma K (He.ga K "Book") "keep")) = true ∧ FnOk P w K mg base (L2.CX P w) 1 (He.ma K (He.ga K "Book") "keep") fd ["self", "sounds", "ahead", "behind", "table"] (spF P w K 5 fm_Book_keep) := by
  obtain ⟨fd, FD⟩ := hd
  refine ⟨fd, FD.bindsN (fun _ _ _ _ _ _ us hl => match us, hl with | [_, _, _, _, _], _ => rfl), FD.kp, ?_⟩
  refine fn_ok (N := ["self", "sounds", "ahead", "behind", "table", "key", "told"]) (n := 5) (nN := 7) FD ⟨rfl, rfl, rfl, by decide +kernel, rfl, by decide +kernel, by decide +kernel⟩ rfl rfl fun cdv A outer s0 H E hr => ?_
  have hN : (["self", "sounds", "ahead", "behind", "table", "key", "told"] : List Str).Nodup := by decide +kernel
  have hc : (cxOf (L2.CX P w) P w K mg base ["self", "sounds", "ahead", "behind", "table", "key", "told"] "Book.keep" (defScope (meth 17 1)) (He.ma K (He.ga K "Book") "keep") cdv A outer s0 H E).calm = true := rfl
  have hu : (cxOf (L2.CX P w) P w K mg base ["self", "sounds", "ahead", "behind", "table", "key", "told"] "Book.keep" (defScope (meth 17 1)) (He.ma K (He.ga K "Book") "keep") cdv A outer s0 H E).A.units + 64 < cLine := hr.units
  have hp : PassesOwn (model P w) (cxOf (L2.CX P w) P w K mg base ["self", "sounds", "ahead", "behind", "table", "key", "told"] "Book.keep" (defScope (meth 17 1)) (He.ma K (He.ga K "Book") "keep") cdv A outer s0 H E).A (cxOf (L2.CX P w) P w K mg base ["self", "sounds", "ahead", "behind", "table", "key", "told"] "Book.keep" (defScope (meth 17 1)) (He.ma K (He.ga K "Book") "keep") cdv A outer s0 H E).env (cxOf (L2.CX P w) P w K mg base ["self", "sounds", "ahead", "behind", "table", "key", "told"] "Book.keep" (defScope (meth 17 1)) (He.ma K (He.ga K "Book") "keep") cdv A outer s0 H E).xe := passes_of rfl
  have hpn : ∀ p ∈ ([] : List (Addr × Obj)), p ∈ (cxOf (L2.CX P w) P w K mg base ["self", "sounds", "ahead", "behind", "table", "key", "told"] "Book.keep" (defScope (meth 17 1)) (He.ma K (He.ga K "Book") "keep") cdv A outer s0 H E).pn := fun _ h => (nomatch h)
  unfold m_Book_keep
  exact (ds_cons (ds_fld (F.att) (d_var (i := 0) rfl (by first | exact .inl rfl | exact .inr (.inl rfl) | exact .inr (.inr rfl))) (d_var (i := 1) rfl (by first | exact .inl rfl | exact .inr (.inl rfl) | exact .inr (.inr rfl))))
    (ds_cons (ds_fld (F.att) (d_var (i := 0) rfl (by first | exact .inl rfl | exact .inr (.inl rfl) | exact .inr (.inr rfl))) (d_var (i := 2) rfl (by first | exact .inl rfl | exact .inr (.inl rfl) | exact .inr (.inr rfl))))
    (ds_cons (ds_fld (F.att) (d_var (i := 0) rfl (by first | exact .inl rfl | exact .inr (.inl rfl) | exact .inr (.inr rfl))) (d_var (i := 3) rfl (by first | exact .inl rfl | exact .inr (.inl rfl) | exact .inr (.inr rfl))))
    (ds_one (ds_fld (F.att) (d_var (i := 0) rfl (by first | exact .inl rfl | exact .inr (.inl rfl) | exact .inr (.inr rfl))) (d_lock (m := (xVar 4)) (d_dc (own := [("key", 5), ("told", 6)]) hu hc hN (di_items (d_var (i := 4) rfl (by first | exact .inl rfl | exact .inr (.inl rfl) | exact .inr (.inr rfl)))) (blkOk_by (by kernel_rfl)) (fun s1 H1 C1 cl1 fp1 => (dg_tup hc (dgs_cons (dg_name (i := 5) hN rfl (by first | exact .inl rfl | exact .inr rfl)) (dgs_cons (dg_name (i := 6) hN rfl (by first | exact .inl rfl | exact .inr rfl)) dgs_nil)))) (fun s1 H1 C1 cl1 fp1 => dts_one (dt_cmp (o_ne hu) (d_var (i := 5) rfl (by first | exact .inl rfl | exact .inr (.inl rfl) | exact .inr (.inr rfl))) (d_var (i := 6) rfl (by first | exact .inl rfl | exact .inr (.inl rfl) | exact .inr (.inr rfl))) rfl)) (fun s1 H1 C1 cl1 fp1 => (d_var (i := 5) rfl (by first | exact .inl rfl | exact .inr (.inl rfl) | exact .inr (.inr rfl)))) (fun s1 H1 C1 cl1 fp1 => (d_var (i := 6) rfl (by first | exact .inl rfl | exact .inr (.inl rfl) | exact .inr (.inr rfl)))) (by decide))))))))
theorem ok_Book_init (F : Fx P w K mg base) (c_check_sizes : Cal P w K mg base 3 "check_sizes" 3 fm_check_sizes) (c_is_table : Cal P w K mg base 6 "is_table" 4 fm_is_table) (c_Book_keep : MCal P w K mg base 1 "Book" "keep" 5 fm_Book_keep) (hd : ∃ fd, FunD K "__init__" "Book.__init__" (defArgs (meth 17 0)) (defBody (meth 17 0)) (defScope (meth 17 0)) [] [] (He.ma K (He.ga K "Book") "__init__") fd) :
    ∃ fd, Binds K fd ["self", "sounds", "ahead", "behind", "table"] [] ∧ PySem.W.keepIn K (.ref (He.ma K (He.ga K "Book") "__init__")) = true ∧ FnOk P w K mg base (L2.CX P w) 7 (He.ma K (He.ga K "Book") "__init__") fd ["self", "sounds", "ahead", "behind", "table"] (spF P w K 5 fm_Book_init) := by
  obtain ⟨fd, FD⟩ := hd
  refine ⟨fd, FD.bindsN (fun _ _ _ _ _ _ us hl => match us, hl with | [_, _, _, _, _], _ => rfl), FD.kp, ?_⟩
  refine fn_ok (N := ["self", "sounds", "ahead", "behind", "table"]) (n := 5) (nN := 5) FD ⟨rfl, rfl, rfl, by decide +kernel, rfl, by decide +kernel, by decide +kernel⟩ rfl rfl fun cdv A outer s0 H E hr => ?_
  have hN : (["self", "sounds", "ahead", "behind", "table"] : List Str).Nodup := by decide +kernel
  have hc : (cxOf (L2.CX P w) P w K mg base ["self", "sounds", "ahead", "behind", "table"] "Book.__init__" (defScope (meth 17 0)) (He.ma K (He.ga K "Book") "__init__") cdv A outer s0 H E).calm = true := rfl
  have hu : (cxOf (L2.CX P w) P w K mg base ["self", "sounds", "ahead", "behind", "table"] "Book.__init__" (defScope (meth 17 0)) (He.ma K (He.ga K "Book") "__init__") cdv A outer s0 H E).A.units + 64 < cLine := hr.units
  have hp : PassesOwn (model P w) (cxOf (L2.CX P w) P w K mg base ["self", "sounds", "ahead", "behind", "table"] "Book.__init__" (defScope (meth 17 0)) (He.ma K (He.ga K "Book") "__init__") cdv A outer s0 H E).A (cxOf (L2.CX P w) P w K mg base ["self", "sounds", "ahead", "behind", "table"] "Book.__init__" (defScope (meth 17 0)) (He.ma K (He.ga K "Book") "__init__") cdv A outer s0 H E).env (cxOf (L2.CX P w) P w K mg base ["self", "sounds", "ahead", "behind", "table"] "Book.__init__" (defScope (meth 17 0)) (He.ma K (He.ga K "Book") "__init__") cdv A outer s0 H E).xe := passes_of rfl
  have hpn : ∀ p ∈ ([] : List (Addr × Obj)), p ∈ (cxOf (L2.CX P w) P w K mg base ["self", "sounds", "ahead", "behind", "table"] "Book.__init__" (defScope (meth 17 0)) (He.ma K (He.ga K "Book") "__init__") cdv A outer s0 H E).pn := fun _ h => (nomatch h)
  unfold m_Book_init
  exact (ds_cons (ds_expr (d_call (c_check_sizes.mono (by decide)) hr rfl (dd_cons (d_var (i := 1) rfl (by first | exact .inl rfl | exact .inr (.inl rfl) | exact .inr (.inr rfl))) (dd_cons (d_var (i := 2) rfl (by first | exact .inl rfl | exact .inr (.inl rfl) | exact .inr (.inr rfl))) (dd_cons (d_var (i := 3) rfl (by first | exact .inl rfl | exact .inr (.inl rfl) | exact .inr (.inr rfl))) dd_nil)))))
    (ds_cons (ds_if (dt_not (dt_val (d_call (c_is_table.mono (by decide)) hr rfl (dd_cons (d_var (i := 4) rfl (by first | exact .inl rfl | exact .inr (.inl rfl) | exact .inr (.inr rfl))) (dd_cons (d_var (i := 1) rfl (by first | exact .inl rfl | exact .inr (.inl rfl) | exact .inr (.inr rfl))) (dd_cons (d_var (i := 2) rfl (by first | exact .inl rfl | exact .inr (.inl rfl) | exact .inr (.inr rfl))) (dd_cons (d_var (i := 3) rfl (by first | exact .inl rfl | exact .inr (.inl rfl) | exact .inr (.inr rfl))) dd_nil))))))) (ds_one (ds_raise1 hc (F.x_NoBook) (hr.mono (by decide)) rfl d_str)) ds_nil)
    (ds_one (ds_expr (d_meth (d_var (i := 0) rfl (by first | exact .inl rfl | exact .inr (.inl rfl) | exact .inr (.inr rfl))) (fun c0 F0 h0 => (by cases h0 with | head => exact c_Book_keep.mono (by decide) | tail _ h => cases h)) hr (dd_cons (d_var (i := 1) rfl (by first | exact .inl rfl | exact .inr (.inl rfl) | exact .inr (.inr rfl))) (dd_cons (d_var (i := 2) rfl (by first | exact .inl rfl | exact .inr (.inl rfl) | exact .inr (.inr rfl))) (dd_cons (d_var (i := 3) rfl (by first | exact .inl rfl | exact .inr (.inl rfl) | exact .inr (.inr rfl))) (dd_cons (d_var (i := 4) rfl (by first | exact .inl rfl | exact .inr (.inl rfl) | exact .inr (.inr rfl))) dd_nil)))))))))
theorem ok_law_ (F : Fx P w K mg base) (c__law_dice : Cal P w K mg base 1 "_law_dice" 1 fm__law_dice) (c__law_draw : Cal P w K mg base 1 "_law_draw" 2 fm__law_draw) (c__law_like : Cal P w K mg base 2 "_law_like" 3 fm__law_like) (c__law_many_rows : Cal P w K mg base 1 "_law_many_rows" 2 fm__law_many_rows) (c__law_row : Cal P w K mg base 2 "_law_row" 3 fm__law_row) (c__law_told : Cal P w K mg base 6 "_law_told" 2 fm__law_told) (c_Book_init : ICal P w K mg base 7 "Book" 5 fm_Book_init) {fd : FuncData} (FD : FunD K "law" "law" (defArgs (top 37)) (defBody (top 37)) (defScope (top 37)) [] [] (He.ga K "law") fd) : FnOk P w K mg base (L2.CX P w) 9 (He.ga K "law") fd ["_law_script"] (spF P w K 1 fm_law) := by
  refine fn_ok (N := ["_law_script", "_law_dice_here", "_law_sounds", "_law_ahead", "_law_behind", "_law_table", "_law_k", "_law_left", "_law_right", "_law_book", "_law_many", "_law_told_here", "_law_which"]) (n := 1) (nN := 13) FD ⟨rfl, rfl, rfl, by decide +kernel, rfl, by decide +kernel, by decide +kernel⟩ rfl rfl fun cdv A outer s0 H E hr => ?_
  have hN : (["_law_script", "_law_dice_here", "_law_sounds", "_law_ahead", "_law_behind", "_law_table", "_law_k", "_law_left", "_law_right", "_law_book", "_law_many", "_law_told_here", "_law_which"] : List Str).Nodup := by decide +kernel
  have hc : (cxOf (L2.CX P w) P w K mg base ["_law_script", "_law_dice_here", "_law_sounds", "_law_ahead", "_law_behind", "_law_table", "_law_k", "_law_left", "_law_right", "_law_book", "_law_many", "_law_told_here", "_law_which"] "law" (defScope (top 37)) (He.ga K "law") cdv A outer s0 H E).calm = true := rfl
  have hu : (cxOf (L2.CX P w) P w K mg base ["_law_script", "_law_dice_here", "_law_sounds", "_law_ahead", "_law_behind", "_law_table", "_law_k", "_law_left", "_law_right", "_law_book", "_law_many", "_law_told_here", "_law_which"] "law" (defScope (top 37)) (He.ga K "law") cdv A outer s0 H E).A.units + 64 < cLine := hr.units
  have hp : PassesOwn (model P w) (cxOf (L2.CX P w) P w K mg base ["_law_script", "_law_dice_here", "_law_sounds", "_law_ahead", "_law_behind", "_law_table", "_law_k", "_law_left", "_law_right", "_law_book", "_law_many", "_law_told_here", "_law_which"] "law" (defScope (top 37)) (He.ga K "law") cdv A outer s0 H E).A (cxOf (L2.CX P w) P w K mg base ["_law_script", "_law_dice_here", "_law_sounds", "_law_ahead", "_law_behind", "_law_table", "_law_k", "_law_left", "_law_right", "_law_book", "_law_many", "_law_told_here", "_law_which"] "law" (defScope (top 37)) (He.ga K "law") cdv A outer s0 H E).env (cxOf (L2.CX P w) P w K mg base ["_law_script", "_law_dice_here", "_law_sounds", "_law_ahead", "_law_behind", "_law_table", "_law_k", "_law_left", "_law_right", "_law_book", "_law_many", "_law_told_here", "_law_which"] "law" (defScope (top 37)) (He.ga K "law") cdv A outer s0 H E).xe := passes_of rfl
  have hpn : ∀ p ∈ ([] : List (Addr × Obj)), p ∈ (cxOf (L2.CX P w) P w K mg base ["_law_script", "_law_dice_here", "_law_sounds", "_law_ahead", "_law_behind", "_law_table", "_law_k", "_law_left", "_law_right", "_law_book", "_law_many", "_law_told_here", "_law_which"] "law" (defScope (top 37)) (He.ga K "law") cdv A outer s0 H E).pn := fun _ h => (nomatch h)
  unfold m_law
  exact (ds_cons (ds_set (i := 1) hN rfl (by first | exact .inl rfl | exact .inr rfl) (d_call (c__law_dice.mono (by decide)) hr rfl (dd_cons (d_var (i := 0) rfl (by first | exact .inl rfl | exact .inr (.inl rfl) | exact .inr (.inr rfl))) dd_nil)))
    (ds_cons (ds_set (i := 2) hN rfl (by first | exact .inl rfl | exact .inr rfl) (d_op o_add d_int (d_call (c__law_draw.mono (by decide)) hr rfl (dd_cons (d_var (i := 1) rfl (by first | exact .inl rfl | exact .inr (.inl rfl) | exact .inr (.inr rfl))) (dd_cons d_int dd_nil)))))
    (ds_cons (ds_set (i := 3) hN rfl (by first | exact .inl rfl | exact .inr rfl) (d_op o_add d_int (d_call (c__law_draw.mono (by decide)) hr rfl (dd_cons (d_var (i := 1) rfl (by first | exact .inl rfl | exact .inr (.inl rfl) | exact .inr (.inr rfl))) (dd_cons d_int dd_nil)))))
    (ds_cons (ds_set (i := 4) hN rfl (by first | exact .inl rfl | exact .inr rfl) (d_op o_add d_int (d_call (c__law_draw.mono (by decide)) hr rfl (dd_cons (d_var (i := 1) rfl (by first | exact .inl rfl | exact .inr (.inl rfl) | exact .inr (.inr rfl))) (dd_cons d_int dd_nil)))))
    (ds_cons (ds_set (i := 5) hN rfl (by first | exact .inl rfl | exact .inr rfl) d_dict0)
    (ds_cons (ds_for hp hc (di_rng1 rfl (F.n_range) (d_call (c__law_draw.mono (by decide)) hr rfl (dd_cons (d_var (i := 1) rfl (by first | exact .inl rfl | exact .inr (.inl rfl) | exact .inr (.inr rfl))) (dd_cons d_int dd_nil)))) (dg_name (i := 6) hN rfl (by first | exact .inl rfl | exact .inr rfl)) (ds_cons (ds_set (i := 7) hN rfl (by first | exact .inl rfl | exact .inr rfl) (d_call (c__law_row.mono (by decide)) hr rfl (dd_cons (d_var (i := 1) rfl (by first | exact .inl rfl | exact .inr (.inl rfl) | exact .inr (.inr rfl))) (dd_cons (d_var (i := 2) rfl (by first | exact .inl rfl | exact .inr (.inl rfl) | exact .inr (.inr rfl))) (dd_cons (d_var (i := 3) rfl (by first | exact .inl rfl | exact .inr (.inl rfl) | exact .inr (.inr rfl))) dd_nil)))))
    (ds_cons (ds_set (i := 8) hN rfl (by first | exact .inl rfl | exact .inr rfl) (d_call (c__law_row.mono (by decide)) hr rfl (dd_cons (d_var (i := 1) rfl (by first | exact .inl rfl | exact .inr (.inl rfl) | exact .inr (.inr rfl))) (dd_cons (d_var (i := 2) rfl (by first | exact .inl rfl | exact .inr (.inl rfl) | exact .inr (.inr rfl))) (dd_cons (d_var (i := 4) rfl (by first | exact .inl rfl | exact .inr (.inl rfl) | exact .inr (.inr rfl))) dd_nil)))))
    (ds_one (ds_sub (set_A hu) (d_var (i := 5) rfl (by first | exact .inl rfl | exact .inr (.inl rfl) | exact .inr (.inr rfl))) (d_tup (dd_cons (d_var (i := 7) rfl (by first | exact .inl rfl | exact .inr (.inl rfl) | exact .inr (.inr rfl))) (dd_cons (d_var (i := 8) rfl (by first | exact .inl rfl | exact .inr (.inl rfl) | exact .inr (.inr rfl))) dd_nil))) (d_tup (dd_cons (d_call (c__law_like.mono (by decide)) hr rfl (dd_cons (d_var (i := 1) rfl (by first | exact .inl rfl | exact .inr (.inl rfl) | exact .inr (.inr rfl))) (dd_cons (d_var (i := 2) rfl (by first | exact .inl rfl | exact .inr (.inl rfl) | exact .inr (.inr rfl))) (dd_cons (d_var (i := 7) rfl (by first | exact .inl rfl | exact .inr (.inl rfl) | exact .inr (.inr rfl))) dd_nil)))) (dd_cons (d_call (c__law_like.mono (by decide)) hr rfl (dd_cons (d_var (i := 1) rfl (by first | exact .inl rfl | exact .inr (.inl rfl) | exact .inr (.inr rfl))) (dd_cons (d_var (i := 2) rfl (by first | exact .inl rfl | exact .inr (.inl rfl) | exact .inr (.inr rfl))) (dd_cons (d_var (i := 8) rfl (by first | exact .inl rfl | exact .inr (.inl rfl) | exact .inr (.inr rfl))) dd_nil)))) dd_nil))))))))
    (ds_cons (ds_set (i := 9) hN rfl (by first | exact .inl rfl | exact .inr rfl) (d_make (c_Book_init.mono (by decide)) hr rfl (dd_cons (d_var (i := 2) rfl (by first | exact .inl rfl | exact .inr (.inl rfl) | exact .inr (.inr rfl))) (dd_cons (d_var (i := 3) rfl (by first | exact .inl rfl | exact .inr (.inl rfl) | exact .inr (.inr rfl))) (dd_cons (d_var (i := 4) rfl (by first | exact .inl rfl | exact .inr (.inl rfl) | exact .inr (.inr rfl))) (dd_cons (d_var (i := 5) rfl (by first | exact .inl rfl | exact .inr (.inl rfl) | exact .inr (.inr rfl))) dd_nil))))))
    (ds_cons (ds_set (i := 10) hN rfl (by first | exact .inl rfl | exact .inr rfl) (d_op o_mul (d_op o_mul (d_call (c__law_many_rows.mono (by decide)) hr rfl (dd_cons (d_var (i := 2) rfl (by first | exact .inl rfl | exact .inr (.inl rfl) | exact .inr (.inr rfl))) (dd_cons (d_var (i := 3) rfl (by first | exact .inl rfl | exact .inr (.inl rfl) | exact .inr (.inr rfl))) dd_nil))) (d_call (c__law_many_rows.mono (by decide)) hr rfl (dd_cons (d_var (i := 2) rfl (by first | exact .inl rfl | exact .inr (.inl rfl) | exact .inr (.inr rfl))) (dd_cons (d_op o_sub (d_op o_add (d_var (i := 3) rfl (by first | exact .inl rfl | exact .inr (.inl rfl) | exact .inr (.inr rfl))) (d_var (i := 4) rfl (by first | exact .inl rfl | exact .inr (.inl rfl) | exact .inr (.inr rfl)))) d_int) dd_nil)))) (d_call (c__law_many_rows.mono (by decide)) hr rfl (dd_cons (d_var (i := 2) rfl (by first | exact .inl rfl | exact .inr (.inl rfl) | exact .inr (.inr rfl))) (dd_cons (d_var (i := 4) rfl (by first | exact .inl rfl | exact .inr (.inl rfl) | exact .inr (.inr rfl))) dd_nil)))))
    (ds_cons (ds_if (dt_chain (o_lt hu) (o_le hu) d_int (d_var (i := 10) rfl (by first | exact .inl rfl | exact .inr (.inl rfl) | exact .inr (.inr rfl))) d_int) (ds_cons (ds_if (dt_cmp (o_gt hu) (d_call (c__law_draw.mono (by decide)) hr rfl (dd_cons (d_var (i := 1) rfl (by first | exact .inl rfl | exact .inr (.inl rfl) | exact .inr (.inr rfl))) (dd_cons d_int dd_nil))) d_int rfl) (ds_one (ds_ret d_bl)) ds_nil)
    (ds_cons (ds_set (i := 11) hN rfl (by first | exact .inl rfl | exact .inr rfl) (d_call (c__law_told.mono (by decide)) hr rfl (dd_cons d_int (dd_cons (d_var (i := 9) rfl (by first | exact .inl rfl | exact .inr (.inl rfl) | exact .inr (.inr rfl))) dd_nil))))
    (ds_one (ds_ret (d_and (d_cmp (o_eq hu) (d_ix (o_ixA hu) (d_var (i := 11) rfl (by first | exact .inl rfl | exact .inr (.inl rfl) | exact .inr (.inr rfl))) d_int) d_str rfl) (d_one (d_or (d_cmp (o_gt hu) (d_bi c_len rfl (F.n_len) PyProof.Rows.Boot.«len» (da_cons (d_var (i := 5) rfl (by first | exact .inl rfl | exact .inr (.inl rfl) | exact .inr (.inr rfl))) da_nil)) d_int rfl) (d_one (d_cmp (o_eq hu) (d_var (i := 11) rfl (by first | exact .inl rfl | exact .inr (.inl rfl) | exact .inr (.inr rfl))) (d_tup (dd_cons d_str (dd_cons d_int dd_nil))) rfl))))))))) ds_nil)
    (ds_cons (ds_for hp hc (di_rng1 rfl (F.n_range) d_int) (dg_name (i := 12) hN rfl (by first | exact .inl rfl | exact .inr rfl)) (ds_cons (ds_set (i := 11) hN rfl (by first | exact .inl rfl | exact .inr rfl) (d_call (c__law_told.mono (by decide)) hr rfl (dd_cons (d_var (i := 12) rfl (by first | exact .inl rfl | exact .inr (.inl rfl) | exact .inr (.inr rfl))) (dd_cons (d_var (i := 9) rfl (by first | exact .inl rfl | exact .inr (.inl rfl) | exact .inr (.inr rfl))) dd_nil))))
    (ds_one (ds_if (DW.t (dw_or (dt_cmp (o_ne hu) (d_cmp (o_eq hu) (d_var (i := 11) rfl (by first | exact .inl rfl | exact .inr (.inl rfl) | exact .inr (.inr rfl))) (d_tup (dd_cons d_str (dd_cons d_int dd_nil))) rfl) (d_cmp (o_gt hu) (d_var (i := 10) rfl (by first | exact .inl rfl | exact .inr (.inl rfl) | exact .inr (.inr rfl))) d_int rfl) rfl) (dw_or (dt_cmp (o_eq hu) (d_ix (o_ixA hu) (d_var (i := 11) rfl (by first | exact .inl rfl | exact .inr (.inl rfl) | exact .inr (.inr rfl))) d_int) d_str rfl) (dw_or1 (dt_cmp (o_ne hu) (d_call (c__law_told.mono (by decide)) hr rfl (dd_cons (d_var (i := 12) rfl (by first | exact .inl rfl | exact .inr (.inl rfl) | exact .inr (.inr rfl))) (dd_cons (d_var (i := 9) rfl (by first | exact .inl rfl | exact .inr (.inl rfl) | exact .inr (.inr rfl))) dd_nil))) (d_var (i := 11) rfl (by first | exact .inl rfl | exact .inr (.inl rfl) | exact .inr (.inr rfl))) rfl))))) (ds_one (ds_ret d_bl)) ds_nil))))
    (ds_cons (ds_if (DW.t (dw_or (dt_cmp (o_gt hu) (d_var (i := 10) rfl (by first | exact .inl rfl | exact .inr (.inl rfl) | exact .inr (.inr rfl))) d_int rfl) (dw_or1 (dt_cmp (o_gt hu) (d_bi c_len rfl (F.n_len) PyProof.Rows.Boot.«len» (da_cons (d_var (i := 5) rfl (by first | exact .inl rfl | exact .inr (.inl rfl) | exact .inr (.inr rfl))) da_nil)) d_int rfl)))) (ds_one (ds_ret d_bl)) ds_nil)
    (ds_one (ds_ret (d_and (d_cmp (o_eq hu) (d_call (c__law_told.mono (by decide)) hr rfl (dd_cons d_int (dd_cons (d_var (i := 9) rfl (by first | exact .inl rfl | exact .inr (.inl rfl) | exact .inr (.inr rfl))) dd_nil))) (d_tup (dd_cons d_str (dd_cons d_non dd_nil))) rfl) (d_one (d_cmp (o_eq hu) (d_call (c__law_told.mono (by decide)) hr rfl (dd_cons d_int (dd_cons (d_var (i := 9) rfl (by first | exact .inl rfl | exact .inr (.inl rfl) | exact .inr (.inr rfl))) dd_nil))) (d_tup (dd_cons d_str (dd_cons d_int dd_nil))) rfl))))))))))))))))
end
end Dn

set_option Elab.async false
set_option linter.all false
set_option maxRecDepth 100000
set_option maxHeartbeats 0
set_option autoImplicit false
namespace Dn
open PySem PySem.Spec PyProof.Rows L2
def d__law_dice : He.DefD := ⟨("_law_dice", none), "_law_dice", "_law_dice", defArgs (top 31), defBody (top 31), defScope (top 31), [], []⟩
def d__law_draw : He.DefD := ⟨("_law_draw", none), "_law_draw", "_law_draw", defArgs (top 32), defBody (top 32), defScope (top 32), [], []⟩
def d__law_like : He.DefD := ⟨("_law_like", none), "_law_like", "_law_like", defArgs (top 33), defBody (top 33), defScope (top 33), [], []⟩
def d__law_many_rows : He.DefD := ⟨("_law_many_rows", none), "_law_many_rows", "_law_many_rows", defArgs (top 36), defBody (top 36), defScope (top 36), [], []⟩
def d__law_row : He.DefD := ⟨("_law_row", none), "_law_row", "_law_row", defArgs (top 34), defBody (top 34), defScope (top 34), [], []⟩
def d_told : He.DefD := ⟨("told", none), "told", "told", defArgs (top 20), defBody (top 20), defScope (top 20), [], []⟩
def d_joined_rows : He.DefD := ⟨("joined_rows", none), "joined_rows", "joined_rows", defArgs (top 22), defBody (top 22), defScope (top 22), [], []⟩
def d_met_rows : He.DefD := ⟨("met_rows", none), "met_rows", "met_rows", defArgs (top 25), defBody (top 25), defScope (top 25), [], []⟩
def d_matters_at : He.DefD := ⟨("matters_at", none), "matters_at", "matters_at", defArgs (top 26), defBody (top 26), defScope (top 26), [], []⟩
def d_rows_many : He.DefD := ⟨("rows_many", none), "rows_many", "rows_many", defArgs (top 18), defBody (top 18), defScope (top 18), [], []⟩
def d_rows_to : He.DefD := ⟨("rows_to", none), "rows_to", "rows_to", defArgs (top 19), defBody (top 19), defScope (top 19), [], []⟩
def d_Book_reach : He.DefD := ⟨("Book", some "reach"), "reach", "Book.reach", defArgs (meth 17 6), defBody (meth 17 6), defScope (meth 17 6), [], []⟩
def d_triples : He.DefD := ⟨("triples", none), "triples", "triples", defArgs (top 27), defBody (top 27), defScope (top 27), [], []⟩
def d_matters : He.DefD := ⟨("matters", none), "matters", "matters", defArgs (top 28), defBody (top 28), defScope (top 28), [], []⟩
def d_matters_many : He.DefD := ⟨("matters_many", none), "matters_many", "matters_many", defArgs (top 29), defBody (top 29), defScope (top 29), [], []⟩
def d__law_told : He.DefD := ⟨("_law_told", none), "_law_told", "_law_told", defArgs (top 35), defBody (top 35), defScope (top 35), [], []⟩
def d_is_integer : He.DefD := ⟨("is_integer", none), "is_integer", "is_integer", defArgs (top 6), defBody (top 6), defScope (top 6), [], []⟩
def d_is_between : He.DefD := ⟨("is_between", none), "is_between", "is_between", defArgs (top 7), defBody (top 7), defScope (top 7), [], []⟩
def d_check_sizes : He.DefD := ⟨("check_sizes", none), "check_sizes", "check_sizes", defArgs (top 16), defBody (top 16), defScope (top 16), [], []⟩
def d_is_index : He.DefD := ⟨("is_index", none), "is_index", "is_index", defArgs (top 8), defBody (top 8), defScope (top 8), [], []⟩
def d_is_sounds : He.DefD := ⟨("is_sounds", none), "is_sounds", "is_sounds", defArgs (top 13), defBody (top 13), defScope (top 13), [], []⟩
def d_is_side_pair : He.DefD := ⟨("is_side_pair", none), "is_side_pair", "is_side_pair", defArgs (top 14), defBody (top 14), defScope (top 14), [], []⟩
def d_is_table : He.DefD := ⟨("is_table", none), "is_table", "is_table", defArgs (top 15), defBody (top 15), defScope (top 15), [], []⟩
def d_Book_keep : He.DefD := ⟨("Book", some "keep"), "keep", "Book.keep", defArgs (meth 17 1), defBody (meth 17 1), defScope (meth 17 1), [], []⟩
def d_Book_init : He.DefD := ⟨("Book", some "__init__"), "__init__", "Book.__init__", defArgs (meth 17 0), defBody (meth 17 0), defScope (meth 17 0), [], []⟩
def d_law : He.DefD := ⟨("law", none), "law", "law", defArgs (top 37), defBody (top 37), defScope (top 37), [], []⟩
def dx_NoBook : He.DefD := ⟨("NoBook", some "__init__"), "__init__", "NoBook.__init__", defArgs (meth 3 0), defBody (meth 3 0), defScope (meth 3 0), [], []⟩
def dx_TooMany : He.DefD := ⟨("TooMany", some "__init__"), "__init__", "TooMany.__init__", defArgs (meth 4 0), defBody (meth 4 0), defScope (meth 4 0), [], []⟩
def fn : List (He.DefD × List Str) := [(d__law_dice, []), (d__law_draw, []), (d__law_like, []), (d__law_many_rows, []), (d__law_row, []), (d_told, []), (d_joined_rows, []), (d_met_rows, []), (d_matters_at, []), (d_rows_many, []), (d_rows_to, []), (d_Book_reach, []), (d_triples, []), (d_matters, []), (d_matters_many, []), (d__law_told, []), (d_is_integer, []), (d_is_between, []), (d_check_sizes, []), (d_is_index, []), (d_is_sounds, []), (d_is_side_pair, []), (d_is_table, []), (d_Book_keep, []), (d_Book_init, []), (d_law, []), (dx_NoBook, [("__class__" : Str)]), (dx_TooMany, [("__class__" : Str)])]
def fb0 : List Fb := [attB atab, xmB (xsub "SeamError") "SeamError", xfsB ["TooMany"] "most", fun K => (He.Fa.glo "NoWords").ok K, fun K => (He.Fa.glo "SeamError").ok K, fun K => (He.Fa.glo "TooMany").ok K, fun K => (He.Fa.int "MOST_ENTRIES" 4000).ok K, fun K => (He.Fa.int "MOST_SIDE" 4).ok K, fun K => (He.Fa.int "MOST_SOUNDS" 8).ok K, fun K => (He.Fa.int "MOST_TRIPLES" 20000).ok K, askC "NoWords" owns (xsub "NoWords") (fun c => decide (c = "NoWords")), askC "TooMany" owns (xsub "TooMany") (fun c => decide (c = "TooMany"))]
def fb1 : List Fb := [askT "bool" owns [], askT "dict" owns [], askT "int" owns [], askT "tuple" owns [], fun K => (He.Fa.free "abs").ok K, fun K => (He.Fa.free "all").ok K, fun K => (He.Fa.free "bool").ok K, fun K => (He.Fa.free "dict").ok K, fun K => (He.Fa.free "int").ok K, fun K => (He.Fa.free "isinstance").ok K, fun K => (He.Fa.free "len").ok K, fun K => (He.Fa.free "range").ok K]
def fb2 : List Fb := [fun K => (He.Fa.free "tuple").ok K, fun K => (He.Fa.glo "NoBook").ok K, supB "NoBook" "part" PySem.Challenge.pw_heardseams_k67_books_too_large_to_be_loo.main.file, fun K => (He.Fa.glo "TooMany").ok K, supB "TooMany" "most" PySem.Challenge.pw_heardseams_k67_books_too_large_to_be_loo.main.file, fun K => (He.Fa.glo "_law_dice").ok K, fun K => (He.Fa.glo "_law_draw").ok K, fun K => (He.Fa.glo "_law_like").ok K, fun K => (He.Fa.glo "_law_many_rows").ok K, fun K => (He.Fa.glo "_law_row").ok K, fun K => (He.Fa.glo "told").ok K, fun K => (He.Fa.glo "joined_rows").ok K]
def fb3 : List Fb := [fun K => (He.Fa.glo "met_rows").ok K, fun K => (He.Fa.glo "matters_at").ok K, fun K => (He.Fa.glo "rows_many").ok K, fun K => (He.Fa.glo "rows_to").ok K, fun K => (He.Fa.cls "Book").ok K && (He.Fa.meth "Book" "reach").ok K, fun K => (He.Fa.glo "triples").ok K, fun K => (He.Fa.glo "matters").ok K, fun K => (He.Fa.glo "matters_many").ok K, fun K => (He.Fa.glo "_law_told").ok K, fun K => (He.Fa.glo "is_integer").ok K, fun K => (He.Fa.glo "is_between").ok K, fun K => (He.Fa.glo "check_sizes").ok K]
def fb4 : List Fb := [fun K => (He.Fa.glo "is_index").ok K, fun K => (He.Fa.glo "is_sounds").ok K, fun K => (He.Fa.glo "is_side_pair").ok K, fun K => (He.Fa.glo "is_table").ok K, fun K => (He.Fa.cls "Book").ok K && (He.Fa.meth "Book" "keep").ok K, fun K => (He.Fa.glo "Book").ok K && (He.Fa.mkr "Book").ok K, fun K => (He.Fa.glo "law").ok K]
def fb : List Fb := fb0 ++ fb1 ++ fb2 ++ fb3 ++ fb4
abbrev Rr : PySem.W.OpenRow := PySem.W.OpenLaw.row PySem.Challenge.rw_heardseams_k67_books_too_large_to_be_loo
abbrev hk : PySem.W.Hook := hookN 5 fb fn
def ob (s : PySem.W.SharedT) : AlN := obsNG 5 fb fn (HandSHeadRun.getT s)
theorem ob_eq (s : PySem.W.SharedT) : ob s = hk.obs s.abs := obsNG_eq (HandSHeadRun.getT_eq s)
def nm0 : List Str := ["SeamError", "NoWords", "NoBook", "TooMany", "is_integer", "is_between", "is_index", "MOST_SOUNDS", "MOST_SIDE", "MOST_ENTRIES", "is_sounds", "is_side_pair", "is_table", "check_sizes", "Book", "rows_many", "rows_to", "told", "joined_rows", "MOST_TRIPLES", "met_rows", "matters_at", "triples", "matters", "matters_many", "_law_dice", "_law_draw", "_law_like", "_law_row", "_law_told", "_law_many_rows"]
def names : List Str := nm0
theorem run (w : World) : HandSHeadRun.RunEq Rr (PySem.W.view Rr.prog [37]) hk ob 20000 names w := by
  intro os
  kernel_rfl
end Dn

set_option Elab.async false
set_option linter.all false
set_option maxRecDepth 100000
set_option maxHeartbeats 0
set_option autoImplicit false
namespace Dn
open PySem PySem.Spec PyProof.Rows L2
section
variable {w : World} {K : PySem.W.Frag} {h base : Heap} {mg : Str → Option Value}
theorem x1_NoBook (KX : K.In h) (G : h.Ns mainGlobals mg) (c : SaysN fb fn K) : XCal1 PySem.Challenge.rw_heardseams_k67_books_too_large_to_be_loo.prog w K mg base "NoBook" "part" := by
  obtain ⟨oc, od, osl, dV, kV, doc, pm, an, cdv, ct, cc, h1, h2, h3⟩ := c.sup 26 (d := dx_NoBook) rfl
  exact xcal1_ok (nm := "__init__") (qual := "NoBook.__init__") (params := defArgs (meth 3 0)) (body := defBody (meth 3 0)) (scope := defScope (meth 3 0)) (a := "self") (x := "part") (tx := "no book") (He.glo_ok KX G (c.fact 25 (f := fun K => (He.Fa.glo "NoBook").ok K) rfl)) (c.fact 26 (f := supB "NoBook" "part" PySem.Challenge.pw_heardseams_k67_books_too_large_to_be_loo.main.file) rfl) ⟨oc, od, osl, dV, kV, doc, pm, an, cdv, ct, cc, h1, h2, h3⟩ rfl (NdefX.nscope_by (by decide +kernel)) (by decide +kernel) (by decide +kernel) (by decide +kernel) (by decide +kernel) (by decide +kernel) ⟨_, rfl, rfl⟩ rfl (by kernel_rfl) (fun env => ⟨_, rfl⟩) (fun _ => rfl) (fun _ _ _ _ => rfl) (fun _ => rfl) (fun _ => rfl) (fun _ _ _ _ _ _ _ us hl => match us, hl with | [_, _], _ => rfl)
theorem x1_TooMany (KX : K.In h) (G : h.Ns mainGlobals mg) (c : SaysN fb fn K) : XCal1 PySem.Challenge.rw_heardseams_k67_books_too_large_to_be_loo.prog w K mg base "TooMany" "most" := by
  obtain ⟨oc, od, osl, dV, kV, doc, pm, an, cdv, ct, cc, h1, h2, h3⟩ := c.sup 27 (d := dx_TooMany) rfl
  exact xcal1_ok (nm := "__init__") (qual := "TooMany.__init__") (params := defArgs (meth 4 0)) (body := defBody (meth 4 0)) (scope := defScope (meth 4 0)) (a := "self") (x := "most") (tx := "too many") (He.glo_ok KX G (c.fact 5 (f := fun K => (He.Fa.glo "TooMany").ok K) rfl)) (c.fact 28 (f := supB "TooMany" "most" PySem.Challenge.pw_heardseams_k67_books_too_large_to_be_loo.main.file) rfl) ⟨oc, od, osl, dV, kV, doc, pm, an, cdv, ct, cc, h1, h2, h3⟩ rfl (NdefX.nscope_by (by decide +kernel)) (by decide +kernel) (by decide +kernel) (by decide +kernel) (by decide +kernel) (by decide +kernel) ⟨_, rfl, rfl⟩ rfl (by kernel_rfl) (fun env => ⟨_, rfl⟩) (fun _ => rfl) (fun _ _ _ _ => rfl) (fun _ => rfl) (fun _ => rfl) (fun _ _ _ _ _ _ _ us hl => match us, hl with | [_, _], _ => rfl)
theorem fx (KX : K.In h) (G : h.Ns mainGlobals mg) (c : SaysN fb fn K) : Fx PySem.Challenge.rw_heardseams_k67_books_too_large_to_be_loo.prog w K mg base where
  att := attB_ok (c.fact 0 (f := attB atab) rfl)
  e_SeamError := xmB_ok (c.fact 1 (f := xmB (xsub "SeamError") "SeamError") rfl)
  f_most := xfsB_ok (c.fact 2 (f := xfsB ["TooMany"] "most") rfl)
  g_NoWords := He.glo_ok KX G (c.fact 3 (f := fun K => (He.Fa.glo "NoWords").ok K) rfl)
  g_SeamError := He.glo_ok KX G (c.fact 4 (f := fun K => (He.Fa.glo "SeamError").ok K) rfl)
  g_TooMany := He.glo_ok KX G (c.fact 5 (f := fun K => (He.Fa.glo "TooMany").ok K) rfl)
  i_MOST_ENTRIES := He.int_ok KX G (c.fact 6 (f := fun K => (He.Fa.int "MOST_ENTRIES" 4000).ok K) rfl)
  i_MOST_SIDE := He.int_ok KX G (c.fact 7 (f := fun K => (He.Fa.int "MOST_SIDE" 4).ok K) rfl)
  i_MOST_SOUNDS := He.int_ok KX G (c.fact 8 (f := fun K => (He.Fa.int "MOST_SOUNDS" 8).ok K) rfl)
  i_MOST_TRIPLES := He.int_ok KX G (c.fact 9 (f := fun K => (He.Fa.int "MOST_TRIPLES" 20000).ok K) rfl)
  k_NoWords := askC_ok (c.fact 10 (f := askC "NoWords" owns (xsub "NoWords") (fun c => decide (c = "NoWords"))) rfl)
  k_TooMany := askC_ok (c.fact 11 (f := askC "TooMany" owns (xsub "TooMany") (fun c => decide (c = "TooMany"))) rfl)
  k_bool := askB_ok (b := .bl) (by decide) (c.fact 12 (f := askT "bool" owns []) rfl)
  k_dict := askB_ok (b := .dct) (by decide) (c.fact 13 (f := askT "dict" owns []) rfl)
  k_int := askB_ok (b := .int) (by decide) (c.fact 14 (f := askT "int" owns []) rfl)
  k_tuple := askB_ok (b := .tup) (by decide) (c.fact 15 (f := askT "tuple" owns []) rfl)
  n_abs := He.free_ok KX G (c.fact 16 (f := fun K => (He.Fa.free "abs").ok K) rfl)
  n_all := He.free_ok KX G (c.fact 17 (f := fun K => (He.Fa.free "all").ok K) rfl)
  n_bool := He.free_ok KX G (c.fact 18 (f := fun K => (He.Fa.free "bool").ok K) rfl)
  n_dict := He.free_ok KX G (c.fact 19 (f := fun K => (He.Fa.free "dict").ok K) rfl)
  n_int := He.free_ok KX G (c.fact 20 (f := fun K => (He.Fa.free "int").ok K) rfl)
  n_isinstance := He.free_ok KX G (c.fact 21 (f := fun K => (He.Fa.free "isinstance").ok K) rfl)
  n_len := He.free_ok KX G (c.fact 22 (f := fun K => (He.Fa.free "len").ok K) rfl)
  n_range := He.free_ok KX G (c.fact 23 (f := fun K => (He.Fa.free "range").ok K) rfl)
  n_tuple := He.free_ok KX G (c.fact 24 (f := fun K => (He.Fa.free "tuple").ok K) rfl)
  x_NoBook := x1_NoBook KX G c
  x_TooMany := x1_TooMany KX G c
end
theorem all_ok {w : World} {K : PySem.W.Frag} {h : Heap} {mg : Str → Option Value} (KX : K.In h) (G : h.Ns mainGlobals mg) (c : SaysN fb fn K) : ∃ fd : FuncData, (∀ (s : Shared) (v : Value), BindsTo s fd ⟨[v], []⟩ [("_law_script", v)]) ∧
    ∀ base : Heap, K.In base → base.Ns mainGlobals mg → FnOk PySem.Challenge.rw_heardseams_k67_books_too_large_to_be_loo.prog w K mg base (L2.CX PySem.Challenge.rw_heardseams_k67_books_too_large_to_be_loo.prog w) 9 (He.ga K "law") fd ["_law_script"] (spF PySem.Challenge.rw_heardseams_k67_books_too_large_to_be_loo.prog w K 1 fm_law) := by
  obtain ⟨fdL, FL⟩ := c.def_ 25 (d := d_law) rfl
  have bL := FunD.bindsA (ps := ["_law_script"]) FL fun _ _ _ _ _ _ us hl => match us, hl with | [_], _ => rfl
  refine ⟨fdL, fun s v => bL s [v] rfl, fun base _ _ => ?_⟩
  have F : Fx PySem.Challenge.rw_heardseams_k67_books_too_large_to_be_loo.prog w K mg base := fx KX G c
  have c__law_dice : Cal PySem.Challenge.rw_heardseams_k67_books_too_large_to_be_loo.prog w K mg base 1 "_law_dice" 1 fm__law_dice := by
    obtain ⟨fd, b, kp, f⟩ := ok__law_dice (P := PySem.Challenge.rw_heardseams_k67_books_too_large_to_be_loo.prog) (w := w) F  (c.def_ 0 (d := d__law_dice) rfl)
    exact ⟨_, fd, _, (He.glo_ok KX G (c.fact 29 (f := fun K => (He.Fa.glo "_law_dice").ok K) rfl)), kp, b, f⟩
  have c__law_draw : Cal PySem.Challenge.rw_heardseams_k67_books_too_large_to_be_loo.prog w K mg base 1 "_law_draw" 2 fm__law_draw := by
    obtain ⟨fd, b, kp, f⟩ := ok__law_draw (P := PySem.Challenge.rw_heardseams_k67_books_too_large_to_be_loo.prog) (w := w) F  (c.def_ 1 (d := d__law_draw) rfl)
    exact ⟨_, fd, _, (He.glo_ok KX G (c.fact 30 (f := fun K => (He.Fa.glo "_law_draw").ok K) rfl)), kp, b, f⟩
  have c__law_like : Cal PySem.Challenge.rw_heardseams_k67_books_too_large_to_be_loo.prog w K mg base 2 "_law_like" 3 fm__law_like := by
    obtain ⟨fd, b, kp, f⟩ := ok__law_like (P := PySem.Challenge.rw_heardseams_k67_books_too_large_to_be_loo.prog) (w := w) F c__law_draw (c.def_ 2 (d := d__law_like) rfl)
    exact ⟨_, fd, _, (He.glo_ok KX G (c.fact 31 (f := fun K => (He.Fa.glo "_law_like").ok K) rfl)), kp, b, f⟩
  have c__law_many_rows : Cal PySem.Challenge.rw_heardseams_k67_books_too_large_to_be_loo.prog w K mg base 1 "_law_many_rows" 2 fm__law_many_rows := by
    obtain ⟨fd, b, kp, f⟩ := ok__law_many_rows (P := PySem.Challenge.rw_heardseams_k67_books_too_large_to_be_loo.prog) (w := w) F  (c.def_ 3 (d := d__law_many_rows) rfl)
    exact ⟨_, fd, _, (He.glo_ok KX G (c.fact 32 (f := fun K => (He.Fa.glo "_law_many_rows").ok K) rfl)), kp, b, f⟩
  have c__law_row : Cal PySem.Challenge.rw_heardseams_k67_books_too_large_to_be_loo.prog w K mg base 2 "_law_row" 3 fm__law_row := by
    obtain ⟨fd, b, kp, f⟩ := ok__law_row (P := PySem.Challenge.rw_heardseams_k67_books_too_large_to_be_loo.prog) (w := w) F c__law_draw (c.def_ 4 (d := d__law_row) rfl)
    exact ⟨_, fd, _, (He.glo_ok KX G (c.fact 33 (f := fun K => (He.Fa.glo "_law_row").ok K) rfl)), kp, b, f⟩
  have c_told : Cal PySem.Challenge.rw_heardseams_k67_books_too_large_to_be_loo.prog w K mg base 1 "told" 3 fm_told := by
    obtain ⟨fd, b, kp, f⟩ := ok_told (P := PySem.Challenge.rw_heardseams_k67_books_too_large_to_be_loo.prog) (w := w) F  (c.def_ 5 (d := d_told) rfl)
    exact ⟨_, fd, _, (He.glo_ok KX G (c.fact 34 (f := fun K => (He.Fa.glo "told").ok K) rfl)), kp, b, f⟩
  have c_joined_rows : Cal PySem.Challenge.rw_heardseams_k67_books_too_large_to_be_loo.prog w K mg base 2 "joined_rows" 3 fm_joined_rows := by
    obtain ⟨fd, b, kp, f⟩ := ok_joined_rows (P := PySem.Challenge.rw_heardseams_k67_books_too_large_to_be_loo.prog) (w := w) F c_told (c.def_ 6 (d := d_joined_rows) rfl)
    exact ⟨_, fd, _, (He.glo_ok KX G (c.fact 35 (f := fun K => (He.Fa.glo "joined_rows").ok K) rfl)), kp, b, f⟩
  have c_met_rows : Cal PySem.Challenge.rw_heardseams_k67_books_too_large_to_be_loo.prog w K mg base 3 "met_rows" 3 fm_met_rows := by
    obtain ⟨fd, b, kp, f⟩ := ok_met_rows (P := PySem.Challenge.rw_heardseams_k67_books_too_large_to_be_loo.prog) (w := w) F c_joined_rows (c.def_ 7 (d := d_met_rows) rfl)
    exact ⟨_, fd, _, (He.glo_ok KX G (c.fact 36 (f := fun K => (He.Fa.glo "met_rows").ok K) rfl)), kp, b, f⟩
  have c_matters_at : Cal PySem.Challenge.rw_heardseams_k67_books_too_large_to_be_loo.prog w K mg base 4 "matters_at" 4 fm_matters_at := by
    obtain ⟨fd, b, kp, f⟩ := ok_matters_at (P := PySem.Challenge.rw_heardseams_k67_books_too_large_to_be_loo.prog) (w := w) F c_met_rows (c.def_ 8 (d := d_matters_at) rfl)
    exact ⟨_, fd, _, (He.glo_ok KX G (c.fact 37 (f := fun K => (He.Fa.glo "matters_at").ok K) rfl)), kp, b, f⟩
  have c_rows_many : Cal PySem.Challenge.rw_heardseams_k67_books_too_large_to_be_loo.prog w K mg base 1 "rows_many" 2 fm_rows_many := by
    obtain ⟨fd, b, kp, f⟩ := ok_rows_many (P := PySem.Challenge.rw_heardseams_k67_books_too_large_to_be_loo.prog) (w := w) F  (c.def_ 9 (d := d_rows_many) rfl)
    exact ⟨_, fd, _, (He.glo_ok KX G (c.fact 38 (f := fun K => (He.Fa.glo "rows_many").ok K) rfl)), kp, b, f⟩
  have c_rows_to : Cal PySem.Challenge.rw_heardseams_k67_books_too_large_to_be_loo.prog w K mg base 1 "rows_to" 2 fm_rows_to := by
    obtain ⟨fd, b, kp, f⟩ := ok_rows_to (P := PySem.Challenge.rw_heardseams_k67_books_too_large_to_be_loo.prog) (w := w) F  (c.def_ 10 (d := d_rows_to) rfl)
    exact ⟨_, fd, _, (He.glo_ok KX G (c.fact 39 (f := fun K => (He.Fa.glo "rows_to").ok K) rfl)), kp, b, f⟩
  have c_Book_reach : MCal PySem.Challenge.rw_heardseams_k67_books_too_large_to_be_loo.prog w K mg base 1 "Book" "reach" 1 fm_Book_reach := by
    obtain ⟨fd, b, kp, f⟩ := ok_Book_reach (P := PySem.Challenge.rw_heardseams_k67_books_too_large_to_be_loo.prog) (w := w) F  (c.def_ 11 (d := d_Book_reach) rfl)
    exact ⟨_, fd, _, He.cls_ok (He.ba (c.fact 40 (f := fun K => (He.Fa.cls "Book").ok K && (He.Fa.meth "Book" "reach").ok K) rfl)).1, He.meth_ok (He.ba (c.fact 40 (f := fun K => (He.Fa.cls "Book").ok K && (He.Fa.meth "Book" "reach").ok K) rfl)).2, b, f⟩
  have c_triples : Cal PySem.Challenge.rw_heardseams_k67_books_too_large_to_be_loo.prog w K mg base 3 "triples" 1 fm_triples := by
    obtain ⟨fd, b, kp, f⟩ := ok_triples (P := PySem.Challenge.rw_heardseams_k67_books_too_large_to_be_loo.prog) (w := w) F c_rows_many c_rows_to c_Book_reach (c.def_ 12 (d := d_triples) rfl)
    exact ⟨_, fd, _, (He.glo_ok KX G (c.fact 41 (f := fun K => (He.Fa.glo "triples").ok K) rfl)), kp, b, f⟩
  have c_matters : Cal PySem.Challenge.rw_heardseams_k67_books_too_large_to_be_loo.prog w K mg base 5 "matters" 1 fm_matters := by
    obtain ⟨fd, b, kp, f⟩ := ok_matters (P := PySem.Challenge.rw_heardseams_k67_books_too_large_to_be_loo.prog) (w := w) F c_matters_at c_triples (c.def_ 13 (d := d_matters) rfl)
    exact ⟨_, fd, _, (He.glo_ok KX G (c.fact 42 (f := fun K => (He.Fa.glo "matters").ok K) rfl)), kp, b, f⟩
  have c_matters_many : Cal PySem.Challenge.rw_heardseams_k67_books_too_large_to_be_loo.prog w K mg base 5 "matters_many" 1 fm_matters_many := by
    obtain ⟨fd, b, kp, f⟩ := ok_matters_many (P := PySem.Challenge.rw_heardseams_k67_books_too_large_to_be_loo.prog) (w := w) F c_matters_at c_triples (c.def_ 14 (d := d_matters_many) rfl)
    exact ⟨_, fd, _, (He.glo_ok KX G (c.fact 43 (f := fun K => (He.Fa.glo "matters_many").ok K) rfl)), kp, b, f⟩
  have c__law_told : Cal PySem.Challenge.rw_heardseams_k67_books_too_large_to_be_loo.prog w K mg base 6 "_law_told" 2 fm__law_told := by
    obtain ⟨fd, b, kp, f⟩ := ok__law_told (P := PySem.Challenge.rw_heardseams_k67_books_too_large_to_be_loo.prog) (w := w) F c_matters c_matters_many (c.def_ 15 (d := d__law_told) rfl)
    exact ⟨_, fd, _, (He.glo_ok KX G (c.fact 44 (f := fun K => (He.Fa.glo "_law_told").ok K) rfl)), kp, b, f⟩
  have c_is_integer : Cal PySem.Challenge.rw_heardseams_k67_books_too_large_to_be_loo.prog w K mg base 1 "is_integer" 1 fm_is_integer := by
    obtain ⟨fd, b, kp, f⟩ := ok_is_integer (P := PySem.Challenge.rw_heardseams_k67_books_too_large_to_be_loo.prog) (w := w) F  (c.def_ 16 (d := d_is_integer) rfl)
    exact ⟨_, fd, _, (He.glo_ok KX G (c.fact 45 (f := fun K => (He.Fa.glo "is_integer").ok K) rfl)), kp, b, f⟩
  have c_is_between : Cal PySem.Challenge.rw_heardseams_k67_books_too_large_to_be_loo.prog w K mg base 2 "is_between" 3 fm_is_between := by
    obtain ⟨fd, b, kp, f⟩ := ok_is_between (P := PySem.Challenge.rw_heardseams_k67_books_too_large_to_be_loo.prog) (w := w) F c_is_integer (c.def_ 17 (d := d_is_between) rfl)
    exact ⟨_, fd, _, (He.glo_ok KX G (c.fact 46 (f := fun K => (He.Fa.glo "is_between").ok K) rfl)), kp, b, f⟩
  have c_check_sizes : Cal PySem.Challenge.rw_heardseams_k67_books_too_large_to_be_loo.prog w K mg base 3 "check_sizes" 3 fm_check_sizes := by
    obtain ⟨fd, b, kp, f⟩ := ok_check_sizes (P := PySem.Challenge.rw_heardseams_k67_books_too_large_to_be_loo.prog) (w := w) F c_is_between (c.def_ 18 (d := d_check_sizes) rfl)
    exact ⟨_, fd, _, (He.glo_ok KX G (c.fact 47 (f := fun K => (He.Fa.glo "check_sizes").ok K) rfl)), kp, b, f⟩
  have c_is_index : Cal PySem.Challenge.rw_heardseams_k67_books_too_large_to_be_loo.prog w K mg base 3 "is_index" 2 fm_is_index := by
    obtain ⟨fd, b, kp, f⟩ := ok_is_index (P := PySem.Challenge.rw_heardseams_k67_books_too_large_to_be_loo.prog) (w := w) F c_is_between (c.def_ 19 (d := d_is_index) rfl)
    exact ⟨_, fd, _, (He.glo_ok KX G (c.fact 48 (f := fun K => (He.Fa.glo "is_index").ok K) rfl)), kp, b, f⟩
  have c_is_sounds : Cal PySem.Challenge.rw_heardseams_k67_books_too_large_to_be_loo.prog w K mg base 4 "is_sounds" 4 fm_is_sounds := by
    obtain ⟨fd, b, kp, f⟩ := ok_is_sounds (P := PySem.Challenge.rw_heardseams_k67_books_too_large_to_be_loo.prog) (w := w) F c_is_index (c.def_ 20 (d := d_is_sounds) rfl)
    exact ⟨_, fd, _, (He.glo_ok KX G (c.fact 49 (f := fun K => (He.Fa.glo "is_sounds").ok K) rfl)), kp, b, f⟩
  have c_is_side_pair : Cal PySem.Challenge.rw_heardseams_k67_books_too_large_to_be_loo.prog w K mg base 5 "is_side_pair" 4 fm_is_side_pair := by
    obtain ⟨fd, b, kp, f⟩ := ok_is_side_pair (P := PySem.Challenge.rw_heardseams_k67_books_too_large_to_be_loo.prog) (w := w) F c_is_sounds (c.def_ 21 (d := d_is_side_pair) rfl)
    exact ⟨_, fd, _, (He.glo_ok KX G (c.fact 50 (f := fun K => (He.Fa.glo "is_side_pair").ok K) rfl)), kp, b, f⟩
  have c_is_table : Cal PySem.Challenge.rw_heardseams_k67_books_too_large_to_be_loo.prog w K mg base 6 "is_table" 4 fm_is_table := by
    obtain ⟨fd, b, kp, f⟩ := ok_is_table (P := PySem.Challenge.rw_heardseams_k67_books_too_large_to_be_loo.prog) (w := w) F c_is_side_pair (c.def_ 22 (d := d_is_table) rfl)
    exact ⟨_, fd, _, (He.glo_ok KX G (c.fact 51 (f := fun K => (He.Fa.glo "is_table").ok K) rfl)), kp, b, f⟩
  have c_Book_keep : MCal PySem.Challenge.rw_heardseams_k67_books_too_large_to_be_loo.prog w K mg base 1 "Book" "keep" 5 fm_Book_keep := by
    obtain ⟨fd, b, kp, f⟩ := ok_Book_keep (P := PySem.Challenge.rw_heardseams_k67_books_too_large_to_be_loo.prog) (w := w) F  (c.def_ 23 (d := d_Book_keep) rfl)
    exact ⟨_, fd, _, He.cls_ok (He.ba (c.fact 52 (f := fun K => (He.Fa.cls "Book").ok K && (He.Fa.meth "Book" "keep").ok K) rfl)).1, He.meth_ok (He.ba (c.fact 52 (f := fun K => (He.Fa.cls "Book").ok K && (He.Fa.meth "Book" "keep").ok K) rfl)).2, b, f⟩
  have c_Book_init : ICal PySem.Challenge.rw_heardseams_k67_books_too_large_to_be_loo.prog w K mg base 7 "Book" 5 fm_Book_init := by
    obtain ⟨fd, b, kp, f⟩ := ok_Book_init (P := PySem.Challenge.rw_heardseams_k67_books_too_large_to_be_loo.prog) (w := w) F c_check_sizes c_is_table c_Book_keep (c.def_ 24 (d := d_Book_init) rfl)
    exact ⟨_, fd, _, He.glo_ok KX G (He.ba (c.fact 53 (f := fun K => (He.Fa.glo "Book").ok K && (He.Fa.mkr "Book").ok K) rfl)).1, He.mkr_ok (He.ba (c.fact 53 (f := fun K => (He.Fa.glo "Book").ok K && (He.Fa.mkr "Book").ok K) rfl)).2, b, f⟩
  exact (ok_law_ F c__law_dice c__law_draw c__law_like c__law_many_rows c__law_row c__law_told c_Book_init FL)
end Dn

set_option Elab.async false
set_option linter.all false
set_option maxRecDepth 100000
set_option maxHeartbeats 4000000
set_option autoImplicit false
/-! Dn21: what a mirror does, said by wishes. -/
namespace Dn
open PySem PySem.Spec

/-- the wish on an end (inductive: nothing is to be reckoned by looking at it) -/
inductive WM {α : Type} : R α → (α → Mu → Prop) → (D → Mu → Prop) → Prop where
  | ok {a : α} {m : Mu} {Q : α → Mu → Prop} {E : D → Mu → Prop} (h : Q a m) : WM (.ok a m) Q E
  | ex {e : D} {m : Mu} {Q : α → Mu → Prop} {E : D → Mu → Prop} (h : E e m) : WM (.ex e m) Q E
inductive WS : RS → (Fl → Rho → Mu → Prop) → (D → Rho → Mu → Prop) → Prop where
  | ok {f : Fl} {ρ : Rho} {m : Mu} {Q : Fl → Rho → Mu → Prop} {E : D → Rho → Mu → Prop} (h : Q f ρ m) : WS (.ok f ρ m) Q E
  | ex {e : D} {ρ : Rho} {m : Mu} {Q : Fl → Rho → Mu → Prop} {E : D → Rho → Mu → Prop} (h : E e ρ m) : WS (.ex e ρ m) Q E
theorem WM.imp {α : Type} {r : R α} {Q Q' : α → Mu → Prop} {E E' : D → Mu → Prop} (h : WM r Q E) (i : ∀ a m, Q a m → Q' a m) (j : ∀ e m, E e m → E' e m) : WM r Q' E' := by
  cases h with
  | ok h => exact .ok (i _ _ h)
  | ex h => exact .ex (j _ _ h)
theorem WS.imp {r : RS} {Q Q' : Fl → Rho → Mu → Prop} {E E' : D → Rho → Mu → Prop} (h : WS r Q E) (i : ∀ f ρ m, Q f ρ m → Q' f ρ m) (j : ∀ e ρ m, E e ρ m → E' e ρ m) : WS r Q' E' := by
  cases h with
  | ok h => exact .ok (i _ _ _ h)
  | ex h => exact .ex (j _ _ _ h)
theorem WM.ok_of {α : Type} {r : R α} {Q : α → Mu → Prop} (h : WM r Q fun _ _ => False) : ∃ a m, r = .ok a m ∧ Q a m := by
  cases h with
  | ok h => exact ⟨_, _, rfl, h⟩
  | ex h => exact h.elim
section
variable {α β : Type} {Q : β → Mu → Prop} {Qa : α → Mu → Prop} {Qs : Fl → Rho → Mu → Prop} {E : D → Mu → Prop} {Es : D → Rho → Mu → Prop} {m : Mu} {ρ : Rho}
theorem w_ok {a : α} : WM (.ok a m) Qa E = Qa a m := propext ⟨fun h => by cases h; assumption, .ok⟩
theorem w_ex {e : D} : WM (α := α) (.ex e m) Qa E = E e m := propext ⟨fun h => by cases h; assumption, .ex⟩
theorem w_no : WM (α := α) .no Qa E = False := propext ⟨fun h => (nomatch h), False.elim⟩
theorem w_nxt {f : Fl} {ρ' : Rho} : WS (.ok f ρ' m) Qs Es = Qs f ρ' m := propext ⟨fun h => by cases h; assumption, .ok⟩
theorem w_exc {e : D} {ρ' : Rho} : WS (.ex e ρ' m) Qs Es = Es e ρ' m := propext ⟨fun h => by cases h; assumption, .ex⟩
theorem w_nos : WS .no Qs Es = False := propext ⟨fun h => (nomatch h), False.elim⟩
theorem w_ret {a : α} : WM (M.ret a m) Qa E = Qa a m := w_ok
theorem w_mno : WM (α := α) (M.no m) Qa E = False := w_no
theorem w_bind {x : M α} {f : α → M β} : WM (M.bind x f m) Q E = WM (x m) (fun a m1 => WM (f a m1) Q E) E := by
  unfold M.bind
  cases x m <;> simp only [w_ok, w_ex, w_no]
theorem w_opt {o : Mu → Option α} : WM (M.opt o m) Qa E = match o m with
    | some a => Qa a m
    | none => False := by
  unfold M.opt
  cases o m <;> simp only [w_ok, w_ex, w_no]
theorem w_optM {o : Mu → Option (α × Mu)} : WM (M.optM o m) Qa E = match o m with
    | some p => Qa p.1 p.2
    | none => False := by
  unfold M.optM
  cases o m <;> simp only [w_ok, w_ex, w_no]
theorem w_chk {b : Mu → Bool} {Q : Unit → Mu → Prop} : WM (M.chk b m) Q E = (b m = true ∧ Q () m) := by
  unfold M.chk
  cases b m <;> simp [w_ok, w_no]
theorem w_nx {x : M α} : WM (M.nx x m) Qa E = WM (x m) Qa fun _ _ => False := by
  unfold M.nx
  cases x m <;> simp only [w_ok, w_ex, w_no]
theorem w_of {r : R α} {f : α → Mu → RS} : WS (RS.of r ρ f) Qs Es = WM r (fun a m1 => WS (f a m1) Qs Es) (fun e m1 => Es e ρ m1) := by
  cases r <;> simp only [RS.of, w_ok, w_ex, w_no, w_exc, w_nos]
theorem w_settle_d {x : D} {Q : D → Mu → Prop} : WM (settle (.d x) m) Q E = Q x m := w_ok
theorem w_settle_o {o : O} {Q : D → Mu → Prop} : WM (settle (.o o) m) Q E = Q (.loc m.length) (m ++ [o]) := w_ok
theorem w_seq {s t : SX} : WS (sSeq s t ρ m) Qs Es = WS (s ρ m) (fun f ρ1 m1 => match f with
    | .nx => WS (t ρ1 m1) Qs Es
    | f => Qs f ρ1 m1) Es := by
  unfold sSeq
  cases s ρ m with
  | ok f ρ1 m1 => cases f <;> simp only [w_nxt]
  | ex e ρ1 m1 => simp only [w_exc]
  | no => simp only [w_nos]
theorem w_fn {n N : Nat} {s : SX} {ds : List D} {Q : D → Mu → Prop} : WM (fnM n N s ds m) Q E = (ds.length = n ∧ WS (s (ds.map some ++ List.replicate (N - n) none) m) (fun f _ m1 => match f with
    | .rt d => Q d m1
    | .nx => Q .non m1
    | _ => False) (fun e _ m1 => E e m1)) := by
  unfold fnM
  split
  · rename_i h
    cases s (ds.map some ++ List.replicate (N - n) none) m with
    | ok f ρ1 m1 => cases f <;> simp [w_ok, w_no, w_nxt, h]
    | ex e ρ1 m1 => simp [w_ex, w_exc, h]
    | no => simp [w_no, w_nos]
  · rename_i h
    simp [w_no, h]
theorem w_cond {b : Bool} {x y : M α} : WM ((bif b then x else y) m) Qa E = if b = true then WM (x m) Qa E else WM (y m) Qa E := by cases b <;> rfl
theorem w_condS {b : Bool} {s t : RS} : WS (bif b then s else t) Qs Es = if b = true then WS s Qs Es else WS t Qs Es := by cases b <;> rfl
theorem w_iteM {p : Prop} [Decidable p] {x y : M α} : WM ((if p then x else y) m) Qa E = if p then WM (x m) Qa E else WM (y m) Qa E := by split <;> rfl
theorem w_ite {p : Prop} [Decidable p] {x y : R α} : WM (if p then x else y) Qa E = if p then WM x Qa E else WM y Qa E := by split <;> rfl
theorem w_iteS {p : Prop} [Decidable p] {x y : RS} : WS (if p then x else y) Qs Es = if p then WS x Qs Es else WS y Qs Es := by split <;> rfl
end
/-- a name's value -/
theorem w_var {i : Nat} {ρ : Rho} {m : Mu} {Q : Wv → Mu → Prop} {E : D → Mu → Prop} : WM (xVar i ρ m) Q E = match ρ[i]? with
    | some (some d) => Q (.d d) m
    | _ => False := by
  unfold xVar
  cases ρ[i]? with
  | none => exact w_mno
  | some o => cases o with
    | none => exact w_mno
    | some d => exact w_ret

/-! ### what an old store's objects become -/
/-- all but those at S are as they were -/
def Fr (S : List Nat) (m m' : Mu) : Prop := m.length ≤ m'.length ∧ ∀ (k : Nat) (o : O), k ∉ S → m[k]? = some o → m'[k]? = some o
theorem Fr.refl {S : List Nat} {m : Mu} : Fr S m m := ⟨Nat.le_refl _, fun _ _ _ h => h⟩
theorem Fr.trans {S : List Nat} {m m1 m2 : Mu} (a : Fr S m m1) (b : Fr S m1 m2) : Fr S m m2 := ⟨Nat.le_trans a.1 b.1, fun k o hk h => b.2 k o hk (a.2 k o hk h)⟩
theorem Fr.mono {S T : List Nat} {m m' : Mu} (a : Fr S m m') (h : ∀ k ∈ S, k ∈ T) : Fr T m m' := ⟨a.1, fun k o hk => a.2 k o fun z => hk (h k z)⟩
theorem Fr.nil {S : List Nat} {m m' : Mu} (a : Fr [] m m') : Fr S m m' := a.mono fun _ h => nomatch h
theorem Fr.app {S : List Nat} {m t : Mu} : Fr S m (m ++ t) := ⟨by rw [List.length_append]; omega, fun k o _ h => by rw [List.getElem?_append_left (List.getElem?_eq_some_iff.mp h).1]; exact h⟩
theorem Fr.set {S : List Nat} {m : Mu} {l : Nat} {o : O} (h : l ∈ S) : Fr S m (m.set l o) := ⟨by rw [List.length_set]; omega, fun k o hk e => by rw [List.getElem?_set_ne (fun z => hk (by rw [← z]; exact h))]; exact e⟩
theorem Fr.get {m m' : Mu} {k : Nat} {o : O} (a : Fr [] m m') (h : m[k]? = some o) : m'[k]? = some o := a.2 k o (fun z => nomatch z) h
/-- a place that is new, written -/
theorem Fr.fresh {S : List Nat} {m m' : Mu} {l : Nat} {o : O} (a : Fr S m m') (h : m.length ≤ l) : Fr S m (m'.set l o) := ⟨by rw [List.length_set]; exact a.1, fun k u hk e => by
  rw [List.getElem?_set_ne (fun z => by have := (List.getElem?_eq_some_iff.mp e).1; omega)]
  exact a.2 k u hk e⟩
theorem lt_of_get {m : Mu} {l : Nat} {o : O} (h : m[l]? = some o) : l < m.length := (List.getElem?_eq_some_iff.mp h).1
theorem get_set {m : Mu} {l : Nat} {o u : O} (h : m[l]? = some u) : (m.set l o)[l]? = some o := List.getElem?_set_self (lt_of_get h)
theorem get_app {m : Mu} {o : O} : (m ++ [o])[m.length]? = some o := by rw [List.getElem?_append_right (Nat.le_refl _)]; simp
theorem Fr.new {S : List Nat} {m m' : Mu} {l : Nat} (a : Fr (l :: S) m m') (h : m.length ≤ l) : Fr S m m' := ⟨a.1, fun k o hk e => a.2 k o (fun z => by
  rcases List.mem_cons.mp z with z | z
  · have := lt_of_get e; omega
  · exact hk z) e⟩

/-! ### loops -/
theorem w_loop {g : D → Rho → Option Rho} {b : SX} {st : List (Nat × O)} {Q : Fl → Rho → Mu → Prop} {E : D → Rho → Mu → Prop} {items : List D} (I : Nat → Rho → Mu → Prop)
    (turn : ∀ (i : Nat) (d : D) (ρ : Rho) (m : Mu), items[i]? = some d → I i ρ m → stands st m ∧ ∃ ρ1, g d ρ = some ρ1 ∧ WS (b ρ1 m) (fun f ρ2 m2 => match f with
      | .nx => I (i + 1) ρ2 m2
      | .ct => I (i + 1) ρ2 m2
      | .bk => Q .nx ρ2 m2
      | .rt d => Q (.rt d) ρ2 m2) E)
    (fin : ∀ (ρ : Rho) (m : Mu), I items.length ρ m → stands st m ∧ Q .nx ρ m) {ρ : Rho} {m : Mu} (h : I 0 ρ m) : WS (loopF g b st items ρ m) Q E := by
  have key : ∀ (k i : Nat) (ρ : Rho) (m : Mu), i + k = items.length → I i ρ m → WS (loopF g b st (items.drop i) ρ m) Q E := by
    intro k
    induction k with
    | zero =>
      intro i ρ m hi h
      rw [List.drop_eq_nil_of_le (by omega)]
      have e : i = items.length := by omega
      subst e
      obtain ⟨a, q⟩ := fin ρ m h
      unfold loopF
      rw [if_pos a]
      exact .ok q
    | succ k ih =>
      intro i ρ m hi h
      have hlt : i < items.length := by omega
      rw [List.drop_eq_getElem_cons hlt]
      obtain ⟨a, ρ1, e, q⟩ := turn i items[i] ρ m (List.getElem?_eq_getElem hlt) h
      unfold loopF
      rw [if_pos a]
      simp only [e]
      cases q2 : b ρ1 m with
      | no => rw [q2, w_nos] at q; exact q.elim
      | ex e ρ2 m2 => rw [q2, w_exc] at q; exact .ex q
      | ok f ρ2 m2 =>
        rw [q2, w_nxt] at q
        cases f with
        | nx => exact ih (i + 1) ρ2 m2 (by omega) q
        | ct => exact ih (i + 1) ρ2 m2 (by omega) q
        | bk => exact .ok q
        | rt d => exact .ok q
  exact key items.length 0 ρ m (by omega) h
theorem w_comp {g : D → Rho → Option Rho} {tt : TX} {te : EX} {st : List (Nat × O)} {ρ : Rho} {Q : List D → Mu → Prop} {E : D → Mu → Prop} {items : List D} (I : Nat → List D → Mu → Prop)
    (turn : ∀ (i : Nat) (d : D) (acc : List D) (m : Mu), items[i]? = some d → I i acc m → stands st m ∧ ∃ ρ1, g d ρ = some ρ1 ∧ WM (tt ρ1 m) (fun c m1 => if c = true then WM (te ρ1 m1) (fun w m2 => WM (settle w m2) (fun x m3 => acc.length < LIM ∧ I (i + 1) (acc ++ [x]) m3) (fun _ _ => False)) (fun _ _ => False) else I (i + 1) acc m1) (fun _ _ => False))
    (fin : ∀ (acc : List D) (m : Mu), I items.length acc m → stands st m ∧ Q acc m) {acc : List D} {m : Mu} (h : I 0 acc m) : WM (compF g tt te st ρ items acc m) Q E := by
  have key : ∀ (k i : Nat) (acc : List D) (m : Mu), i + k = items.length → I i acc m → WM (compF g tt te st ρ (items.drop i) acc m) Q E := by
    intro k
    induction k with
    | zero =>
      intro i acc m hi h
      rw [List.drop_eq_nil_of_le (by omega)]
      have e : i = items.length := by omega
      subst e
      obtain ⟨a, q⟩ := fin acc m h
      unfold compF
      rw [if_pos a]
      exact .ok q
    | succ k ih =>
      intro i acc m hi h
      have hlt : i < items.length := by omega
      rw [List.drop_eq_getElem_cons hlt]
      obtain ⟨a, ρ1, e, q⟩ := turn i items[i] acc m (List.getElem?_eq_getElem hlt) h
      unfold compF
      rw [if_pos a]
      simp only [e]
      rw [w_bind, w_nx]
      refine q.imp (fun c m1 q => ?_) fun _ _ z => z.elim
      rw [w_cond]
      split
      · rename_i hc
        rw [if_pos hc] at q
        rw [w_bind, w_nx]
        refine q.imp (fun w m2 q => ?_) fun _ _ z => z.elim
        rw [w_bind]
        refine q.imp (fun x m3 ⟨q1, q2⟩ => ?_) fun _ _ z => z.elim
        rw [if_pos q1]
        exact ih (i + 1) _ m3 (by omega) q2
      · rename_i hc
        rw [if_neg hc] at q
        exact ih (i + 1) acc m1 (by omega) q
  exact key items.length 0 acc m (by omega) h
theorem w_compD {g : D → Rho → Option Rho} {tt : TX} {tk tv : EX} {st : List (Nat × O)} {ρ : Rho} {Q : List (D × D) → Mu → Prop} {E : D → Mu → Prop} {items : List D} (I : Nat → List (D × D) → Mu → Prop)
    (turn : ∀ (i : Nat) (d : D) (acc : List (D × D)) (m : Mu), items[i]? = some d → I i acc m → stands st m ∧ ∃ ρ1, g d ρ = some ρ1 ∧ WM (tt ρ1 m) (fun c m1 => if c = true then WM (tk ρ1 m1) (fun w m2 => WM (settle w m2) (fun x m3 => WM (tv ρ1 m3) (fun w4 m4 => WM (settle w4 m4) (fun y m5 => kOk acc x = true ∧ I (i + 1) (dput acc x y) m5) (fun _ _ => False)) (fun _ _ => False)) (fun _ _ => False)) (fun _ _ => False) else I (i + 1) acc m1) (fun _ _ => False))
    (fin : ∀ (acc : List (D × D)) (m : Mu), I items.length acc m → stands st m ∧ Q acc m) {acc : List (D × D)} {m : Mu} (h : I 0 acc m) : WM (compD g tt tk tv st ρ items acc m) Q E := by
  have key : ∀ (k i : Nat) (acc : List (D × D)) (m : Mu), i + k = items.length → I i acc m → WM (compD g tt tk tv st ρ (items.drop i) acc m) Q E := by
    intro k
    induction k with
    | zero =>
      intro i acc m hi h
      rw [List.drop_eq_nil_of_le (by omega)]
      have e : i = items.length := by omega
      subst e
      obtain ⟨a, q⟩ := fin acc m h
      unfold compD
      rw [if_pos a]
      exact .ok q
    | succ k ih =>
      intro i acc m hi h
      have hlt : i < items.length := by omega
      rw [List.drop_eq_getElem_cons hlt]
      obtain ⟨a, ρ1, e, q⟩ := turn i items[i] acc m (List.getElem?_eq_getElem hlt) h
      unfold compD
      rw [if_pos a]
      simp only [e]
      rw [w_bind, w_nx]
      refine q.imp (fun c m1 q => ?_) fun _ _ z => z.elim
      rw [w_cond]
      split
      · rename_i hc
        rw [if_pos hc] at q
        rw [w_bind, w_nx]
        refine q.imp (fun w m2 q => ?_) fun _ _ z => z.elim
        rw [w_bind]
        refine q.imp (fun x m3 q => ?_) fun _ _ z => z.elim
        rw [w_bind, w_nx]
        refine q.imp (fun w4 m4 q => ?_) fun _ _ z => z.elim
        rw [w_bind]
        refine q.imp (fun y m5 ⟨q1, q2⟩ => ?_) fun _ _ z => z.elim
        rw [if_pos q1]
        exact ih (i + 1) _ m5 (by omega) q2
      · rename_i hc
        rw [if_neg hc] at q
        exact ih (i + 1) acc m1 (by omega) q
  exact key items.length 0 acc m (by omega) h
theorem stands_nil {m : Mu} : stands [] m := fun _ h => nomatch h
theorem stands_one {m : Mu} {l : Nat} {o : O} (h : m[l]? = some o) : stands [(l, o)] m := fun p hp => by rw [List.mem_singleton.mp hp]; exact h
end Dn

set_option Elab.async false
set_option linter.all false
set_option maxRecDepth 100000
set_option maxHeartbeats 4000000
set_option autoImplicit false
/-! Dn22: what the operations answer. -/
namespace Dn
open PySem PySem.Spec

theorem log_small {i : Int} {k : Nat} (h1 : 0 ≤ i) (h2 : i < 2 ^ k) (hk : k ≤ 200) : i.natAbs.log2 ≤ 200 := by
  have : i.natAbs < 2 ^ k := by have e : ((2 ^ k : Nat) : Int) = (2 : Int) ^ k := by simp
                                omega
  by_cases z : i.natAbs = 0
  · rw [z]; decide
  · have := (Nat.log2_lt z).mpr this
    omega
theorem mul_ok {i j : Int} {mu : Mu} (h1 : i.natAbs.log2 ≤ 200) (h2 : j.natAbs.log2 ≤ 200) : mulW (.d (.int i)) (.d (.int j)) mu = some (.d (.int (i * j))) := by
  show (if i.natAbs.log2 + j.natAbs.log2 < 1000000 then some (Wv.d (.int (i * j))) else none) = _
  rw [if_pos (by omega)]
theorem add_ok {i j : Int} {mu : Mu} : addW (.d (.int i)) (.d (.int j)) mu = some (.d (.int (i + j))) := rfl
theorem sub_ok {i j : Int} {mu : Mu} : subW (.d (.int i)) (.d (.int j)) mu = some (.d (.int (i - j))) := rfl
theorem mod_ok {i j : Int} {mu : Mu} (h : 0 < j) : modW (.d (.int i)) (.d (.int j)) mu = some (.d (.int (i % j))) := by
  show (if decide (0 < j) = true then some (Wv.d (.int (i % j))) else none) = _
  rw [if_pos (decide_eq_true h)]
theorem fdiv_ok {i j : Int} {mu : Mu} (h : 0 < j) (h2 : j.natAbs.log2 < 9000) : fdivW (.d (.int i)) (.d (.int j)) mu = some (.d (.int (i / j))) := by
  show (if (decide (0 < j) && decide (j.natAbs.log2 < 9000)) = true then some (Wv.d (.int (i / j))) else none) = _
  rw [if_pos (by simp [h, h2])]
theorem pyF_mono {f : Nat → Option PyData} : ∀ (d : D) (p : PyData), pyF (fun _ => none) d = some p → pyF f d = some p := by
  have : (∀ d : D, ∀ p, pyF (fun _ => none) d = some p → pyF f d = some p) := fun d => by
    refine D.rec (motive_1 := fun d => ∀ p, pyF (fun _ => none) d = some p → pyF f d = some p) (motive_2 := fun ds => ∀ ps, pyFs (fun _ => none) ds = some ps → pyFs f ds = some ps) ?_ ?_ ?_ ?_ ?_ ?_ ?_ ?_ ?_ ?_ d
    · intro p h; rw [pyF] at h ⊢; exact h
    · intro b p h; rw [pyF] at h ⊢; exact h
    · intro b p h; rw [pyF] at h ⊢; exact h
    · intro b p h; rw [pyF] at h ⊢; exact h
    · intro xs ih p h
      rw [pyF] at h ⊢
      obtain ⟨ps, e1, e2⟩ := Option.map_eq_some_iff.mp h
      rw [ih ps e1, ← e2]; rfl
    · intro xs ih p h
      rw [pyF] at h ⊢
      obtain ⟨ps, e1, e2⟩ := Option.map_eq_some_iff.mp h
      rw [ih ps e1, ← e2]; rfl
    · intro l p h; rw [pyF] at h; cases h
    · intro c g ds _ p h; rw [pyF] at h; cases h
    · intro ps h; rw [pyFs] at h ⊢; exact h
    · intro d ds i1 i2 ps h
      rw [pyFs] at h ⊢
      split at h
      · rename_i p qs e1 e2
        cases h
        rw [i1 p e1, i2 qs e2]
      · cases h
  exact this
/-- data that hang on no place -/
def plain (d : D) : Option PyData := pyF (fun _ => none) d
theorem cmp_ok {g : PyData → PyData → Option Bool} {x y : D} {p q : PyData} {mu : Mu} (hp : plain x = some p) (hq : plain y = some q) (sp : SeqAt.shaped p = true) (sq : SeqAt.shaped q = true) : cmpW g (.d x) (.d y) mu = (g p q).map fun b => .d (.bl b) := by
  unfold cmpW
  simp only [pyW, pyF_mono x p hp, pyF_mono y q hq, sp, sq, and_self, if_true]
theorem beqD {i j : Int} : (i == j) = decide (i = j) := by
  by_cases h : i = j
  · simp [h]
  · simp [h]
theorem shaped_int (i : Int) : SeqAt.shaped (.int i) = true := rfl
theorem eqi_ok {i j : Int} {mu : Mu} : eqW (.d (.int i)) (.d (.int j)) mu = some (.d (.bl (decide (i = j)))) := by
  unfold eqW
  rw [cmp_ok (p := .int i) (q := .int j) rfl rfl rfl rfl]
  show some (Wv.d (.bl (i == j))) = _
  rw [beqD]
theorem nei_ok {i j : Int} {mu : Mu} : neW (.d (.int i)) (.d (.int j)) mu = some (.d (.bl (!decide (i = j)))) := by
  unfold neW
  rw [cmp_ok (p := .int i) (q := .int j) rfl rfl rfl rfl]
  show some (Wv.d (.bl (!(i == j)))) = _
  rw [beqD]
theorem lt_int (i j : Int) : PySem.W.dataLt (.int i) (.int j) = decide (i < j) := PySem.W.dataLt_int i j
theorem lti_ok {i j : Int} {mu : Mu} : ltW (.d (.int i)) (.d (.int j)) mu = some (.d (.bl (decide (i < j)))) := by
  unfold ltW
  rw [cmp_ok (p := .int i) (q := .int j) rfl rfl rfl rfl]
  show some (Wv.d (.bl (PySem.W.dataLt (.int i) (.int j)))) = _
  rw [lt_int]
theorem gti_ok {i j : Int} {mu : Mu} : gtW (.d (.int i)) (.d (.int j)) mu = some (.d (.bl (decide (j < i)))) := by
  unfold gtW
  rw [cmp_ok (p := .int i) (q := .int j) rfl rfl rfl rfl]
  show some (Wv.d (.bl (PySem.W.dataLt (.int j) (.int i)))) = _
  rw [lt_int]
theorem lei_ok {i j : Int} {mu : Mu} : leW (.d (.int i)) (.d (.int j)) mu = some (.d (.bl (decide (i ≤ j)))) := by
  unfold leW
  rw [cmp_ok (p := .int i) (q := .int j) rfl rfl rfl rfl]
  show some (Wv.d (.bl (!PySem.W.dataLt (.int j) (.int i)))) = _
  rw [lt_int]
  congr 3
  rw [← decide_not]
  exact decide_eq_decide.mpr Int.not_lt
theorem gei_ok {i j : Int} {mu : Mu} : geW (.d (.int i)) (.d (.int j)) mu = some (.d (.bl (decide (j ≤ i)))) := by
  unfold geW
  rw [cmp_ok (p := .int i) (q := .int j) rfl rfl rfl rfl]
  show some (Wv.d (.bl (!PySem.W.dataLt (.int i) (.int j)))) = _
  rw [lt_int]
  congr 3
  rw [← decide_not]
  exact decide_eq_decide.mpr Int.not_lt
theorem int_ok {i : Int} {mu : Mu} : intC [.d (.int i)] mu = some (.d (.int i)) := rfl
/-- an item of a list that stands -/
theorem ix_lst {l : Nat} {i : Int} {mu : Mu} {xs : List D} (h : mu[l]? = some (.lst xs)) : ixA (.d (.loc l)) (.d (.int i)) mu = (L2.atI xs i).map .d := by
  unfold ixA dctOf
  simp only [h]
  show (seqOf (.d (.loc l)) mu).bind (fun xs => (L2.atI xs i).map Wv.d) = _
  have e : seqOf (.d (.loc l)) mu = some xs := by
    show mlstOf (.d (.loc l)) mu = _
    unfold mlstOf
    simp [h]
  rw [e]; rfl
theorem set_ok {l : Nat} {i : Int} {d : D} {mu : Mu} {xs : List D} (h : mu[l]? = some (.lst xs)) {j : Nat} (hj : L2.ixN xs.length i = some j) : setA (.loc l) (.int i) d mu = some (mu.set l (.lst (xs.set j d))) := by
  unfold setA
  simp only [h]
  unfold setW
  simp [h, hj]
theorem len_lst {l : Nat} {mu : Mu} {xs : List D} (h : mu[l]? = some (.lst xs)) : lenC [.d (.loc l)] mu = some (.d (.int xs.length)) := by
  unfold lenC dctOf
  simp [h, seqOf, lstOf, mlstOf]
theorem s_seq {s t : SX} {ρ : Rho} {m : Mu} {Q : Fl → Rho → Mu → Prop} {E : D → Rho → Mu → Prop} (P : Rho → Mu → Prop) (h1 : WS (s ρ m) (fun f ρ1 m1 => match f with
    | .nx => P ρ1 m1
    | f => Q f ρ1 m1) E) (h2 : ∀ ρ1 m1, P ρ1 m1 → WS (t ρ1 m1) Q E) : WS (sSeq s t ρ m) Q E := by
  rw [w_seq]
  refine h1.imp (fun f ρ1 m1 h => ?_) fun _ _ _ z => z
  cases f with
  | nx => exact h2 ρ1 m1 h
  | bk => exact h
  | ct => exact h
  | rt d => exact h

/-! ### ranges, loops over them -/
theorem rng_get {n i : Nat} {d : D} (h : (rng 0 n)[i]? = some d) : i < n ∧ d = .int i := by
  unfold rng at h
  rw [List.getElem?_map] at h
  obtain ⟨j, hj, e⟩ := Option.map_eq_some_iff.mp h
  have hlt := (List.getElem?_eq_some_iff.mp hj).1
  rw [List.length_range] at hlt
  rw [List.getElem?_range hlt] at hj
  cases hj
  exact ⟨hlt, by rw [← e]; simp⟩
theorem rng_len {n : Nat} : (rng 0 n).length = n := by unfold rng; simp
theorem w_rg1 {e : EX} {ρ : Rho} {m : Mu} {Q : List D × List (Nat × O) → Mu → Prop} {E : D → Mu → Prop} (h : WM (e ρ m) (fun w m1 => ∃ j : Int, w = .d (.int j) ∧ -(2 ^ 62) ≤ j ∧ j < 2 ^ 62 ∧ Q (rng 0 j.toNat, []) m1) E) : WM (iRg1 e ρ m) Q E := by
  unfold iRg1
  rw [w_bind]
  refine h.imp (fun w m1 ⟨j, e, h1, h2, q⟩ => ?_) fun _ _ z => z
  subst e
  dsimp only
  rw [w_iteM, if_pos ⟨h1, h2⟩, w_ret]
  exact q
/-- for _ in range(j): .. -/
theorem s_range {e : EX} {i : Nat} {b : SX} {ρ : Rho} {m : Mu} {Q : Fl → Rho → Mu → Prop} {E : D → Rho → Mu → Prop} (I : Nat → Rho → Mu → Prop) (n : Nat)
    (he : WM (e ρ m) (fun w m1 => w = .d (.int n) ∧ n < 2 ^ 62 ∧ I 0 ρ m1) (fun d m1 => E d ρ m1))
    (turn : ∀ (k : Nat) (ρ : Rho) (m : Mu), k < n → I k ρ m → WS (b (ρ.set i (some (.int k))) m) (fun f ρ2 m2 => match f with
      | .nx => I (k + 1) ρ2 m2
      | .ct => I (k + 1) ρ2 m2
      | .bk => Q .nx ρ2 m2
      | .rt d => Q (.rt d) ρ2 m2) E)
    (fin : ∀ (ρ : Rho) (m : Mu), I n ρ m → Q .nx ρ m) : WS (sFor (iRg1 e) (gN i) b ρ m) Q E := by
  unfold sFor
  rw [w_of]
  refine w_rg1 (he.imp (fun w m1 ⟨e1, h1, h2⟩ => ⟨n, e1, by omega, by exact_mod_cast h1, ?_⟩) fun _ _ z => z)
  dsimp only
  refine w_loop I (fun k d ρ m hk hI => ⟨stands_nil, _, rfl, ?_⟩) (fun ρ m hI => ⟨stands_nil, fin ρ m (by rw [rng_len] at hI; simpa using hI)⟩) h2
  obtain ⟨h3, e3⟩ := rng_get hk
  subst e3
  exact turn k ρ m (by simpa using h3) hI
/-- [e for _ in range(n)]: no test -/
theorem x_range {e : EX} {i : Nat} {vs : List Nat} {te : EX} {ρ : Rho} {m : Mu} {Q : Wv → Mu → Prop} {E : D → Mu → Prop} (I : Nat → List D → Mu → Prop) (n : Nat) (he : WM (e ρ m) (fun w m1 => w = .d (.int n) ∧ n < 2 ^ 62 ∧ I 0 [] m1) E)
    (turn : ∀ (k : Nat) (acc : List D) (m : Mu), k < n → I k acc m → WM (te ((wipeR ρ vs).set i (some (.int k))) m) (fun w m2 => WM (settle w m2) (fun x m3 => acc.length < LIM ∧ I (k + 1) (acc ++ [x]) m3) (fun _ _ => False)) (fun _ _ => False))
    (fin : ∀ (acc : List D) (m : Mu), I n acc m → Q (.o (.lst acc)) m) : WM (xLc (iRg1 e) vs (gN i) ttYes te ρ m) Q E := by
  unfold xLc
  rw [w_bind]
  refine w_rg1 (he.imp (fun w m1 ⟨e1, h1, h2⟩ => ⟨n, e1, by omega, by exact_mod_cast h1, ?_⟩) fun _ _ z => z)
  rw [w_bind]
  dsimp only
  rw [Int.toNat_natCast]
  refine w_comp (g := gN i) (tt := ttYes) (te := te) (ρ := wipeR ρ vs) (E := E) I (fun k d acc m hk hI => ⟨stands_nil, _, rfl, ?_⟩) (fun acc m hI => ⟨stands_nil, by rw [w_ret]; exact fin acc m (by rw [rng_len] at hI; simpa using hI)⟩) h2
  obtain ⟨h3, e3⟩ := rng_get hk
  subst e3
  show WM (M.ret true m) _ _
  rw [w_ret, if_pos rfl]
  exact turn k acc m (by simpa using h3) hI
theorem w_call {n : Nat} {F : FM} {ads : AX} {ρ : Rho} {m : Mu} {Q : Wv → Mu → Prop} {E : D → Mu → Prop} : WM (xCall n F ads ρ m) Q E = WM (ads ρ m) (fun ds m1 => if ds.length = n then WM (F ds m1) (fun d m2 => Q (.d d) m2) E else False) E := by
  unfold xCall
  rw [w_bind]
  congr 1
  funext ds m1
  split
  · rw [w_bind]; simp only [w_ret]
  · exact w_mno
/-- rows of sounds -/
def row (xs : List Int) : D := .tup (xs.map .int)
theorem tup_lst {xs : List D} {mu : Mu} : tupleC [.o (.lst xs)] mu = some (.d (.tup xs)) := rfl
theorem map_int {ns ms : List Int} (h : ns.map D.int = ms.map D.int) : ns = ms := by
  have : ∀ x y : Int, D.int x = D.int y → x = y := fun x y e => by cases e; rfl
  induction ns generalizing ms with
  | nil => cases ms with
    | nil => rfl
    | cons y ys => cases h
  | cons x xs ih => cases ms with
    | nil => cases h
    | cons y ys => rw [List.map_cons, List.map_cons] at h
                   injection h with h1 h2
                   rw [this _ _ h1, ih h2]
end Dn

set_option Elab.async false
set_option linter.all false
set_option maxRecDepth 100000
set_option maxHeartbeats 4000000
set_option autoImplicit false
namespace Dn
open PySem PySem.Spec

/-! ### the dice -/
def DiceAt (l n : Nat) (m : Mu) : Prop := ∃ (c : Nat) (cs : List Int) (i b s t : Int), c ≠ l ∧ m[l]? = some (.lst [.loc c, .int i, .int b, .int s, .int t]) ∧ m[c]? = some (.lst (cs.map .int)) ∧ 0 ≤ i ∧ 0 ≤ b ∧ 0 ≤ s ∧ s < 2147483647 ∧ 0 ≤ t ∧ t + n ≤ 2 ^ 100 ∧ ∀ x ∈ cs, (0 : Int) ≤ x
theorem DiceAt.mono {l n k : Nat} {m : Mu} (h : DiceAt l n m) (hk : k ≤ n) : DiceAt l k m := by
  obtain ⟨c, cs, i, b, s, t, h1, h2, h3, h4, h5, h6, h7, h8, h9, h10⟩ := h
  exact ⟨c, cs, i, b, s, t, h1, h2, h3, h4, h5, h6, h7, h8, by omega, h10⟩
theorem DiceAt.fr {l n : Nat} {m m' : Mu} (h : DiceAt l n m) (f : Fr [] m m') : DiceAt l n m' := by
  obtain ⟨c, cs, i, b, s, t, h1, h2, h3, hr⟩ := h
  exact ⟨c, cs, i, b, s, t, h1, f.get h2, f.get h3, hr⟩

theorem pow10 {mu : Mu} : powW (.d (.int 10)) (.d (.int 18)) mu = some (.d (.int 1000000000000000000)) := rfl
/-- the dice list, its five places -/
theorem dice5 {l c : Nat} {m : Mu} {i b s t : Int} (h1 : m[l]? = some (.lst [.loc c, .int i, .int b, .int s, .int t])) : ixA (.d (.loc l)) (.d (.int 0)) m = some (.d (.loc c)) ∧ ixA (.d (.loc l)) (.d (.int 1)) m = some (.d (.int i)) ∧ ixA (.d (.loc l)) (.d (.int 2)) m = some (.d (.int b)) ∧
    ixA (.d (.loc l)) (.d (.int 3)) m = some (.d (.int s)) ∧ ixA (.d (.loc l)) (.d (.int 4)) m = some (.d (.int t)) := by
  refine ⟨?_, ?_, ?_, ?_, ?_⟩ <;> (rw [ix_lst h1]; rfl)
section
variable {l c : Nat} {m : Mu} {i b s t : Int} {d : D}
theorem st1 (h1 : m[l]? = some (.lst [.loc c, .int i, .int b, .int s, .int t])) : setA (.loc l) (.int 1) d m = some (m.set l (.lst [.loc c, d, .int b, .int s, .int t])) := by rw [set_ok h1 (by rfl)]; rfl
theorem st2 (h1 : m[l]? = some (.lst [.loc c, .int i, .int b, .int s, .int t])) : setA (.loc l) (.int 2) d m = some (m.set l (.lst [.loc c, .int i, d, .int s, .int t])) := by rw [set_ok h1 (by rfl)]; rfl
theorem st3 (h1 : m[l]? = some (.lst [.loc c, .int i, .int b, .int s, .int t])) : setA (.loc l) (.int 3) d m = some (m.set l (.lst [.loc c, .int i, .int b, d, .int t])) := by rw [set_ok h1 (by rfl)]; rfl
theorem st4 (h1 : m[l]? = some (.lst [.loc c, .int i, .int b, .int s, .int t])) : setA (.loc l) (.int 4) d m = some (m.set l (.lst [.loc c, .int i, .int b, .int s, d])) := by rw [set_ok h1 (by rfl)]; rfl
theorem DiceAt.put {n : Nat} {cs : List Int} {o : O} (hcl : c ≠ l) (h1 : m[l]? = some o) (h2 : m[c]? = some (.lst (cs.map .int))) (i0 : 0 ≤ i) (b0 : 0 ≤ b) (s0 : 0 ≤ s) (s1 : s < 2147483647) (t0 : 0 ≤ t) (t1 : t + n ≤ 2 ^ 100) (hcs : ∀ x ∈ cs, (0 : Int) ≤ x) : DiceAt l n (m.set l (.lst [.loc c, .int i, .int b, .int s, .int t])) :=
  ⟨c, cs, i, b, s, t, hcl, get_set h1, by rw [List.getElem?_set_ne (fun e => hcl e.symm)]; exact h2, i0, b0, s0, s1, t0, t1, hcs⟩
end
theorem lg {i : Int} (h1 : 0 ≤ i) (h2 : i ≤ 2 ^ 100) : i.natAbs.log2 ≤ 200 := log_small (k := 101) h1 (by omega) (by decide)
theorem draw_ok {l n : Nat} {m : Mu} {sides : Int} (h : DiceAt l (n + 1) m) (hs : 0 < sides) (hl : sides.natAbs.log2 < 9000) {Q : D → Mu → Prop} {E : D → Mu → Prop}
    (k : ∀ (v : Int) (m' : Mu), 0 ≤ v → v < sides → DiceAt l n m' → Fr [l] m m' → Q (.int v) m') : WM (fm__law_draw [.loc l, .int sides] m) Q E := by
  unfold fm__law_draw m__law_draw
  rw [w_fn]
  refine ⟨rfl, ?_⟩
  have start : [D.loc l, .int sides].map some ++ List.replicate (5 - 2) none = [some (.loc l), some (.int sides), none, none, none] := rfl
  rw [start]
  refine s_seq (fun ρ1 m1 => (∃ x, ρ1 = [some (.loc l), some (.int sides), x, none, none]) ∧ DiceAt l (n + 1) m1 ∧ Fr [l] m m1) ?_ fun ρ1 m1 ⟨⟨x, er⟩, h1, f1⟩ => ?_
  · obtain ⟨c, cs, i, b, s, t, hcl, h1, h2, i0, b0, s0, s1, t0, t1, hcs⟩ := id h
    obtain ⟨a0, a1, a2, a3, a4⟩ := dice5 h1
    have al := len_lst h2
    simp only [sIf, w_of, xtAnd, xB, x2, xC, xCB, aCons, aNil, w_bind, w_ret, w_var, w_opt, List.getElem?_cons_zero, List.getElem?_cons_succ, a2, eqi_ok, w_cond, w_condS, a1, a0, al, lti_ok]
    by_cases hb : b = 0
    · simp only [hb, decide_true, if_true, w_bind, w_ret, w_var, w_opt, List.getElem?_cons_zero, List.getElem?_cons_succ, a1, a0, al, lti_ok, List.length_map]
      by_cases hi : i < cs.length
      · simp only [hi, decide_true, if_true]
        have hcell : ∃ x, cs[i.toNat]? = some x ∧ 0 ≤ x := ⟨cs[i.toNat]'(by omega), List.getElem?_eq_getElem (by omega), hcs _ (List.getElem_mem _)⟩
        obtain ⟨x, hx, x0⟩ := hcell
        have ax : ixA (.d (.loc c)) (.d (.int i)) m = some (.d (.int x)) := by
          rw [ix_lst h2]
          have := L2.atI_nat (xs := cs.map D.int) (j := i.toNat) (v := .int x) (by rw [List.getElem?_map, hx]; rfl)
          rw [Int.toNat_of_nonneg i0] at this
          rw [this]; rfl
        have g1 : (m.set l (.lst [.loc c, .int (i + 1), .int b, .int s, .int t]))[l]? = some (.lst [.loc c, .int (i + 1), .int b, .int s, .int t]) := get_set h1
        have g2 : (m.set l (.lst [.loc c, .int (i + 1), .int b, .int s, .int t]))[c]? = some (.lst (cs.map .int)) := by rw [List.getElem?_set_ne (fun e => hcl e.symm)]; exact h2
        obtain ⟨b0', b1', b2', b3', b4'⟩ := dice5 g1
        have m1 : mulW (.d (.int s)) (.d (.int 69621)) (m.set l (.lst [.loc c, .int (i + 1), .int b, .int s, .int t])) = some (.d (.int (s * 69621))) := mul_ok (lg s0 (by omega)) (by decide)
        simp only [w_seq, sSet, w_of, x2, xC, w_bind, w_ret, w_var, w_opt, w_settle_d, w_nxt, List.set_cons_zero, List.set_cons_succ, List.getElem?_cons_zero, List.getElem?_cons_succ, a0, a1, ax, sSub, add_ok, st1 h1, sIf, xB, pow10, gei_ok, w_condS]
        by_cases hx : 1000000000000000000 ≤ x
        · simp only [hx, decide_true, if_true, w_of, w_var, w_ret, w_bind, xC, w_settle_d, w_nxt, List.getElem?_cons_zero, List.getElem?_cons_succ, st2 g1]
          refine ⟨⟨_, rfl⟩, ?_, (Fr.set (List.mem_singleton.mpr rfl)).trans (Fr.set (List.mem_singleton.mpr rfl))⟩
          exact DiceAt.put hcl g1 g2 (by omega) (by omega) s0 s1 t0 t1 hcs
        · have m2 : mulW (.d (.int x)) (.d (.int 40692)) (m.set l (.lst [.loc c, .int (i + 1), .int b, .int s, .int t])) = some (.d (.int (x * 40692))) := mul_ok (lg x0 (by omega)) (by decide)
          simp only [hx, decide_false, Bool.false_eq_true, if_false, w_of, w_var, w_ret, w_bind, xC, xCB, aCons, aNil, x2, w_opt, w_settle_d, w_nxt, List.getElem?_cons_zero, List.getElem?_cons_succ, b3', b1', m1, m2, add_ok, int_ok, mod_ok (show (0 : Int) < 2147483647 by decide), st3 g1]
          refine ⟨⟨_, rfl⟩, ?_, (Fr.set (List.mem_singleton.mpr rfl)).trans (Fr.set (List.mem_singleton.mpr rfl))⟩
          exact DiceAt.put hcl g1 g2 (by omega) b0 (Int.emod_nonneg _ (by decide)) (Int.emod_lt_of_pos _ (by decide)) t0 t1 hcs
      · simp only [hi, decide_false, if_false, Bool.false_eq_true, sNil, w_nxt]
        exact ⟨⟨none, rfl⟩, h, Fr.refl⟩
    · simp only [hb, decide_false, if_false, Bool.false_eq_true, w_ret, sNil, w_nxt]
      exact ⟨⟨none, rfl⟩, h, Fr.refl⟩
  subst er
  obtain ⟨c, cs, i, b, s, t, hcl, h1, h2, i0, b0, s0, s1, t0, t1, hcs⟩ := h1
  obtain ⟨a0, a1, a2, a3, a4⟩ := dice5 h1
  rw [w_seq]
  simp only [sIf, w_of, xB, x2, xC, w_bind, w_ret, w_var, w_opt, List.getElem?_cons_zero, List.getElem?_cons_succ, a2, gti_ok, w_condS]
  by_cases hb : 0 < b
  · simp only [hb, decide_true, if_true, w_seq, sSet, w_of, x2, xCB, aCons, aNil, w_bind, w_ret, w_var, w_opt, w_settle_d, w_nxt, List.set_cons_zero, List.set_cons_succ, List.getElem?_cons_zero, List.getElem?_cons_succ, xC, a2, int_ok, mod_ok hs, sSub, fdiv_ok hs hl, st2 h1, sRet]
    refine k _ _ (Int.emod_nonneg _ (by omega)) (Int.emod_lt_of_pos _ hs) ?_ (f1.trans (Fr.set (List.mem_singleton.mpr rfl)))
    exact DiceAt.put hcl h1 h2 i0 (Int.ediv_nonneg b0 (by omega)) s0 s1 t0 (by omega) hcs
  · have g1 : (m1.set l (.lst [.loc c, .int i, .int b, .int s, .int (t + 1)]))[l]? = some (.lst [.loc c, .int i, .int b, .int s, .int (t + 1)]) := get_set h1
    have g2 : (m1.set l (.lst [.loc c, .int i, .int b, .int s, .int (t + 1)]))[c]? = some (.lst (cs.map .int)) := by rw [List.getElem?_set_ne (fun e => hcl e.symm)]; exact h2
    obtain ⟨b0', b1', b2', b3', b4'⟩ := dice5 g1
    have q1 : ∀ mu : Mu, mulW (.d (.int s)) (.d (.int 48271)) mu = some (.d (.int (s * 48271))) := fun _ => mul_ok (lg s0 (by omega)) (by decide)
    have q2 : ∀ mu : Mu, mulW (.d (.int (t + 1))) (.d (.int 7919)) mu = some (.d (.int ((t + 1) * 7919))) := fun _ => mul_ok (lg (by omega) (by omega)) (by decide)
    simp only [hb, decide_false, Bool.false_eq_true, if_false, sNil, w_nxt, w_seq, sSub, w_of, x2, xC, w_bind, w_ret, w_var, w_opt, w_settle_d, List.getElem?_cons_zero, List.getElem?_cons_succ, a4, add_ok, st4 h1, xCB, aCons, aNil, b3', b4', q1, q2, int_ok, mod_ok (show (0 : Int) < 2147483647 by decide), st3 g1]
    generalize hs' : (s * 48271 + (t + 1) * 7919 + 1) % 2147483647 = s'
    have r0 : 0 ≤ s' := by rw [← hs']; exact Int.emod_nonneg _ (by decide)
    have r1 : s' < 2147483647 := by rw [← hs']; exact Int.emod_lt_of_pos _ (by decide)
    generalize hm2 : (m1.set l (.lst [.loc c, .int i, .int b, .int s, .int (t + 1)])).set l (.lst [.loc c, .int i, .int b, .int s', .int (t + 1)]) = m2
    have k1 : m2[l]? = some (.lst [.loc c, .int i, .int b, .int s', .int (t + 1)]) := by rw [← hm2]; exact get_set g1
    obtain ⟨e0, e1, e2, e3, e4⟩ := dice5 k1
    have f2 : Fr [l] m1 m2 := by rw [← hm2]; exact (Fr.set (List.mem_singleton.mpr rfl)).trans (Fr.set (List.mem_singleton.mpr rfl))
    have dd : DiceAt l n m2 := by rw [← hm2]; exact DiceAt.put hcl g1 g2 i0 b0 r0 r1 (by omega) (by omega) hcs
    have d1 : 0 ≤ s' / 1009 := Int.ediv_nonneg r0 (by decide)
    have d2 : s' / 1009 ≤ s' := Int.ediv_le_self _ r0
    have q3 : ∀ mu : Mu, mulW (.d (.int s')) (.d (.int (s' / 1009 + 69623))) mu = some (.d (.int (s' * (s' / 1009 + 69623)))) := fun _ => mul_ok (lg r0 (by omega)) (lg (by omega) (by omega))
    simp only [sSet, w_of, x2, xC, xCB, aCons, aNil, w_bind, w_ret, w_var, w_opt, w_settle_d, w_nxt, List.set_cons_zero, List.set_cons_succ, List.getElem?_cons_zero, List.getElem?_cons_succ, e3, fdiv_ok (show (0 : Int) < 1009 by decide) (by decide), add_ok, q3, int_ok, mod_ok (show (0 : Int) < 2147483399 by decide)]
    generalize hv : s' * (s' / 1009 + 69623) % 2147483399 = v
    have v0 : 0 ≤ v := by rw [← hv]; exact Int.emod_nonneg _ (by decide)
    have v1 : v < 2147483399 := by rw [← hv]; exact Int.emod_lt_of_pos _ (by decide)
    have d3 : 0 ≤ v / 2003 := Int.ediv_nonneg v0 (by decide)
    have d4 : v / 2003 ≤ v := Int.ediv_le_self _ v0
    have q4 : ∀ mu : Mu, mulW (.d (.int v)) (.d (.int (v / 2003 + 40693))) mu = some (.d (.int (v * (v / 2003 + 40693)))) := fun _ => mul_ok (lg v0 (by omega)) (lg (by omega) (by omega))
    simp only [sRet, w_of, x2, xC, xCB, aCons, aNil, w_bind, w_ret, w_var, w_opt, w_settle_d, w_nxt, List.set_cons_zero, List.set_cons_succ, List.getElem?_cons_zero, List.getElem?_cons_succ, fdiv_ok (show (0 : Int) < 2003 by decide) (by decide), add_ok, q4, int_ok, mod_ok (show (0 : Int) < 2147483563 by decide), fdiv_ok (show (0 : Int) < 16 by decide) (by decide), mod_ok hs]
    exact k _ _ (Int.emod_nonneg _ (by omega)) (Int.emod_lt_of_pos _ hs) dd (f1.trans f2)
end Dn

set_option Elab.async false
set_option linter.all false
set_option maxRecDepth 100000
set_option maxHeartbeats 4000000
set_option autoImplicit false
namespace Dn
open PySem PySem.Spec

theorem iadd_ok {i j : Int} {mu : Mu} : iaddW (.d (.int i)) (.d (.int j)) mu = some (.d (.int (i + j))) := rfl
/-- the number of rows of 1 to n of s sounds -/
def rowsMany (s : Int) : Nat → Int
  | 0 => 0
  | n + 1 => rowsMany s n + s ^ (n + 1)
theorem pow_le8 {s : Int} {k : Nat} (h1 : 0 ≤ s) (h2 : s ≤ 8) : 0 ≤ s ^ k ∧ s ^ k ≤ 8 ^ k := by
  induction k with
  | zero => exact ⟨by simp, by simp⟩
  | succ k ih =>
    rw [Int.pow_succ, Int.pow_succ]
    refine ⟨Int.mul_nonneg ih.1 h1, ?_⟩
    exact Int.mul_le_mul ih.2 h2 h1 (by have := ih.1; omega)
theorem pow_lg {s : Int} {k : Nat} (h1 : 0 ≤ s) (h2 : s ≤ 8) (hk : k ≤ 8) : (s ^ k).natAbs.log2 ≤ 200 := by
  have := pow_le8 (k := k) h1 h2
  refine lg this.1 (Int.le_trans this.2 ?_)
  have e : ((8 : Int) ^ k) ≤ 8 ^ 8 := by
    have := Nat.pow_le_pow_right (n := 8) (by decide) hk
    exact_mod_cast this
  refine Int.le_trans e (by decide)
theorem rows_many_ok {s : Int} {n : Nat} {m : Mu} (h1 : 0 ≤ s) (h2 : s ≤ 8) (hn : n ≤ 8) {Q : D → Mu → Prop} {E : D → Mu → Prop} (k : Q (.int (rowsMany s n)) m) : WM (fm_rows_many [.int s, .int n] m) Q E := by
  unfold fm_rows_many m_rows_many
  simp only [w_fn, w_ok, w_ex, w_no, w_nos, w_mno, w_exc, w_nxt, w_ret, w_bind, w_opt, w_optM, w_chk, w_of, w_settle_d, w_settle_o, w_cond, w_condS, w_ite, w_iteS, w_iteM, w_var, sIf, sSet, sAug, sSub, sFldS, sRet, sRetN, sDrop, sNil, sAsg, sBreak, sCont, sRaise0, sRaise1, xtAnd, xtOr, xtNot, xB, x1, x2, xC, xCB, xCh, xAnd, xOr, xNot, xIf, xTup, xLst, xDct0, xCall, xM, xMd, xIsi, aNil, aCons, adNil, adCons, xSl, oNo, oI, gN, gT, gsNil, gsCons, List.map, List.append, List.replicate, List.cons_append, List.nil_append, List.append_nil, List.getElem?_cons_zero, List.getElem?_cons_succ, List.set_cons_zero, List.set_cons_succ, List.length_cons, List.length_nil, add_ok, sub_ok, eqi_ok, nei_ok, lti_ok, gti_ok, lei_ok, gei_ok, int_ok, if_true, if_false, cond_true, cond_false, Bool.false_eq_true, true_and, and_true, Option.map_some, Option.bind_some, Nat.reduceAdd, Nat.reduceSub, Nat.reduceLeDiff, reduceIte, w_seq]
  refine s_range (fun j ρ m' => ∃ x, ρ = [some (.int s), some (.int n), some (.int (rowsMany s j)), some (.int (s ^ j)), x] ∧ m' = m) n ?_ ?_ ?_
  · simp only [w_fn, w_ok, w_ex, w_no, w_nos, w_mno, w_exc, w_nxt, w_ret, w_bind, w_opt, w_optM, w_chk, w_of, w_settle_d, w_settle_o, w_cond, w_condS, w_ite, w_iteS, w_iteM, w_var, sIf, sSet, sAug, sSub, sFldS, sRet, sRetN, sDrop, sNil, sAsg, sBreak, sCont, sRaise0, sRaise1, xtAnd, xtOr, xtNot, xB, x1, x2, xC, xCB, xCh, xAnd, xOr, xNot, xIf, xTup, xLst, xDct0, xCall, xM, xMd, xIsi, aNil, aCons, adNil, adCons, xSl, oNo, oI, gN, gT, gsNil, gsCons, List.map, List.append, List.replicate, List.cons_append, List.nil_append, List.append_nil, List.getElem?_cons_zero, List.getElem?_cons_succ, List.set_cons_zero, List.set_cons_succ, List.length_cons, List.length_nil, add_ok, sub_ok, eqi_ok, nei_ok, lti_ok, gti_ok, lei_ok, gei_ok, int_ok, if_true, if_false, cond_true, cond_false, Bool.false_eq_true, true_and, and_true, Option.map_some, Option.bind_some, Nat.reduceAdd, Nat.reduceSub, Nat.reduceLeDiff, reduceIte]
    exact ⟨by omega, none, by rw [Int.pow_zero]; rfl⟩
  · rintro j ρ m' hj ⟨x, rfl, rfl⟩
    simp only [w_fn, w_ok, w_ex, w_no, w_nos, w_mno, w_exc, w_nxt, w_ret, w_bind, w_opt, w_optM, w_chk, w_of, w_settle_d, w_settle_o, w_cond, w_condS, w_ite, w_iteS, w_iteM, w_var, sIf, sSet, sAug, sSub, sFldS, sRet, sRetN, sDrop, sNil, sAsg, sBreak, sCont, sRaise0, sRaise1, xtAnd, xtOr, xtNot, xB, x1, x2, xC, xCB, xCh, xAnd, xOr, xNot, xIf, xTup, xLst, xDct0, xCall, xM, xMd, xIsi, aNil, aCons, adNil, adCons, xSl, oNo, oI, gN, gT, gsNil, gsCons, List.map, List.append, List.replicate, List.cons_append, List.nil_append, List.append_nil, List.getElem?_cons_zero, List.getElem?_cons_succ, List.set_cons_zero, List.set_cons_succ, List.length_cons, List.length_nil, add_ok, sub_ok, eqi_ok, nei_ok, lti_ok, gti_ok, lei_ok, gei_ok, int_ok, if_true, if_false, cond_true, cond_false, Bool.false_eq_true, true_and, and_true, Option.map_some, Option.bind_some, Nat.reduceAdd, Nat.reduceSub, Nat.reduceLeDiff, reduceIte, w_seq, mul_ok (pow_lg h1 h2 (show j ≤ 8 by omega)) (show s.natAbs.log2 ≤ 200 from lg h1 (by omega)), iadd_ok]
    exact ⟨_, by rw [rowsMany, Int.pow_succ]⟩
  · rintro ρ m' ⟨x, rfl, rfl⟩
    simp only [w_fn, w_ok, w_ex, w_no, w_nos, w_mno, w_exc, w_nxt, w_ret, w_bind, w_opt, w_optM, w_chk, w_of, w_settle_d, w_settle_o, w_cond, w_condS, w_ite, w_iteS, w_iteM, w_var, sIf, sSet, sAug, sSub, sFldS, sRet, sRetN, sDrop, sNil, sAsg, sBreak, sCont, sRaise0, sRaise1, xtAnd, xtOr, xtNot, xB, x1, x2, xC, xCB, xCh, xAnd, xOr, xNot, xIf, xTup, xLst, xDct0, xCall, xM, xMd, xIsi, aNil, aCons, adNil, adCons, xSl, oNo, oI, gN, gT, gsNil, gsCons, List.map, List.append, List.replicate, List.cons_append, List.nil_append, List.append_nil, List.getElem?_cons_zero, List.getElem?_cons_succ, List.set_cons_zero, List.set_cons_succ, List.length_cons, List.length_nil, add_ok, sub_ok, eqi_ok, nei_ok, lti_ok, gti_ok, lei_ok, gei_ok, int_ok, if_true, if_false, cond_true, cond_false, Bool.false_eq_true, true_and, and_true, Option.map_some, Option.bind_some, Nat.reduceAdd, Nat.reduceSub, Nat.reduceLeDiff, reduceIte]
    exact k
theorem law_rows_many_ok {s : Int} {n : Nat} {m : Mu} (h1 : 0 ≤ s) (h2 : s ≤ 8) (hn : n ≤ 8) {Q : D → Mu → Prop} {E : D → Mu → Prop} (k : Q (.int (rowsMany s n)) m) : WM (fm__law_many_rows [.int s, .int n] m) Q E := by
  unfold fm__law_many_rows m__law_many_rows
  simp only [w_fn, w_ok, w_ex, w_no, w_nos, w_mno, w_exc, w_nxt, w_ret, w_bind, w_opt, w_optM, w_chk, w_of, w_settle_d, w_settle_o, w_cond, w_condS, w_ite, w_iteS, w_iteM, w_var, sIf, sSet, sAug, sSub, sFldS, sRet, sRetN, sDrop, sNil, sAsg, sBreak, sCont, sRaise0, sRaise1, xtAnd, xtOr, xtNot, xB, x1, x2, xC, xCB, xCh, xAnd, xOr, xNot, xIf, xTup, xLst, xDct0, xCall, xM, xMd, xIsi, aNil, aCons, adNil, adCons, xSl, oNo, oI, gN, gT, gsNil, gsCons, List.map, List.append, List.replicate, List.cons_append, List.nil_append, List.append_nil, List.getElem?_cons_zero, List.getElem?_cons_succ, List.set_cons_zero, List.set_cons_succ, List.length_cons, List.length_nil, add_ok, sub_ok, eqi_ok, nei_ok, lti_ok, gti_ok, lei_ok, gei_ok, int_ok, if_true, if_false, cond_true, cond_false, Bool.false_eq_true, true_and, and_true, Option.map_some, Option.bind_some, Nat.reduceAdd, Nat.reduceSub, Nat.reduceLeDiff, reduceIte, w_seq]
  refine s_range (fun j ρ m' => ∃ x, ρ = [some (.int s), some (.int n), some (.int (rowsMany s j)), some (.int (s ^ j)), x] ∧ m' = m) n ?_ ?_ ?_
  · simp only [w_fn, w_ok, w_ex, w_no, w_nos, w_mno, w_exc, w_nxt, w_ret, w_bind, w_opt, w_optM, w_chk, w_of, w_settle_d, w_settle_o, w_cond, w_condS, w_ite, w_iteS, w_iteM, w_var, sIf, sSet, sAug, sSub, sFldS, sRet, sRetN, sDrop, sNil, sAsg, sBreak, sCont, sRaise0, sRaise1, xtAnd, xtOr, xtNot, xB, x1, x2, xC, xCB, xCh, xAnd, xOr, xNot, xIf, xTup, xLst, xDct0, xCall, xM, xMd, xIsi, aNil, aCons, adNil, adCons, xSl, oNo, oI, gN, gT, gsNil, gsCons, List.map, List.append, List.replicate, List.cons_append, List.nil_append, List.append_nil, List.getElem?_cons_zero, List.getElem?_cons_succ, List.set_cons_zero, List.set_cons_succ, List.length_cons, List.length_nil, add_ok, sub_ok, eqi_ok, nei_ok, lti_ok, gti_ok, lei_ok, gei_ok, int_ok, if_true, if_false, cond_true, cond_false, Bool.false_eq_true, true_and, and_true, Option.map_some, Option.bind_some, Nat.reduceAdd, Nat.reduceSub, Nat.reduceLeDiff, reduceIte]
    exact ⟨by omega, none, by rw [Int.pow_zero]; rfl⟩
  · rintro j ρ m' hj ⟨x, rfl, rfl⟩
    simp only [w_fn, w_ok, w_ex, w_no, w_nos, w_mno, w_exc, w_nxt, w_ret, w_bind, w_opt, w_optM, w_chk, w_of, w_settle_d, w_settle_o, w_cond, w_condS, w_ite, w_iteS, w_iteM, w_var, sIf, sSet, sAug, sSub, sFldS, sRet, sRetN, sDrop, sNil, sAsg, sBreak, sCont, sRaise0, sRaise1, xtAnd, xtOr, xtNot, xB, x1, x2, xC, xCB, xCh, xAnd, xOr, xNot, xIf, xTup, xLst, xDct0, xCall, xM, xMd, xIsi, aNil, aCons, adNil, adCons, xSl, oNo, oI, gN, gT, gsNil, gsCons, List.map, List.append, List.replicate, List.cons_append, List.nil_append, List.append_nil, List.getElem?_cons_zero, List.getElem?_cons_succ, List.set_cons_zero, List.set_cons_succ, List.length_cons, List.length_nil, add_ok, sub_ok, eqi_ok, nei_ok, lti_ok, gti_ok, lei_ok, gei_ok, int_ok, if_true, if_false, cond_true, cond_false, Bool.false_eq_true, true_and, and_true, Option.map_some, Option.bind_some, Nat.reduceAdd, Nat.reduceSub, Nat.reduceLeDiff, reduceIte, w_seq, mul_ok (pow_lg h1 h2 (show j ≤ 8 by omega)) (show s.natAbs.log2 ≤ 200 from lg h1 (by omega)), iadd_ok]
    exact ⟨_, by rw [rowsMany, Int.pow_succ]⟩
  · rintro ρ m' ⟨x, rfl, rfl⟩
    simp only [w_fn, w_ok, w_ex, w_no, w_nos, w_mno, w_exc, w_nxt, w_ret, w_bind, w_opt, w_optM, w_chk, w_of, w_settle_d, w_settle_o, w_cond, w_condS, w_ite, w_iteS, w_iteM, w_var, sIf, sSet, sAug, sSub, sFldS, sRet, sRetN, sDrop, sNil, sAsg, sBreak, sCont, sRaise0, sRaise1, xtAnd, xtOr, xtNot, xB, x1, x2, xC, xCB, xCh, xAnd, xOr, xNot, xIf, xTup, xLst, xDct0, xCall, xM, xMd, xIsi, aNil, aCons, adNil, adCons, xSl, oNo, oI, gN, gT, gsNil, gsCons, List.map, List.append, List.replicate, List.cons_append, List.nil_append, List.append_nil, List.getElem?_cons_zero, List.getElem?_cons_succ, List.set_cons_zero, List.set_cons_succ, List.length_cons, List.length_nil, add_ok, sub_ok, eqi_ok, nei_ok, lti_ok, gti_ok, lei_ok, gei_ok, int_ok, if_true, if_false, cond_true, cond_false, Bool.false_eq_true, true_and, and_true, Option.map_some, Option.bind_some, Nat.reduceAdd, Nat.reduceSub, Nat.reduceLeDiff, reduceIte]
    exact k

/-! ### rows -/
theorem w_iAny_tup {e : EX} {ρ : Rho} {m : Mu} {Q : List D × List (Nat × O) → Mu → Prop} {E : D → Mu → Prop} (h : WM (e ρ m) (fun w m1 => ∃ xs, (w = .d (.tup xs) ∨ w = .d (.rol xs) ∨ w = .o (.lst xs)) ∧ Q (xs, []) m1) E) : WM (iAny e ρ m) Q E := by
  unfold iAny
  rw [w_bind]
  refine h.imp (fun w m1 ⟨xs, e, q⟩ => ?_) fun _ _ z => z
  rcases e with rfl | rfl | rfl <;> exact .ok q
theorem w_iAny_lst {e : EX} {ρ : Rho} {m : Mu} {Q : List D × List (Nat × O) → Mu → Prop} {E : D → Mu → Prop} (h : WM (e ρ m) (fun w m1 => ∃ l xs, w = .d (.loc l) ∧ m1[l]? = some (.lst xs) ∧ Q (xs, [(l, .lst xs)]) m1) E) : WM (iAny e ρ m) Q E := by
  unfold iAny
  rw [w_bind]
  refine h.imp (fun w m1 ⟨l, xs, e, g, q⟩ => ?_) fun _ _ z => z
  subst e
  simp only [w_opt, g]
  exact q
/-- the sounds of a row -/
def RowIn (s : Int) (a b : Nat) (xs : List Int) : Prop := a ≤ xs.length ∧ xs.length ≤ b ∧ ∀ x ∈ xs, 0 ≤ x ∧ x < s
theorem law_row_ok {l n most : Nat} {s : Int} {m : Mu} (h : DiceAt l (n + most + 1) m) (s1 : 0 < s) (s2 : s ≤ 8) (m1 : 0 < most) (m2 : most ≤ 8) {Q : D → Mu → Prop} {E : D → Mu → Prop}
    (k : ∀ (xs : List Int) (m' : Mu), RowIn s 1 most xs → DiceAt l n m' → Fr [l] m m' → Q (row xs) m') : WM (fm__law_row [.loc l, .int s, .int most] m) Q E := by
  unfold fm__law_row m__law_row
  simp only [w_fn, w_ok, w_ex, w_no, w_nos, w_mno, w_exc, w_nxt, w_ret, w_bind, w_opt, w_optM, w_chk, w_of, w_settle_d, w_settle_o, w_cond, w_condS, w_ite, w_iteS, w_iteM, w_var, sIf, sSet, sAug, sSub, sFldS, sRet, sRetN, sDrop, sNil, sAsg, sBreak, sCont, sRaise0, sRaise1, xtAnd, xtOr, xtNot, xB, x1, x2, xC, xCB, xCh, xAnd, xOr, xNot, xIf, xTup, xLst, xDct0, xCall, xM, xMd, xIsi, aNil, aCons, adNil, adCons, xSl, oNo, oI, gN, gT, gsNil, gsCons, List.map, List.append, List.replicate, List.cons_append, List.nil_append, List.append_nil, List.getElem?_cons_zero, List.getElem?_cons_succ, List.set_cons_zero, List.set_cons_succ, List.length_cons, List.length_nil, add_ok, sub_ok, eqi_ok, nei_ok, lti_ok, gti_ok, lei_ok, gei_ok, int_ok, if_true, if_false, cond_true, cond_false, Bool.false_eq_true, true_and, and_true, Option.map_some, Option.bind_some, Nat.reduceAdd, Nat.reduceSub, Nat.reduceLeDiff, reduceIte]
  have hsl : s.natAbs.log2 < 9000 := Nat.lt_of_le_of_lt (lg (by omega) (by omega)) (by decide)
  have hml : (most : Int).natAbs.log2 < 9000 := Nat.lt_of_le_of_lt (lg (by omega) (by omega)) (by decide)
  unfold xLc
  rw [w_bind]
  refine w_rg1 ?_
  simp only [w_fn, w_ok, w_ex, w_no, w_nos, w_mno, w_exc, w_nxt, w_ret, w_bind, w_opt, w_optM, w_chk, w_of, w_settle_d, w_settle_o, w_cond, w_condS, w_ite, w_iteS, w_iteM, w_var, sIf, sSet, sAug, sSub, sFldS, sRet, sRetN, sDrop, sNil, sAsg, sBreak, sCont, sRaise0, sRaise1, xtAnd, xtOr, xtNot, xB, x1, x2, xC, xCB, xCh, xAnd, xOr, xNot, xIf, xTup, xLst, xDct0, xCall, xM, xMd, xIsi, aNil, aCons, adNil, adCons, xSl, oNo, oI, gN, gT, gsNil, gsCons, List.map, List.append, List.replicate, List.cons_append, List.nil_append, List.append_nil, List.getElem?_cons_zero, List.getElem?_cons_succ, List.set_cons_zero, List.set_cons_succ, List.length_cons, List.length_nil, add_ok, sub_ok, eqi_ok, nei_ok, lti_ok, gti_ok, lei_ok, gei_ok, int_ok, if_true, if_false, cond_true, cond_false, Bool.false_eq_true, true_and, and_true, Option.map_some, Option.bind_some, Nat.reduceAdd, Nat.reduceSub, Nat.reduceLeDiff, reduceIte]
  refine draw_ok (n := n + most) h (by omega) hml fun v m' v0 v1 hd hf => ?_
  refine ⟨_, rfl, by omega, by omega, ?_⟩
  obtain ⟨j, rfl⟩ := Int.eq_ofNat_of_zero_le v0
  have e : (1 + (j : Int)).toNat = j + 1 := by omega
  rw [e]
  refine w_comp (g := gN 3) (tt := ttYes) (I := fun i acc m' => ∃ xs : List Int, acc = xs.map .int ∧ xs.length = i ∧ (∀ x ∈ xs, 0 ≤ x ∧ x < s) ∧ DiceAt l (n + (most - i)) m' ∧ Fr [l] m m') (fun i d acc m' hi hI => ⟨stands_nil, _, rfl, ?_⟩) (fun acc m' hI => ⟨stands_nil, ?_⟩) ⟨[], rfl, rfl, fun _ h => (nomatch h), hd, hf⟩
  · obtain ⟨hi, rfl⟩ := rng_get hi
    obtain ⟨xs, rfl, hl, hx, hd, hf⟩ := hI
    show WM (M.ret true m') _ _
    rw [w_ret, if_pos rfl]
    simp only [w_fn, w_ok, w_ex, w_no, w_nos, w_mno, w_exc, w_nxt, w_ret, w_bind, w_opt, w_optM, w_chk, w_of, w_settle_d, w_settle_o, w_cond, w_condS, w_ite, w_iteS, w_iteM, w_var, sIf, sSet, sAug, sSub, sFldS, sRet, sRetN, sDrop, sNil, sAsg, sBreak, sCont, sRaise0, sRaise1, xtAnd, xtOr, xtNot, xB, x1, x2, xC, xCB, xCh, xAnd, xOr, xNot, xIf, xTup, xLst, xDct0, xCall, xM, xMd, xIsi, aNil, aCons, adNil, adCons, xSl, oNo, oI, gN, gT, gsNil, gsCons, List.map, List.append, List.replicate, List.cons_append, List.nil_append, List.append_nil, List.getElem?_cons_zero, List.getElem?_cons_succ, List.set_cons_zero, List.set_cons_succ, List.length_cons, List.length_nil, add_ok, sub_ok, eqi_ok, nei_ok, lti_ok, gti_ok, lei_ok, gei_ok, int_ok, if_true, if_false, cond_true, cond_false, Bool.false_eq_true, true_and, and_true, Option.map_some, Option.bind_some, Nat.reduceAdd, Nat.reduceSub, Nat.reduceLeDiff, reduceIte]
    refine draw_ok (n := n + (most - (i + 1))) (by rw [show n + (most - (i + 1)) + 1 = n + (most - i) by omega]; exact hd) s1 hsl fun v m2 v0 v1 hd2 hf2 => ?_
    refine ⟨by rw [List.length_map, hl]; have := LIM_eq; unfold LIM; omega, xs ++ [v], by simp, by simp [hl], fun x hx2 => ?_, hd2, hf.trans hf2⟩
    rcases List.mem_append.mp hx2 with q | q
    · exact hx x q
    · rw [List.mem_singleton.mp q]; exact ⟨v0, v1⟩
  · obtain ⟨xs, rfl, hl, hx, hd, hf⟩ := hI
    rw [rng_len] at hl
    simp only [w_fn, w_ok, w_ex, w_no, w_nos, w_mno, w_exc, w_nxt, w_ret, w_bind, w_opt, w_optM, w_chk, w_of, w_settle_d, w_settle_o, w_cond, w_condS, w_ite, w_iteS, w_iteM, w_var, sIf, sSet, sAug, sSub, sFldS, sRet, sRetN, sDrop, sNil, sAsg, sBreak, sCont, sRaise0, sRaise1, xtAnd, xtOr, xtNot, xB, x1, x2, xC, xCB, xCh, xAnd, xOr, xNot, xIf, xTup, xLst, xDct0, xCall, xM, xMd, xIsi, aNil, aCons, adNil, adCons, xSl, oNo, oI, gN, gT, gsNil, gsCons, List.map, List.append, List.replicate, List.cons_append, List.nil_append, List.append_nil, List.getElem?_cons_zero, List.getElem?_cons_succ, List.set_cons_zero, List.set_cons_succ, List.length_cons, List.length_nil, add_ok, sub_ok, eqi_ok, nei_ok, lti_ok, gti_ok, lei_ok, gei_ok, int_ok, if_true, if_false, cond_true, cond_false, Bool.false_eq_true, true_and, and_true, Option.map_some, Option.bind_some, Nat.reduceAdd, Nat.reduceSub, Nat.reduceLeDiff, reduceIte, tup_lst]
    exact k xs m' ⟨by omega, by omega, hx⟩ (hd.mono (by omega)) hf
theorem law_like_ok {l n : Nat} {s : Int} {a b : Nat} {ys : List Int} {m : Mu} (h : DiceAt l (n + 2 * ys.length) m) (s1 : 0 < s) (s2 : s ≤ 8) (hy : RowIn s a b ys) (hb : b ≤ 100) {Q : D → Mu → Prop} {E : D → Mu → Prop}
    (k : ∀ (xs : List Int) (m' : Mu), RowIn s a b xs → xs.length = ys.length → DiceAt l n m' → Fr [l] m m' → Q (row xs) m') : WM (fm__law_like [.loc l, .int s, row ys] m) Q E := by
  unfold fm__law_like m__law_like
  simp only [w_fn, w_ok, w_ex, w_no, w_nos, w_mno, w_exc, w_nxt, w_ret, w_bind, w_opt, w_optM, w_chk, w_of, w_settle_d, w_settle_o, w_cond, w_condS, w_ite, w_iteS, w_iteM, w_var, sIf, sSet, sAug, sSub, sFldS, sRet, sRetN, sDrop, sNil, sAsg, sBreak, sCont, sRaise0, sRaise1, xtAnd, xtOr, xtNot, xB, x1, x2, xC, xCB, xCh, xAnd, xOr, xNot, xIf, xTup, xLst, xDct0, xCall, xM, xMd, xIsi, aNil, aCons, adNil, adCons, xSl, oNo, oI, gN, gT, gsNil, gsCons, List.map, List.append, List.replicate, List.cons_append, List.nil_append, List.append_nil, List.getElem?_cons_zero, List.getElem?_cons_succ, List.set_cons_zero, List.set_cons_succ, List.length_cons, List.length_nil, add_ok, sub_ok, eqi_ok, nei_ok, lti_ok, gti_ok, lei_ok, gei_ok, int_ok, if_true, if_false, cond_true, cond_false, Bool.false_eq_true, true_and, and_true, Option.map_some, Option.bind_some, Nat.reduceAdd, Nat.reduceSub, Nat.reduceLeDiff, reduceIte]
  have hsl : s.natAbs.log2 < 9000 := Nat.lt_of_le_of_lt (lg (by omega) (by omega)) (by decide)
  unfold xLc
  rw [w_bind]
  refine w_iAny_tup ?_
  simp only [w_fn, w_ok, w_ex, w_no, w_nos, w_mno, w_exc, w_nxt, w_ret, w_bind, w_opt, w_optM, w_chk, w_of, w_settle_d, w_settle_o, w_cond, w_condS, w_ite, w_iteS, w_iteM, w_var, sIf, sSet, sAug, sSub, sFldS, sRet, sRetN, sDrop, sNil, sAsg, sBreak, sCont, sRaise0, sRaise1, xtAnd, xtOr, xtNot, xB, x1, x2, xC, xCB, xCh, xAnd, xOr, xNot, xIf, xTup, xLst, xDct0, xCall, xM, xMd, xIsi, aNil, aCons, adNil, adCons, xSl, oNo, oI, gN, gT, gsNil, gsCons, List.map, List.append, List.replicate, List.cons_append, List.nil_append, List.append_nil, List.getElem?_cons_zero, List.getElem?_cons_succ, List.set_cons_zero, List.set_cons_succ, List.length_cons, List.length_nil, add_ok, sub_ok, eqi_ok, nei_ok, lti_ok, gti_ok, lei_ok, gei_ok, int_ok, if_true, if_false, cond_true, cond_false, Bool.false_eq_true, true_and, and_true, Option.map_some, Option.bind_some, Nat.reduceAdd, Nat.reduceSub, Nat.reduceLeDiff, reduceIte]
  refine ⟨ys.map .int, .inl rfl, ?_⟩
  refine w_comp (g := gN 3) (tt := ttYes) (I := fun i acc m' => ∃ xs : List Int, acc = xs.map .int ∧ xs.length = i ∧ (∀ x ∈ xs, 0 ≤ x ∧ x < s) ∧ DiceAt l (n + 2 * (ys.length - i)) m' ∧ Fr [l] m m') (fun i d acc m' hi hI => ⟨stands_nil, _, rfl, ?_⟩) (fun acc m' hI => ⟨stands_nil, ?_⟩) ⟨[], rfl, rfl, fun _ h => (nomatch h), h, Fr.refl⟩
  · rw [List.getElem?_map] at hi
    obtain ⟨y, hy1, rfl⟩ := Option.map_eq_some_iff.mp hi
    have hil := (List.getElem?_eq_some_iff.mp hy1).1
    have hym := hy.2.2 y (List.mem_of_getElem? hy1)
    obtain ⟨xs, rfl, hl, hx, hd, hf⟩ := hI
    have hlen : (xs.map D.int).length < LIM := by rw [List.length_map, hl]; have := hy.2.1; unfold LIM; omega
    show WM (M.ret true m') _ _
    rw [w_ret, if_pos rfl]
    simp only [w_fn, w_ok, w_ex, w_no, w_nos, w_mno, w_exc, w_nxt, w_ret, w_bind, w_opt, w_optM, w_chk, w_of, w_settle_d, w_settle_o, w_cond, w_condS, w_ite, w_iteS, w_iteM, w_var, sIf, sSet, sAug, sSub, sFldS, sRet, sRetN, sDrop, sNil, sAsg, sBreak, sCont, sRaise0, sRaise1, xtAnd, xtOr, xtNot, xB, x1, x2, xC, xCB, xCh, xAnd, xOr, xNot, xIf, xTup, xLst, xDct0, xCall, xM, xMd, xIsi, aNil, aCons, adNil, adCons, xSl, oNo, oI, gN, gT, gsNil, gsCons, List.map, List.append, List.replicate, List.cons_append, List.nil_append, List.append_nil, List.getElem?_cons_zero, List.getElem?_cons_succ, List.set_cons_zero, List.set_cons_succ, List.length_cons, List.length_nil, add_ok, sub_ok, eqi_ok, nei_ok, lti_ok, gti_ok, lei_ok, gei_ok, int_ok, if_true, if_false, cond_true, cond_false, Bool.false_eq_true, true_and, and_true, Option.map_some, Option.bind_some, Nat.reduceAdd, Nat.reduceSub, Nat.reduceLeDiff, reduceIte]
    refine draw_ok (n := n + 2 * (ys.length - (i + 1)) + 1) (by rw [show n + 2 * (ys.length - (i + 1)) + 1 + 1 = n + 2 * (ys.length - i) by omega]; exact hd) (by decide) (by decide) fun v m2 v0 v1 hd2 hf2 => ?_
    simp only [w_fn, w_ok, w_ex, w_no, w_nos, w_mno, w_exc, w_nxt, w_ret, w_bind, w_opt, w_optM, w_chk, w_of, w_settle_d, w_settle_o, w_cond, w_condS, w_ite, w_iteS, w_iteM, w_var, sIf, sSet, sAug, sSub, sFldS, sRet, sRetN, sDrop, sNil, sAsg, sBreak, sCont, sRaise0, sRaise1, xtAnd, xtOr, xtNot, xB, x1, x2, xC, xCB, xCh, xAnd, xOr, xNot, xIf, xTup, xLst, xDct0, xCall, xM, xMd, xIsi, aNil, aCons, adNil, adCons, xSl, oNo, oI, gN, gT, gsNil, gsCons, List.map, List.append, List.replicate, List.cons_append, List.nil_append, List.append_nil, List.getElem?_cons_zero, List.getElem?_cons_succ, List.set_cons_zero, List.set_cons_succ, List.length_cons, List.length_nil, add_ok, sub_ok, eqi_ok, nei_ok, lti_ok, gti_ok, lei_ok, gei_ok, int_ok, if_true, if_false, cond_true, cond_false, Bool.false_eq_true, true_and, and_true, Option.map_some, Option.bind_some, Nat.reduceAdd, Nat.reduceSub, Nat.reduceLeDiff, reduceIte]
    by_cases hv : v = 0
    · simp only [hv, decide_true, if_true, w_fn, w_ok, w_ex, w_no, w_nos, w_mno, w_exc, w_nxt, w_ret, w_bind, w_opt, w_optM, w_chk, w_of, w_settle_d, w_settle_o, w_cond, w_condS, w_ite, w_iteS, w_iteM, w_var, sIf, sSet, sAug, sSub, sFldS, sRet, sRetN, sDrop, sNil, sAsg, sBreak, sCont, sRaise0, sRaise1, xtAnd, xtOr, xtNot, xB, x1, x2, xC, xCB, xCh, xAnd, xOr, xNot, xIf, xTup, xLst, xDct0, xCall, xM, xMd, xIsi, aNil, aCons, adNil, adCons, xSl, oNo, oI, gN, gT, gsNil, gsCons, List.map, List.append, List.replicate, List.cons_append, List.nil_append, List.append_nil, List.getElem?_cons_zero, List.getElem?_cons_succ, List.set_cons_zero, List.set_cons_succ, List.length_cons, List.length_nil, add_ok, sub_ok, eqi_ok, nei_ok, lti_ok, gti_ok, lei_ok, gei_ok, int_ok, if_true, if_false, cond_true, cond_false, Bool.false_eq_true, true_and, and_true, Option.map_some, Option.bind_some, Nat.reduceAdd, Nat.reduceSub, Nat.reduceLeDiff, reduceIte]
      refine draw_ok (n := n + 2 * (ys.length - (i + 1))) hd2 s1 hsl fun u m3 u0 u1 hd3 hf3 => ?_
      refine ⟨hlen, xs ++ [u], by simp, by simp [hl], fun x hx2 => ?_, hd3, (hf.trans hf2).trans hf3⟩
      rcases List.mem_append.mp hx2 with q | q
      · exact hx x q
      · rw [List.mem_singleton.mp q]; exact ⟨u0, u1⟩
    · simp only [hv, decide_false, if_false, w_fn, w_ok, w_ex, w_no, w_nos, w_mno, w_exc, w_nxt, w_ret, w_bind, w_opt, w_optM, w_chk, w_of, w_settle_d, w_settle_o, w_cond, w_condS, w_ite, w_iteS, w_iteM, w_var, sIf, sSet, sAug, sSub, sFldS, sRet, sRetN, sDrop, sNil, sAsg, sBreak, sCont, sRaise0, sRaise1, xtAnd, xtOr, xtNot, xB, x1, x2, xC, xCB, xCh, xAnd, xOr, xNot, xIf, xTup, xLst, xDct0, xCall, xM, xMd, xIsi, aNil, aCons, adNil, adCons, xSl, oNo, oI, gN, gT, gsNil, gsCons, List.map, List.append, List.replicate, List.cons_append, List.nil_append, List.append_nil, List.getElem?_cons_zero, List.getElem?_cons_succ, List.set_cons_zero, List.set_cons_succ, List.length_cons, List.length_nil, add_ok, sub_ok, eqi_ok, nei_ok, lti_ok, gti_ok, lei_ok, gei_ok, int_ok, if_true, if_false, cond_true, cond_false, Bool.false_eq_true, true_and, and_true, Option.map_some, Option.bind_some, Nat.reduceAdd, Nat.reduceSub, Nat.reduceLeDiff, reduceIte]
      refine ⟨hlen, xs ++ [y], by simp, by simp [hl], fun x hx2 => ?_, hd2.mono (by omega), hf.trans hf2⟩
      rcases List.mem_append.mp hx2 with q | q
      · exact hx x q
      · rw [List.mem_singleton.mp q]; exact hym
  · obtain ⟨xs, rfl, hl, hx, hd, hf⟩ := hI
    rw [List.length_map] at hl
    simp only [w_fn, w_ok, w_ex, w_no, w_nos, w_mno, w_exc, w_nxt, w_ret, w_bind, w_opt, w_optM, w_chk, w_of, w_settle_d, w_settle_o, w_cond, w_condS, w_ite, w_iteS, w_iteM, w_var, sIf, sSet, sAug, sSub, sFldS, sRet, sRetN, sDrop, sNil, sAsg, sBreak, sCont, sRaise0, sRaise1, xtAnd, xtOr, xtNot, xB, x1, x2, xC, xCB, xCh, xAnd, xOr, xNot, xIf, xTup, xLst, xDct0, xCall, xM, xMd, xIsi, aNil, aCons, adNil, adCons, xSl, oNo, oI, gN, gT, gsNil, gsCons, List.map, List.append, List.replicate, List.cons_append, List.nil_append, List.append_nil, List.getElem?_cons_zero, List.getElem?_cons_succ, List.set_cons_zero, List.set_cons_succ, List.length_cons, List.length_nil, add_ok, sub_ok, eqi_ok, nei_ok, lti_ok, gti_ok, lei_ok, gei_ok, int_ok, if_true, if_false, cond_true, cond_false, Bool.false_eq_true, true_and, and_true, Option.map_some, Option.bind_some, Nat.reduceAdd, Nat.reduceSub, Nat.reduceLeDiff, reduceIte, tup_lst]
    exact k xs m' ⟨by have := hy.1; omega, by have := hy.2.1; omega, hx⟩ (by omega) (hd.mono (by omega)) hf
/-! ### the dice, laid -/
theorem cut_ints (ns : List Int) (lo hi : Option Int) : ∃ ms : List Int, cutD (ns.map .int) lo hi = ms.map .int := ⟨_, by unfold cutD; rw [List.length_map, ← List.map_drop, ← List.map_take]⟩
theorem sl_rol {xs : List D} {lo hi : Option Int} {mu : Mu} : slW (.d (.rol xs)) lo hi mu = some (.o (.lst (cutD xs lo hi))) := rfl
theorem abs_ok {i : Int} {mu : Mu} : absC [.d (.int i)] mu = some (.d (.int (if i < 0 then -i else i))) := rfl
theorem law_dice_ok {ns : List Int} (hn : ns.length ≤ 63) {Q : D → Mu → Prop} {E : D → Mu → Prop}
    (k : ∀ (l : Nat) (m' : Mu), DiceAt l (2 ^ 99) m' → l < m'.length → Q (.loc l) m') : WM (fm__law_dice [.rol (ns.map .int)] []) Q E := by
  unfold fm__law_dice m__law_dice
  simp only [w_fn, w_ok, w_ex, w_no, w_nos, w_mno, w_exc, w_nxt, w_ret, w_bind, w_opt, w_optM, w_chk, w_of, w_settle_d, w_settle_o, w_cond, w_condS, w_ite, w_iteS, w_iteM, w_var, sIf, sSet, sAug, sSub, sFldS, sRet, sRetN, sDrop, sNil, sAsg, sBreak, sCont, sRaise0, sRaise1, xtAnd, xtOr, xtNot, xB, x1, x2, xC, xCB, xCh, xAnd, xOr, xNot, xIf, xTup, xLst, xDct0, xCall, xM, xMd, xIsi, aNil, aCons, adNil, adCons, xSl, oNo, oI, gN, gT, gsNil, gsCons, List.map, List.append, List.replicate, List.cons_append, List.nil_append, List.append_nil, List.getElem?_cons_zero, List.getElem?_cons_succ, List.set_cons_zero, List.set_cons_succ, List.length_cons, List.length_nil, add_ok, sub_ok, eqi_ok, nei_ok, lti_ok, gti_ok, lei_ok, gei_ok, int_ok, if_true, if_false, cond_true, cond_false, Bool.false_eq_true, true_and, and_true, Option.map_some, Option.bind_some, Nat.reduceAdd, Nat.reduceSub, Nat.reduceLeDiff, reduceIte]
  unfold xLc
  rw [w_bind]
  refine w_iAny_tup ?_
  obtain ⟨ms, hms⟩ := cut_ints ns none (some 63)
  have hml : ms.length ≤ 63 := by
    have := congrArg List.length hms
    unfold cutD at this
    simp only [List.length_map, List.length_take, List.length_drop] at this
    omega
  simp only [w_fn, w_ok, w_ex, w_no, w_nos, w_mno, w_exc, w_nxt, w_ret, w_bind, w_opt, w_optM, w_chk, w_of, w_settle_d, w_settle_o, w_cond, w_condS, w_ite, w_iteS, w_iteM, w_var, sIf, sSet, sAug, sSub, sFldS, sRet, sRetN, sDrop, sNil, sAsg, sBreak, sCont, sRaise0, sRaise1, xtAnd, xtOr, xtNot, xB, x1, x2, xC, xCB, xCh, xAnd, xOr, xNot, xIf, xTup, xLst, xDct0, xCall, xM, xMd, xIsi, aNil, aCons, adNil, adCons, xSl, oNo, oI, gN, gT, gsNil, gsCons, List.map, List.append, List.replicate, List.cons_append, List.nil_append, List.append_nil, List.getElem?_cons_zero, List.getElem?_cons_succ, List.set_cons_zero, List.set_cons_succ, List.length_cons, List.length_nil, add_ok, sub_ok, eqi_ok, nei_ok, lti_ok, gti_ok, lei_ok, gei_ok, int_ok, if_true, if_false, cond_true, cond_false, Bool.false_eq_true, true_and, and_true, Option.map_some, Option.bind_some, Nat.reduceAdd, Nat.reduceSub, Nat.reduceLeDiff, reduceIte, sl_rol, hms]
  refine ⟨ms.map .int, .inr (.inr rfl), ?_⟩
  refine w_comp (g := gN 1) (tt := ttYes) (I := fun i acc m' => ∃ xs : List Int, acc = xs.map .int ∧ xs.length = i ∧ (∀ x ∈ xs, 0 ≤ x) ∧ m' = []) (fun i d acc m' hi hI => ⟨stands_nil, _, rfl, ?_⟩) (fun acc m' hI => ⟨stands_nil, ?_⟩) ⟨[], rfl, rfl, fun _ h => (nomatch h), rfl⟩
  · rw [List.getElem?_map] at hi
    obtain ⟨y, hy1, rfl⟩ := Option.map_eq_some_iff.mp hi
    have hil := (List.getElem?_eq_some_iff.mp hy1).1
    obtain ⟨xs, rfl, hl, hx, rfl⟩ := hI
    show WM (M.ret true []) _ _
    rw [w_ret, if_pos rfl]
    simp only [w_fn, w_ok, w_ex, w_no, w_nos, w_mno, w_exc, w_nxt, w_ret, w_bind, w_opt, w_optM, w_chk, w_of, w_settle_d, w_settle_o, w_cond, w_condS, w_ite, w_iteS, w_iteM, w_var, sIf, sSet, sAug, sSub, sFldS, sRet, sRetN, sDrop, sNil, sAsg, sBreak, sCont, sRaise0, sRaise1, xtAnd, xtOr, xtNot, xB, x1, x2, xC, xCB, xCh, xAnd, xOr, xNot, xIf, xTup, xLst, xDct0, xCall, xM, xMd, xIsi, aNil, aCons, adNil, adCons, xSl, oNo, oI, gN, gT, gsNil, gsCons, List.map, List.append, List.replicate, List.cons_append, List.nil_append, List.append_nil, List.getElem?_cons_zero, List.getElem?_cons_succ, List.set_cons_zero, List.set_cons_succ, List.length_cons, List.length_nil, add_ok, sub_ok, eqi_ok, nei_ok, lti_ok, gti_ok, lei_ok, gei_ok, int_ok, if_true, if_false, cond_true, cond_false, Bool.false_eq_true, true_and, and_true, Option.map_some, Option.bind_some, Nat.reduceAdd, Nat.reduceSub, Nat.reduceLeDiff, reduceIte, wipeR, abs_ok]
    refine ⟨by rw [List.length_map, hl]; unfold LIM; omega, xs ++ [if y < 0 then -y else y], by simp, by simp [hl], fun x hx2 => ?_⟩
    rcases List.mem_append.mp hx2 with q | q
    · exact hx x q
    · rw [List.mem_singleton.mp q]; split <;> omega
  · obtain ⟨xs, rfl, hl, hx, rfl⟩ := hI
    simp only [w_fn, w_ok, w_ex, w_no, w_nos, w_mno, w_exc, w_nxt, w_ret, w_bind, w_opt, w_optM, w_chk, w_of, w_settle_d, w_settle_o, w_cond, w_condS, w_ite, w_iteS, w_iteM, w_var, sIf, sSet, sAug, sSub, sFldS, sRet, sRetN, sDrop, sNil, sAsg, sBreak, sCont, sRaise0, sRaise1, xtAnd, xtOr, xtNot, xB, x1, x2, xC, xCB, xCh, xAnd, xOr, xNot, xIf, xTup, xLst, xDct0, xCall, xM, xMd, xIsi, aNil, aCons, adNil, adCons, xSl, oNo, oI, gN, gT, gsNil, gsCons, List.map, List.append, List.replicate, List.cons_append, List.nil_append, List.append_nil, List.getElem?_cons_zero, List.getElem?_cons_succ, List.set_cons_zero, List.set_cons_succ, List.length_cons, List.length_nil, add_ok, sub_ok, eqi_ok, nei_ok, lti_ok, gti_ok, lei_ok, gei_ok, int_ok, if_true, if_false, cond_true, cond_false, Bool.false_eq_true, true_and, and_true, Option.map_some, Option.bind_some, Nat.reduceAdd, Nat.reduceSub, Nat.reduceLeDiff, reduceIte]
    rw [if_pos (by decide)]
    refine k 1 _ ⟨0, xs, 0, 0, 1, 0, by decide, rfl, rfl, by decide, by decide, by decide, by decide, by decide, by decide, hx⟩ (by simp)
end Dn

set_option Elab.async false
set_option linter.all false
set_option maxRecDepth 100000
set_option maxHeartbeats 4000000
set_option autoImplicit false
/-! Dn23: data of None, ints, texts and tuples of such: equality, keys. -/
namespace Dn
open PySem PySem.Spec

mutual
def gd : D → Nat → Bool
  | .non, _ => true
  | .int _, _ => true
  | .str x, _ => PyData.strOk x
  | .tup xs, n + 1 => gds xs n
  | .tup _, 0 => false
  | .bl _, _ => false
  | .rol _, _ => false
  | .loc _, _ => false
  | .exn _ _ _, _ => false
def gds : List D → Nat → Bool
  | [], _ => true
  | d :: ds, n => gd d n && gds ds n
end
mutual
def pD : D → PyData
  | .non => .none
  | .int i => .int i
  | .str x => .str x
  | .tup xs => .tuple (pDs xs)
  | .bl b => .bool b
  | .rol xs => .list (pDs xs)
  | .loc _ => .none
  | .exn _ _ _ => .none
def pDs : List D → List PyData
  | [] => []
  | d :: ds => pD d :: pDs ds
end
theorem gds_mem : ∀ {ds : List D} {n : Nat}, gds ds n = true ↔ ∀ d ∈ ds, gd d n = true
  | [], n => by rw [gds]; simp
  | d :: ds, n => by rw [gds, Bool.and_eq_true, gds_mem]; simp
mutual
theorem gd_mono : ∀ {d : D} {n m : Nat}, gd d n = true → n ≤ m → gd d m = true
  | .non, _, _, _, _ => by rw [gd]
  | .int _, _, _, _, _ => by rw [gd]
  | .str _, _, _, h, _ => by rw [gd] at h ⊢; exact h
  | .tup xs, n + 1, m + 1, h, l => by rw [gd] at h ⊢; exact gds_mono h (by omega)
  | .tup xs, n + 1, 0, h, l => by omega
  | .tup xs, 0, _, h, _ => by rw [gd] at h; cases h
  | .bl _, _, _, h, _ => by rw [gd] at h; cases h
  | .rol _, _, _, h, _ => by rw [gd] at h; cases h
  | .loc _, _, _, h, _ => by rw [gd] at h; cases h
  | .exn _ _ _, _, _, h, _ => by rw [gd] at h; cases h
theorem gds_mono : ∀ {d : List D} {n m : Nat}, gds d n = true → n ≤ m → gds d m = true
  | [], _, _, _, _ => by rw [gds]
  | d :: ds, n, m, h, l => by
    rw [gds, Bool.and_eq_true] at h ⊢
    exact ⟨gd_mono h.1 l, gds_mono h.2 l⟩
end
mutual
theorem gd_py {f : Nat → Option PyData} : ∀ {d : D} {n : Nat}, gd d n = true → pyF f d = some (pD d)
  | .non, _, _ => by rw [pyF, pD]
  | .int _, _, _ => by rw [pyF, pD]
  | .str _, _, _ => by rw [pyF, pD]
  | .tup xs, n + 1, h => by rw [gd] at h; rw [pyF, pD, gds_py h]; rfl
  | .tup _, 0, h => by rw [gd] at h; cases h
  | .bl _, _, h => by rw [gd] at h; cases h
  | .rol _, _, h => by rw [gd] at h; cases h
  | .loc _, _, h => by rw [gd] at h; cases h
  | .exn _ _ _, _, h => by rw [gd] at h; cases h
theorem gds_py {f : Nat → Option PyData} : ∀ {d : List D} {n : Nat}, gds d n = true → pyFs f d = some (pDs d)
  | [], _, _ => by rw [pyFs, pDs]
  | d :: ds, n, h => by
    rw [gds, Bool.and_eq_true] at h
    rw [pyFs, gd_py h.1, gds_py h.2, pDs]
end
mutual
theorem gd_lay : ∀ {d : D} {n : Nat}, gd d n = true → (pD d).canLay0 = true ∧ (pD d).depth ≤ n
  | .non, _, _ => ⟨by rw [pD, PyData.canLay0], by rw [pD, PyData.depth]; exact Nat.zero_le _⟩
  | .int _, _, _ => ⟨by rw [pD, PyData.canLay0], by rw [pD, PyData.depth]; exact Nat.zero_le _⟩
  | .str x, _, h => ⟨by rw [gd] at h; rw [pD, PyData.canLay0]; exact h, by rw [pD, PyData.depth]; exact Nat.zero_le _⟩
  | .tup xs, n + 1, h => by
    rw [gd] at h
    have := gds_lay h
    exact ⟨by rw [pD, PyData.canLay0]; exact this.1, by rw [pD, PyData.depth]; have := this.2; omega⟩
  | .tup _, 0, h => by rw [gd] at h; cases h
  | .bl _, _, h => by rw [gd] at h; cases h
  | .rol _, _, h => by rw [gd] at h; cases h
  | .loc _, _, h => by rw [gd] at h; cases h
  | .exn _ _ _, _, h => by rw [gd] at h; cases h
theorem gds_lay : ∀ {d : List D} {n : Nat}, gds d n = true → PyData.canLayAll0 (pDs d) = true ∧ PyData.depthAll (pDs d) ≤ n
  | [], _, _ => ⟨by rw [pDs, PyData.canLayAll0], by rw [pDs, PyData.depthAll]; exact Nat.zero_le _⟩
  | d :: ds, n, h => by
    rw [gds, Bool.and_eq_true] at h
    have a := gd_lay h.1
    have b := gds_lay h.2
    exact ⟨by rw [pDs, PyData.canLayAll0, a.1, b.1]; rfl, by rw [pDs, PyData.depthAll]; exact Nat.max_le.mpr ⟨a.2, b.2⟩⟩
end
theorem gd_shaped {d : D} {n : Nat} (h : gd d n = true) (hn : n ≤ 64 := by decide) : SeqAt.shaped (pD d) = true := by
  unfold SeqAt.shaped
  rw [(gd_lay h).1]
  simp only [Bool.true_and, decide_eq_true_eq]
  exact Nat.le_trans (gd_lay h).2 hn
mutual
theorem gd_eqv : ∀ {d e : D} {n m : Nat}, gd d n = true → gd e m = true → (PyData.eqv (pD d) (pD e) = true ↔ d = e)
  | .non, .non, _, _, _, _ => by simp [pD, PyData.eqv]
  | .non, .int _, _, _, _, _ => by simp [pD, PyData.eqv]
  | .non, .str _, _, _, _, _ => by simp [pD, PyData.eqv]
  | .non, .tup _, _, _, _, _ => by simp [pD, PyData.eqv]
  | .int _, .non, _, _, _, _ => by simp [pD, PyData.eqv]
  | .int _, .int _, _, _, _, _ => by simp [pD, PyData.eqv]
  | .int _, .str _, _, _, _, _ => by simp [pD, PyData.eqv]
  | .int _, .tup _, _, _, _, _ => by simp [pD, PyData.eqv]
  | .str _, .non, _, _, _, _ => by simp [pD, PyData.eqv]
  | .str _, .int _, _, _, _, _ => by simp [pD, PyData.eqv]
  | .str _, .str _, _, _, _, _ => by simp [pD, PyData.eqv]
  | .str _, .tup _, _, _, _, _ => by simp [pD, PyData.eqv]
  | .tup _, .non, _, _, _, _ => by simp [pD, PyData.eqv]
  | .tup _, .int _, _, _, _, _ => by simp [pD, PyData.eqv]
  | .tup _, .str _, _, _, _, _ => by simp [pD, PyData.eqv]
  | .tup xs, .tup ys, n + 1, m + 1, h, k => by
    rw [gd] at h k
    rw [pD, pD, PyData.eqv, gds_eqv h k]
    simp
  | .tup _, .tup _, 0, _, h, _ => by rw [gd] at h; cases h
  | .tup _, .tup _, _ + 1, 0, _, h => by rw [gd] at h; cases h
  | .bl _, _, _, _, h, _ => by rw [gd] at h; cases h
  | .rol _, _, _, _, h, _ => by rw [gd] at h; cases h
  | .loc _, _, _, _, h, _ => by rw [gd] at h; cases h
  | .exn _ _ _, _, _, _, h, _ => by rw [gd] at h; cases h
  | _, .bl _, _, _, _, h => by rw [gd] at h; cases h
  | _, .rol _, _, _, _, h => by rw [gd] at h; cases h
  | _, .loc _, _, _, _, h => by rw [gd] at h; cases h
  | _, .exn _ _ _, _, _, _, h => by rw [gd] at h; cases h
theorem gds_eqv : ∀ {d e : List D} {n m : Nat}, gds d n = true → gds e m = true → (PyData.eqvAll (pDs d) (pDs e) = true ↔ d = e)
  | [], [], _, _, _, _ => by simp [pDs, PyData.eqvAll]
  | [], _ :: _, _, _, _, _ => by simp [pDs, PyData.eqvAll]
  | _ :: _, [], _, _, _, _ => by simp [pDs, PyData.eqvAll]
  | d :: ds, e :: es, n, m, h, k => by
    rw [gds, Bool.and_eq_true] at h k
    rw [pDs, pDs, PyData.eqvAll, Bool.and_eq_true, gd_eqv h.1 k.1, gds_eqv h.2 k.2]
    simp
end
noncomputable instance : DecidableEq D := fun a b => Classical.propDecidable _
theorem eqg_ok {x y : D} {n m : Nat} {mu : Mu} (h : gd x n = true) (k : gd y m = true) (hn : n ≤ 64 := by decide) (hm : m ≤ 64 := by decide) : eqW (.d x) (.d y) mu = some (.d (.bl (decide (x = y)))) := by
  unfold eqW
  rw [cmp_ok (gd_py h) (gd_py k) (gd_shaped h hn) (gd_shaped k hm)]
  simp only [Option.map_some]
  congr 3
  rw [Bool.eq_iff_iff, gd_eqv h k, decide_eq_true_iff]
theorem neg_ok {x y : D} {n m : Nat} {mu : Mu} (h : gd x n = true) (k : gd y m = true) (hn : n ≤ 64 := by decide) (hm : m ≤ 64 := by decide) : neW (.d x) (.d y) mu = some (.d (.bl (!decide (x = y)))) := by
  unfold neW
  rw [cmp_ok (gd_py h) (gd_py k) (gd_shaped h hn) (gd_shaped k hm)]
  simp only [Option.map_some]
  congr 4
  rw [Bool.eq_iff_iff, gd_eqv h k, decide_eq_true_iff]
/-! keys -/
mutual
theorem gd_nk : ∀ {d : D} {n : Nat}, gd d n = true → ∃ q, nk d = some q ∧ q.depth ≤ n
  | .non, _, _ => ⟨_, by rw [nk], by rw [NestedKey.depth]; exact Nat.zero_le _⟩
  | .int _, _, _ => ⟨_, by rw [nk], by rw [NestedKey.depth]; exact Nat.zero_le _⟩
  | .str _, _, _ => ⟨_, by rw [nk], by rw [NestedKey.depth]; exact Nat.zero_le _⟩
  | .tup xs, n + 1, h => by
    rw [gd] at h
    obtain ⟨qs, e1, e2⟩ := gds_nk h
    exact ⟨.tup qs, by rw [nk, e1]; rfl, by rw [NestedKey.depth]; omega⟩
  | .tup _, 0, h => by rw [gd] at h; cases h
  | .bl _, _, h => by rw [gd] at h; cases h
  | .rol _, _, h => by rw [gd] at h; cases h
  | .loc _, _, h => by rw [gd] at h; cases h
  | .exn _ _ _, _, h => by rw [gd] at h; cases h
theorem gds_nk : ∀ {d : List D} {n : Nat}, gds d n = true → ∃ qs, nks d = some qs ∧ NestedKey.depthAll qs ≤ n
  | [], _, _ => ⟨[], by rw [nks], by rw [NestedKey.depthAll]; exact Nat.zero_le _⟩
  | d :: ds, n, h => by
    rw [gds, Bool.and_eq_true] at h
    obtain ⟨q, e1, e2⟩ := gd_nk h.1
    obtain ⟨qs, e3, e4⟩ := gds_nk h.2
    exact ⟨q :: qs, by rw [nks, e1, e3], by rw [NestedKey.depthAll]; exact Nat.max_le.mpr ⟨e2, e4⟩⟩
end
mutual
theorem nk_inj : ∀ {d e : D} {n m : Nat}, gd d n = true → gd e m = true → nk d = nk e → d = e
  | .non, .non, _, _, _, _, _ => rfl
  | .non, .int _, _, _, _, _, h => by simp [nk] at h
  | .non, .str _, _, _, _, _, h => by simp [nk] at h
  | .non, .tup xs, _, _, _, _, h => by
    rw [nk, nk] at h
    cases e : nks xs <;> rw [e] at h <;> cases h
  | .int _, .non, _, _, _, _, h => by simp [nk] at h
  | .int _, .int _, _, _, _, _, h => by simp [nk] at h; rw [h]
  | .int _, .str _, _, _, _, _, h => by simp [nk] at h
  | .int _, .tup xs, _, _, _, _, h => by
    rw [nk, nk] at h
    cases e : nks xs <;> rw [e] at h <;> cases h
  | .str _, .non, _, _, _, _, h => by simp [nk] at h
  | .str _, .int _, _, _, _, _, h => by simp [nk] at h
  | .str _, .str _, _, _, _, _, h => by simp [nk] at h; rw [h]
  | .str _, .tup xs, _, _, _, _, h => by
    rw [nk, nk] at h
    cases e : nks xs <;> rw [e] at h <;> cases h
  | .tup xs, .non, _, _, _, _, h => by
    rw [nk, nk] at h
    cases e : nks xs <;> rw [e] at h <;> cases h
  | .tup xs, .int _, _, _, _, _, h => by
    rw [nk, nk] at h
    cases e : nks xs <;> rw [e] at h <;> cases h
  | .tup xs, .str _, _, _, _, _, h => by
    rw [nk, nk] at h
    cases e : nks xs <;> rw [e] at h <;> cases h
  | .tup xs, .tup ys, n + 1, m + 1, a, b, h => by
    rw [gd] at a b
    obtain ⟨q1, e1, _⟩ := gds_nk a
    obtain ⟨q2, e2, _⟩ := gds_nk b
    rw [nk, nk, e1, e2] at h
    rw [nks_inj a b (by rw [e1, e2]; cases h; rfl)]
  | .tup _, .tup _, 0, _, h, _, _ => by rw [gd] at h; cases h
  | .tup _, .tup _, _ + 1, 0, _, h, _ => by rw [gd] at h; cases h
  | .bl _, _, _, _, h, _, _ => by rw [gd] at h; cases h
  | .rol _, _, _, _, h, _, _ => by rw [gd] at h; cases h
  | .loc _, _, _, _, h, _, _ => by rw [gd] at h; cases h
  | .exn _ _ _, _, _, _, h, _, _ => by rw [gd] at h; cases h
  | _, .bl _, _, _, _, h, _ => by rw [gd] at h; cases h
  | _, .rol _, _, _, _, h, _ => by rw [gd] at h; cases h
  | _, .loc _, _, _, _, h, _ => by rw [gd] at h; cases h
  | _, .exn _ _ _, _, _, _, h, _ => by rw [gd] at h; cases h
theorem nks_inj : ∀ {d e : List D} {n m : Nat}, gds d n = true → gds e m = true → nks d = nks e → d = e
  | [], [], _, _, _, _, _ => rfl
  | [], e :: es, _, _, _, b, h => by
    rw [gds, Bool.and_eq_true] at b
    obtain ⟨q1, e1, _⟩ := gd_nk b.1
    obtain ⟨q2, e2, _⟩ := gds_nk b.2
    rw [nks, nks, e1, e2] at h; cases h
  | d :: ds, [], _, _, a, _, h => by
    rw [gds, Bool.and_eq_true] at a
    obtain ⟨q1, e1, _⟩ := gd_nk a.1
    obtain ⟨q2, e2, _⟩ := gds_nk a.2
    rw [nks, nks, e1, e2] at h; cases h
  | d :: ds, e :: es, _, _, a, b, h => by
    rw [gds, Bool.and_eq_true] at a b
    obtain ⟨q1, e1, _⟩ := gd_nk a.1
    obtain ⟨q2, e2, _⟩ := gds_nk a.2
    obtain ⟨q3, e3, _⟩ := gd_nk b.1
    obtain ⟨q4, e4, _⟩ := gds_nk b.2
    rw [nks, nks, e1, e2, e3, e4] at h
    cases h
    rw [nk_inj a.1 b.1 (by rw [e1, e3]), nks_inj a.2 b.2 (by rw [e2, e4])]
end
/-- a good tuple may be a key -/
theorem gd_kTup {xs : List D} {n : Nat} (h : gd (.tup xs) n = true) (hn : n ≤ 8 := by decide) : kTup (.tup xs) = true := by
  obtain ⟨q, e1, e2⟩ := gd_nk h
  unfold kTup
  rw [e1]
  simp [isT]
  omega
/-- a dict whose keys are good tuples -/
def DGood (kvs : List (D × D)) : Prop := ∀ q ∈ kvs, ∃ xs, q.1 = .tup xs ∧ gd q.1 8 = true
theorem DGood.dT {kvs : List (D × D)} (h : DGood kvs) : dT kvs = true := by
  unfold Dn.dT
  rw [List.all_eq_true]
  intro q hq
  obtain ⟨xs, e, _⟩ := h q hq
  rw [e]; rfl
theorem DGood.look {kvs : List (D × D)} (h : DGood kvs) {xs : List D} {n : Nat} (hk : gd (.tup xs) n = true) (hn : n ≤ 8 := by decide) : dlook kvs (.tup xs) = some (dfind kvs (.tup xs)) := by
  unfold dlook
  rw [gd_kTup hk hn, h.dT]
  rfl
/-- what a good dict holds, by the keys themselves -/
theorem DGood.find {kvs : List (D × D)} (h : DGood kvs) {k : D} {n : Nat} (hk : gd k n = true) : dfind kvs k = (kvs.find? fun q => decide (q.1 = k)).map (·.2) := by
  unfold dfind
  congr 1
  induction kvs with
  | nil => rfl
  | cons q l ih =>
    obtain ⟨xs, e, g⟩ := h q List.mem_cons_self
    rw [List.find?_cons, List.find?_cons, ih (fun p hp => h p (List.mem_cons_of_mem _ hp))]
    have : decide (nk q.1 = nk k) = decide (q.1 = k) := decide_eq_decide.mpr ⟨nk_inj g hk, fun z => by rw [z]⟩
    rw [this]
/-- good rows -/
theorem gd_row {xs : List Int} : gd (row xs) 1 = true := by
  unfold row
  rw [gd]
  exact gds_mem.mpr fun d hd => by
    obtain ⟨x, _, rfl⟩ := List.mem_map.mp hd
    rw [gd]
theorem row_inj {xs ys : List Int} : row xs = row ys ↔ xs = ys := ⟨fun h => map_int (by unfold row at h; injection h), fun h => by rw [h]⟩
theorem gd_row2 {xs ys : List Int} : gd (.tup [row xs, row ys]) 2 = true := by
  rw [gd, gds, gds, gds, gd_row, gd_row]; rfl
end Dn

set_option Elab.async false
set_option linter.all false
set_option maxRecDepth 100000
set_option maxHeartbeats 4000000
set_option autoImplicit false
namespace Dn
open PySem PySem.Spec

/-! ### more answers -/
theorem isi_int {own exc bt ow} {i : Int} {mu : Mu} : isiW own exc bt ow (.d (.int i)) mu = some (bt .int) := rfl
theorem isi_tup {own exc bt ow} {xs : List D} {mu : Mu} : isiW own exc bt ow (.d (.tup xs)) mu = some (bt .tup) := rfl
theorem isi_dct {own exc bt ow} {l : Nat} {kvs : List (D × D)} {mu : Mu} (h : mu[l]? = some (.dct kvs)) : isiW own exc bt ow (.d (.loc l)) mu = some (bt .dct) := by
  unfold isiW tagW
  simp only [h]
  rfl
theorem bt_ii : BT.sub .int .int = true := rfl
theorem bt_ib : BT.sub .int .bl = false := rfl
theorem bt_tt : BT.sub .tup .tup = true := rfl
theorem bt_dd : BT.sub .dct .dct = true := rfl
theorem len_tup {xs : List D} {mu : Mu} : lenC [.d (.tup xs)] mu = some (.d (.int xs.length)) := rfl
theorem ix_tup {xs : List D} {i : Int} {mu : Mu} : ixA (.d (.tup xs)) (.d (.int i)) mu = (L2.atI xs i).map .d := rfl
theorem at_0 {α : Type} {x : α} {xs : List α} : L2.atI (x :: xs) 0 = some x := L2.atI_nat (j := 0) rfl
theorem at_1 {α : Type} {x y : α} {xs : List α} : L2.atI (x :: y :: xs) 1 = some y := L2.atI_nat (j := 1) rfl
theorem at_2 {α : Type} {x y z : α} {xs : List α} : L2.atI (x :: y :: z :: xs) 2 = some z := L2.atI_nat (j := 2) rfl
theorem bls_rep (n : Nat) : blsD (List.replicate n (.bl true)) = some (List.replicate n true) := by
  induction n with
  | zero => rfl
  | succ n ih => rw [List.replicate_succ, blsD, ih]; rfl
theorem all_rep {n : Nat} {mu : Mu} : allC [.o (.lst (List.replicate n (.bl true)))] mu = some (.d (.bl true)) := by
  show ((blsD (List.replicate n (.bl true))).map fun bs => Wv.d (D.bl (bs.all id))) = _
  rw [bls_rep]
  simp
theorem len_dct {l : Nat} {kvs : List (D × D)} {mu : Mu} (h : mu[l]? = some (.dct kvs)) (g : DGood kvs) : lenC [.d (.loc l)] mu = some (.d (.int kvs.length)) := by
  unfold lenC dctOf
  simp only [h]
  rw [g.dT]; rfl
theorem ix_lk {l : Nat} {kvs : List (D × D)} {mu : Mu} {xs : List D} {d : D} (h : mu[l]? = some (.lk kvs)) (g : DGood kvs) {n : Nat} (hk : gd (.tup xs) n = true) (e : dfind kvs (.tup xs) = some d) (hn : n ≤ 8 := by decide) : ixA (.d (.loc l)) (.d (.tup xs)) mu = some (.d d) := by
  unfold ixA dctOf
  simp only [h]
  rw [g.look hk hn, e]; rfl
theorem set_back {l : Nat} {m : Mu} {o u : O} (h : m[l]? = some o) : (m.set l u).set l o = m := by
  rw [List.set_set]
  exact List.ext_getElem? fun i => by
    by_cases e : i = l
    · subst e; rw [List.getElem?_set_self (lt_of_get h), h]
    · rw [List.getElem?_set_ne (fun z => e z.symm)]
theorem w_lk {i l : Nat} {kvs : List (D × D)} {s : SX} {ρ : Rho} {m : Mu} {Q : Fl → Rho → Mu → Prop} {E : D → Rho → Mu → Prop} (h1 : ρ[i]? = some (some (.loc l))) (h2 : m[l]? = some (.dct kvs)) (h : WS (s ρ (m.set l (.lk kvs))) (fun f ρ' m' => Q f ρ' (m'.set l (.dct kvs))) E) : WS (sLk (xVar i) s ρ m) Q E := by
  have e : lkOf (xVar i) ρ m = some (l, kvs) := by
    unfold lkOf xVar
    simp only [h1, M.ret, h2]
  unfold sLk
  rw [e]
  dsimp only
  cases q : s ρ (m.set l (.lk kvs)) with
  | ok f ρ' m' => rw [q, w_nxt] at h; exact .ok h
  | ex e ρ' m' => rw [q, w_exc] at h; exact .ex h
  | no => rw [q, w_nos] at h; exact h.elim
theorem w_xlk {i l : Nat} {kvs : List (D × D)} {x : EX} {ρ : Rho} {m : Mu} {Q : Wv → Mu → Prop} {E : D → Mu → Prop} (h1 : ρ[i]? = some (some (.loc l))) (h2 : m[l]? = some (.dct kvs)) (h : WM (x ρ (m.set l (.lk kvs))) (fun w m' => Q w (m'.set l (.dct kvs))) E) : WM (xLk (xVar i) x ρ m) Q E := by
  have e : lkOf (xVar i) ρ m = some (l, kvs) := by
    unfold lkOf xVar
    simp only [h1, M.ret, h2]
  unfold xLk
  rw [e]
  dsimp only
  cases q : x ρ (m.set l (.lk kvs)) with
  | ok f m' => rw [q, w_ok] at h; exact .ok h
  | ex e m' => rw [q, w_ex] at h; exact .ex h
  | no => rw [q, w_no] at h; exact h.elim
theorem w_iAny_lk {e : EX} {ρ : Rho} {m : Mu} {Q : List D × List (Nat × O) → Mu → Prop} {E : D → Mu → Prop} (h : WM (e ρ m) (fun w m1 => ∃ l kvs, w = .d (.loc l) ∧ m1[l]? = some (.lk kvs) ∧ Q (kvs.map (·.1), [(l, .lk kvs)]) m1) E) : WM (iAny e ρ m) Q E := by
  unfold iAny
  rw [w_bind]
  refine h.imp (fun w m1 ⟨l, kvs, e, g, q⟩ => ?_) fun _ _ z => z
  subst e
  simp only [w_opt, g]
  exact q

/-! ### the checks -/
section
variable {m : Mu} {Q : D → Mu → Prop} {E : D → Mu → Prop}
theorem is_integer_ok {i : Int} (k : Q (.bl true) m) : WM (fm_is_integer [.int i] m) Q E := by
  unfold fm_is_integer m_is_integer
  simp only [w_fn, w_ok, w_ex, w_no, w_nos, w_mno, w_exc, w_nxt, w_ret, w_bind, w_opt, w_optM, w_chk, w_of, w_settle_d, w_settle_o, w_cond, w_condS, w_ite, w_iteS, w_iteM, w_var, sIf, sSet, sAug, sSub, sFldS, sRet, sRetN, sDrop, sNil, sAsg, sBreak, sCont, sRaise0, sRaise1, xtAnd, xtOr, xtNot, xB, x1, x2, xC, xCB, xCh, xAnd, xOr, xNot, xIf, xTup, xLst, xDct0, xCall, xM, xMd, xIsi, aNil, aCons, adNil, adCons, xSl, oNo, oI, gN, gT, gsNil, gsCons, List.map, List.append, List.replicate, List.cons_append, List.nil_append, List.append_nil, List.getElem?_cons_zero, List.getElem?_cons_succ, List.set_cons_zero, List.set_cons_succ, List.length_cons, List.length_nil, add_ok, sub_ok, eqi_ok, nei_ok, lti_ok, gti_ok, lei_ok, gei_ok, int_ok, if_true, if_false, cond_true, cond_false, Bool.false_eq_true, true_and, and_true, Option.map_some, Option.bind_some, Nat.reduceAdd, Nat.reduceSub, Nat.reduceLeDiff, reduceIte, isi_int, bt_ii, bt_ib, Bool.not_false]
  exact k
theorem is_between_ok {i a b : Int} (h1 : a ≤ i) (h2 : i ≤ b) (k : Q (.bl true) m) : WM (fm_is_between [.int i, .int a, .int b] m) Q E := by
  unfold fm_is_between m_is_between
  simp only [w_fn, w_ok, w_ex, w_no, w_nos, w_mno, w_exc, w_nxt, w_ret, w_bind, w_opt, w_optM, w_chk, w_of, w_settle_d, w_settle_o, w_cond, w_condS, w_ite, w_iteS, w_iteM, w_var, sIf, sSet, sAug, sSub, sFldS, sRet, sRetN, sDrop, sNil, sAsg, sBreak, sCont, sRaise0, sRaise1, xtAnd, xtOr, xtNot, xB, x1, x2, xC, xCB, xCh, xAnd, xOr, xNot, xIf, xTup, xLst, xDct0, xCall, xM, xMd, xIsi, aNil, aCons, adNil, adCons, xSl, oNo, oI, gN, gT, gsNil, gsCons, List.map, List.append, List.replicate, List.cons_append, List.nil_append, List.append_nil, List.getElem?_cons_zero, List.getElem?_cons_succ, List.set_cons_zero, List.set_cons_succ, List.length_cons, List.length_nil, add_ok, sub_ok, eqi_ok, nei_ok, lti_ok, gti_ok, lei_ok, gei_ok, int_ok, if_true, if_false, cond_true, cond_false, Bool.false_eq_true, true_and, and_true, Option.map_some, Option.bind_some, Nat.reduceAdd, Nat.reduceSub, Nat.reduceLeDiff, reduceIte]
  refine is_integer_ok ?_
  simp only [w_fn, w_ok, w_ex, w_no, w_nos, w_mno, w_exc, w_nxt, w_ret, w_bind, w_opt, w_optM, w_chk, w_of, w_settle_d, w_settle_o, w_cond, w_condS, w_ite, w_iteS, w_iteM, w_var, sIf, sSet, sAug, sSub, sFldS, sRet, sRetN, sDrop, sNil, sAsg, sBreak, sCont, sRaise0, sRaise1, xtAnd, xtOr, xtNot, xB, x1, x2, xC, xCB, xCh, xAnd, xOr, xNot, xIf, xTup, xLst, xDct0, xCall, xM, xMd, xIsi, aNil, aCons, adNil, adCons, xSl, oNo, oI, gN, gT, gsNil, gsCons, List.map, List.append, List.replicate, List.cons_append, List.nil_append, List.append_nil, List.getElem?_cons_zero, List.getElem?_cons_succ, List.set_cons_zero, List.set_cons_succ, List.length_cons, List.length_nil, add_ok, sub_ok, eqi_ok, nei_ok, lti_ok, gti_ok, lei_ok, gei_ok, int_ok, if_true, if_false, cond_true, cond_false, Bool.false_eq_true, true_and, and_true, Option.map_some, Option.bind_some, Nat.reduceAdd, Nat.reduceSub, Nat.reduceLeDiff, reduceIte, h1, h2, decide_true]
  exact k
theorem is_index_ok {i n : Int} (h1 : 0 ≤ i) (h2 : i < n) (k : Q (.bl true) m) : WM (fm_is_index [.int i, .int n] m) Q E := by
  unfold fm_is_index m_is_index
  simp only [w_fn, w_ok, w_ex, w_no, w_nos, w_mno, w_exc, w_nxt, w_ret, w_bind, w_opt, w_optM, w_chk, w_of, w_settle_d, w_settle_o, w_cond, w_condS, w_ite, w_iteS, w_iteM, w_var, sIf, sSet, sAug, sSub, sFldS, sRet, sRetN, sDrop, sNil, sAsg, sBreak, sCont, sRaise0, sRaise1, xtAnd, xtOr, xtNot, xB, x1, x2, xC, xCB, xCh, xAnd, xOr, xNot, xIf, xTup, xLst, xDct0, xCall, xM, xMd, xIsi, aNil, aCons, adNil, adCons, xSl, oNo, oI, gN, gT, gsNil, gsCons, List.map, List.append, List.replicate, List.cons_append, List.nil_append, List.append_nil, List.getElem?_cons_zero, List.getElem?_cons_succ, List.set_cons_zero, List.set_cons_succ, List.length_cons, List.length_nil, add_ok, sub_ok, eqi_ok, nei_ok, lti_ok, gti_ok, lei_ok, gei_ok, int_ok, if_true, if_false, cond_true, cond_false, Bool.false_eq_true, true_and, and_true, Option.map_some, Option.bind_some, Nat.reduceAdd, Nat.reduceSub, Nat.reduceLeDiff, reduceIte]
  exact is_between_ok h1 (by omega) k
theorem is_sounds_ok {xs : List Int} {s : Int} {a b : Nat} (h : RowIn s a b xs) (hb : b ≤ 100) (k : Q (.bl true) m) : WM (fm_is_sounds [row xs, .int s, .int a, .int b] m) Q E := by
  unfold fm_is_sounds m_is_sounds
  unfold row
  have l1 : (a : Int) ≤ xs.length := by exact_mod_cast h.1
  have l2 : (xs.length : Int) ≤ b := by exact_mod_cast h.2.1
  simp only [w_fn, w_ok, w_ex, w_no, w_nos, w_mno, w_exc, w_nxt, w_ret, w_bind, w_opt, w_optM, w_chk, w_of, w_settle_d, w_settle_o, w_cond, w_condS, w_ite, w_iteS, w_iteM, w_var, sIf, sSet, sAug, sSub, sFldS, sRet, sRetN, sDrop, sNil, sAsg, sBreak, sCont, sRaise0, sRaise1, xtAnd, xtOr, xtNot, xB, x1, x2, xC, xCB, xCh, xAnd, xOr, xNot, xIf, xTup, xLst, xDct0, xCall, xM, xMd, xIsi, aNil, aCons, adNil, adCons, xSl, oNo, oI, gN, gT, gsNil, gsCons, List.map, List.append, List.replicate, List.cons_append, List.nil_append, List.append_nil, List.getElem?_cons_zero, List.getElem?_cons_succ, List.set_cons_zero, List.set_cons_succ, List.length_cons, List.length_nil, add_ok, sub_ok, eqi_ok, nei_ok, lti_ok, gti_ok, lei_ok, gei_ok, int_ok, if_true, if_false, cond_true, cond_false, Bool.false_eq_true, true_and, and_true, Option.map_some, Option.bind_some, Nat.reduceAdd, Nat.reduceSub, Nat.reduceLeDiff, reduceIte, w_seq, isi_tup, bt_tt, Bool.not_true, len_tup, List.length_map, l1, l2, decide_true]
  unfold xLc
  rw [w_bind]
  refine w_iAny_tup ?_
  simp only [w_fn, w_ok, w_ex, w_no, w_nos, w_mno, w_exc, w_nxt, w_ret, w_bind, w_opt, w_optM, w_chk, w_of, w_settle_d, w_settle_o, w_cond, w_condS, w_ite, w_iteS, w_iteM, w_var, sIf, sSet, sAug, sSub, sFldS, sRet, sRetN, sDrop, sNil, sAsg, sBreak, sCont, sRaise0, sRaise1, xtAnd, xtOr, xtNot, xB, x1, x2, xC, xCB, xCh, xAnd, xOr, xNot, xIf, xTup, xLst, xDct0, xCall, xM, xMd, xIsi, aNil, aCons, adNil, adCons, xSl, oNo, oI, gN, gT, gsNil, gsCons, List.map, List.append, List.replicate, List.cons_append, List.nil_append, List.append_nil, List.getElem?_cons_zero, List.getElem?_cons_succ, List.set_cons_zero, List.set_cons_succ, List.length_cons, List.length_nil, add_ok, sub_ok, eqi_ok, nei_ok, lti_ok, gti_ok, lei_ok, gei_ok, int_ok, if_true, if_false, cond_true, cond_false, Bool.false_eq_true, true_and, and_true, Option.map_some, Option.bind_some, Nat.reduceAdd, Nat.reduceSub, Nat.reduceLeDiff, reduceIte]
  refine ⟨xs.map .int, .inl rfl, ?_⟩
  refine w_comp (g := gN 4) (tt := ttYes) (I := fun i acc m' => acc = List.replicate i (.bl true) ∧ m' = m) (fun i d acc m' hi hI => ⟨stands_nil, _, rfl, ?_⟩) (fun acc m' hI => ⟨stands_nil, ?_⟩) ⟨rfl, rfl⟩
  · rw [List.getElem?_map] at hi
    obtain ⟨y, hy1, rfl⟩ := Option.map_eq_some_iff.mp hi
    have hil := (List.getElem?_eq_some_iff.mp hy1).1
    obtain ⟨rfl, rfl⟩ := hI
    have hx := h.2.2 y (List.mem_of_getElem? hy1)
    show WM (M.ret true m') _ _
    rw [w_ret, if_pos rfl]
    simp only [w_fn, w_ok, w_ex, w_no, w_nos, w_mno, w_exc, w_nxt, w_ret, w_bind, w_opt, w_optM, w_chk, w_of, w_settle_d, w_settle_o, w_cond, w_condS, w_ite, w_iteS, w_iteM, w_var, sIf, sSet, sAug, sSub, sFldS, sRet, sRetN, sDrop, sNil, sAsg, sBreak, sCont, sRaise0, sRaise1, xtAnd, xtOr, xtNot, xB, x1, x2, xC, xCB, xCh, xAnd, xOr, xNot, xIf, xTup, xLst, xDct0, xCall, xM, xMd, xIsi, aNil, aCons, adNil, adCons, xSl, oNo, oI, gN, gT, gsNil, gsCons, List.map, List.append, List.replicate, List.cons_append, List.nil_append, List.append_nil, List.getElem?_cons_zero, List.getElem?_cons_succ, List.set_cons_zero, List.set_cons_succ, List.length_cons, List.length_nil, add_ok, sub_ok, eqi_ok, nei_ok, lti_ok, gti_ok, lei_ok, gei_ok, int_ok, if_true, if_false, cond_true, cond_false, Bool.false_eq_true, true_and, and_true, Option.map_some, Option.bind_some, Nat.reduceAdd, Nat.reduceSub, Nat.reduceLeDiff, reduceIte, wipeR]
    refine is_index_ok hx.1 hx.2 ?_
    simp only [w_fn, w_ok, w_ex, w_no, w_nos, w_mno, w_exc, w_nxt, w_ret, w_bind, w_opt, w_optM, w_chk, w_of, w_settle_d, w_settle_o, w_cond, w_condS, w_ite, w_iteS, w_iteM, w_var, sIf, sSet, sAug, sSub, sFldS, sRet, sRetN, sDrop, sNil, sAsg, sBreak, sCont, sRaise0, sRaise1, xtAnd, xtOr, xtNot, xB, x1, x2, xC, xCB, xCh, xAnd, xOr, xNot, xIf, xTup, xLst, xDct0, xCall, xM, xMd, xIsi, aNil, aCons, adNil, adCons, xSl, oNo, oI, gN, gT, gsNil, gsCons, List.map, List.append, List.replicate, List.cons_append, List.nil_append, List.append_nil, List.getElem?_cons_zero, List.getElem?_cons_succ, List.set_cons_zero, List.set_cons_succ, List.length_cons, List.length_nil, add_ok, sub_ok, eqi_ok, nei_ok, lti_ok, gti_ok, lei_ok, gei_ok, int_ok, if_true, if_false, cond_true, cond_false, Bool.false_eq_true, true_and, and_true, Option.map_some, Option.bind_some, Nat.reduceAdd, Nat.reduceSub, Nat.reduceLeDiff, reduceIte]
    exact ⟨by rw [List.length_replicate]; have := h.2.1; unfold LIM; omega, (List.replicate_succ' (n := i) (a := D.bl true)).symm⟩
  · obtain ⟨rfl, rfl⟩ := hI
    simp only [w_fn, w_ok, w_ex, w_no, w_nos, w_mno, w_exc, w_nxt, w_ret, w_bind, w_opt, w_optM, w_chk, w_of, w_settle_d, w_settle_o, w_cond, w_condS, w_ite, w_iteS, w_iteM, w_var, sIf, sSet, sAug, sSub, sFldS, sRet, sRetN, sDrop, sNil, sAsg, sBreak, sCont, sRaise0, sRaise1, xtAnd, xtOr, xtNot, xB, x1, x2, xC, xCB, xCh, xAnd, xOr, xNot, xIf, xTup, xLst, xDct0, xCall, xM, xMd, xIsi, aNil, aCons, adNil, adCons, xSl, oNo, oI, gN, gT, gsNil, gsCons, List.map, List.append, List.replicate, List.cons_append, List.nil_append, List.append_nil, List.getElem?_cons_zero, List.getElem?_cons_succ, List.set_cons_zero, List.set_cons_succ, List.length_cons, List.length_nil, add_ok, sub_ok, eqi_ok, nei_ok, lti_ok, gti_ok, lei_ok, gei_ok, int_ok, if_true, if_false, cond_true, cond_false, Bool.false_eq_true, true_and, and_true, Option.map_some, Option.bind_some, Nat.reduceAdd, Nat.reduceSub, Nat.reduceLeDiff, reduceIte, all_rep]
    exact k
theorem is_side_pair_ok {a b : List Int} {s : Int} {ah bh : Nat} (h1 : RowIn s 1 ah a) (h2 : RowIn s 1 bh b) (ha : ah ≤ 100) (hb : bh ≤ 100) (k : Q (.bl true) m) : WM (fm_is_side_pair [.tup [row a, row b], .int s, .int ah, .int bh] m) Q E := by
  unfold fm_is_side_pair m_is_side_pair
  simp only [w_fn, w_ok, w_ex, w_no, w_nos, w_mno, w_exc, w_nxt, w_ret, w_bind, w_opt, w_optM, w_chk, w_of, w_settle_d, w_settle_o, w_cond, w_condS, w_ite, w_iteS, w_iteM, w_var, sIf, sSet, sAug, sSub, sFldS, sRet, sRetN, sDrop, sNil, sAsg, sBreak, sCont, sRaise0, sRaise1, xtAnd, xtOr, xtNot, xB, x1, x2, xC, xCB, xCh, xAnd, xOr, xNot, xIf, xTup, xLst, xDct0, xCall, xM, xMd, xIsi, aNil, aCons, adNil, adCons, xSl, oNo, oI, gN, gT, gsNil, gsCons, List.map, List.append, List.replicate, List.cons_append, List.nil_append, List.append_nil, List.getElem?_cons_zero, List.getElem?_cons_succ, List.set_cons_zero, List.set_cons_succ, List.length_cons, List.length_nil, add_ok, sub_ok, eqi_ok, nei_ok, lti_ok, gti_ok, lei_ok, gei_ok, int_ok, if_true, if_false, cond_true, cond_false, Bool.false_eq_true, true_and, and_true, Option.map_some, Option.bind_some, Nat.reduceAdd, Nat.reduceSub, Nat.reduceLeDiff, reduceIte, w_seq, isi_tup, bt_tt, Bool.not_true, len_tup, ix_tup, at_0, at_1]
  rw [if_neg (by simp)]
  refine is_sounds_ok (a := 1) h1 ha ?_
  simp only [w_fn, w_ok, w_ex, w_no, w_nos, w_mno, w_exc, w_nxt, w_ret, w_bind, w_opt, w_optM, w_chk, w_of, w_settle_d, w_settle_o, w_cond, w_condS, w_ite, w_iteS, w_iteM, w_var, sIf, sSet, sAug, sSub, sFldS, sRet, sRetN, sDrop, sNil, sAsg, sBreak, sCont, sRaise0, sRaise1, xtAnd, xtOr, xtNot, xB, x1, x2, xC, xCB, xCh, xAnd, xOr, xNot, xIf, xTup, xLst, xDct0, xCall, xM, xMd, xIsi, aNil, aCons, adNil, adCons, xSl, oNo, oI, gN, gT, gsNil, gsCons, List.map, List.append, List.replicate, List.cons_append, List.nil_append, List.append_nil, List.getElem?_cons_zero, List.getElem?_cons_succ, List.set_cons_zero, List.set_cons_succ, List.length_cons, List.length_nil, add_ok, sub_ok, eqi_ok, nei_ok, lti_ok, gti_ok, lei_ok, gei_ok, int_ok, if_true, if_false, cond_true, cond_false, Bool.false_eq_true, true_and, and_true, Option.map_some, Option.bind_some, Nat.reduceAdd, Nat.reduceSub, Nat.reduceLeDiff, reduceIte, ix_tup, at_1]
  exact is_sounds_ok (a := 1) h2 hb k
theorem check_sizes_ok {s ah bh : Int} (h1 : 1 ≤ s) (h2 : s ≤ 8) (h3 : 1 ≤ ah) (h4 : ah ≤ 4) (h5 : 1 ≤ bh) (h6 : bh ≤ 4) (k : Q .non m) : WM (fm_check_sizes [.int s, .int ah, .int bh] m) Q E := by
  unfold fm_check_sizes m_check_sizes
  simp only [w_fn, w_ok, w_ex, w_no, w_nos, w_mno, w_exc, w_nxt, w_ret, w_bind, w_opt, w_optM, w_chk, w_of, w_settle_d, w_settle_o, w_cond, w_condS, w_ite, w_iteS, w_iteM, w_var, sIf, sSet, sAug, sSub, sFldS, sRet, sRetN, sDrop, sNil, sAsg, sBreak, sCont, sRaise0, sRaise1, xtAnd, xtOr, xtNot, xB, x1, x2, xC, xCB, xCh, xAnd, xOr, xNot, xIf, xTup, xLst, xDct0, xCall, xM, xMd, xIsi, aNil, aCons, adNil, adCons, xSl, oNo, oI, gN, gT, gsNil, gsCons, List.map, List.append, List.replicate, List.cons_append, List.nil_append, List.append_nil, List.getElem?_cons_zero, List.getElem?_cons_succ, List.set_cons_zero, List.set_cons_succ, List.length_cons, List.length_nil, add_ok, sub_ok, eqi_ok, nei_ok, lti_ok, gti_ok, lei_ok, gei_ok, int_ok, if_true, if_false, cond_true, cond_false, Bool.false_eq_true, true_and, and_true, Option.map_some, Option.bind_some, Nat.reduceAdd, Nat.reduceSub, Nat.reduceLeDiff, reduceIte, w_seq]
  refine is_between_ok h1 h2 ?_
  simp only [w_fn, w_ok, w_ex, w_no, w_nos, w_mno, w_exc, w_nxt, w_ret, w_bind, w_opt, w_optM, w_chk, w_of, w_settle_d, w_settle_o, w_cond, w_condS, w_ite, w_iteS, w_iteM, w_var, sIf, sSet, sAug, sSub, sFldS, sRet, sRetN, sDrop, sNil, sAsg, sBreak, sCont, sRaise0, sRaise1, xtAnd, xtOr, xtNot, xB, x1, x2, xC, xCB, xCh, xAnd, xOr, xNot, xIf, xTup, xLst, xDct0, xCall, xM, xMd, xIsi, aNil, aCons, adNil, adCons, xSl, oNo, oI, gN, gT, gsNil, gsCons, List.map, List.append, List.replicate, List.cons_append, List.nil_append, List.append_nil, List.getElem?_cons_zero, List.getElem?_cons_succ, List.set_cons_zero, List.set_cons_succ, List.length_cons, List.length_nil, add_ok, sub_ok, eqi_ok, nei_ok, lti_ok, gti_ok, lei_ok, gei_ok, int_ok, if_true, if_false, cond_true, cond_false, Bool.false_eq_true, true_and, and_true, Option.map_some, Option.bind_some, Nat.reduceAdd, Nat.reduceSub, Nat.reduceLeDiff, reduceIte, Bool.not_true]
  refine is_between_ok h3 h4 ?_
  simp only [w_fn, w_ok, w_ex, w_no, w_nos, w_mno, w_exc, w_nxt, w_ret, w_bind, w_opt, w_optM, w_chk, w_of, w_settle_d, w_settle_o, w_cond, w_condS, w_ite, w_iteS, w_iteM, w_var, sIf, sSet, sAug, sSub, sFldS, sRet, sRetN, sDrop, sNil, sAsg, sBreak, sCont, sRaise0, sRaise1, xtAnd, xtOr, xtNot, xB, x1, x2, xC, xCB, xCh, xAnd, xOr, xNot, xIf, xTup, xLst, xDct0, xCall, xM, xMd, xIsi, aNil, aCons, adNil, adCons, xSl, oNo, oI, gN, gT, gsNil, gsCons, List.map, List.append, List.replicate, List.cons_append, List.nil_append, List.append_nil, List.getElem?_cons_zero, List.getElem?_cons_succ, List.set_cons_zero, List.set_cons_succ, List.length_cons, List.length_nil, add_ok, sub_ok, eqi_ok, nei_ok, lti_ok, gti_ok, lei_ok, gei_ok, int_ok, if_true, if_false, cond_true, cond_false, Bool.false_eq_true, true_and, and_true, Option.map_some, Option.bind_some, Nat.reduceAdd, Nat.reduceSub, Nat.reduceLeDiff, reduceIte, Bool.not_true]
  refine is_between_ok h5 h6 ?_
  simp only [w_fn, w_ok, w_ex, w_no, w_nos, w_mno, w_exc, w_nxt, w_ret, w_bind, w_opt, w_optM, w_chk, w_of, w_settle_d, w_settle_o, w_cond, w_condS, w_ite, w_iteS, w_iteM, w_var, sIf, sSet, sAug, sSub, sFldS, sRet, sRetN, sDrop, sNil, sAsg, sBreak, sCont, sRaise0, sRaise1, xtAnd, xtOr, xtNot, xB, x1, x2, xC, xCB, xCh, xAnd, xOr, xNot, xIf, xTup, xLst, xDct0, xCall, xM, xMd, xIsi, aNil, aCons, adNil, adCons, xSl, oNo, oI, gN, gT, gsNil, gsCons, List.map, List.append, List.replicate, List.cons_append, List.nil_append, List.append_nil, List.getElem?_cons_zero, List.getElem?_cons_succ, List.set_cons_zero, List.set_cons_succ, List.length_cons, List.length_nil, add_ok, sub_ok, eqi_ok, nei_ok, lti_ok, gti_ok, lei_ok, gei_ok, int_ok, if_true, if_false, cond_true, cond_false, Bool.false_eq_true, true_and, and_true, Option.map_some, Option.bind_some, Nat.reduceAdd, Nat.reduceSub, Nat.reduceLeDiff, reduceIte, Bool.not_true]
  exact k
end
/-! ### tables -/
def Ent (s : Int) (ah bh : Nat) (q : D × D) : Prop := ∃ a b c d : List Int, q = (.tup [row a, row b], .tup [row c, row d]) ∧ RowIn s 1 ah a ∧ RowIn s 1 bh b ∧ RowIn s 1 ah c ∧ RowIn s 1 bh d ∧ c.length = a.length ∧ d.length = b.length
def Tab (s : Int) (ah bh : Nat) (kvs : List (D × D)) : Prop := ∀ q ∈ kvs, Ent s ah bh q
section
variable {s : Int} {ah bh : Nat} {kvs : List (D × D)}
theorem Tab.good (h : Tab s ah bh kvs) : DGood kvs := fun q hq => by
  obtain ⟨a, b, c, d, e, _⟩ := h q hq
  subst e
  exact ⟨_, rfl, gd_mono gd_row2 (by decide)⟩
theorem Tab.put (h : Tab s ah bh kvs) {k v : D} (e : Ent s ah bh (k, v)) : Tab s ah bh (dput kvs k v) ∧ (dput kvs k v).length ≤ kvs.length + 1 ∧ 0 < (dput kvs k v).length := by
  unfold dput
  split
  · rename_i hc
    refine ⟨fun q hq => ?_, by simp, ?_⟩
    · obtain ⟨p, hp, rfl⟩ := List.mem_map.mp hq
      obtain ⟨xs, e1, g1⟩ := h.good p hp
      split
      · rename_i hn
        obtain ⟨a, b, c, d, e2, r⟩ := id e
        injection e2 with e2 e3
        subst e2 e3
        have := nk_inj g1 (gd_mono gd_row2 (show 2 ≤ 8 by decide)) hn
        rw [this]
        exact e
      · exact h p hp
    · rw [List.length_map]
      obtain ⟨p, hp, _⟩ := List.any_eq_true.mp hc
      exact List.length_pos_of_mem hp
  · refine ⟨fun q hq => ?_, by simp, by simp⟩
    rcases List.mem_append.mp hq with z | z
    · exact h q z
    · rw [List.mem_singleton.mp z]; exact e
theorem Tab.find (h : Tab s ah bh kvs) {k : D} {n : Nat} (hk : gd k n = true) : (∃ v, dfind kvs k = some v ∧ Ent s ah bh (k, v)) ∨ dfind kvs k = none ∧ ∀ q ∈ kvs, q.1 ≠ k := by
  rw [h.good.find hk]
  cases e : kvs.find? fun q => decide (q.1 = k) with
  | none => exact .inr ⟨rfl, fun q hq => by have := List.find?_eq_none.mp e q hq; simpa using this⟩
  | some q =>
    have h1 := List.mem_of_find?_eq_some e
    have h2 : q.1 = k := by simpa using List.find?_some e
    exact .inl ⟨q.2, rfl, by rw [← h2]; exact h q h1⟩
end
end Dn

set_option Elab.async false
set_option linter.all false
set_option maxRecDepth 100000
set_option maxHeartbeats 4000000
set_option autoImplicit false
namespace Dn
open PySem PySem.Spec

theorem x_map {e : EX} {i : Nat} {vs : List Nat} {te : EX} {ρ : Rho} {m : Mu} {Q : Wv → Mu → Prop} {E : D → Mu → Prop} (xs : List D) (f : D → D) (he : WM (e ρ m) (fun w m1 => (w = .d (.tup xs) ∨ w = .d (.rol xs) ∨ w = .o (.lst xs)) ∧ m1 = m) E) (hl : xs.length ≤ LIM)
    (turn : ∀ d ∈ xs, WM (te ((wipeR ρ vs).set i (some d)) m) (fun w m' => w = .d (f d) ∧ m' = m) (fun _ _ => False)) (k : Q (.o (.lst (xs.map f))) m) : WM (xLc (iAny e) vs (gN i) ttYes te ρ m) Q E := by
  unfold xLc
  rw [w_bind]
  refine w_iAny_tup (he.imp (fun w m1 ⟨h1, h2⟩ => ⟨xs, h1, ?_⟩) fun _ _ z => z)
  subst h2
  rw [w_bind]
  refine w_comp (g := gN i) (tt := ttYes) (I := fun j acc m' => acc = (xs.take j).map f ∧ m' = m1) (fun j d acc m' hj hI => ⟨stands_nil, _, rfl, ?_⟩) (fun acc m' hI => ⟨stands_nil, ?_⟩) ⟨by simp, rfl⟩
  · obtain ⟨rfl, rfl⟩ := hI
    show WM (M.ret true m') _ _
    rw [w_ret, if_pos rfl]
    have hlt : j < xs.length := (List.getElem?_eq_some_iff.mp hj).1
    refine (turn d (List.mem_of_getElem? hj)).imp (fun w m2 ⟨e1, e2⟩ => ?_) fun _ _ z => z
    subst e1 e2
    rw [w_settle_d]
    refine ⟨?_, ?_, rfl⟩
    · rw [List.length_map, List.length_take]
      omega
    · rw [List.take_add_one, hj]; simp
  · obtain ⟨rfl, rfl⟩ := hI
    rw [w_ret, List.take_length]
    exact k
theorem nell_ok {xs ys : List D} {n k : Nat} {mu : Mu} (h : gds xs n = true) (h2 : gds ys k = true) (hn : n ≤ 63 := by decide) (hk : k ≤ 63 := by decide) : neW (.o (.lst xs)) (.o (.lst ys)) mu = some (.d (.bl (!decide (xs = ys)))) := by
  have sh : ∀ {zs : List D} {j : Nat}, gds zs j = true → j ≤ 63 → SeqAt.shaped (.list (pDs zs)) = true := fun {zs j} g hj => by
    have := gds_lay g
    unfold SeqAt.shaped
    rw [PyData.canLay0, this.1, PyData.depth]
    simp only [Bool.true_and, decide_eq_true_eq]
    omega
  have p : ∀ {zs : List D} {j : Nat}, gds zs j = true → pyW mu (.o (.lst zs)) = some (.list (pDs zs)) := fun {zs j} g => by
    show (pyFs (pyN mu 5) zs).map PyData.list = _
    rw [gds_py g]; rfl
  unfold neW cmpW
  simp only [p h, p h2, sh h hn, sh h2 hk, and_self, if_true, Option.map_some]
  rw [PyData.eqv]
  congr 4
  rw [Bool.eq_iff_iff, gds_eqv h h2, decide_eq_true_iff]
theorem lens_ok {e : EX} {i : Nat} {vs : List Nat} {ρ : Rho} {m : Mu} {Q : Wv → Mu → Prop} {E : D → Mu → Prop} {a b : List Int} (hi : i < (wipeR ρ vs).length) (he : WM (e ρ m) (fun w m1 => w = .d (.tup [row a, row b]) ∧ m1 = m) E) (k : Q (.o (.lst [.int a.length, .int b.length])) m) : WM (xLc (iAny e) vs (gN i) ttYes (xCB lenC (aCons (xVar i) aNil)) ρ m) Q E := by
  refine x_map [row a, row b] (fun d => match d with
    | .tup xs => .int xs.length
    | _ => .non) (he.imp (fun w m1 h => ⟨.inl h.1, h.2⟩) fun _ _ z => z) (by simp [LIM]) (fun d hd => ?_) (by simpa [row] using k)
  have : ∃ xs : List Int, d = row xs := by
    rcases List.mem_cons.mp hd with z | z
    · exact ⟨a, z⟩
    · exact ⟨b, List.mem_singleton.mp z⟩
  obtain ⟨xs, rfl⟩ := this
  have g : ((wipeR ρ vs).set i (some (row xs)))[i]? = some (some (row xs)) := List.getElem?_set_self hi
  unfold row at g ⊢
  simp only [w_fn, w_ok, w_ex, w_no, w_nos, w_mno, w_exc, w_nxt, w_ret, w_bind, w_opt, w_optM, w_chk, w_of, w_settle_d, w_settle_o, w_cond, w_condS, w_ite, w_iteS, w_iteM, w_var, sIf, sSet, sAug, sSub, sFldS, sRet, sRetN, sDrop, sNil, sAsg, sBreak, sCont, sRaise0, sRaise1, xtAnd, xtOr, xtNot, xB, x1, x2, xC, xCB, xCh, xAnd, xOr, xNot, xIf, xTup, xLst, xDct0, xCall, xM, xMd, xIsi, aNil, aCons, adNil, adCons, xSl, oNo, oI, gN, gT, gsNil, gsCons, List.map, List.append, List.replicate, List.cons_append, List.nil_append, List.append_nil, List.getElem?_cons_zero, List.getElem?_cons_succ, List.set_cons_zero, List.set_cons_succ, List.length_cons, List.length_nil, add_ok, sub_ok, eqi_ok, nei_ok, lti_ok, gti_ok, lei_ok, gei_ok, int_ok, if_true, if_false, cond_true, cond_false, Bool.false_eq_true, true_and, and_true, Option.map_some, Option.bind_some, Nat.reduceAdd, Nat.reduceSub, Nat.reduceLeDiff, reduceIte, g, len_tup, and_self]
section
variable {s : Int} {ah bh : Nat} {kvs : List (D × D)} {l : Nat} {m : Mu} {Q : D → Mu → Prop} {E : D → Mu → Prop}
theorem gd_lens {x y : Int} : gds [.int x, .int y] 1 = true := by rw [gds, gds, gds, gd, gd]; rfl
theorem is_table_ok (hm : m[l]? = some (.dct kvs)) (t : Tab s ah bh kvs) (ha : ah ≤ 100) (hb : bh ≤ 100) (hl : kvs.length ≤ 4000) (k : Q (.bl true) m) : WM (fm_is_table [.loc l, .int s, .int ah, .int bh] m) Q E := by
  unfold fm_is_table m_is_table
  have hn : ¬ (4000 < (kvs.length : Int)) := by omega
  simp only [w_fn, w_ok, w_ex, w_no, w_nos, w_mno, w_exc, w_nxt, w_ret, w_bind, w_opt, w_optM, w_chk, w_of, w_settle_d, w_settle_o, w_cond, w_condS, w_ite, w_iteS, w_iteM, w_var, sIf, sSet, sAug, sSub, sFldS, sRet, sRetN, sDrop, sNil, sAsg, sBreak, sCont, sRaise0, sRaise1, xtAnd, xtOr, xtNot, xB, x1, x2, xC, xCB, xCh, xAnd, xOr, xNot, xIf, xTup, xLst, xDct0, xCall, xM, xMd, xIsi, aNil, aCons, adNil, adCons, xSl, oNo, oI, gN, gT, gsNil, gsCons, List.map, List.append, List.replicate, List.cons_append, List.nil_append, List.append_nil, List.getElem?_cons_zero, List.getElem?_cons_succ, List.set_cons_zero, List.set_cons_succ, List.length_cons, List.length_nil, add_ok, sub_ok, eqi_ok, nei_ok, lti_ok, gti_ok, lei_ok, gei_ok, int_ok, if_true, if_false, cond_true, cond_false, Bool.false_eq_true, true_and, and_true, Option.map_some, Option.bind_some, Nat.reduceAdd, Nat.reduceSub, Nat.reduceLeDiff, reduceIte, w_seq, isi_dct hm, bt_dd, Bool.not_true, len_dct hm t.good, hn, decide_false]
  refine w_lk rfl hm ?_
  unfold sFor
  rw [w_of]
  refine w_iAny_lk ?_
  rw [w_var]
  simp only [List.getElem?_cons_zero]
  refine ⟨l, kvs, rfl, get_set hm, ?_⟩
  refine w_loop (fun i ρ m' => m' = m.set l (.lk kvs) ∧ ∃ x y, ρ = [some (.loc l), some (.int s), some (.int ah), some (.int bh), x, y]) (fun i d ρ m' hi hI => ?_) (fun ρ m' hI => ?_) ⟨rfl, _, _, rfl⟩
  · obtain ⟨rfl, x, y, rfl⟩ := hI
    refine ⟨stands_one (get_set hm), _, rfl, ?_⟩
    rw [List.getElem?_map] at hi
    obtain ⟨q, hq, rfl⟩ := Option.map_eq_some_iff.mp hi
    have hq := List.mem_of_getElem? hq
    obtain ⟨a, b, c, d, e, r1, r2, _, _, _, _⟩ := t q hq
    subst e
    have hlk := get_set (o := .lk kvs) hm
    rcases t.find (k := .tup [row a, row b]) gd_row2 with ⟨v, e1, a', b', c', d', e2, _, _, r5, r6, r7, r8⟩ | ⟨_, no⟩
    · injection e2 with e2 e3
      injection e2 with e2
      injection e2 with e4 e5
      injection e5 with e5
      rw [row_inj] at e4 e5
      subst e3 e4 e5
      have hix := ix_lk hlk t.good gd_row2 e1
      simp only [w_fn, w_ok, w_ex, w_no, w_nos, w_mno, w_exc, w_nxt, w_ret, w_bind, w_opt, w_optM, w_chk, w_of, w_settle_d, w_settle_o, w_cond, w_condS, w_ite, w_iteS, w_iteM, w_var, sIf, sSet, sAug, sSub, sFldS, sRet, sRetN, sDrop, sNil, sAsg, sBreak, sCont, sRaise0, sRaise1, xtAnd, xtOr, xtNot, xB, x1, x2, xC, xCB, xCh, xAnd, xOr, xNot, xIf, xTup, xLst, xDct0, xCall, xM, xMd, xIsi, aNil, aCons, adNil, adCons, xSl, oNo, oI, gN, gT, gsNil, gsCons, List.map, List.append, List.replicate, List.cons_append, List.nil_append, List.append_nil, List.getElem?_cons_zero, List.getElem?_cons_succ, List.set_cons_zero, List.set_cons_succ, List.length_cons, List.length_nil, add_ok, sub_ok, eqi_ok, nei_ok, lti_ok, gti_ok, lei_ok, gei_ok, int_ok, if_true, if_false, cond_true, cond_false, Bool.false_eq_true, true_and, and_true, Option.map_some, Option.bind_some, Nat.reduceAdd, Nat.reduceSub, Nat.reduceLeDiff, reduceIte, w_seq]
      refine is_side_pair_ok r1 r2 ha hb ?_
      simp only [w_fn, w_ok, w_ex, w_no, w_nos, w_mno, w_exc, w_nxt, w_ret, w_bind, w_opt, w_optM, w_chk, w_of, w_settle_d, w_settle_o, w_cond, w_condS, w_ite, w_iteS, w_iteM, w_var, sIf, sSet, sAug, sSub, sFldS, sRet, sRetN, sDrop, sNil, sAsg, sBreak, sCont, sRaise0, sRaise1, xtAnd, xtOr, xtNot, xB, x1, x2, xC, xCB, xCh, xAnd, xOr, xNot, xIf, xTup, xLst, xDct0, xCall, xM, xMd, xIsi, aNil, aCons, adNil, adCons, xSl, oNo, oI, gN, gT, gsNil, gsCons, List.map, List.append, List.replicate, List.cons_append, List.nil_append, List.append_nil, List.getElem?_cons_zero, List.getElem?_cons_succ, List.set_cons_zero, List.set_cons_succ, List.length_cons, List.length_nil, add_ok, sub_ok, eqi_ok, nei_ok, lti_ok, gti_ok, lei_ok, gei_ok, int_ok, if_true, if_false, cond_true, cond_false, Bool.false_eq_true, true_and, and_true, Option.map_some, Option.bind_some, Nat.reduceAdd, Nat.reduceSub, Nat.reduceLeDiff, reduceIte, Bool.not_true, hix]
      refine is_side_pair_ok r5 r6 ha hb ?_
      simp only [w_fn, w_ok, w_ex, w_no, w_nos, w_mno, w_exc, w_nxt, w_ret, w_bind, w_opt, w_optM, w_chk, w_of, w_settle_d, w_settle_o, w_cond, w_condS, w_ite, w_iteS, w_iteM, w_var, sIf, sSet, sAug, sSub, sFldS, sRet, sRetN, sDrop, sNil, sAsg, sBreak, sCont, sRaise0, sRaise1, xtAnd, xtOr, xtNot, xB, x1, x2, xC, xCB, xCh, xAnd, xOr, xNot, xIf, xTup, xLst, xDct0, xCall, xM, xMd, xIsi, aNil, aCons, adNil, adCons, xSl, oNo, oI, gN, gT, gsNil, gsCons, List.map, List.append, List.replicate, List.cons_append, List.nil_append, List.append_nil, List.getElem?_cons_zero, List.getElem?_cons_succ, List.set_cons_zero, List.set_cons_succ, List.length_cons, List.length_nil, add_ok, sub_ok, eqi_ok, nei_ok, lti_ok, gti_ok, lei_ok, gei_ok, int_ok, if_true, if_false, cond_true, cond_false, Bool.false_eq_true, true_and, and_true, Option.map_some, Option.bind_some, Nat.reduceAdd, Nat.reduceSub, Nat.reduceLeDiff, reduceIte, Bool.not_true]
      refine lens_ok (by simp [wipeR]) (by rw [w_var]; simp only [List.getElem?_cons_zero, List.getElem?_cons_succ]; exact ⟨rfl, trivial⟩) ?_
      refine lens_ok (a := c') (b := d') (by simp [wipeR]) (by simp only [w_fn, w_ok, w_ex, w_no, w_nos, w_mno, w_exc, w_nxt, w_ret, w_bind, w_opt, w_optM, w_chk, w_of, w_settle_d, w_settle_o, w_cond, w_condS, w_ite, w_iteS, w_iteM, w_var, sIf, sSet, sAug, sSub, sFldS, sRet, sRetN, sDrop, sNil, sAsg, sBreak, sCont, sRaise0, sRaise1, xtAnd, xtOr, xtNot, xB, x1, x2, xC, xCB, xCh, xAnd, xOr, xNot, xIf, xTup, xLst, xDct0, xCall, xM, xMd, xIsi, aNil, aCons, adNil, adCons, xSl, oNo, oI, gN, gT, gsNil, gsCons, List.map, List.append, List.replicate, List.cons_append, List.nil_append, List.append_nil, List.getElem?_cons_zero, List.getElem?_cons_succ, List.set_cons_zero, List.set_cons_succ, List.length_cons, List.length_nil, add_ok, sub_ok, eqi_ok, nei_ok, lti_ok, gti_ok, lei_ok, gei_ok, int_ok, if_true, if_false, cond_true, cond_false, Bool.false_eq_true, true_and, and_true, Option.map_some, Option.bind_some, Nat.reduceAdd, Nat.reduceSub, Nat.reduceLeDiff, reduceIte, hix]) ?_
      rw [r7, r8]
      simp only [w_fn, w_ok, w_ex, w_no, w_nos, w_mno, w_exc, w_nxt, w_ret, w_bind, w_opt, w_optM, w_chk, w_of, w_settle_d, w_settle_o, w_cond, w_condS, w_ite, w_iteS, w_iteM, w_var, sIf, sSet, sAug, sSub, sFldS, sRet, sRetN, sDrop, sNil, sAsg, sBreak, sCont, sRaise0, sRaise1, xtAnd, xtOr, xtNot, xB, x1, x2, xC, xCB, xCh, xAnd, xOr, xNot, xIf, xTup, xLst, xDct0, xCall, xM, xMd, xIsi, aNil, aCons, adNil, adCons, xSl, oNo, oI, gN, gT, gsNil, gsCons, List.map, List.append, List.replicate, List.cons_append, List.nil_append, List.append_nil, List.getElem?_cons_zero, List.getElem?_cons_succ, List.set_cons_zero, List.set_cons_succ, List.length_cons, List.length_nil, add_ok, sub_ok, eqi_ok, nei_ok, lti_ok, gti_ok, lei_ok, gei_ok, int_ok, if_true, if_false, cond_true, cond_false, Bool.false_eq_true, true_and, and_true, Option.map_some, Option.bind_some, Nat.reduceAdd, Nat.reduceSub, Nat.reduceLeDiff, reduceIte, nell_ok gd_lens gd_lens, decide_true, Bool.not_true]
      exact ⟨_, _, rfl⟩
    · exact absurd rfl (no _ hq)
  · obtain ⟨rfl, x, y, rfl⟩ := hI
    refine ⟨stands_one (get_set hm), ?_⟩
    rw [set_back hm]
    simp only [w_fn, w_ok, w_ex, w_no, w_nos, w_mno, w_exc, w_nxt, w_ret, w_bind, w_opt, w_optM, w_chk, w_of, w_settle_d, w_settle_o, w_cond, w_condS, w_ite, w_iteS, w_iteM, w_var, sIf, sSet, sAug, sSub, sFldS, sRet, sRetN, sDrop, sNil, sAsg, sBreak, sCont, sRaise0, sRaise1, xtAnd, xtOr, xtNot, xB, x1, x2, xC, xCB, xCh, xAnd, xOr, xNot, xIf, xTup, xLst, xDct0, xCall, xM, xMd, xIsi, aNil, aCons, adNil, adCons, xSl, oNo, oI, gN, gT, gsNil, gsCons, List.map, List.append, List.replicate, List.cons_append, List.nil_append, List.append_nil, List.getElem?_cons_zero, List.getElem?_cons_succ, List.set_cons_zero, List.set_cons_succ, List.length_cons, List.length_nil, add_ok, sub_ok, eqi_ok, nei_ok, lti_ok, gti_ok, lei_ok, gei_ok, int_ok, if_true, if_false, cond_true, cond_false, Bool.false_eq_true, true_and, and_true, Option.map_some, Option.bind_some, Nat.reduceAdd, Nat.reduceSub, Nat.reduceLeDiff, reduceIte]
    exact k
end
/-! ### books -/
def BookAt (l : Nat) (s : Int) (ah bh : Nat) (kvs : List (D × D)) (m : Mu) : Prop := ∃ lt, m[l]? = some (.ins "Book" [("kept_sounds", .int s), ("kept_ahead", .int ah), ("kept_behind", .int bh), ("kept_table", .loc lt)]) ∧ m[lt]? = some (.dct kvs)
theorem BookAt.fr {l : Nat} {s : Int} {ah bh : Nat} {kvs : List (D × D)} {m m' : Mu} (h : BookAt l s ah bh kvs m) (f : Fr [] m m') : BookAt l s ah bh kvs m' := by
  obtain ⟨lt, h1, h2⟩ := h
  exact ⟨lt, f.get h1, f.get h2⟩
theorem putD_nil {f : Str} {d : D} : putD f d [] = [(f, d)] := rfl
theorem iItems_lk {l : Nat} {kvs : List (D × D)} {i : Nat} {ρ : Rho} {m : Mu} {Q : List D × List (Nat × O) → Mu → Prop} {E : D → Mu → Prop} (h1 : ρ[i]? = some (some (.loc l))) (h2 : m[l]? = some (.lk kvs)) (k : Q (kvs.map fun q => .tup [q.1, q.2], [(l, .lk kvs)]) m) : WM (iItemsD (xVar i) ρ m) Q E := by
  unfold iItemsD
  rw [w_bind, w_var]
  simp only [h1, w_opt, h2]
  exact k
theorem dput_le (kvs : List (D × D)) (k v : D) : (dput kvs k v).length ≤ kvs.length + 1 := by
  unfold dput
  split <;> simp
section
variable {s : Int} {ah bh : Nat} {kvs : List (D × D)} {l lt : Nat} {m : Mu} {Q : D → Mu → Prop} {E : D → Mu → Prop}
theorem keep_ok (hl : m[l]? = some (.ins "Book" [])) (hm : m[lt]? = some (.dct kvs)) (hne : lt ≠ l) (t : Tab s ah bh kvs) (hlen : kvs.length ≤ 4000)
    (k : ∀ kvs' m', Tab s ah bh kvs' → (kvs = [] → kvs' = []) → BookAt l s ah bh kvs' m' → m[lt]? = m'[lt]? → Fr [l] m m' → Q .non m') : WM (fm_Book_keep [.loc l, .int s, .int ah, .int bh, .loc lt] m) Q E := by
  unfold fm_Book_keep m_Book_keep
  have hs1 : atab.has "Book" "kept_sounds" = true := by decide +kernel
  have hs2 : atab.has "Book" "kept_ahead" = true := by decide +kernel
  have hs3 : atab.has "Book" "kept_behind" = true := by decide +kernel
  have hs4 : atab.has "Book" "kept_table" = true := by decide +kernel
  have n1 : ¬ (("kept_sounds" : Str) = "kept_ahead") := by decide +kernel
  have n2 : ¬ (("kept_sounds" : Str) = "kept_behind") := by decide +kernel
  have n3 : ¬ (("kept_ahead" : Str) = "kept_behind") := by decide +kernel
  have n4 : ¬ (("kept_sounds" : Str) = "kept_table") := by decide +kernel
  have n5 : ¬ (("kept_ahead" : Str) = "kept_table") := by decide +kernel
  have n6 : ¬ (("kept_behind" : Str) = "kept_table") := by decide +kernel
  have z1 : ∀ {a b : D}, putD "kept_ahead" b [(("kept_sounds" : Str), a)] = [(("kept_sounds" : Str), a), (("kept_ahead" : Str), b)] := fun {a b} => by rw [putD, if_neg n1, putD]
  have z2 : ∀ {a b c : D}, putD "kept_behind" c [(("kept_sounds" : Str), a), (("kept_ahead" : Str), b)] = [(("kept_sounds" : Str), a), (("kept_ahead" : Str), b), (("kept_behind" : Str), c)] := fun {a b c} => by rw [putD, if_neg n2, putD, if_neg n3, putD]
  have z3 : ∀ {a b c d : D}, putD "kept_table" d [(("kept_sounds" : Str), a), (("kept_ahead" : Str), b), (("kept_behind" : Str), c)] = [(("kept_sounds" : Str), a), (("kept_ahead" : Str), b), (("kept_behind" : Str), c), (("kept_table" : Str), d)] := fun {a b c d} => by rw [putD, if_neg n4, putD, if_neg n5, putD, if_neg n6, putD]
  have g1 := get_set (o := .ins "Book" [("kept_sounds", .int s)]) hl
  have g2 := get_set (o := .ins "Book" [("kept_sounds", .int s), ("kept_ahead", .int ah)]) g1
  have g3 := get_set (o := .ins "Book" [("kept_sounds", .int s), ("kept_ahead", .int ah), ("kept_behind", .int bh)]) g2
  simp only [w_fn, w_ok, w_ex, w_no, w_nos, w_mno, w_exc, w_nxt, w_ret, w_bind, w_opt, w_optM, w_chk, w_of, w_settle_d, w_settle_o, w_cond, w_condS, w_ite, w_iteS, w_iteM, w_var, sIf, sSet, sAug, sSub, sFldS, sRet, sRetN, sDrop, sNil, sAsg, sBreak, sCont, sRaise0, sRaise1, xtAnd, xtOr, xtNot, xB, x1, x2, xC, xCB, xCh, xAnd, xOr, xNot, xIf, xTup, xLst, xDct0, xCall, xM, xMd, xIsi, aNil, aCons, adNil, adCons, xSl, oNo, oI, gN, gT, gsNil, gsCons, List.map, List.append, List.replicate, List.cons_append, List.nil_append, List.append_nil, List.getElem?_cons_zero, List.getElem?_cons_succ, List.set_cons_zero, List.set_cons_succ, List.length_cons, List.length_nil, add_ok, sub_ok, eqi_ok, nei_ok, lti_ok, gti_ok, lei_ok, gei_ok, int_ok, if_true, if_false, cond_true, cond_false, Bool.false_eq_true, true_and, and_true, Option.map_some, Option.bind_some, Nat.reduceAdd, Nat.reduceSub, Nat.reduceLeDiff, reduceIte, w_seq, hl, hs1, putD_nil, g1, hs2, z1, g2, hs3, z2, Nat.lt_irrefl, show (0 : Nat) < 1000 from by decide, show (1 : Nat) < 1000 from by decide, show (2 : Nat) < 1000 from by decide]
  generalize hm3 : ((m.set l (.ins "Book" [("kept_sounds", .int s)])).set l (.ins "Book" [("kept_sounds", .int s), ("kept_ahead", .int ah)])).set l (.ins "Book" [("kept_sounds", .int s), ("kept_ahead", .int ah), ("kept_behind", .int bh)]) = m3
  rw [hm3] at g3
  have f3 : Fr [l] m m3 := by
    rw [← hm3]
    exact ((Fr.set (by simp)).trans (Fr.set (by simp))).trans (Fr.set (by simp))
  have t3 : m3[lt]? = some (.dct kvs) := f3.2 lt _ (by simpa using hne) hm
  refine w_xlk rfl t3 ?_
  unfold xDc
  rw [w_bind]
  refine iItems_lk rfl (get_set t3) ?_
  rw [w_bind]
  refine w_compD (g := gT 2 (gsCons (gN 5) (gsCons (gN 6) gsNil))) (I := fun i acc m' => m' = m3.set lt (.lk kvs) ∧ Tab s ah bh acc ∧ acc.length ≤ i ∧ (kvs = [] → acc = [])) (fun i d acc m' hi hI => ?_) (fun acc m' hI => ?_) ⟨rfl, fun _ h => (nomatch h), Nat.zero_le _, fun _ => rfl⟩
  · obtain ⟨rfl, ta, la, ea⟩ := hI
    refine ⟨stands_one (get_set t3), ?_⟩
    rw [List.getElem?_map] at hi
    obtain ⟨q, hq, rfl⟩ := Option.map_eq_some_iff.mp hi
    have hil := (List.getElem?_eq_some_iff.mp hq).1
    have hqm := List.mem_of_getElem? hq
    have en := t q hqm
    obtain ⟨a, b, c, d, e, _⟩ := id en
    subst e
    refine ⟨_, rfl, ?_⟩
    simp only [w_fn, w_ok, w_ex, w_no, w_nos, w_mno, w_exc, w_nxt, w_ret, w_bind, w_opt, w_optM, w_chk, w_of, w_settle_d, w_settle_o, w_cond, w_condS, w_ite, w_iteS, w_iteM, w_var, sIf, sSet, sAug, sSub, sFldS, sRet, sRetN, sDrop, sNil, sAsg, sBreak, sCont, sRaise0, sRaise1, xtAnd, xtOr, xtNot, xB, x1, x2, xC, xCB, xCh, xAnd, xOr, xNot, xIf, xTup, xLst, xDct0, xCall, xM, xMd, xIsi, aNil, aCons, adNil, adCons, xSl, oNo, oI, gN, gT, gsNil, gsCons, List.map, List.append, List.replicate, List.cons_append, List.nil_append, List.append_nil, List.getElem?_cons_zero, List.getElem?_cons_succ, List.set_cons_zero, List.set_cons_succ, List.length_cons, List.length_nil, add_ok, sub_ok, eqi_ok, nei_ok, lti_ok, gti_ok, lei_ok, gei_ok, int_ok, if_true, if_false, cond_true, cond_false, Bool.false_eq_true, true_and, and_true, Option.map_some, Option.bind_some, Nat.reduceAdd, Nat.reduceSub, Nat.reduceLeDiff, reduceIte, wipeR, neg_ok gd_row2 gd_row2]
    split
    · refine ⟨?_, (ta.put en).1, Nat.le_trans (dput_le _ _ _) (by omega), fun z => by rw [z] at hqm; cases hqm⟩
      unfold kOk
      rw [gd_kTup gd_row2, ta.good.dT]
      simp only [Bool.and_self, Bool.true_or, Bool.true_and, decide_eq_true_eq]
      unfold LIM
      omega
    · exact ⟨ta, by omega, ea⟩
  · obtain ⟨rfl, ta, la, ea⟩ := hI
    refine ⟨stands_one (get_set t3), ?_⟩
    rw [w_ret, set_back t3]
    have g4 : (m3 ++ [O.dct acc])[l]? = some (.ins "Book" [("kept_sounds", .int s), ("kept_ahead", .int ah), ("kept_behind", .int bh)]) := by
      rw [List.getElem?_append_left (lt_of_get g3)]; exact g3
    simp only [w_fn, w_ok, w_ex, w_no, w_nos, w_mno, w_exc, w_nxt, w_ret, w_bind, w_opt, w_optM, w_chk, w_of, w_settle_d, w_settle_o, w_cond, w_condS, w_ite, w_iteS, w_iteM, w_var, sIf, sSet, sAug, sSub, sFldS, sRet, sRetN, sDrop, sNil, sAsg, sBreak, sCont, sRaise0, sRaise1, xtAnd, xtOr, xtNot, xB, x1, x2, xC, xCB, xCh, xAnd, xOr, xNot, xIf, xTup, xLst, xDct0, xCall, xM, xMd, xIsi, aNil, aCons, adNil, adCons, xSl, oNo, oI, gN, gT, gsNil, gsCons, List.map, List.append, List.replicate, List.cons_append, List.nil_append, List.append_nil, List.getElem?_cons_zero, List.getElem?_cons_succ, List.set_cons_zero, List.set_cons_succ, List.length_cons, List.length_nil, add_ok, sub_ok, eqi_ok, nei_ok, lti_ok, gti_ok, lei_ok, gei_ok, int_ok, if_true, if_false, cond_true, cond_false, Bool.false_eq_true, true_and, and_true, Option.map_some, Option.bind_some, Nat.reduceAdd, Nat.reduceSub, Nat.reduceLeDiff, reduceIte, g4, hs4, z3, show (3 : Nat) < 1000 from by decide]
    have hll := lt_of_get g3
    have htl := lt_of_get t3
    refine k acc _ ta ea ⟨m3.length, get_set g4, ?_⟩ ?_ ?_
    · rw [List.getElem?_set_ne (by omega)]; exact get_app
    · rw [List.getElem?_set_ne (fun z => hne z.symm), List.getElem?_append_left htl, hm, t3]
    · exact (f3.trans Fr.app).trans (Fr.set (by simp))
end
end Dn

set_option Elab.async false
set_option linter.all false
set_option maxRecDepth 100000
set_option maxHeartbeats 4000000
set_option autoImplicit false
namespace Dn
open PySem PySem.Spec

section
variable {s : Int} {ah bh : Nat} {kvs : List (D × D)} {l lt : Nat} {m : Mu} {Q : D → Mu → Prop} {E : D → Mu → Prop}
theorem init_ok (hl : m[l]? = some (.ins "Book" [])) (hm : m[lt]? = some (.dct kvs)) (hne : lt ≠ l) (t : Tab s ah bh kvs) (hlen : kvs.length ≤ 4000) (h1 : 1 ≤ s) (h2 : s ≤ 8) (h3 : 1 ≤ ah) (h4 : ah ≤ 4) (h5 : 1 ≤ bh) (h6 : bh ≤ 4)
    (k : ∀ kvs' m', Tab s ah bh kvs' → (kvs = [] → kvs' = []) → BookAt l s ah bh kvs' m' → m[lt]? = m'[lt]? → Fr [l] m m' → Q .non m') : WM (fm_Book_init [.loc l, .int s, .int ah, .int bh, .loc lt] m) Q E := by
  unfold fm_Book_init m_Book_init
  have hk : (MTab.get [("Book", fm_Book_keep)] "Book") = some fm_Book_keep := by
    unfold MTab.get
    rw [List.find?_cons, decide_eq_true rfl]
    rfl
  simp only [w_fn, w_ok, w_ex, w_no, w_nos, w_mno, w_exc, w_nxt, w_ret, w_bind, w_opt, w_optM, w_chk, w_of, w_settle_d, w_settle_o, w_cond, w_condS, w_ite, w_iteS, w_iteM, w_var, sIf, sSet, sAug, sSub, sFldS, sRet, sRetN, sDrop, sNil, sAsg, sBreak, sCont, sRaise0, sRaise1, xtAnd, xtOr, xtNot, xB, x1, x2, xC, xCB, xCh, xAnd, xOr, xNot, xIf, xTup, xLst, xDct0, xCall, xM, xMd, xIsi, aNil, aCons, adNil, adCons, xSl, oNo, oI, gN, gT, gsNil, gsCons, List.map, List.append, List.replicate, List.cons_append, List.nil_append, List.append_nil, List.getElem?_cons_zero, List.getElem?_cons_succ, List.set_cons_zero, List.set_cons_succ, List.length_cons, List.length_nil, add_ok, sub_ok, eqi_ok, nei_ok, lti_ok, gti_ok, lei_ok, gei_ok, int_ok, if_true, if_false, cond_true, cond_false, Bool.false_eq_true, true_and, and_true, Option.map_some, Option.bind_some, Nat.reduceAdd, Nat.reduceSub, Nat.reduceLeDiff, reduceIte, w_seq]
  refine check_sizes_ok h1 h2 (by omega) (by omega) (by omega) (by omega) ?_
  refine is_table_ok hm t (by omega) (by omega) hlen ?_
  simp only [w_fn, w_ok, w_ex, w_no, w_nos, w_mno, w_exc, w_nxt, w_ret, w_bind, w_opt, w_optM, w_chk, w_of, w_settle_d, w_settle_o, w_cond, w_condS, w_ite, w_iteS, w_iteM, w_var, sIf, sSet, sAug, sSub, sFldS, sRet, sRetN, sDrop, sNil, sAsg, sBreak, sCont, sRaise0, sRaise1, xtAnd, xtOr, xtNot, xB, x1, x2, xC, xCB, xCh, xAnd, xOr, xNot, xIf, xTup, xLst, xDct0, xCall, xM, xMd, xIsi, aNil, aCons, adNil, adCons, xSl, oNo, oI, gN, gT, gsNil, gsCons, List.map, List.append, List.replicate, List.cons_append, List.nil_append, List.append_nil, List.getElem?_cons_zero, List.getElem?_cons_succ, List.set_cons_zero, List.set_cons_succ, List.length_cons, List.length_nil, add_ok, sub_ok, eqi_ok, nei_ok, lti_ok, gti_ok, lei_ok, gei_ok, int_ok, if_true, if_false, cond_true, cond_false, Bool.false_eq_true, true_and, and_true, Option.map_some, Option.bind_some, Nat.reduceAdd, Nat.reduceSub, Nat.reduceLeDiff, reduceIte, Bool.not_true, xMeth, hl, List.find?_nil, Option.isNone_none, hk]
  exact keep_ok hl hm hne t hlen k
theorem w_make {c : Str} {n : Nat} {F : FM} {ds : List D} {m : Mu} {Q : Wv → Mu → Prop} {E : D → Mu → Prop} {ads : AX} {ρ : Rho} (ha : WM (ads ρ m) (fun ds m1 => ds.length + 1 = n ∧ WM (F (.loc m1.length :: ds) (m1 ++ [.ins c []])) (fun d m2 => d = .non ∧ Q (.d (.loc m1.length)) m2) E) E) : WM (xMake c n F ads ρ m) Q E := by
  unfold xMake
  rw [w_bind]
  refine ha.imp (fun ds m1 ⟨h1, h2⟩ => ?_) fun _ _ z => z
  rw [if_pos h1]
  cases q : F (.loc m1.length :: ds) (m1 ++ [.ins c []]) with
  | ok d m2 =>
    rw [q, w_ok] at h2
    obtain ⟨rfl, h2⟩ := h2
    exact .ok h2
  | ex e m2 => rw [q, w_ex] at h2; exact .ex h2
  | no => rw [q, w_no] at h2; exact h2.elim
end
/-! ### joining -/
theorem cut_last {xs : List D} {k : Nat} (hk : 0 < k) : cutD xs (some (-(k : Int))) none = xs.drop (xs.length - k) := by
  unfold cutD
  have e1 : HT.sIx xs.length 0 (some (-(k : Int))) = xs.length - k := by
    show (if (-(k : Int)) < 0 then ((-(k : Int)) + (xs.length : Int)).toNat else _) = _
    rw [if_pos (by omega)]
    omega
  rw [e1]
  exact List.take_of_length_le (by rw [List.length_drop]; exact Nat.le_refl _)
theorem cut_take {xs : List D} {k : Nat} : cutD xs none (some (k : Int)) = xs.take k := by
  unfold cutD
  rw [HT.sIx_nat, HT.sIx_none, List.drop_zero, Nat.sub_zero]
  exact List.take_eq_take_iff.mpr (by omega)
theorem cut_drop {xs : List D} {k : Nat} : cutD xs (some (k : Int)) none = xs.drop k := by
  unfold cutD
  rw [HT.sIx_nat, HT.sIx_none]
  by_cases h : k ≤ xs.length
  · rw [Nat.min_eq_left h]
    exact List.take_of_length_le (by rw [List.length_drop]; exact Nat.le_refl _)
  · rw [Nat.min_eq_right (by omega), Nat.sub_self, List.take_zero, List.drop_eq_nil_of_le (by omega)]
theorem sl_tup {xs : List D} {lo hi : Option Int} {mu : Mu} : slW (.d (.tup xs)) lo hi mu = some (.d (.tup (cutD xs lo hi))) := rfl
def unrow : D → List Int
  | .tup xs => xs.map fun d => match d with
    | .int i => i
    | _ => 0
  | _ => []
theorem unrow_row {xs : List Int} : unrow (row xs) = xs := by
  show List.map _ (List.map D.int xs) = xs
  rw [List.map_map]
  exact List.map_id' _
/-- what the table tells -/
def TF (kvs : List (D × D)) (a b : List Int) : List Int × List Int := match dfind kvs (.tup [row a, row b]) with
  | some (.tup [x, y]) => (unrow x, unrow y)
  | _ => (a, b)
def joinP (ah bh : Nat) (kvs : List (D × D)) (x y : List Int) : List Int × List Int :=
  let a := x.drop (x.length - ah)
  let b := y.take bh
  (x.take (x.length - a.length) ++ (TF kvs a b).1, (TF kvs a b).2 ++ y.drop b.length)
def metP (ah bh : Nat) (kvs : List (D × D)) (x y : List Int) : List Int := (joinP ah bh kvs x y).1 ++ (joinP ah bh kvs x y).2
def matP (ah bh : Nat) (kvs : List (D × D)) (x y z : List Int) : Bool := decide (metP ah bh kvs x (metP ah bh kvs y z) ≠ metP ah bh kvs (metP ah bh kvs x y) z)
section
variable {s : Int} {ah bh : Nat} {kvs : List (D × D)} {l lt : Nat} {m : Mu} {Q : D → Mu → Prop} {E : D → Mu → Prop}
theorem TF_cases (t : Tab s ah bh kvs) (a b : List Int) : dfind kvs (.tup [row a, row b]) = some (.tup [row (TF kvs a b).1, row (TF kvs a b).2]) ∧ (TF kvs a b).1.length = a.length ∧ (TF kvs a b).2.length = b.length ∨ dfind kvs (.tup [row a, row b]) = none ∧ TF kvs a b = (a, b) := by
  rcases t.find (k := .tup [row a, row b]) gd_row2 with ⟨v, e1, a', b', c, d, e2, _, _, _, _, r7, r8⟩ | ⟨e1, _⟩
  · injection e2 with e2 e3
    injection e2 with e2
    injection e2 with e4 e5
    injection e5 with e5
    rw [row_inj] at e4 e5
    subst e3 e4 e5
    left
    unfold TF
    rw [e1]
    simp only [unrow_row]
    exact ⟨trivial, r7, r8⟩
  · right
    unfold TF
    rw [e1]
    exact ⟨rfl, rfl⟩
theorem TF_len (t : Tab s ah bh kvs) (a b : List Int) : (TF kvs a b).1.length = a.length ∧ (TF kvs a b).2.length = b.length := by
  rcases TF_cases t a b with ⟨_, h1, h2⟩ | ⟨_, h⟩
  · exact ⟨h1, h2⟩
  · rw [h]; exact ⟨rfl, rfl⟩
theorem joinP_len (t : Tab s ah bh kvs) (x y : List Int) : (joinP ah bh kvs x y).1.length = x.length ∧ (joinP ah bh kvs x y).2.length = y.length := by
  have h := TF_len t (x.drop (x.length - ah)) (y.take bh)
  unfold joinP
  simp only [List.length_append, h.1, h.2, List.length_take, List.length_drop]
  omega
theorem metP_len (t : Tab s ah bh kvs) (x y : List Int) : (metP ah bh kvs x y).length = x.length + y.length := by
  have h := joinP_len t x y
  unfold metP
  rw [List.length_append, h.1, h.2]
theorem nb1 : ¬ (("kept_sounds" : Str) = "kept_ahead") := by decide +kernel
theorem nb2 : ¬ (("kept_sounds" : Str) = "kept_behind") := by decide +kernel
theorem nb3 : ¬ (("kept_ahead" : Str) = "kept_behind") := by decide +kernel
theorem nb4 : ¬ (("kept_sounds" : Str) = "kept_table") := by decide +kernel
theorem nb5 : ¬ (("kept_ahead" : Str) = "kept_table") := by decide +kernel
theorem nb6 : ¬ (("kept_behind" : Str) = "kept_table") := by decide +kernel
theorem hk1 : atab.has "Book" "kept_sounds" = true := by decide +kernel
theorem hk2 : atab.has "Book" "kept_ahead" = true := by decide +kernel
theorem hk3 : atab.has "Book" "kept_behind" = true := by decide +kernel
theorem hk4 : atab.has "Book" "kept_table" = true := by decide +kernel
theorem BookAt.f1 (h : BookAt l s ah bh kvs m) : fldW atab "kept_sounds" (.d (.loc l)) m = some (.d (.int s)) := by
  obtain ⟨lt, h1, _⟩ := h
  simp only [fldW, h1, hk1, if_true]
  unfold getF
  rw [List.find?_cons, decide_eq_true rfl]; rfl
theorem BookAt.f2 (h : BookAt l s ah bh kvs m) : fldW atab "kept_ahead" (.d (.loc l)) m = some (.d (.int ah)) := by
  obtain ⟨lt, h1, _⟩ := h
  simp only [fldW, h1, hk2, if_true]
  unfold getF
  rw [List.find?_cons, decide_eq_false nb1, List.find?_cons, decide_eq_true rfl]; rfl
theorem BookAt.f3 (h : BookAt l s ah bh kvs m) : fldW atab "kept_behind" (.d (.loc l)) m = some (.d (.int bh)) := by
  obtain ⟨lt, h1, _⟩ := h
  simp only [fldW, h1, hk3, if_true]
  unfold getF
  rw [List.find?_cons, decide_eq_false nb2, List.find?_cons, decide_eq_false nb3, List.find?_cons, decide_eq_true rfl]; rfl
theorem BookAt.f4 (h : BookAt l s ah bh kvs m) : ∃ lt, fldW atab "kept_table" (.d (.loc l)) m = some (.d (.loc lt)) ∧ m[lt]? = some (.dct kvs) := by
  obtain ⟨lt, h1, h2⟩ := h
  refine ⟨lt, ?_, h2⟩
  simp only [fldW, h1, hk4, if_true]
  unfold getF
  rw [List.find?_cons, decide_eq_false nb4, List.find?_cons, decide_eq_false nb5, List.find?_cons, decide_eq_false nb6, List.find?_cons, decide_eq_true rfl]; rfl
theorem get2_ok {lt : Nat} {xs : List D} {n : Nat} {x : Wv} (h : m[lt]? = some (.dct kvs)) (g : DGood kvs) (hk : gd (.tup xs) n = true) (hn : n ≤ 8 := by decide) : getG (.d (.loc lt)) [.d (.tup xs), x] m = some (match dfind kvs (.tup xs) with
    | some d => .d d
    | none => x, m) := by
  unfold getG dctOf
  simp only [h]
  rw [Option.bind_some, g.look hk hn]
  rfl
theorem isDct_loc {lt : Nat} (h : m[lt]? = some (.dct kvs)) : isDct (.d (.loc lt)) m = true := by
  unfold isDct dctOf
  simp only [h]
  rfl
theorem told_ok (b : BookAt l s ah bh kvs m) (t : Tab s ah bh kvs) {x y : List Int} (k : Q (.tup [row (TF kvs x y).1, row (TF kvs x y).2]) m) : WM (fm_told [.loc l, row x, row y] m) Q E := by
  unfold fm_told m_told
  obtain ⟨lt, e, h⟩ := b.f4
  simp only [w_fn, w_ok, w_ex, w_no, w_nos, w_mno, w_exc, w_nxt, w_ret, w_bind, w_opt, w_optM, w_chk, w_of, w_settle_d, w_settle_o, w_cond, w_condS, w_ite, w_iteS, w_iteM, w_var, sIf, sSet, sAug, sSub, sFldS, sRet, sRetN, sDrop, sNil, sAsg, sBreak, sCont, sRaise0, sRaise1, xtAnd, xtOr, xtNot, xB, x1, x2, xC, xCB, xCh, xAnd, xOr, xNot, xIf, xTup, xLst, xDct0, xCall, xM, xMd, xIsi, aNil, aCons, adNil, adCons, xSl, oNo, oI, gN, gT, gsNil, gsCons, List.map, List.append, List.replicate, List.cons_append, List.nil_append, List.append_nil, List.getElem?_cons_zero, List.getElem?_cons_succ, List.set_cons_zero, List.set_cons_succ, List.length_cons, List.length_nil, add_ok, sub_ok, eqi_ok, nei_ok, lti_ok, gti_ok, lei_ok, gei_ok, int_ok, if_true, if_false, cond_true, cond_false, Bool.false_eq_true, true_and, and_true, Option.map_some, Option.bind_some, Nat.reduceAdd, Nat.reduceSub, Nat.reduceLeDiff, reduceIte, e, isDct_loc h, get2_ok h t.good gd_row2, show (2 : Nat) ≤ LIM from by decide]
  rcases TF_cases t x y with ⟨h1, _⟩ | ⟨h1, h2⟩
  · rw [h1]; simp only [w_fn, w_ok, w_ex, w_no, w_nos, w_mno, w_exc, w_nxt, w_ret, w_bind, w_opt, w_optM, w_chk, w_of, w_settle_d, w_settle_o, w_cond, w_condS, w_ite, w_iteS, w_iteM, w_var, sIf, sSet, sAug, sSub, sFldS, sRet, sRetN, sDrop, sNil, sAsg, sBreak, sCont, sRaise0, sRaise1, xtAnd, xtOr, xtNot, xB, x1, x2, xC, xCB, xCh, xAnd, xOr, xNot, xIf, xTup, xLst, xDct0, xCall, xM, xMd, xIsi, aNil, aCons, adNil, adCons, xSl, oNo, oI, gN, gT, gsNil, gsCons, List.map, List.append, List.replicate, List.cons_append, List.nil_append, List.append_nil, List.getElem?_cons_zero, List.getElem?_cons_succ, List.set_cons_zero, List.set_cons_succ, List.length_cons, List.length_nil, add_ok, sub_ok, eqi_ok, nei_ok, lti_ok, gti_ok, lei_ok, gei_ok, int_ok, if_true, if_false, cond_true, cond_false, Bool.false_eq_true, true_and, and_true, Option.map_some, Option.bind_some, Nat.reduceAdd, Nat.reduceSub, Nat.reduceLeDiff, reduceIte]; exact k
  · rw [h1]; simp only [w_fn, w_ok, w_ex, w_no, w_nos, w_mno, w_exc, w_nxt, w_ret, w_bind, w_opt, w_optM, w_chk, w_of, w_settle_d, w_settle_o, w_cond, w_condS, w_ite, w_iteS, w_iteM, w_var, sIf, sSet, sAug, sSub, sFldS, sRet, sRetN, sDrop, sNil, sAsg, sBreak, sCont, sRaise0, sRaise1, xtAnd, xtOr, xtNot, xB, x1, x2, xC, xCB, xCh, xAnd, xOr, xNot, xIf, xTup, xLst, xDct0, xCall, xM, xMd, xIsi, aNil, aCons, adNil, adCons, xSl, oNo, oI, gN, gT, gsNil, gsCons, List.map, List.append, List.replicate, List.cons_append, List.nil_append, List.append_nil, List.getElem?_cons_zero, List.getElem?_cons_succ, List.set_cons_zero, List.set_cons_succ, List.length_cons, List.length_nil, add_ok, sub_ok, eqi_ok, nei_ok, lti_ok, gti_ok, lei_ok, gei_ok, int_ok, if_true, if_false, cond_true, cond_false, Bool.false_eq_true, true_and, and_true, Option.map_some, Option.bind_some, Nat.reduceAdd, Nat.reduceSub, Nat.reduceLeDiff, reduceIte]; rw [h2] at k; exact k
theorem addt_ok {xs ys : List D} {mu : Mu} (h : xs.length + ys.length ≤ LIM) : addW (.d (.tup xs)) (.d (.tup ys)) mu = some (.d (.tup (xs ++ ys))) := by
  show (if xs.length + ys.length ≤ LIM then _ else _) = _
  rw [if_pos h]
theorem addr_ok {xs ys : List Int} {mu : Mu} (h : xs.length + ys.length ≤ LIM) : addW (.d (row xs)) (.d (row ys)) mu = some (.d (row (xs ++ ys))) := by
  unfold row
  rw [addt_ok (by rw [List.length_map, List.length_map]; exact h), List.map_append]
theorem neg_int {i : Int} {mu : Mu} : negW (.d (.int i)) mu = some (.d (.int (-i))) := rfl
theorem joined_ok (b : BookAt l s ah bh kvs m) (t : Tab s ah bh kvs) (h1 : 0 < ah) {x y : List Int} (hl : x.length + y.length ≤ 1000) (k : Q (.tup [row (joinP ah bh kvs x y).1, row (joinP ah bh kvs x y).2]) m) : WM (fm_joined_rows [.loc l, row x, row y] m) Q E := by
  unfold fm_joined_rows m_joined_rows
  have ea : ∀ {mu : Mu}, slW (.d (row x)) (some (-(ah : Int))) none mu = some (.d (row (x.drop (x.length - ah)))) := fun {mu} => by
    unfold row
    rw [sl_tup, cut_last h1, List.length_map, List.map_drop]
  have eb : ∀ {mu : Mu}, slW (.d (row y)) none (some (bh : Int)) mu = some (.d (row (y.take bh))) := fun {mu} => by
    unfold row
    rw [sl_tup, cut_take, List.map_take]
  simp only [w_fn, w_ok, w_ex, w_no, w_nos, w_mno, w_exc, w_nxt, w_ret, w_bind, w_opt, w_optM, w_chk, w_of, w_settle_d, w_settle_o, w_cond, w_condS, w_ite, w_iteS, w_iteM, w_var, sIf, sSet, sAug, sSub, sFldS, sRet, sRetN, sDrop, sNil, sAsg, sBreak, sCont, sRaise0, sRaise1, xtAnd, xtOr, xtNot, xB, x1, x2, xC, xCB, xCh, xAnd, xOr, xNot, xIf, xTup, xLst, xDct0, xCall, xM, xMd, xIsi, aNil, aCons, adNil, adCons, xSl, oNo, oI, gN, gT, gsNil, gsCons, List.map, List.append, List.replicate, List.cons_append, List.nil_append, List.append_nil, List.getElem?_cons_zero, List.getElem?_cons_succ, List.set_cons_zero, List.set_cons_succ, List.length_cons, List.length_nil, add_ok, sub_ok, eqi_ok, nei_ok, lti_ok, gti_ok, lei_ok, gei_ok, int_ok, if_true, if_false, cond_true, cond_false, Bool.false_eq_true, true_and, and_true, Option.map_some, Option.bind_some, Nat.reduceAdd, Nat.reduceSub, Nat.reduceLeDiff, reduceIte, w_seq, b.f2, b.f3, neg_int, ea, eb]
  refine told_ok b t ?_
  have hlen : ∀ {zs : List Int} {mu : Mu}, lenC [.d (row zs)] mu = some (.d (.int zs.length)) := fun {zs mu} => by
    unfold row; rw [len_tup, List.length_map]
  have ec : ∀ {mu : Mu}, slW (.d (row x)) none (some ((x.length : Int) - ((x.drop (x.length - ah)).length : Int))) mu = some (.d (row (x.take (x.length - (x.drop (x.length - ah)).length)))) := fun {mu} => by
    have : ((x.length : Int) - ((x.drop (x.length - ah)).length : Int)) = ((x.length - (x.drop (x.length - ah)).length : Nat) : Int) := by
      rw [List.length_drop]; omega
    rw [this]
    unfold row
    rw [sl_tup, cut_take, List.map_take]
  have ed : ∀ {mu : Mu} {n : Nat}, slW (.d (row y)) (some (n : Int)) none mu = some (.d (row (y.drop n))) := fun {mu n} => by
    unfold row
    rw [sl_tup, cut_drop, List.map_drop]
  have hj := joinP_len t x y
  unfold joinP at k hj
  have tl := TF_len t (x.drop (x.length - ah)) (y.take bh)
  simp only [List.length_append] at hj
  simp only [w_fn, w_ok, w_ex, w_no, w_nos, w_mno, w_exc, w_nxt, w_ret, w_bind, w_opt, w_optM, w_chk, w_of, w_settle_d, w_settle_o, w_cond, w_condS, w_ite, w_iteS, w_iteM, w_var, sIf, sSet, sAug, sSub, sFldS, sRet, sRetN, sDrop, sNil, sAsg, sBreak, sCont, sRaise0, sRaise1, xtAnd, xtOr, xtNot, xB, x1, x2, xC, xCB, xCh, xAnd, xOr, xNot, xIf, xTup, xLst, xDct0, xCall, xM, xMd, xIsi, aNil, aCons, adNil, adCons, xSl, oNo, oI, gN, gT, gsNil, gsCons, List.map, List.append, List.replicate, List.cons_append, List.nil_append, List.append_nil, List.getElem?_cons_zero, List.getElem?_cons_succ, List.set_cons_zero, List.set_cons_succ, List.length_cons, List.length_nil, add_ok, sub_ok, eqi_ok, nei_ok, lti_ok, gti_ok, lei_ok, gei_ok, int_ok, if_true, if_false, cond_true, cond_false, Bool.false_eq_true, true_and, and_true, Option.map_some, Option.bind_some, Nat.reduceAdd, Nat.reduceSub, Nat.reduceLeDiff, reduceIte, sub_ok, hlen, ec, ed, show (2 : Nat) ≤ LIM from by decide]
  rw [addr_ok]
  · simp only [w_fn, w_ok, w_ex, w_no, w_nos, w_mno, w_exc, w_nxt, w_ret, w_bind, w_opt, w_optM, w_chk, w_of, w_settle_d, w_settle_o, w_cond, w_condS, w_ite, w_iteS, w_iteM, w_var, sIf, sSet, sAug, sSub, sFldS, sRet, sRetN, sDrop, sNil, sAsg, sBreak, sCont, sRaise0, sRaise1, xtAnd, xtOr, xtNot, xB, x1, x2, xC, xCB, xCh, xAnd, xOr, xNot, xIf, xTup, xLst, xDct0, xCall, xM, xMd, xIsi, aNil, aCons, adNil, adCons, xSl, oNo, oI, gN, gT, gsNil, gsCons, List.map, List.append, List.replicate, List.cons_append, List.nil_append, List.append_nil, List.getElem?_cons_zero, List.getElem?_cons_succ, List.set_cons_zero, List.set_cons_succ, List.length_cons, List.length_nil, add_ok, sub_ok, eqi_ok, nei_ok, lti_ok, gti_ok, lei_ok, gei_ok, int_ok, if_true, if_false, cond_true, cond_false, Bool.false_eq_true, true_and, and_true, Option.map_some, Option.bind_some, Nat.reduceAdd, Nat.reduceSub, Nat.reduceLeDiff, reduceIte]
    rw [addr_ok]
    · simp only [w_fn, w_ok, w_ex, w_no, w_nos, w_mno, w_exc, w_nxt, w_ret, w_bind, w_opt, w_optM, w_chk, w_of, w_settle_d, w_settle_o, w_cond, w_condS, w_ite, w_iteS, w_iteM, w_var, sIf, sSet, sAug, sSub, sFldS, sRet, sRetN, sDrop, sNil, sAsg, sBreak, sCont, sRaise0, sRaise1, xtAnd, xtOr, xtNot, xB, x1, x2, xC, xCB, xCh, xAnd, xOr, xNot, xIf, xTup, xLst, xDct0, xCall, xM, xMd, xIsi, aNil, aCons, adNil, adCons, xSl, oNo, oI, gN, gT, gsNil, gsCons, List.map, List.append, List.replicate, List.cons_append, List.nil_append, List.append_nil, List.getElem?_cons_zero, List.getElem?_cons_succ, List.set_cons_zero, List.set_cons_succ, List.length_cons, List.length_nil, add_ok, sub_ok, eqi_ok, nei_ok, lti_ok, gti_ok, lei_ok, gei_ok, int_ok, if_true, if_false, cond_true, cond_false, Bool.false_eq_true, true_and, and_true, Option.map_some, Option.bind_some, Nat.reduceAdd, Nat.reduceSub, Nat.reduceLeDiff, reduceIte]
      exact k
    · unfold LIM; omega
  · unfold LIM; omega
theorem met_ok (b : BookAt l s ah bh kvs m) (t : Tab s ah bh kvs) (h1 : 0 < ah) {x y : List Int} (hl : x.length + y.length ≤ 1000) (k : Q (row (metP ah bh kvs x y)) m) : WM (fm_met_rows [.loc l, row x, row y] m) Q E := by
  unfold fm_met_rows m_met_rows
  simp only [w_fn, w_ok, w_ex, w_no, w_nos, w_mno, w_exc, w_nxt, w_ret, w_bind, w_opt, w_optM, w_chk, w_of, w_settle_d, w_settle_o, w_cond, w_condS, w_ite, w_iteS, w_iteM, w_var, sIf, sSet, sAug, sSub, sFldS, sRet, sRetN, sDrop, sNil, sAsg, sBreak, sCont, sRaise0, sRaise1, xtAnd, xtOr, xtNot, xB, x1, x2, xC, xCB, xCh, xAnd, xOr, xNot, xIf, xTup, xLst, xDct0, xCall, xM, xMd, xIsi, aNil, aCons, adNil, adCons, xSl, oNo, oI, gN, gT, gsNil, gsCons, List.map, List.append, List.replicate, List.cons_append, List.nil_append, List.append_nil, List.getElem?_cons_zero, List.getElem?_cons_succ, List.set_cons_zero, List.set_cons_succ, List.length_cons, List.length_nil, add_ok, sub_ok, eqi_ok, nei_ok, lti_ok, gti_ok, lei_ok, gei_ok, int_ok, if_true, if_false, cond_true, cond_false, Bool.false_eq_true, true_and, and_true, Option.map_some, Option.bind_some, Nat.reduceAdd, Nat.reduceSub, Nat.reduceLeDiff, reduceIte, w_seq]
  refine joined_ok b t h1 hl ?_
  have hj := joinP_len (ah := ah) (bh := bh) t x y
  simp only [w_fn, w_ok, w_ex, w_no, w_nos, w_mno, w_exc, w_nxt, w_ret, w_bind, w_opt, w_optM, w_chk, w_of, w_settle_d, w_settle_o, w_cond, w_condS, w_ite, w_iteS, w_iteM, w_var, sIf, sSet, sAug, sSub, sFldS, sRet, sRetN, sDrop, sNil, sAsg, sBreak, sCont, sRaise0, sRaise1, xtAnd, xtOr, xtNot, xB, x1, x2, xC, xCB, xCh, xAnd, xOr, xNot, xIf, xTup, xLst, xDct0, xCall, xM, xMd, xIsi, aNil, aCons, adNil, adCons, xSl, oNo, oI, gN, gT, gsNil, gsCons, List.map, List.append, List.replicate, List.cons_append, List.nil_append, List.append_nil, List.getElem?_cons_zero, List.getElem?_cons_succ, List.set_cons_zero, List.set_cons_succ, List.length_cons, List.length_nil, add_ok, sub_ok, eqi_ok, nei_ok, lti_ok, gti_ok, lei_ok, gei_ok, int_ok, if_true, if_false, cond_true, cond_false, Bool.false_eq_true, true_and, and_true, Option.map_some, Option.bind_some, Nat.reduceAdd, Nat.reduceSub, Nat.reduceLeDiff, reduceIte]
  rw [addr_ok]
  · simp only [w_fn, w_ok, w_ex, w_no, w_nos, w_mno, w_exc, w_nxt, w_ret, w_bind, w_opt, w_optM, w_chk, w_of, w_settle_d, w_settle_o, w_cond, w_condS, w_ite, w_iteS, w_iteM, w_var, sIf, sSet, sAug, sSub, sFldS, sRet, sRetN, sDrop, sNil, sAsg, sBreak, sCont, sRaise0, sRaise1, xtAnd, xtOr, xtNot, xB, x1, x2, xC, xCB, xCh, xAnd, xOr, xNot, xIf, xTup, xLst, xDct0, xCall, xM, xMd, xIsi, aNil, aCons, adNil, adCons, xSl, oNo, oI, gN, gT, gsNil, gsCons, List.map, List.append, List.replicate, List.cons_append, List.nil_append, List.append_nil, List.getElem?_cons_zero, List.getElem?_cons_succ, List.set_cons_zero, List.set_cons_succ, List.length_cons, List.length_nil, add_ok, sub_ok, eqi_ok, nei_ok, lti_ok, gti_ok, lei_ok, gei_ok, int_ok, if_true, if_false, cond_true, cond_false, Bool.false_eq_true, true_and, and_true, Option.map_some, Option.bind_some, Nat.reduceAdd, Nat.reduceSub, Nat.reduceLeDiff, reduceIte]
    exact k
  · unfold LIM; omega
theorem matters_at_ok (b : BookAt l s ah bh kvs m) (t : Tab s ah bh kvs) (h1 : 0 < ah) {x y z : List Int} (hl : x.length + y.length + z.length ≤ 1000) (k : Q (.bl (matP ah bh kvs x y z)) m) : WM (fm_matters_at [.loc l, row x, row y, row z] m) Q E := by
  unfold fm_matters_at m_matters_at
  try simp only [w_fn, w_ok, w_ex, w_no, w_nos, w_mno, w_exc, w_nxt, w_ret, w_bind, w_opt, w_optM, w_chk, w_of, w_settle_d, w_settle_o, w_cond, w_condS, w_ite, w_iteS, w_iteM, w_var, sIf, sSet, sAug, sSub, sFldS, sRet, sRetN, sDrop, sNil, sAsg, sBreak, sCont, sRaise0, sRaise1, xtAnd, xtOr, xtNot, xB, x1, x2, xC, xCB, xCh, xAnd, xOr, xNot, xIf, xTup, xLst, xDct0, xCall, xM, xMd, xIsi, aNil, aCons, adNil, adCons, xSl, oNo, oI, gN, gT, gsNil, gsCons, List.map, List.append, List.replicate, List.cons_append, List.nil_append, List.append_nil, List.getElem?_cons_zero, List.getElem?_cons_succ, List.set_cons_zero, List.set_cons_succ, List.length_cons, List.length_nil, add_ok, sub_ok, eqi_ok, nei_ok, lti_ok, gti_ok, lei_ok, gei_ok, int_ok, if_true, if_false, cond_true, cond_false, Bool.false_eq_true, true_and, and_true, Option.map_some, Option.bind_some, Nat.reduceAdd, Nat.reduceSub, Nat.reduceLeDiff, reduceIte]
  refine met_ok b t h1 (by omega) ?_
  try simp only [w_fn, w_ok, w_ex, w_no, w_nos, w_mno, w_exc, w_nxt, w_ret, w_bind, w_opt, w_optM, w_chk, w_of, w_settle_d, w_settle_o, w_cond, w_condS, w_ite, w_iteS, w_iteM, w_var, sIf, sSet, sAug, sSub, sFldS, sRet, sRetN, sDrop, sNil, sAsg, sBreak, sCont, sRaise0, sRaise1, xtAnd, xtOr, xtNot, xB, x1, x2, xC, xCB, xCh, xAnd, xOr, xNot, xIf, xTup, xLst, xDct0, xCall, xM, xMd, xIsi, aNil, aCons, adNil, adCons, xSl, oNo, oI, gN, gT, gsNil, gsCons, List.map, List.append, List.replicate, List.cons_append, List.nil_append, List.append_nil, List.getElem?_cons_zero, List.getElem?_cons_succ, List.set_cons_zero, List.set_cons_succ, List.length_cons, List.length_nil, add_ok, sub_ok, eqi_ok, nei_ok, lti_ok, gti_ok, lei_ok, gei_ok, int_ok, if_true, if_false, cond_true, cond_false, Bool.false_eq_true, true_and, and_true, Option.map_some, Option.bind_some, Nat.reduceAdd, Nat.reduceSub, Nat.reduceLeDiff, reduceIte]
  refine met_ok b t h1 (by rw [metP_len t]; omega) ?_
  try simp only [w_fn, w_ok, w_ex, w_no, w_nos, w_mno, w_exc, w_nxt, w_ret, w_bind, w_opt, w_optM, w_chk, w_of, w_settle_d, w_settle_o, w_cond, w_condS, w_ite, w_iteS, w_iteM, w_var, sIf, sSet, sAug, sSub, sFldS, sRet, sRetN, sDrop, sNil, sAsg, sBreak, sCont, sRaise0, sRaise1, xtAnd, xtOr, xtNot, xB, x1, x2, xC, xCB, xCh, xAnd, xOr, xNot, xIf, xTup, xLst, xDct0, xCall, xM, xMd, xIsi, aNil, aCons, adNil, adCons, xSl, oNo, oI, gN, gT, gsNil, gsCons, List.map, List.append, List.replicate, List.cons_append, List.nil_append, List.append_nil, List.getElem?_cons_zero, List.getElem?_cons_succ, List.set_cons_zero, List.set_cons_succ, List.length_cons, List.length_nil, add_ok, sub_ok, eqi_ok, nei_ok, lti_ok, gti_ok, lei_ok, gei_ok, int_ok, if_true, if_false, cond_true, cond_false, Bool.false_eq_true, true_and, and_true, Option.map_some, Option.bind_some, Nat.reduceAdd, Nat.reduceSub, Nat.reduceLeDiff, reduceIte]
  refine met_ok b t h1 (by omega) ?_
  try simp only [w_fn, w_ok, w_ex, w_no, w_nos, w_mno, w_exc, w_nxt, w_ret, w_bind, w_opt, w_optM, w_chk, w_of, w_settle_d, w_settle_o, w_cond, w_condS, w_ite, w_iteS, w_iteM, w_var, sIf, sSet, sAug, sSub, sFldS, sRet, sRetN, sDrop, sNil, sAsg, sBreak, sCont, sRaise0, sRaise1, xtAnd, xtOr, xtNot, xB, x1, x2, xC, xCB, xCh, xAnd, xOr, xNot, xIf, xTup, xLst, xDct0, xCall, xM, xMd, xIsi, aNil, aCons, adNil, adCons, xSl, oNo, oI, gN, gT, gsNil, gsCons, List.map, List.append, List.replicate, List.cons_append, List.nil_append, List.append_nil, List.getElem?_cons_zero, List.getElem?_cons_succ, List.set_cons_zero, List.set_cons_succ, List.length_cons, List.length_nil, add_ok, sub_ok, eqi_ok, nei_ok, lti_ok, gti_ok, lei_ok, gei_ok, int_ok, if_true, if_false, cond_true, cond_false, Bool.false_eq_true, true_and, and_true, Option.map_some, Option.bind_some, Nat.reduceAdd, Nat.reduceSub, Nat.reduceLeDiff, reduceIte]
  refine met_ok b t h1 (by rw [metP_len t]; omega) ?_
  simp only [w_fn, w_ok, w_ex, w_no, w_nos, w_mno, w_exc, w_nxt, w_ret, w_bind, w_opt, w_optM, w_chk, w_of, w_settle_d, w_settle_o, w_cond, w_condS, w_ite, w_iteS, w_iteM, w_var, sIf, sSet, sAug, sSub, sFldS, sRet, sRetN, sDrop, sNil, sAsg, sBreak, sCont, sRaise0, sRaise1, xtAnd, xtOr, xtNot, xB, x1, x2, xC, xCB, xCh, xAnd, xOr, xNot, xIf, xTup, xLst, xDct0, xCall, xM, xMd, xIsi, aNil, aCons, adNil, adCons, xSl, oNo, oI, gN, gT, gsNil, gsCons, List.map, List.append, List.replicate, List.cons_append, List.nil_append, List.append_nil, List.getElem?_cons_zero, List.getElem?_cons_succ, List.set_cons_zero, List.set_cons_succ, List.length_cons, List.length_nil, add_ok, sub_ok, eqi_ok, nei_ok, lti_ok, gti_ok, lei_ok, gei_ok, int_ok, if_true, if_false, cond_true, cond_false, Bool.false_eq_true, true_and, and_true, Option.map_some, Option.bind_some, Nat.reduceAdd, Nat.reduceSub, Nat.reduceLeDiff, reduceIte, neg_ok gd_row gd_row]
  unfold matP at k
  simp only [ne_eq, decide_not] at k
  simp only [row_inj]
  exact k
end
/-! ### a book without entries -/
theorem TF_nil (a b : List Int) : TF [] a b = (a, b) := rfl
theorem metP_nil (ah bh : Nat) (x y : List Int) : metP ah bh [] x y = x ++ y := by
  unfold metP joinP
  simp only [TF_nil]
  have e1 : x.length - (x.drop (x.length - ah)).length = x.length - ah := by rw [List.length_drop]; omega
  have e2 : y.drop (y.take bh).length = y.drop bh := by
    rw [List.length_take]
    by_cases h : bh ≤ y.length
    · rw [Nat.min_eq_left h]
    · rw [Nat.min_eq_right (by omega), List.drop_length, List.drop_eq_nil_of_le (by omega)]
  rw [e1, e2, List.take_append_drop, List.take_append_drop]
theorem matP_nil (ah bh : Nat) (x y z : List Int) : matP ah bh [] x y z = false := by
  unfold matP
  simp [metP_nil]
end Dn

set_option Elab.async false
set_option linter.all false
set_option maxRecDepth 100000
set_option maxHeartbeats 4000000
set_option autoImplicit false
namespace Dn
open PySem PySem.Spec

theorem ty_lst {l : Nat} {xs : List D} {mu : Mu} (h : mu[l]? = some (.lst xs)) : isTy "list" (.d (.loc l)) mu = true := by
  unfold isTy lstOf
  simp only [h]
  rfl
theorem ext_ok {l : Nat} {xs ys : List D} {mu : Mu} (h : mu[l]? = some (.lst xs)) (hl : xs.length + ys.length ≤ LIM) : extG (.d (.loc l)) [.o (.lst ys)] mu = some (.d .non, mu.set l (.lst (xs ++ ys))) := by
  unfold extG mlstOf
  simp only [h, if_pos hl]
theorem extl_ok {l k : Nat} {xs ys : List D} {mu : Mu} (h : mu[l]? = some (.lst xs)) (h2 : mu[k]? = some (.lst ys)) (hl : xs.length + ys.length ≤ LIM) : extG (.d (.loc l)) [.d (.loc k)] mu = some (.d .non, mu.set l (.lst (xs ++ ys))) := by
  unfold extG mlstOf
  simp only [h, h2, if_pos hl]
theorem fm_take {α β : Type} {xs : List α} {f : α → List β} {i : Nat} {d : α} (h : xs[i]? = some d) : (xs.take (i + 1)).flatMap f = (xs.take i).flatMap f ++ f d := by
  rw [List.take_add_one, h]
  simp
theorem fm_take_le {α β : Type} {xs : List α} {f : α → List β} {i : Nat} : ((xs.take i).flatMap f).length ≤ (xs.flatMap f).length := by
  conv => rhs; rw [← List.take_append_drop i xs]
  rw [List.flatMap_append, List.length_append]
  omega
/-- for d in <list>: found.extend([..]) -/
theorem s_ext {se : EX} {i a lf : Nat} {e : EX} {ρ : Rho} {m : Mu} {Q : Fl → Rho → Mu → Prop} {E : D → Rho → Mu → Prop} (items base : List D) (f : D → List D)
    (hse : WM (se ρ m) (fun w m1 => m1 = m ∧ ∃ ls, w = .d (.loc ls) ∧ m[ls]? = some (.lst items) ∧ ls ≠ lf) (fun d m1 => E d ρ m1)) (hai : a ≠ i) (ha : ρ[a]? = some (some (.loc lf))) (hlf : m[lf]? = some (.lst base))
    (turn : ∀ d ∈ items, ∀ acc, WM (e (ρ.set i (some d)) (m.set lf (.lst acc))) (fun w m2 => w = .o (.lst (f d)) ∧ m2 = m.set lf (.lst acc)) (fun _ _ => False)) (hlen : base.length + (items.flatMap f).length ≤ LIM)
    (fin : ∀ ρ', (ρ' = ρ ∨ ∃ x, ρ' = ρ.set i (some x)) → Q .nx ρ' (m.set lf (.lst (base ++ items.flatMap f)))) : WS (sFor (iAny se) (gN i) (sDrop (xM "list" extG (xVar a) (aCons e aNil))) ρ m) Q E := by
  unfold sFor
  rw [w_of]
  refine w_iAny_lst (hse.imp (fun w m1 ⟨h1, ls, h2, h3, h4⟩ => ⟨ls, items, h2, by rw [h1]; exact h3, ?_⟩) fun _ _ z => z)
  subst h1
  have stand : ∀ acc, stands [(ls, O.lst items)] (m1.set lf (.lst acc)) := fun acc => stands_one (by rw [List.getElem?_set_ne (fun z => h4 z.symm)]; exact h3)
  refine w_loop (fun j ρ' m' => (ρ' = ρ ∨ ∃ x, ρ' = ρ.set i (some x)) ∧ m' = m1.set lf (.lst (base ++ (items.take j).flatMap f))) (fun j d ρ' m' hj hI => ?_) (fun ρ' m' hI => ?_) ⟨.inl rfl, by
    rw [List.take_zero, List.flatMap_nil, List.append_nil]
    exact (List.ext_getElem? fun k => by
      by_cases z : k = lf
      · subst z; rw [List.getElem?_set_self (lt_of_get hlf), hlf]
      · rw [List.getElem?_set_ne (fun q => z q.symm)])⟩
  · obtain ⟨hρ, rfl⟩ := hI
    have hj : items[j]? = some d := hj
    refine ⟨stand _, _, rfl, ?_⟩
    have e1 : ρ'.set i (some d) = ρ.set i (some d) := by
      rcases hρ with rfl | ⟨x, rfl⟩
      · rfl
      · rw [List.set_set]
    rw [e1]
    have e2 : (ρ.set i (some d))[a]? = some (some (.loc lf)) := by rw [List.getElem?_set_ne (fun z => hai z.symm)]; exact ha
    have g1 := get_set (o := .lst (base ++ (items.take j).flatMap f)) hlf
    simp only [sDrop, xM, w_of, w_bind, w_var, e2, w_chk, ty_lst g1, true_and, aCons, aNil, w_ret, w_optM]
    refine (turn d (List.mem_of_getElem? hj) _).imp (fun w m2 ⟨q1, q2⟩ => ?_) fun _ _ z => z.elim
    subst q1 q2
    have hfl : (base ++ (items.take j).flatMap f).length + (f d).length ≤ LIM := by
      have := fm_take_le (xs := items) (f := f) (i := j + 1)
      rw [fm_take hj, List.length_append] at this
      rw [List.length_append]
      omega
    rw [ext_ok g1 hfl]
    simp only [w_nxt]
    refine ⟨.inr ⟨_, rfl⟩, ?_⟩
    rw [List.set_set, fm_take hj, List.append_assoc]
  · obtain ⟨hρ, rfl⟩ := hI
    refine ⟨stand _, ?_⟩
    rw [List.take_length]
    exact fin ρ' hρ
/-! ### all rows -/
def lastP (s : Nat) : Nat → List (List Int)
  | 0 => [[]]
  | k + 1 => (lastP s k).flatMap fun r => (List.range s).map fun (d : Nat) => r ++ [(d : Int)]
def rowsP (s : Nat) : Nat → List (List Int)
  | 0 => []
  | k + 1 => rowsP s k ++ lastP s (k + 1)
theorem lastP_len (s k : Nat) : (lastP s k).length = s ^ k := by
  induction k with
  | zero => rfl
  | succ k ih =>
    rw [lastP, List.length_flatMap]
    simp only [List.length_map, List.length_range]
    rw [List.map_const', List.sum_replicate_nat, ih, Nat.pow_succ]
theorem lastP_mem {s k : Nat} {r : List Int} (h : r ∈ lastP s k) : r.length = k ∧ ∀ x ∈ r, 0 ≤ x ∧ x < s := by
  induction k generalizing r with
  | zero => rw [lastP, List.mem_singleton] at h; subst h; exact ⟨rfl, fun _ h => nomatch h⟩
  | succ k ih =>
    rw [lastP, List.mem_flatMap] at h
    obtain ⟨q, hq, hr⟩ := h
    obtain ⟨d, hd, rfl⟩ := List.mem_map.mp hr
    have := ih hq
    rw [List.mem_range] at hd
    refine ⟨by simp [this.1], fun x hx => ?_⟩
    rcases List.mem_append.mp hx with z | z
    · exact this.2 x z
    · rw [List.mem_singleton.mp z]; omega
theorem rowsP_len (s n : Nat) : ((rowsP s n).length : Int) = rowsMany s n := by
  induction n with
  | zero => rfl
  | succ n ih => rw [rowsP, List.length_append, rowsMany, lastP_len, ← ih]; push_cast; rfl
theorem rowsP_mem {s n : Nat} {r : List Int} (h : r ∈ rowsP s n) : RowIn s 1 n r := by
  induction n with
  | zero => cases h
  | succ n ih =>
    rw [rowsP] at h
    rcases List.mem_append.mp h with z | z
    · have := ih z; exact ⟨this.1, by have := this.2.1; omega, this.2.2⟩
    · have := lastP_mem z; exact ⟨by omega, by omega, this.2⟩
theorem rowsP_grow {s k n : Nat} (h : k ≤ n) : (rowsP s k).length ≤ (rowsP s n).length := by
  induction n with
  | zero => rw [show k = 0 by omega]; exact Nat.le_refl _
  | succ n ih =>
    by_cases e : k = n + 1
    · rw [e]; exact Nat.le_refl _
    · rw [rowsP, List.length_append]
      have := ih (by omega)
      omega
theorem lastP_le {s k n : Nat} (h : k < n) : (lastP s (k + 1)).length ≤ (rowsP s n).length := by
  have := rowsP_grow (s := s) (show k + 1 ≤ n by omega)
  rw [rowsP, List.length_append] at this
  omega
theorem row_snoc {r : List Int} {d : Int} {mu : Mu} (h : r.length < 1000) : addW (.d (row r)) (.d (.tup [.int d])) mu = some (.d (row (r ++ [d]))) := by
  have := addr_ok (xs := r) (ys := [d]) (mu := mu) (by simp only [List.length_singleton]; unfold LIM; omega)
  exact this
theorem last_step (s j : Nat) : ((lastP s j).map row).flatMap (fun d => (List.range s).map fun (e : Nat) => row (unrow d ++ [(e : Int)])) = (lastP s (j + 1)).map row := by
  rw [lastP, List.flatMap_map, List.map_flatMap]
  congr 1
  funext r
  rw [unrow_row, List.map_map]
  rfl
theorem rows_to_ok {s n : Nat} {m : Mu} {Q : D → Mu → Prop} {E : D → Mu → Prop} (hs : s ≤ 8) (hn : n ≤ 8) (hl : (rowsP s n).length ≤ LIM)
    (k : ∀ lf m', m.length ≤ lf → m'[lf]? = some (.lst ((rowsP s n).map row)) → Fr [] m m' → Q (.loc lf) m') : WM (fm_rows_to [.int s, .int n] m) Q E := by
  unfold fm_rows_to m_rows_to
  simp only [w_fn, w_ok, w_ex, w_no, w_nos, w_mno, w_exc, w_nxt, w_ret, w_bind, w_opt, w_optM, w_chk, w_of, w_settle_d, w_settle_o, w_cond, w_condS, w_ite, w_iteS, w_iteM, w_var, sIf, sSet, sAug, sSub, sFldS, sRet, sRetN, sDrop, sNil, sAsg, sBreak, sCont, sRaise0, sRaise1, xtAnd, xtOr, xtNot, xB, x1, x2, xC, xCB, xCh, xAnd, xOr, xNot, xIf, xTup, xLst, xDct0, xCall, xM, xMd, xIsi, aNil, aCons, adNil, adCons, xSl, oNo, oI, gN, gT, gsNil, gsCons, List.map, List.append, List.replicate, List.cons_append, List.nil_append, List.append_nil, List.getElem?_cons_zero, List.getElem?_cons_succ, List.set_cons_zero, List.set_cons_succ, List.length_cons, List.length_nil, add_ok, sub_ok, eqi_ok, nei_ok, lti_ok, gti_ok, lei_ok, gei_ok, int_ok, if_true, if_false, cond_true, cond_false, Bool.false_eq_true, true_and, and_true, Option.map_some, Option.bind_some, Nat.reduceAdd, Nat.reduceSub, Nat.reduceLeDiff, reduceIte, w_seq, show (0 : Nat) ≤ LIM from by decide, show (1 : Nat) ≤ LIM from by decide]
  refine s_range (fun j ρ m' => ∃ lf ll x y z u, ρ = [some (.int s), some (.int n), some (.loc lf), some (.loc ll), x, y, z, u] ∧ m.length ≤ lf ∧ m.length ≤ ll ∧ lf ≠ ll ∧ m'[lf]? = some (.lst ((rowsP s j).map row)) ∧ m'[ll]? = some (.lst ((lastP s j).map row)) ∧ Fr [] m m') n ?_ ?_ ?_
  · simp only [w_fn, w_ok, w_ex, w_no, w_nos, w_mno, w_exc, w_nxt, w_ret, w_bind, w_opt, w_optM, w_chk, w_of, w_settle_d, w_settle_o, w_cond, w_condS, w_ite, w_iteS, w_iteM, w_var, sIf, sSet, sAug, sSub, sFldS, sRet, sRetN, sDrop, sNil, sAsg, sBreak, sCont, sRaise0, sRaise1, xtAnd, xtOr, xtNot, xB, x1, x2, xC, xCB, xCh, xAnd, xOr, xNot, xIf, xTup, xLst, xDct0, xCall, xM, xMd, xIsi, aNil, aCons, adNil, adCons, xSl, oNo, oI, gN, gT, gsNil, gsCons, List.map, List.append, List.replicate, List.cons_append, List.nil_append, List.append_nil, List.getElem?_cons_zero, List.getElem?_cons_succ, List.set_cons_zero, List.set_cons_succ, List.length_cons, List.length_nil, add_ok, sub_ok, eqi_ok, nei_ok, lti_ok, gti_ok, lei_ok, gei_ok, int_ok, if_true, if_false, cond_true, cond_false, Bool.false_eq_true, true_and, and_true, Option.map_some, Option.bind_some, Nat.reduceAdd, Nat.reduceSub, Nat.reduceLeDiff, reduceIte]
    refine ⟨by omega, m.length, m.length + 1, _, _, _, _, by rw [List.length_append]; rfl, Nat.le_refl _, by omega, by omega, ?_, ?_, Fr.app.trans Fr.app⟩
    · rw [List.getElem?_append_left (by simp), get_app]; rfl
    · have := get_app (m := m ++ [O.lst []]) (o := .lst [.tup []])
      rw [List.length_append] at this
      exact this
  · rintro j ρ m' hj ⟨lf, ll, x, y, z, u, rfl, h1, h2, h3, h4, h5, h6⟩
    simp only [w_fn, w_ok, w_ex, w_no, w_nos, w_mno, w_exc, w_nxt, w_ret, w_bind, w_opt, w_optM, w_chk, w_of, w_settle_d, w_settle_o, w_cond, w_condS, w_ite, w_iteS, w_iteM, w_var, sIf, sSet, sAug, sSub, sFldS, sRet, sRetN, sDrop, sNil, sAsg, sBreak, sCont, sRaise0, sRaise1, xtAnd, xtOr, xtNot, xB, x1, x2, xC, xCB, xCh, xAnd, xOr, xNot, xIf, xTup, xLst, xDct0, xCall, xM, xMd, xIsi, aNil, aCons, adNil, adCons, xSl, oNo, oI, gN, gT, gsNil, gsCons, List.map, List.append, List.replicate, List.cons_append, List.nil_append, List.append_nil, List.getElem?_cons_zero, List.getElem?_cons_succ, List.set_cons_zero, List.set_cons_succ, List.length_cons, List.length_nil, add_ok, sub_ok, eqi_ok, nei_ok, lti_ok, gti_ok, lei_ok, gei_ok, int_ok, if_true, if_false, cond_true, cond_false, Bool.false_eq_true, true_and, and_true, Option.map_some, Option.bind_some, Nat.reduceAdd, Nat.reduceSub, Nat.reduceLeDiff, reduceIte, w_seq, show (0 : Nat) ≤ LIM from by decide]
    have b1 := lt_of_get h4
    have b2 := lt_of_get h5
    have c5 : (m' ++ [O.lst []])[ll]? = some (.lst ((lastP s j).map row)) := by rw [List.getElem?_append_left b2]; exact h5
    have c4 : (m' ++ [O.lst []])[lf]? = some (.lst ((rowsP s j).map row)) := by rw [List.getElem?_append_left b1]; exact h4
    have lle := lastP_le (s := s) hj
    refine s_ext (lf := m'.length) ((lastP s j).map row) [] (fun d => (List.range s).map fun (e : Nat) => row (unrow d ++ [(e : Int)])) ?_ (by decide) rfl get_app ?_ ?_ ?_
    · simp only [w_fn, w_ok, w_ex, w_no, w_nos, w_mno, w_exc, w_nxt, w_ret, w_bind, w_opt, w_optM, w_chk, w_of, w_settle_d, w_settle_o, w_cond, w_condS, w_ite, w_iteS, w_iteM, w_var, sIf, sSet, sAug, sSub, sFldS, sRet, sRetN, sDrop, sNil, sAsg, sBreak, sCont, sRaise0, sRaise1, xtAnd, xtOr, xtNot, xB, x1, x2, xC, xCB, xCh, xAnd, xOr, xNot, xIf, xTup, xLst, xDct0, xCall, xM, xMd, xIsi, aNil, aCons, adNil, adCons, xSl, oNo, oI, gN, gT, gsNil, gsCons, List.map, List.append, List.replicate, List.cons_append, List.nil_append, List.append_nil, List.getElem?_cons_zero, List.getElem?_cons_succ, List.set_cons_zero, List.set_cons_succ, List.length_cons, List.length_nil, add_ok, sub_ok, eqi_ok, nei_ok, lti_ok, gti_ok, lei_ok, gei_ok, int_ok, if_true, if_false, cond_true, cond_false, Bool.false_eq_true, true_and, and_true, Option.map_some, Option.bind_some, Nat.reduceAdd, Nat.reduceSub, Nat.reduceLeDiff, reduceIte]
      exact ⟨ll, rfl, c5, by omega⟩
    · intro d hd acc
      obtain ⟨r, hr, rfl⟩ := List.mem_map.mp hd
      have hrl := (lastP_mem hr).1
      refine x_range (i := 7) (fun i acc2 m2 => m2 = (m' ++ [O.lst []]).set m'.length (.lst acc) ∧ acc2 = (List.range i).map fun (e : Nat) => row (r ++ [(e : Int)])) s ?_ ?_ ?_
      · simp only [w_fn, w_ok, w_ex, w_no, w_nos, w_mno, w_exc, w_nxt, w_ret, w_bind, w_opt, w_optM, w_chk, w_of, w_settle_d, w_settle_o, w_cond, w_condS, w_ite, w_iteS, w_iteM, w_var, sIf, sSet, sAug, sSub, sFldS, sRet, sRetN, sDrop, sNil, sAsg, sBreak, sCont, sRaise0, sRaise1, xtAnd, xtOr, xtNot, xB, x1, x2, xC, xCB, xCh, xAnd, xOr, xNot, xIf, xTup, xLst, xDct0, xCall, xM, xMd, xIsi, aNil, aCons, adNil, adCons, xSl, oNo, oI, gN, gT, gsNil, gsCons, List.map, List.append, List.replicate, List.cons_append, List.nil_append, List.append_nil, List.getElem?_cons_zero, List.getElem?_cons_succ, List.set_cons_zero, List.set_cons_succ, List.length_cons, List.length_nil, add_ok, sub_ok, eqi_ok, nei_ok, lti_ok, gti_ok, lei_ok, gei_ok, int_ok, if_true, if_false, cond_true, cond_false, Bool.false_eq_true, true_and, and_true, Option.map_some, Option.bind_some, Nat.reduceAdd, Nat.reduceSub, Nat.reduceLeDiff, reduceIte]
        exact ⟨by omega, rfl⟩
      · rintro i acc2 m2 hi ⟨rfl, rfl⟩
        simp only [w_fn, w_ok, w_ex, w_no, w_nos, w_mno, w_exc, w_nxt, w_ret, w_bind, w_opt, w_optM, w_chk, w_of, w_settle_d, w_settle_o, w_cond, w_condS, w_ite, w_iteS, w_iteM, w_var, sIf, sSet, sAug, sSub, sFldS, sRet, sRetN, sDrop, sNil, sAsg, sBreak, sCont, sRaise0, sRaise1, xtAnd, xtOr, xtNot, xB, x1, x2, xC, xCB, xCh, xAnd, xOr, xNot, xIf, xTup, xLst, xDct0, xCall, xM, xMd, xIsi, aNil, aCons, adNil, adCons, xSl, oNo, oI, gN, gT, gsNil, gsCons, List.map, List.append, List.replicate, List.cons_append, List.nil_append, List.append_nil, List.getElem?_cons_zero, List.getElem?_cons_succ, List.set_cons_zero, List.set_cons_succ, List.length_cons, List.length_nil, add_ok, sub_ok, eqi_ok, nei_ok, lti_ok, gti_ok, lei_ok, gei_ok, int_ok, if_true, if_false, cond_true, cond_false, Bool.false_eq_true, true_and, and_true, Option.map_some, Option.bind_some, Nat.reduceAdd, Nat.reduceSub, Nat.reduceLeDiff, reduceIte, wipeR, row_snoc (show r.length < 1000 by omega), show (1 : Nat) ≤ LIM from by decide]
        refine ⟨by rw [List.length_map, List.length_range]; unfold LIM; omega, ?_⟩
        rw [List.range_succ, List.map_append]; rfl
      · rintro acc2 m2 ⟨rfl, rfl⟩
        rw [unrow_row]
        exact ⟨rfl, rfl⟩
    · rw [last_step, List.length_map, List.length_nil]; omega
    · intro ρ' hρ
      rw [last_step, List.nil_append]
      have d5 := get_set (o := .lst ((lastP s (j + 1)).map row)) (get_app (m := m') (o := .lst []))
      have d4 : ((m' ++ [O.lst []]).set m'.length (.lst ((lastP s (j + 1)).map row)))[lf]? = some (.lst ((rowsP s j).map row)) := by rw [List.getElem?_set_ne (by omega)]; exact c4
      have hle : ((rowsP s j).map row).length + ((lastP s (j + 1)).map row).length ≤ LIM := by
        rw [List.length_map, List.length_map]
        have := rowsP_grow (s := s) (show j + 1 ≤ n by omega)
        rw [rowsP, List.length_append] at this
        omega
      have fr2 : Fr [] m ((((m' ++ [O.lst []]).set m'.length (.lst ((lastP s (j + 1)).map row)))).set lf (.lst ((rowsP s (j + 1)).map row))) := ((h6.trans Fr.app).fresh (by have := h6.1; omega)).fresh h1
      have e5 : ((((m' ++ [O.lst []]).set m'.length (.lst ((lastP s (j + 1)).map row)))).set lf (.lst ((rowsP s (j + 1)).map row)))[m'.length]? = some (.lst ((lastP s (j + 1)).map row)) := by rw [List.getElem?_set_ne (by omega)]; exact d5
      have e4 := get_set (o := .lst ((rowsP s (j + 1)).map row)) d4
      have er : (rowsP s j).map row ++ (lastP s (j + 1)).map row = (rowsP s (j + 1)).map row := by rw [rowsP, List.map_append]
      rcases hρ with rfl | ⟨w, rfl⟩ <;> (
        simp only [w_fn, w_ok, w_ex, w_no, w_nos, w_mno, w_exc, w_nxt, w_ret, w_bind, w_opt, w_optM, w_chk, w_of, w_settle_d, w_settle_o, w_cond, w_condS, w_ite, w_iteS, w_iteM, w_var, sIf, sSet, sAug, sSub, sFldS, sRet, sRetN, sDrop, sNil, sAsg, sBreak, sCont, sRaise0, sRaise1, xtAnd, xtOr, xtNot, xB, x1, x2, xC, xCB, xCh, xAnd, xOr, xNot, xIf, xTup, xLst, xDct0, xCall, xM, xMd, xIsi, aNil, aCons, adNil, adCons, xSl, oNo, oI, gN, gT, gsNil, gsCons, List.map, List.append, List.replicate, List.cons_append, List.nil_append, List.append_nil, List.getElem?_cons_zero, List.getElem?_cons_succ, List.set_cons_zero, List.set_cons_succ, List.length_cons, List.length_nil, add_ok, sub_ok, eqi_ok, nei_ok, lti_ok, gti_ok, lei_ok, gei_ok, int_ok, if_true, if_false, cond_true, cond_false, Bool.false_eq_true, true_and, and_true, Option.map_some, Option.bind_some, Nat.reduceAdd, Nat.reduceSub, Nat.reduceLeDiff, reduceIte, ty_lst d4, extl_ok d4 d5 hle, er]
        exact ⟨lf, m'.length, _, _, _, _, rfl, h1, by have := h6.1; omega, by omega, e4, e5, fr2⟩)
  · rintro ρ m' ⟨lf, ll, x, y, z, u, rfl, h1, h2, h3, h4, h5, h6⟩
    simp only [w_fn, w_ok, w_ex, w_no, w_nos, w_mno, w_exc, w_nxt, w_ret, w_bind, w_opt, w_optM, w_chk, w_of, w_settle_d, w_settle_o, w_cond, w_condS, w_ite, w_iteS, w_iteM, w_var, sIf, sSet, sAug, sSub, sFldS, sRet, sRetN, sDrop, sNil, sAsg, sBreak, sCont, sRaise0, sRaise1, xtAnd, xtOr, xtNot, xB, x1, x2, xC, xCB, xCh, xAnd, xOr, xNot, xIf, xTup, xLst, xDct0, xCall, xM, xMd, xIsi, aNil, aCons, adNil, adCons, xSl, oNo, oI, gN, gT, gsNil, gsCons, List.map, List.append, List.replicate, List.cons_append, List.nil_append, List.append_nil, List.getElem?_cons_zero, List.getElem?_cons_succ, List.set_cons_zero, List.set_cons_succ, List.length_cons, List.length_nil, add_ok, sub_ok, eqi_ok, nei_ok, lti_ok, gti_ok, lei_ok, gei_ok, int_ok, if_true, if_false, cond_true, cond_false, Bool.false_eq_true, true_and, and_true, Option.map_some, Option.bind_some, Nat.reduceAdd, Nat.reduceSub, Nat.reduceLeDiff, reduceIte]
    exact k lf m' h1 h4 h6
end Dn

set_option Elab.async false
set_option linter.all false
set_option maxRecDepth 100000
set_option maxHeartbeats 4000000
set_option autoImplicit false
namespace Dn
open PySem PySem.Spec

theorem x_mapl {e : EX} {i : Nat} {vs : List Nat} {te : EX} {ρ : Rho} {m : Mu} {Q : Wv → Mu → Prop} {E : D → Mu → Prop} (xs : List D) (f : D → D) (he : WM (e ρ m) (fun w m1 => m1 = m ∧ ∃ l, w = .d (.loc l) ∧ m[l]? = some (.lst xs)) E) (hl : xs.length ≤ LIM)
    (turn : ∀ d ∈ xs, WM (te ((wipeR ρ vs).set i (some d)) m) (fun w m' => w = .d (f d) ∧ m' = m) (fun _ _ => False)) (k : Q (.o (.lst (xs.map f))) m) : WM (xLc (iAny e) vs (gN i) ttYes te ρ m) Q E := by
  unfold xLc
  rw [w_bind]
  refine w_iAny_lst (he.imp (fun w m1 ⟨h2, l, h1, h3⟩ => ⟨l, xs, h1, by rw [h2]; exact h3, ?_⟩) fun _ _ z => z)
  subst h2
  rw [w_bind]
  refine w_comp (g := gN i) (tt := ttYes) (I := fun j acc m' => acc = (xs.take j).map f ∧ m' = m1) (fun j d acc m' hj hI => ?_) (fun acc m' hI => ?_) ⟨by simp, rfl⟩
  · obtain ⟨rfl, rfl⟩ := hI
    refine ⟨stands_one h3, _, rfl, ?_⟩
    show WM (M.ret true m') _ _
    rw [w_ret, if_pos rfl]
    have hlt : j < xs.length := (List.getElem?_eq_some_iff.mp hj).1
    refine (turn d (List.mem_of_getElem? hj)).imp (fun w m2 ⟨e1, e2⟩ => ?_) fun _ _ z => z
    subst e1 e2
    rw [w_settle_d]
    refine ⟨?_, ?_, rfl⟩
    · rw [List.length_map, List.length_take]
      omega
    · rw [List.take_add_one, hj]; simp
  · obtain ⟨rfl, rfl⟩ := hI
    refine ⟨stands_one h3, ?_⟩
    rw [w_ret, List.take_length]
    exact k
theorem w_loop_nil {g : D → Rho → Option Rho} {b : SX} {ρ : Rho} {m : Mu} {Q : Fl → Rho → Mu → Prop} {E : D → Rho → Mu → Prop} : WS (loopF g b [] [] ρ m) Q E = Q .nx ρ m := by
  unfold loopF
  rw [if_pos stands_nil]
  exact w_nxt
theorem w_loop_cons {g : D → Rho → Option Rho} {b : SX} {d : D} {ds : List D} {ρ : Rho} {m : Mu} {Q : Fl → Rho → Mu → Prop} {E : D → Rho → Mu → Prop} : WS (loopF g b [] (d :: ds) ρ m) Q E = match g d ρ with
    | some ρ1 => WS (b ρ1 m) (fun f ρ2 m2 => match f with
      | .nx => WS (loopF g b [] ds ρ2 m2) Q E
      | .ct => WS (loopF g b [] ds ρ2 m2) Q E
      | .bk => Q .nx ρ2 m2
      | .rt d => Q (.rt d) ρ2 m2) E
    | none => False := by
  rw [loopF]
  dsimp only
  rw [if_pos stands_nil]
  cases g d ρ with
  | none => exact w_nos
  | some ρ1 =>
    dsimp only
    cases b ρ1 m with
    | ok f ρ2 m2 => cases f <;> simp only [w_nxt]
    | ex e ρ2 m2 => simp only [w_exc]
    | no => simp only [w_nos]
theorem w_comp_nil {g : D → Rho → Option Rho} {tt : TX} {te : EX} {ρ : Rho} {acc : List D} {m : Mu} {Q : List D → Mu → Prop} {E : D → Mu → Prop} : WM (compF g tt te [] ρ [] acc m) Q E = Q acc m := by
  unfold compF
  rw [if_pos stands_nil]
  exact w_ok
theorem w_comp_cons {g : D → Rho → Option Rho} {te : EX} {d : D} {ds : List D} {ρ : Rho} {acc : List D} {m : Mu} {Q : List D → Mu → Prop} {E : D → Mu → Prop} : WM (compF g ttYes te [] ρ (d :: ds) acc m) Q E = match g d ρ with
    | some ρ1 => WM (te ρ1 m) (fun w m2 => WM (settle w m2) (fun x m3 => if acc.length < LIM then WM (compF g ttYes te [] ρ ds (acc ++ [x]) m3) Q E else False) E) (fun _ _ => False)
    | none => False := by
  rw [compF]
  dsimp only
  rw [if_pos stands_nil]
  cases g d ρ with
  | none => exact w_no
  | some ρ1 =>
    dsimp only
    rw [w_bind, w_nx]
    unfold ttYes
    rw [w_ret]
    simp only [cond_true]
    rw [w_bind, w_nx]
    simp only [w_bind, w_iteM, w_mno]
/-- what the counts come to -/
theorem rowsMany_le {s : Int} (h1 : 1 ≤ s) (h2 : s ≤ 8) {n : Nat} (hn : n ≤ 7) : (n = 0 ∨ 1 ≤ rowsMany s n) ∧ 0 ≤ rowsMany s n ∧ rowsMany s n ≤ 2 ^ 25 := by
  have p : ∀ k : Nat, 1 ≤ s ^ k := fun k => by
    induction k with
    | zero => simp
    | succ k ih => rw [Int.pow_succ]; exact Int.le_trans (by omega : (1 : Int) ≤ 1 * 1) (Int.mul_le_mul ih h1 (by decide) (by omega))
  have g : ∀ k : Nat, 0 ≤ rowsMany s k ∧ rowsMany s k ≤ k * 8 ^ k ∧ (k = 0 ∨ 1 ≤ rowsMany s k) := fun k => by
    induction k with
    | zero => exact ⟨Int.le_refl 0, by show (0 : Int) ≤ _; simp, .inl rfl⟩
    | succ k ih =>
      rw [rowsMany]
      have := p (k + 1)
      have q := (pow_le8 (k := k + 1) (show 0 ≤ s by omega) h2).2
      have r : ((8 : Int) ^ k) ≤ 8 ^ (k + 1) := by rw [Int.pow_succ]; have := (pow_le8 (s := 8) (k := k) (by decide) (by decide)).1; omega
      have t : (k : Int) * 8 ^ k ≤ k * 8 ^ (k + 1) := Int.mul_le_mul_of_nonneg_left r (by omega)
      have u : ((k + 1 : Nat) : Int) * 8 ^ (k + 1) = k * 8 ^ (k + 1) + 8 ^ (k + 1) := by push_cast; rw [Int.add_mul, Int.one_mul]
      refine ⟨by omega, by omega, .inr (by omega)⟩
  have := g n
  refine ⟨this.2.2, this.1, Int.le_trans this.2.1 ?_⟩
  rcases n with _ | _ | _ | _ | _ | _ | _ | _ | n
  · decide
  · decide
  · decide
  · decide
  · decide
  · decide
  · decide
  · decide
  · omega
theorem w_reach {i l : Nat} {s : Int} {ah bh : Nat} {kvs : List (D × D)} {ρ : Rho} {m : Mu} {Q : Wv → Mu → Prop} {E : D → Mu → Prop} (b : BookAt l s ah bh kvs m) (h : ρ[i]? = some (some (.loc l))) (k : Q (.d (.int ((ah : Int) + (bh : Int)))) m) : WM (xMeth "reach" 1 [("Book", fm_Book_reach)] (xVar i) adNil ρ m) Q E := by
  have f2 := b.f2
  have f3 := b.f3
  obtain ⟨lt, h1, h2⟩ := b
  have hk : (MTab.get [("Book", fm_Book_reach)] "Book") = some fm_Book_reach := by
    unfold MTab.get
    rw [List.find?_cons, decide_eq_true rfl]
    rfl
  have n1 : ¬ (("kept_sounds" : Str) = "reach") := by decide +kernel
  have n2 : ¬ (("kept_ahead" : Str) = "reach") := by decide +kernel
  have n3 : ¬ (("kept_behind" : Str) = "reach") := by decide +kernel
  have n4 : ¬ (("kept_table" : Str) = "reach") := by decide +kernel
  have hn : ([(("kept_sounds" : Str), D.int s), (("kept_ahead" : Str), .int ah), (("kept_behind" : Str), .int bh), (("kept_table" : Str), .loc lt)].find? fun p => decide (p.1 = ("reach" : Str))) = none := by
    simp only [List.find?_cons, n1, n2, n3, n4, decide_false, List.find?_nil]
  unfold xMeth
  simp only [w_bind, w_var, h, h1, hn, Option.isNone_none, hk, adNil, w_ret, List.length_nil]
  simp only [Nat.reduceAdd, if_true, w_bind]
  unfold fm_Book_reach m_Book_reach
  simp only [w_fn, w_ok, w_ex, w_no, w_nos, w_mno, w_exc, w_nxt, w_ret, w_bind, w_opt, w_optM, w_chk, w_of, w_settle_d, w_settle_o, w_cond, w_condS, w_ite, w_iteS, w_iteM, w_var, sIf, sSet, sAug, sSub, sFldS, sRet, sRetN, sDrop, sNil, sAsg, sBreak, sCont, sRaise0, sRaise1, xtAnd, xtOr, xtNot, xB, x1, x2, xC, xCB, xCh, xAnd, xOr, xNot, xIf, xTup, xLst, xDct0, xCall, xM, xMd, xIsi, aNil, aCons, adNil, adCons, xSl, oNo, oI, gN, gT, gsNil, gsCons, List.map, List.append, List.replicate, List.cons_append, List.nil_append, List.append_nil, List.getElem?_cons_zero, List.getElem?_cons_succ, List.set_cons_zero, List.set_cons_succ, List.length_cons, List.length_nil, add_ok, sub_ok, eqi_ok, nei_ok, lti_ok, gti_ok, lei_ok, gei_ok, int_ok, if_true, if_false, cond_true, cond_false, Bool.false_eq_true, true_and, and_true, Option.map_some, Option.bind_some, Nat.reduceAdd, Nat.reduceSub, Nat.reduceLeDiff, reduceIte, f2, f3]
  exact k
end Dn

set_option Elab.async false
set_option linter.all false
set_option maxRecDepth 100000
set_option maxHeartbeats 4000000
set_option autoImplicit false
namespace Dn
open PySem PySem.Spec

theorem w_for {mi : IX} {g : D → Rho → Option Rho} {b : SX} {ρ : Rho} {m : Mu} {Q : Fl → Rho → Mu → Prop} {E : D → Rho → Mu → Prop} : WS (sFor mi g b ρ m) Q E = WM (mi ρ m) (fun it m1 => WS (loopF g b it.2 it.1 ρ m1) Q E) (fun e m1 => E e ρ m1) := by
  unfold sFor
  rw [w_of]
theorem w_lc {mi : IX} {vs : List Nat} {g : D → Rho → Option Rho} {tt : TX} {te : EX} {ρ : Rho} {m : Mu} {Q : Wv → Mu → Prop} {E : D → Mu → Prop} : WM (xLc mi vs g tt te ρ m) Q E = WM (mi ρ m) (fun it m1 => WM (compF g tt te it.2 (wipeR ρ vs) it.1 [] m1) (fun acc m2 => Q (.o (.lst acc)) m2) E) E := by
  unfold xLc
  simp only [w_bind, w_ret]
def cnt (s : Int) (ah bh : Nat) : Int := rowsMany s ah * rowsMany s (ah + bh - 1) * rowsMany s bh
def trip (t : List Int × List Int × List Int) : D := .tup [row t.1, row t.2.1, row t.2.2]
def tripsP (s ah bh : Nat) : List (List Int × List Int × List Int) := (rowsP s ah).flatMap fun x => (rowsP s (ah + bh - 1)).flatMap fun y => (rowsP s bh).map fun z => (x, y, z)
theorem tripsP_len (s ah bh : Nat) : ((tripsP s ah bh).length : Int) = cnt s ah bh := by
  unfold tripsP cnt
  rw [List.length_flatMap]
  simp only [List.length_flatMap, List.length_map]
  rw [List.map_const', List.map_const', List.sum_replicate_nat, List.sum_replicate_nat, ← rowsP_len, ← rowsP_len, ← rowsP_len]
  push_cast
  rw [Int.mul_assoc]
theorem tripsP_mem {s ah bh : Nat} {t : List Int × List Int × List Int} (h : t ∈ tripsP s ah bh) : RowIn s 1 ah t.1 ∧ RowIn s 1 (ah + bh - 1) t.2.1 ∧ RowIn s 1 bh t.2.2 := by
  unfold tripsP at h
  obtain ⟨x, hx, h⟩ := List.mem_flatMap.mp h
  obtain ⟨y, hy, h⟩ := List.mem_flatMap.mp h
  obtain ⟨z, hz, rfl⟩ := List.mem_map.mp h
  exact ⟨rowsP_mem hx, rowsP_mem hy, rowsP_mem hz⟩
theorem cnt_fac {s : Nat} {ah bh : Nat} (h1 : 1 ≤ s) (h2 : s ≤ 8) (h3 : 1 ≤ ah) (h4 : ah ≤ 4) (h5 : 1 ≤ bh) (h6 : bh ≤ 4) (h : cnt s ah bh ≤ 20000) : (rowsP s ah).length ≤ 20000 ∧ (rowsP s (ah + bh - 1)).length ≤ 20000 ∧ (rowsP s bh).length ≤ 20000 ∧ (tripsP s ah bh).length ≤ 20000 ∧
    ∀ x : List Int, ((rowsP s (ah + bh - 1)).flatMap fun y => (rowsP s bh).map fun z => (x, y, z)).length ≤ 20000 := by
  have a := (rowsMany_le (s := s) (n := ah) (by omega) (by omega) (by omega)).1
  have b := (rowsMany_le (s := s) (n := ah + bh - 1) (by omega) (by omega) (by omega)).1
  have c := (rowsMany_le (s := s) (n := bh) (by omega) (by omega) (by omega)).1
  have t := tripsP_len s ah bh
  have e1 := rowsP_len s ah
  have e2 := rowsP_len s (ah + bh - 1)
  have e3 := rowsP_len s bh
  have a' : 1 ≤ (rowsP s ah).length := by omega
  have b' : 1 ≤ (rowsP s (ah + bh - 1)).length := by omega
  have c' : 1 ≤ (rowsP s bh).length := by omega
  have tn : (rowsP s ah).length * (rowsP s (ah + bh - 1)).length * (rowsP s bh).length ≤ 20000 := by
    have : (((rowsP s ah).length * (rowsP s (ah + bh - 1)).length * (rowsP s bh).length : Nat) : Int) = cnt s ah bh := by
      unfold cnt
      push_cast
      rw [e1, e2, e3]
    omega
  have m1 : (rowsP s ah).length ≤ (rowsP s ah).length * (rowsP s (ah + bh - 1)).length := Nat.le_mul_of_pos_right _ b'
  have m2 : (rowsP s (ah + bh - 1)).length ≤ (rowsP s ah).length * (rowsP s (ah + bh - 1)).length := Nat.le_mul_of_pos_left _ a'
  have m3 : (rowsP s ah).length * (rowsP s (ah + bh - 1)).length ≤ (rowsP s ah).length * (rowsP s (ah + bh - 1)).length * (rowsP s bh).length := Nat.le_mul_of_pos_right _ c'
  have m4 : (rowsP s bh).length ≤ (rowsP s ah).length * (rowsP s (ah + bh - 1)).length * (rowsP s bh).length := Nat.le_mul_of_pos_left _ (Nat.mul_pos a' b')
  have m5 : (rowsP s (ah + bh - 1)).length * (rowsP s bh).length ≤ (rowsP s ah).length * (rowsP s (ah + bh - 1)).length * (rowsP s bh).length := by
    rw [Nat.mul_assoc]
    exact Nat.le_mul_of_pos_left _ a'
  refine ⟨by omega, by omega, by omega, by omega, fun x => ?_⟩
  rw [List.length_flatMap]
  simp only [List.length_map]
  rw [List.map_const', List.sum_replicate_nat]
  omega
theorem triples_ok {l s ah bh : Nat} {kvs : List (D × D)} {m : Mu} {Q : D → Mu → Prop} {E : D → Mu → Prop} (b : BookAt l s ah bh kvs m) (h1 : 1 ≤ s) (h2 : s ≤ 8) (h3 : 1 ≤ ah) (h4 : ah ≤ 4) (h5 : 1 ≤ bh) (h6 : bh ≤ 4)
    (ke : 20000 < cnt s ah bh → E (.exn "TooMany" "most" [.int 20000]) m)
    (k : cnt s ah bh ≤ 20000 → ∀ lf m', m.length ≤ lf → m'[lf]? = some (.lst ((tripsP s ah bh).map trip)) → Fr [] m m' → Q (.loc lf) m') : WM (fm_triples [.loc l] m) Q E := by
  unfold fm_triples m_triples
  simp only [w_fn, w_ok, w_ex, w_no, w_nos, w_mno, w_exc, w_nxt, w_ret, w_bind, w_opt, w_optM, w_chk, w_of, w_settle_d, w_settle_o, w_cond, w_condS, w_ite, w_iteS, w_iteM, w_var, sIf, sSet, sAug, sSub, sFldS, sRet, sRetN, sDrop, sNil, sAsg, sBreak, sCont, sRaise0, sRaise1, xtAnd, xtOr, xtNot, xB, x1, x2, xC, xCB, xCh, xAnd, xOr, xNot, xIf, xTup, xLst, xDct0, xCall, xM, xMd, xIsi, aNil, aCons, adNil, adCons, xSl, oNo, oI, gN, gT, gsNil, gsCons, List.map, List.append, List.replicate, List.cons_append, List.nil_append, List.append_nil, List.getElem?_cons_zero, List.getElem?_cons_succ, List.set_cons_zero, List.set_cons_succ, List.length_cons, List.length_nil, add_ok, sub_ok, eqi_ok, nei_ok, lti_ok, gti_ok, lei_ok, gei_ok, int_ok, if_true, if_false, cond_true, cond_false, Bool.false_eq_true, true_and, and_true, Option.map_some, Option.bind_some, Nat.reduceAdd, Nat.reduceSub, Nat.reduceLeDiff, reduceIte, w_seq, b.f2, b.f3]
  refine w_reach b rfl ?_
  have ei : ((ah : Int) + (bh : Int) - 1) = ((ah + bh - 1 : Nat) : Int) := by omega
  simp only [w_fn, w_ok, w_ex, w_no, w_nos, w_mno, w_exc, w_nxt, w_ret, w_bind, w_opt, w_optM, w_chk, w_of, w_settle_d, w_settle_o, w_cond, w_condS, w_ite, w_iteS, w_iteM, w_var, sIf, sSet, sAug, sSub, sFldS, sRet, sRetN, sDrop, sNil, sAsg, sBreak, sCont, sRaise0, sRaise1, xtAnd, xtOr, xtNot, xB, x1, x2, xC, xCB, xCh, xAnd, xOr, xNot, xIf, xTup, xLst, xDct0, xCall, xM, xMd, xIsi, aNil, aCons, adNil, adCons, xSl, oNo, oI, gN, gT, gsNil, gsCons, List.map, List.append, List.replicate, List.cons_append, List.nil_append, List.append_nil, List.getElem?_cons_zero, List.getElem?_cons_succ, List.set_cons_zero, List.set_cons_succ, List.length_cons, List.length_nil, add_ok, sub_ok, eqi_ok, nei_ok, lti_ok, gti_ok, lei_ok, gei_ok, int_ok, if_true, if_false, cond_true, cond_false, Bool.false_eq_true, true_and, and_true, Option.map_some, Option.bind_some, Nat.reduceAdd, Nat.reduceSub, Nat.reduceLeDiff, reduceIte, sub_ok, b.f3, ei, show (3 : Nat) ≤ LIM from by decide]
  rw [w_for]
  refine w_iAny_tup ?_
  simp only [w_fn, w_ok, w_ex, w_no, w_nos, w_mno, w_exc, w_nxt, w_ret, w_bind, w_opt, w_optM, w_chk, w_of, w_settle_d, w_settle_o, w_cond, w_condS, w_ite, w_iteS, w_iteM, w_var, sIf, sSet, sAug, sSub, sFldS, sRet, sRetN, sDrop, sNil, sAsg, sBreak, sCont, sRaise0, sRaise1, xtAnd, xtOr, xtNot, xB, x1, x2, xC, xCB, xCh, xAnd, xOr, xNot, xIf, xTup, xLst, xDct0, xCall, xM, xMd, xIsi, aNil, aCons, adNil, adCons, xSl, oNo, oI, gN, gT, gsNil, gsCons, List.map, List.append, List.replicate, List.cons_append, List.nil_append, List.append_nil, List.getElem?_cons_zero, List.getElem?_cons_succ, List.set_cons_zero, List.set_cons_succ, List.length_cons, List.length_nil, add_ok, sub_ok, eqi_ok, nei_ok, lti_ok, gti_ok, lei_ok, gei_ok, int_ok, if_true, if_false, cond_true, cond_false, Bool.false_eq_true, true_and, and_true, Option.map_some, Option.bind_some, Nat.reduceAdd, Nat.reduceSub, Nat.reduceLeDiff, reduceIte]
  refine ⟨_, .inl rfl, ?_⟩
  obtain ⟨_, a1, a2⟩ := rowsMany_le (s := s) (n := ah) (by omega) (by omega) (by omega)
  obtain ⟨_, a3, a4⟩ := rowsMany_le (s := s) (n := ah + bh - 1) (by omega) (by omega) (by omega)
  obtain ⟨_, a5, a6⟩ := rowsMany_le (s := s) (n := bh) (by omega) (by omega) (by omega)
  have hmul : ∀ {mu : Mu} {x y : Int}, 0 ≤ x → x ≤ 2 ^ 60 → 0 ≤ y → y ≤ 2 ^ 25 → mulW (.d (.int x)) (.d (.int y)) mu = some (.d (.int (x * y))) := fun {mu x y} q1 q2 q3 q4 => mul_ok (lg q1 (by omega)) (lg q3 (by omega))
  have p0 : 0 ≤ rowsMany s ah * rowsMany s (ah + bh - 1) := Int.mul_nonneg a1 a3
  have p1 : rowsMany s ah * rowsMany s (ah + bh - 1) ≤ 2 ^ 60 := Int.le_trans (Int.mul_le_mul a2 a4 a3 (by decide)) (by decide)
  simp only [w_loop_cons, w_loop_nil, w_fn, w_ok, w_ex, w_no, w_nos, w_mno, w_exc, w_nxt, w_ret, w_bind, w_opt, w_optM, w_chk, w_of, w_settle_d, w_settle_o, w_cond, w_condS, w_ite, w_iteS, w_iteM, w_var, sIf, sSet, sAug, sSub, sFldS, sRet, sRetN, sDrop, sNil, sAsg, sBreak, sCont, sRaise0, sRaise1, xtAnd, xtOr, xtNot, xB, x1, x2, xC, xCB, xCh, xAnd, xOr, xNot, xIf, xTup, xLst, xDct0, xCall, xM, xMd, xIsi, aNil, aCons, adNil, adCons, xSl, oNo, oI, gN, gT, gsNil, gsCons, List.map, List.append, List.replicate, List.cons_append, List.nil_append, List.append_nil, List.getElem?_cons_zero, List.getElem?_cons_succ, List.set_cons_zero, List.set_cons_succ, List.length_cons, List.length_nil, add_ok, sub_ok, eqi_ok, nei_ok, lti_ok, gti_ok, lei_ok, gei_ok, int_ok, if_true, if_false, cond_true, cond_false, Bool.false_eq_true, true_and, and_true, Option.map_some, Option.bind_some, Nat.reduceAdd, Nat.reduceSub, Nat.reduceLeDiff, reduceIte, b.f1]
  refine rows_many_ok (by omega) (by omega) (by omega) ?_
  simp only [w_fn, w_ok, w_ex, w_no, w_nos, w_mno, w_exc, w_nxt, w_ret, w_bind, w_opt, w_optM, w_chk, w_of, w_settle_d, w_settle_o, w_cond, w_condS, w_ite, w_iteS, w_iteM, w_var, sIf, sSet, sAug, sSub, sFldS, sRet, sRetN, sDrop, sNil, sAsg, sBreak, sCont, sRaise0, sRaise1, xtAnd, xtOr, xtNot, xB, x1, x2, xC, xCB, xCh, xAnd, xOr, xNot, xIf, xTup, xLst, xDct0, xCall, xM, xMd, xIsi, aNil, aCons, adNil, adCons, xSl, oNo, oI, gN, gT, gsNil, gsCons, List.map, List.append, List.replicate, List.cons_append, List.nil_append, List.append_nil, List.getElem?_cons_zero, List.getElem?_cons_succ, List.set_cons_zero, List.set_cons_succ, List.length_cons, List.length_nil, add_ok, sub_ok, eqi_ok, nei_ok, lti_ok, gti_ok, lei_ok, gei_ok, int_ok, if_true, if_false, cond_true, cond_false, Bool.false_eq_true, true_and, and_true, Option.map_some, Option.bind_some, Nat.reduceAdd, Nat.reduceSub, Nat.reduceLeDiff, reduceIte, hmul (show (0 : Int) ≤ 1 by decide) (by decide) a1 a2, Int.one_mul, b.f1]
  refine rows_many_ok (by omega) (by omega) (by omega) ?_
  simp only [w_fn, w_ok, w_ex, w_no, w_nos, w_mno, w_exc, w_nxt, w_ret, w_bind, w_opt, w_optM, w_chk, w_of, w_settle_d, w_settle_o, w_cond, w_condS, w_ite, w_iteS, w_iteM, w_var, sIf, sSet, sAug, sSub, sFldS, sRet, sRetN, sDrop, sNil, sAsg, sBreak, sCont, sRaise0, sRaise1, xtAnd, xtOr, xtNot, xB, x1, x2, xC, xCB, xCh, xAnd, xOr, xNot, xIf, xTup, xLst, xDct0, xCall, xM, xMd, xIsi, aNil, aCons, adNil, adCons, xSl, oNo, oI, gN, gT, gsNil, gsCons, List.map, List.append, List.replicate, List.cons_append, List.nil_append, List.append_nil, List.getElem?_cons_zero, List.getElem?_cons_succ, List.set_cons_zero, List.set_cons_succ, List.length_cons, List.length_nil, add_ok, sub_ok, eqi_ok, nei_ok, lti_ok, gti_ok, lei_ok, gei_ok, int_ok, if_true, if_false, cond_true, cond_false, Bool.false_eq_true, true_and, and_true, Option.map_some, Option.bind_some, Nat.reduceAdd, Nat.reduceSub, Nat.reduceLeDiff, reduceIte, hmul a1 (Int.le_trans a2 (by decide)) a3 a4, b.f1]
  refine rows_many_ok (by omega) (by omega) (by omega) ?_
  simp only [w_fn, w_ok, w_ex, w_no, w_nos, w_mno, w_exc, w_nxt, w_ret, w_bind, w_opt, w_optM, w_chk, w_of, w_settle_d, w_settle_o, w_cond, w_condS, w_ite, w_iteS, w_iteM, w_var, sIf, sSet, sAug, sSub, sFldS, sRet, sRetN, sDrop, sNil, sAsg, sBreak, sCont, sRaise0, sRaise1, xtAnd, xtOr, xtNot, xB, x1, x2, xC, xCB, xCh, xAnd, xOr, xNot, xIf, xTup, xLst, xDct0, xCall, xM, xMd, xIsi, aNil, aCons, adNil, adCons, xSl, oNo, oI, gN, gT, gsNil, gsCons, List.map, List.append, List.replicate, List.cons_append, List.nil_append, List.append_nil, List.getElem?_cons_zero, List.getElem?_cons_succ, List.set_cons_zero, List.set_cons_succ, List.length_cons, List.length_nil, add_ok, sub_ok, eqi_ok, nei_ok, lti_ok, gti_ok, lei_ok, gei_ok, int_ok, if_true, if_false, cond_true, cond_false, Bool.false_eq_true, true_and, and_true, Option.map_some, Option.bind_some, Nat.reduceAdd, Nat.reduceSub, Nat.reduceLeDiff, reduceIte, hmul p0 p1 a5 a6]
  by_cases hc : 20000 < cnt s ah bh
  · have hc2 := hc
    unfold cnt at hc2
    simp only [hc2, decide_true, w_fn, w_ok, w_ex, w_no, w_nos, w_mno, w_exc, w_nxt, w_ret, w_bind, w_opt, w_optM, w_chk, w_of, w_settle_d, w_settle_o, w_cond, w_condS, w_ite, w_iteS, w_iteM, w_var, sIf, sSet, sAug, sSub, sFldS, sRet, sRetN, sDrop, sNil, sAsg, sBreak, sCont, sRaise0, sRaise1, xtAnd, xtOr, xtNot, xB, x1, x2, xC, xCB, xCh, xAnd, xOr, xNot, xIf, xTup, xLst, xDct0, xCall, xM, xMd, xIsi, aNil, aCons, adNil, adCons, xSl, oNo, oI, gN, gT, gsNil, gsCons, List.map, List.append, List.replicate, List.cons_append, List.nil_append, List.append_nil, List.getElem?_cons_zero, List.getElem?_cons_succ, List.set_cons_zero, List.set_cons_succ, List.length_cons, List.length_nil, add_ok, sub_ok, eqi_ok, nei_ok, lti_ok, gti_ok, lei_ok, gei_ok, int_ok, if_true, if_false, cond_true, cond_false, Bool.false_eq_true, true_and, and_true, Option.map_some, Option.bind_some, Nat.reduceAdd, Nat.reduceSub, Nat.reduceLeDiff, reduceIte]
    exact ke hc
  · have hc2 := hc
    unfold cnt at hc2
    have hle : cnt s ah bh ≤ 20000 := by omega
    obtain ⟨c1, c2, c3, c4, c5⟩ := cnt_fac h1 h2 h3 h4 h5 h6 hle
    have hL : 20000 ≤ LIM := by decide
    simp only [hc2, decide_false, w_fn, w_ok, w_ex, w_no, w_nos, w_mno, w_exc, w_nxt, w_ret, w_bind, w_opt, w_optM, w_chk, w_of, w_settle_d, w_settle_o, w_cond, w_condS, w_ite, w_iteS, w_iteM, w_var, sIf, sSet, sAug, sSub, sFldS, sRet, sRetN, sDrop, sNil, sAsg, sBreak, sCont, sRaise0, sRaise1, xtAnd, xtOr, xtNot, xB, x1, x2, xC, xCB, xCh, xAnd, xOr, xNot, xIf, xTup, xLst, xDct0, xCall, xM, xMd, xIsi, aNil, aCons, adNil, adCons, xSl, oNo, oI, gN, gT, gsNil, gsCons, List.map, List.append, List.replicate, List.cons_append, List.nil_append, List.append_nil, List.getElem?_cons_zero, List.getElem?_cons_succ, List.set_cons_zero, List.set_cons_succ, List.length_cons, List.length_nil, add_ok, sub_ok, eqi_ok, nei_ok, lti_ok, gti_ok, lei_ok, gei_ok, int_ok, if_true, if_false, cond_true, cond_false, Bool.false_eq_true, true_and, and_true, Option.map_some, Option.bind_some, Nat.reduceAdd, Nat.reduceSub, Nat.reduceLeDiff, reduceIte]
    rw [w_lc]
    refine w_iAny_tup ?_
    simp only [w_fn, w_ok, w_ex, w_no, w_nos, w_mno, w_exc, w_nxt, w_ret, w_bind, w_opt, w_optM, w_chk, w_of, w_settle_d, w_settle_o, w_cond, w_condS, w_ite, w_iteS, w_iteM, w_var, sIf, sSet, sAug, sSub, sFldS, sRet, sRetN, sDrop, sNil, sAsg, sBreak, sCont, sRaise0, sRaise1, xtAnd, xtOr, xtNot, xB, x1, x2, xC, xCB, xCh, xAnd, xOr, xNot, xIf, xTup, xLst, xDct0, xCall, xM, xMd, xIsi, aNil, aCons, adNil, adCons, xSl, oNo, oI, gN, gT, gsNil, gsCons, List.map, List.append, List.replicate, List.cons_append, List.nil_append, List.append_nil, List.getElem?_cons_zero, List.getElem?_cons_succ, List.set_cons_zero, List.set_cons_succ, List.length_cons, List.length_nil, add_ok, sub_ok, eqi_ok, nei_ok, lti_ok, gti_ok, lei_ok, gei_ok, int_ok, if_true, if_false, cond_true, cond_false, Bool.false_eq_true, true_and, and_true, Option.map_some, Option.bind_some, Nat.reduceAdd, Nat.reduceSub, Nat.reduceLeDiff, reduceIte]
    refine ⟨_, .inl rfl, ?_⟩
    simp only [w_comp_cons, w_comp_nil, wipeR, w_fn, w_ok, w_ex, w_no, w_nos, w_mno, w_exc, w_nxt, w_ret, w_bind, w_opt, w_optM, w_chk, w_of, w_settle_d, w_settle_o, w_cond, w_condS, w_ite, w_iteS, w_iteM, w_var, sIf, sSet, sAug, sSub, sFldS, sRet, sRetN, sDrop, sNil, sAsg, sBreak, sCont, sRaise0, sRaise1, xtAnd, xtOr, xtNot, xB, x1, x2, xC, xCB, xCh, xAnd, xOr, xNot, xIf, xTup, xLst, xDct0, xCall, xM, xMd, xIsi, aNil, aCons, adNil, adCons, xSl, oNo, oI, gN, gT, gsNil, gsCons, List.map, List.append, List.replicate, List.cons_append, List.nil_append, List.append_nil, List.getElem?_cons_zero, List.getElem?_cons_succ, List.set_cons_zero, List.set_cons_succ, List.length_cons, List.length_nil, add_ok, sub_ok, eqi_ok, nei_ok, lti_ok, gti_ok, lei_ok, gei_ok, int_ok, if_true, if_false, cond_true, cond_false, Bool.false_eq_true, true_and, and_true, Option.map_some, Option.bind_some, Nat.reduceAdd, Nat.reduceSub, Nat.reduceLeDiff, reduceIte, b.f1, show (0 : Nat) < LIM from by decide, show (1 : Nat) < LIM from by decide, show (2 : Nat) < LIM from by decide]
    refine rows_to_ok h2 (by omega) (by omega) fun l1 m1 q1 r1 f1 => ?_
    have b1 := b.fr f1
    simp only [w_comp_cons, w_comp_nil, wipeR, w_fn, w_ok, w_ex, w_no, w_nos, w_mno, w_exc, w_nxt, w_ret, w_bind, w_opt, w_optM, w_chk, w_of, w_settle_d, w_settle_o, w_cond, w_condS, w_ite, w_iteS, w_iteM, w_var, sIf, sSet, sAug, sSub, sFldS, sRet, sRetN, sDrop, sNil, sAsg, sBreak, sCont, sRaise0, sRaise1, xtAnd, xtOr, xtNot, xB, x1, x2, xC, xCB, xCh, xAnd, xOr, xNot, xIf, xTup, xLst, xDct0, xCall, xM, xMd, xIsi, aNil, aCons, adNil, adCons, xSl, oNo, oI, gN, gT, gsNil, gsCons, List.map, List.append, List.replicate, List.cons_append, List.nil_append, List.append_nil, List.getElem?_cons_zero, List.getElem?_cons_succ, List.set_cons_zero, List.set_cons_succ, List.length_cons, List.length_nil, add_ok, sub_ok, eqi_ok, nei_ok, lti_ok, gti_ok, lei_ok, gei_ok, int_ok, if_true, if_false, cond_true, cond_false, Bool.false_eq_true, true_and, and_true, Option.map_some, Option.bind_some, Nat.reduceAdd, Nat.reduceSub, Nat.reduceLeDiff, reduceIte, b1.f1, show (0 : Nat) < LIM from by decide, show (1 : Nat) < LIM from by decide, show (2 : Nat) < LIM from by decide]
    refine rows_to_ok h2 (by omega) (by omega) fun l2 m2 q2 r2 f2 => ?_
    have b2 := b1.fr f2
    simp only [w_comp_cons, w_comp_nil, wipeR, w_fn, w_ok, w_ex, w_no, w_nos, w_mno, w_exc, w_nxt, w_ret, w_bind, w_opt, w_optM, w_chk, w_of, w_settle_d, w_settle_o, w_cond, w_condS, w_ite, w_iteS, w_iteM, w_var, sIf, sSet, sAug, sSub, sFldS, sRet, sRetN, sDrop, sNil, sAsg, sBreak, sCont, sRaise0, sRaise1, xtAnd, xtOr, xtNot, xB, x1, x2, xC, xCB, xCh, xAnd, xOr, xNot, xIf, xTup, xLst, xDct0, xCall, xM, xMd, xIsi, aNil, aCons, adNil, adCons, xSl, oNo, oI, gN, gT, gsNil, gsCons, List.map, List.append, List.replicate, List.cons_append, List.nil_append, List.append_nil, List.getElem?_cons_zero, List.getElem?_cons_succ, List.set_cons_zero, List.set_cons_succ, List.length_cons, List.length_nil, add_ok, sub_ok, eqi_ok, nei_ok, lti_ok, gti_ok, lei_ok, gei_ok, int_ok, if_true, if_false, cond_true, cond_false, Bool.false_eq_true, true_and, and_true, Option.map_some, Option.bind_some, Nat.reduceAdd, Nat.reduceSub, Nat.reduceLeDiff, reduceIte, b2.f1, show (0 : Nat) < LIM from by decide, show (1 : Nat) < LIM from by decide, show (2 : Nat) < LIM from by decide]
    refine rows_to_ok h2 (by omega) (by omega) fun l3 m3 q3 r3 f3 => ?_
    simp only [w_comp_cons, w_comp_nil, wipeR, w_fn, w_ok, w_ex, w_no, w_nos, w_mno, w_exc, w_nxt, w_ret, w_bind, w_opt, w_optM, w_chk, w_of, w_settle_d, w_settle_o, w_cond, w_condS, w_ite, w_iteS, w_iteM, w_var, sIf, sSet, sAug, sSub, sFldS, sRet, sRetN, sDrop, sNil, sAsg, sBreak, sCont, sRaise0, sRaise1, xtAnd, xtOr, xtNot, xB, x1, x2, xC, xCB, xCh, xAnd, xOr, xNot, xIf, xTup, xLst, xDct0, xCall, xM, xMd, xIsi, aNil, aCons, adNil, adCons, xSl, oNo, oI, gN, gT, gsNil, gsCons, List.map, List.append, List.replicate, List.cons_append, List.nil_append, List.append_nil, List.getElem?_cons_zero, List.getElem?_cons_succ, List.set_cons_zero, List.set_cons_succ, List.length_cons, List.length_nil, add_ok, sub_ok, eqi_ok, nei_ok, lti_ok, gti_ok, lei_ok, gei_ok, int_ok, if_true, if_false, cond_true, cond_false, Bool.false_eq_true, true_and, and_true, Option.map_some, Option.bind_some, Nat.reduceAdd, Nat.reduceSub, Nat.reduceLeDiff, reduceIte, show (0 : Nat) ≤ LIM from by decide, show (0 : Nat) < LIM from by decide, show (1 : Nat) < LIM from by decide, show (2 : Nat) < LIM from by decide]
    have hd : ∀ x : List Int, ∀ y : List Int, ((rowsP s bh).map row).map (fun d => D.tup [row x, row y, d]) = ((rowsP s bh).map fun z => (x, y, z)).map trip := fun x y => by
      rw [List.map_map, List.map_map]; rfl
    have hi : ∀ x : List Int, ((rowsP s (ah + bh - 1)).map row).flatMap (fun d => ((rowsP s bh).map row).map fun e => D.tup [row x, d, e]) = ((rowsP s (ah + bh - 1)).flatMap fun y => (rowsP s bh).map fun z => (x, y, z)).map trip := fun x => by
      rw [List.flatMap_map, List.map_flatMap]
      congr 1
      funext y
      exact hd x y
    have z3 := f1.trans (f2.trans f3)
    have r1 := (f2.trans f3).get r1
    have r2 := f3.get r2
    have y2 := lt_of_get r1
    have y3 := lt_of_get r2
    have y4 := lt_of_get r3
    generalize hm4 : m3 ++ [O.lst [D.loc l1, D.loc l2, D.loc l3]] = m4
    have f4 : Fr [] m3 m4 := by rw [← hm4]; exact Fr.app
    have hlr : m4[m3.length]? = some (.lst [.loc l1, .loc l2, .loc l3]) := by rw [← hm4]; exact get_app
    have y1 : m3.length < m4.length := by rw [← hm4]; simp
    generalize hm5 : m4 ++ [O.lst []] = m5
    have f5 : Fr [] m4 m5 := by rw [← hm5]; exact Fr.app
    have hlf : m5[m4.length]? = some (.lst []) := by rw [← hm5]; exact get_app
    have hlr := f5.get hlr
    have r1 := (f4.trans f5).get r1
    have r2 := (f4.trans f5).get r2
    have r3 := (f4.trans f5).get r3
    have keep : ∀ {j : Nat} {o u : O}, m5[j]? = some o → j < m4.length → (m5.set m4.length u)[j]? = some o := fun {j o u} q1 q2 => by rw [List.getElem?_set_ne (by omega)]; exact q1
    rw [w_for]
    refine w_iAny_lst ?_
    simp only [w_fn, w_ok, w_ex, w_no, w_nos, w_mno, w_exc, w_nxt, w_ret, w_bind, w_opt, w_optM, w_chk, w_of, w_settle_d, w_settle_o, w_cond, w_condS, w_ite, w_iteS, w_iteM, w_var, sIf, sSet, sAug, sSub, sFldS, sRet, sRetN, sDrop, sNil, sAsg, sBreak, sCont, sRaise0, sRaise1, xtAnd, xtOr, xtNot, xB, x1, x2, xC, xCB, xCh, xAnd, xOr, xNot, xIf, xTup, xLst, xDct0, xCall, xM, xMd, xIsi, aNil, aCons, adNil, adCons, xSl, oNo, oI, gN, gT, gsNil, gsCons, List.map, List.append, List.replicate, List.cons_append, List.nil_append, List.append_nil, List.getElem?_cons_zero, List.getElem?_cons_succ, List.set_cons_zero, List.set_cons_succ, List.length_cons, List.length_nil, add_ok, sub_ok, eqi_ok, nei_ok, lti_ok, gti_ok, lei_ok, gei_ok, int_ok, if_true, if_false, cond_true, cond_false, Bool.false_eq_true, true_and, and_true, Option.map_some, Option.bind_some, Nat.reduceAdd, Nat.reduceSub, Nat.reduceLeDiff, reduceIte, ix_lst hlr, at_0]
    refine ⟨l1, _, rfl, r1, ?_⟩
    refine w_loop (fun i ρ' m' => ∃ q1 q2 q3 x y, ρ' = [some (.loc l), q1, q2, q3, some (.loc m3.length), some (.loc m4.length), x, y, none] ∧ m' = m5.set m4.length (.lst ((((rowsP s ah).take i).flatMap fun x => (rowsP s (ah + bh - 1)).flatMap fun y => (rowsP s bh).map fun z => (x, y, z)).map trip))) (fun i d ρ' m' hi2 hI => ?_) (fun ρ' m' hI => ?_) ⟨_, _, _, _, _, rfl, ?_⟩
    · obtain ⟨q1, q2, q3, x, y, rfl, rfl⟩ := hI
      refine ⟨stands_one (keep r1 (by omega)), _, rfl, ?_⟩
      have hi2 : ((rowsP s ah).map row)[i]? = some d := hi2
      rw [List.getElem?_map] at hi2
      obtain ⟨r, hr, rfl⟩ := Option.map_eq_some_iff.mp hi2
      have hk := keep (u := .lst ((((rowsP s ah).take i).flatMap fun x => (rowsP s (ah + bh - 1)).flatMap fun y => (rowsP s bh).map fun z => (x, y, z)).map trip)) hlr (by omega)
      refine s_ext (lf := m4.length) ((rowsP s (ah + bh - 1)).map row) _ (fun d => ((rowsP s bh).map row).map fun e => D.tup [row r, d, e]) ?_ (by decide) rfl (get_set hlf) ?_ ?_ ?_
      · simp only [w_fn, w_ok, w_ex, w_no, w_nos, w_mno, w_exc, w_nxt, w_ret, w_bind, w_opt, w_optM, w_chk, w_of, w_settle_d, w_settle_o, w_cond, w_condS, w_ite, w_iteS, w_iteM, w_var, sIf, sSet, sAug, sSub, sFldS, sRet, sRetN, sDrop, sNil, sAsg, sBreak, sCont, sRaise0, sRaise1, xtAnd, xtOr, xtNot, xB, x1, x2, xC, xCB, xCh, xAnd, xOr, xNot, xIf, xTup, xLst, xDct0, xCall, xM, xMd, xIsi, aNil, aCons, adNil, adCons, xSl, oNo, oI, gN, gT, gsNil, gsCons, List.map, List.append, List.replicate, List.cons_append, List.nil_append, List.append_nil, List.getElem?_cons_zero, List.getElem?_cons_succ, List.set_cons_zero, List.set_cons_succ, List.length_cons, List.length_nil, add_ok, sub_ok, eqi_ok, nei_ok, lti_ok, gti_ok, lei_ok, gei_ok, int_ok, if_true, if_false, cond_true, cond_false, Bool.false_eq_true, true_and, and_true, Option.map_some, Option.bind_some, Nat.reduceAdd, Nat.reduceSub, Nat.reduceLeDiff, reduceIte, ix_lst hk, at_1]
        exact ⟨l2, rfl, keep r2 (by omega), by omega⟩
      · intro d hd2 acc
        rw [List.set_set]
        have hk2 := keep (u := .lst acc) hlr (by omega)
        refine x_mapl ((rowsP s bh).map row) (fun e => D.tup [row r, d, e]) ?_ (by rw [List.length_map]; omega) ?_ ?_
        · simp only [w_fn, w_ok, w_ex, w_no, w_nos, w_mno, w_exc, w_nxt, w_ret, w_bind, w_opt, w_optM, w_chk, w_of, w_settle_d, w_settle_o, w_cond, w_condS, w_ite, w_iteS, w_iteM, w_var, sIf, sSet, sAug, sSub, sFldS, sRet, sRetN, sDrop, sNil, sAsg, sBreak, sCont, sRaise0, sRaise1, xtAnd, xtOr, xtNot, xB, x1, x2, xC, xCB, xCh, xAnd, xOr, xNot, xIf, xTup, xLst, xDct0, xCall, xM, xMd, xIsi, aNil, aCons, adNil, adCons, xSl, oNo, oI, gN, gT, gsNil, gsCons, List.map, List.append, List.replicate, List.cons_append, List.nil_append, List.append_nil, List.getElem?_cons_zero, List.getElem?_cons_succ, List.set_cons_zero, List.set_cons_succ, List.length_cons, List.length_nil, add_ok, sub_ok, eqi_ok, nei_ok, lti_ok, gti_ok, lei_ok, gei_ok, int_ok, if_true, if_false, cond_true, cond_false, Bool.false_eq_true, true_and, and_true, Option.map_some, Option.bind_some, Nat.reduceAdd, Nat.reduceSub, Nat.reduceLeDiff, reduceIte, ix_lst hk2, at_2]
          exact ⟨l3, rfl, keep r3 (by omega)⟩
        · intro e he
          simp only [w_fn, w_ok, w_ex, w_no, w_nos, w_mno, w_exc, w_nxt, w_ret, w_bind, w_opt, w_optM, w_chk, w_of, w_settle_d, w_settle_o, w_cond, w_condS, w_ite, w_iteS, w_iteM, w_var, sIf, sSet, sAug, sSub, sFldS, sRet, sRetN, sDrop, sNil, sAsg, sBreak, sCont, sRaise0, sRaise1, xtAnd, xtOr, xtNot, xB, x1, x2, xC, xCB, xCh, xAnd, xOr, xNot, xIf, xTup, xLst, xDct0, xCall, xM, xMd, xIsi, aNil, aCons, adNil, adCons, xSl, oNo, oI, gN, gT, gsNil, gsCons, List.map, List.append, List.replicate, List.cons_append, List.nil_append, List.append_nil, List.getElem?_cons_zero, List.getElem?_cons_succ, List.set_cons_zero, List.set_cons_succ, List.length_cons, List.length_nil, add_ok, sub_ok, eqi_ok, nei_ok, lti_ok, gti_ok, lei_ok, gei_ok, int_ok, if_true, if_false, cond_true, cond_false, Bool.false_eq_true, true_and, and_true, Option.map_some, Option.bind_some, Nat.reduceAdd, Nat.reduceSub, Nat.reduceLeDiff, reduceIte, wipeR, show (3 : Nat) ≤ LIM from by decide]
        · exact ⟨rfl, rfl⟩
      · rw [hi]
        have hti := fm_take_le (xs := rowsP s ah) (f := fun x => (rowsP s (ah + bh - 1)).flatMap fun y => (rowsP s bh).map fun z => (x, y, z)) (i := i + 1)
        rw [fm_take hr, List.length_append] at hti
        unfold tripsP at c4
        rw [List.length_map, List.length_map]
        omega
      · intro ρ' hρ
        rw [hi, List.set_set, ← List.map_append, ← fm_take (f := fun x => (rowsP s (ah + bh - 1)).flatMap fun y => (rowsP s bh).map fun z => (x, y, z)) hr]
        rcases hρ with rfl | ⟨w, rfl⟩
        · exact ⟨_, _, _, _, _, rfl, rfl⟩
        · exact ⟨_, _, _, _, _, rfl, rfl⟩
    · obtain ⟨q1, q2, q3, x, y, rfl, rfl⟩ := hI
      refine ⟨stands_one (keep r1 (by omega)), ?_⟩
      have e0 : (rowsP s ah).take ((rowsP s ah).map row).length = rowsP s ah := by rw [List.length_map, List.take_length]
      have e1 : ((rowsP s ah).map row, [(l1, O.lst ((rowsP s ah).map row))]).fst.length = ((rowsP s ah).map row).length := rfl
      rw [e1, e0]
      simp only [w_fn, w_ok, w_ex, w_no, w_nos, w_mno, w_exc, w_nxt, w_ret, w_bind, w_opt, w_optM, w_chk, w_of, w_settle_d, w_settle_o, w_cond, w_condS, w_ite, w_iteS, w_iteM, w_var, sIf, sSet, sAug, sSub, sFldS, sRet, sRetN, sDrop, sNil, sAsg, sBreak, sCont, sRaise0, sRaise1, xtAnd, xtOr, xtNot, xB, x1, x2, xC, xCB, xCh, xAnd, xOr, xNot, xIf, xTup, xLst, xDct0, xCall, xM, xMd, xIsi, aNil, aCons, adNil, adCons, xSl, oNo, oI, gN, gT, gsNil, gsCons, List.map, List.append, List.replicate, List.cons_append, List.nil_append, List.append_nil, List.getElem?_cons_zero, List.getElem?_cons_succ, List.set_cons_zero, List.set_cons_succ, List.length_cons, List.length_nil, add_ok, sub_ok, eqi_ok, nei_ok, lti_ok, gti_ok, lei_ok, gei_ok, int_ok, if_true, if_false, cond_true, cond_false, Bool.false_eq_true, true_and, and_true, Option.map_some, Option.bind_some, Nat.reduceAdd, Nat.reduceSub, Nat.reduceLeDiff, reduceIte]
      refine k hle _ _ ?_ (get_set hlf) (((z3.trans f4).trans f5).fresh ?_)
      · have := z3.1; omega
      · have := z3.1; omega
    · rw [List.take_zero, List.flatMap_nil, List.map_nil]
      exact List.ext_getElem? fun k => by
        by_cases z : k = m4.length
        · subst z; rw [List.getElem?_set_self (lt_of_get hlf), hlf]
        · rw [List.getElem?_set_ne (fun q => z q.symm)]
end Dn

set_option Elab.async false
set_option linter.all false
set_option maxRecDepth 100000
set_option maxHeartbeats 4000000
set_option autoImplicit false
namespace Dn
open PySem PySem.Spec

theorem pDs_ints : ∀ xs : List Int, pDs (xs.map .int) = xs.map .int
  | [] => rfl
  | x :: xs => by rw [List.map_cons, pDs, pDs_ints xs, pD]; rfl
theorem alike_ints : ∀ xs ys : List Int, PySem.W.alikeAll (xs.map .int) (ys.map .int) = true
  | [], _ => by rw [List.map_nil, PySem.W.alikeAll]
  | _ :: _, [] => by rw [List.map_nil, List.map_cons]; simp [PySem.W.alikeAll]
  | x :: xs, y :: ys => by rw [List.map_cons, List.map_cons, PySem.W.alikeAll, alike_ints xs ys, PySem.W.alike]; rfl
theorem alike_row (xs ys : List Int) : PySem.W.alike (pD (row xs)) (pD (row ys)) = true := by
  unfold row
  rw [pD, pD, pDs_ints, pDs_ints, PySem.W.alike]
  exact alike_ints xs ys
def keyD (t : List Int × List Int × List Int) : D := .tup [.int ((t.1.length : Int) + (t.2.1.length : Int) + (t.2.2.length : Int)), trip t]
theorem gd_trip (t : List Int × List Int × List Int) : gd (trip t) 2 = true := by
  unfold trip
  rw [gd, gds, gds, gds, gds, gd_row, gd_row, gd_row]; rfl
theorem gd_keyD (t : List Int × List Int × List Int) : gd (keyD t) 3 = true := by
  unfold keyD
  rw [gd, gds, gds, gds, gd_trip, gd]; rfl
theorem alike_keyD (t u : List Int × List Int × List Int) : PySem.W.alike (pD (keyD t)) (pD (keyD u)) = true := by
  unfold keyD trip
  rw [pD, pD, pDs, pDs, pDs, pDs, pDs, pDs, PySem.W.alike, PySem.W.alikeAll, PySem.W.alikeAll, PySem.W.alikeAll]
  rw [pD, pD, PySem.W.alike, pD, pD, PySem.W.alike]
  rw [pDs, pDs, pDs, pDs, pDs, pDs, pDs, pDs, PySem.W.alikeAll, PySem.W.alikeAll, PySem.W.alikeAll, PySem.W.alikeAll]
  rw [alike_row, alike_row, alike_row]; rfl
def ltK (t u : List Int × List Int × List Int) : Bool := PySem.W.dataLt (pD (keyD t)) (pD (keyD u))
theorem ltK_ok {t u : List Int × List Int × List Int} {mu : Mu} : ltW (.d (keyD t)) (.d (keyD u)) mu = some (.d (.bl (ltK t u))) := by
  unfold ltW
  rw [cmp_ok (gd_py (gd_keyD t)) (gd_py (gd_keyD u)) (gd_shaped (gd_keyD t)) (gd_shaped (gd_keyD u))]
  unfold ordG
  rw [if_pos ⟨alike_keyD t u, by unfold keyD; rw [pD]; rfl⟩]
  rfl
/-- the best so far -/
def bestS (p : List Int × List Int × List Int → Bool) (β : Option (List Int × List Int × List Int)) (t : List Int × List Int × List Int) : Option (List Int × List Int × List Int) := if ((match β with
    | none => true
    | some u => ltK t u) && p t) = true then some t else β
def bestD : Option (List Int × List Int × List Int) → D
  | none => .non
  | some t => keyD t
def bestA : Option (List Int × List Int × List Int) → D
  | none => .non
  | some t => trip t
def mats (s ah bh : Nat) (kvs : List (D × D)) (t : List Int × List Int × List Int) : Bool := matP ah bh kvs t.1 t.2.1 t.2.2
def best (s ah bh : Nat) (kvs : List (D × D)) : Option (List Int × List Int × List Int) := (tripsP s ah bh).foldl (bestS (mats s ah bh kvs)) none
def many (s ah bh : Nat) (kvs : List (D × D)) : Nat := (tripsP s ah bh).countP (mats s ah bh kvs)
theorem isN_non {mu : Mu} : isNW false (.d .non) (.d .non) mu = some (.d (.bl true)) := rfl
theorem isN_key {t : List Int × List Int × List Int} {mu : Mu} : isNW false (.d (keyD t)) (.d .non) mu = some (.d (.bl false)) := rfl
theorem len_row {zs : List Int} {mu : Mu} : lenC [.d (row zs)] mu = some (.d (.int zs.length)) := by
  unfold row; rw [len_tup, List.length_map]
theorem len_new {xs : List D} {mu : Mu} : lenC [.o (.lst xs)] mu = some (.d (.int xs.length)) := rfl
theorem w_for_loc {e : EX} {g : D → Rho → Option Rho} {b : SX} {ρ : Rho} {m : Mu} {Q : Fl → Rho → Mu → Prop} {E : D → Rho → Mu → Prop} (h : WM (e ρ m) (fun w m1 => ∃ l xs, w = .d (.loc l) ∧ m1[l]? = some (.lst xs) ∧ WS (loopF g b [(l, .lst xs)] xs ρ m1) Q E) (fun d m1 => E d ρ m1)) : WS (sFor (iAny e) g b ρ m) Q E := by
  rw [w_for]
  exact w_iAny_lst h
theorem matters_ok {l s ah bh : Nat} {kvs : List (D × D)} {m : Mu} {Q : D → Mu → Prop} {E : D → Mu → Prop} (b : BookAt l s ah bh kvs m) (tb : Tab s ah bh kvs) (h1 : 1 ≤ s) (h2 : s ≤ 8) (h3 : 1 ≤ ah) (h4 : ah ≤ 4) (h5 : 1 ≤ bh) (h6 : bh ≤ 4)
    (ke : 20000 < cnt s ah bh → E (.exn "TooMany" "most" [.int 20000]) m)
    (k : cnt s ah bh ≤ 20000 → ∀ m', Fr [] m m' → Q (bestA (best s ah bh kvs)) m') : WM (fm_matters [.loc l] m) Q E := by
  unfold fm_matters m_matters
  simp only [w_fn, w_ok, w_ex, w_no, w_nos, w_mno, w_exc, w_nxt, w_ret, w_bind, w_opt, w_optM, w_chk, w_of, w_settle_d, w_settle_o, w_cond, w_condS, w_ite, w_iteS, w_iteM, w_var, sIf, sSet, sAug, sSub, sFldS, sRet, sRetN, sDrop, sNil, sAsg, sBreak, sCont, sRaise0, sRaise1, xtAnd, xtOr, xtNot, xB, x1, x2, xC, xCB, xCh, xAnd, xOr, xNot, xIf, xTup, xLst, xDct0, xCall, xM, xMd, xIsi, aNil, aCons, adNil, adCons, xSl, oNo, oI, gN, gT, gsNil, gsCons, List.map, List.append, List.replicate, List.cons_append, List.nil_append, List.append_nil, List.getElem?_cons_zero, List.getElem?_cons_succ, List.set_cons_zero, List.set_cons_succ, List.length_cons, List.length_nil, add_ok, sub_ok, eqi_ok, nei_ok, lti_ok, gti_ok, lei_ok, gei_ok, int_ok, if_true, if_false, cond_true, cond_false, Bool.false_eq_true, true_and, and_true, Option.map_some, Option.bind_some, Nat.reduceAdd, Nat.reduceSub, Nat.reduceLeDiff, reduceIte, w_seq]
  refine w_for_loc ?_
  simp only [w_fn, w_ok, w_ex, w_no, w_nos, w_mno, w_exc, w_nxt, w_ret, w_bind, w_opt, w_optM, w_chk, w_of, w_settle_d, w_settle_o, w_cond, w_condS, w_ite, w_iteS, w_iteM, w_var, sIf, sSet, sAug, sSub, sFldS, sRet, sRetN, sDrop, sNil, sAsg, sBreak, sCont, sRaise0, sRaise1, xtAnd, xtOr, xtNot, xB, x1, x2, xC, xCB, xCh, xAnd, xOr, xNot, xIf, xTup, xLst, xDct0, xCall, xM, xMd, xIsi, aNil, aCons, adNil, adCons, xSl, oNo, oI, gN, gT, gsNil, gsCons, List.map, List.append, List.replicate, List.cons_append, List.nil_append, List.append_nil, List.getElem?_cons_zero, List.getElem?_cons_succ, List.set_cons_zero, List.set_cons_succ, List.length_cons, List.length_nil, add_ok, sub_ok, eqi_ok, nei_ok, lti_ok, gti_ok, lei_ok, gei_ok, int_ok, if_true, if_false, cond_true, cond_false, Bool.false_eq_true, true_and, and_true, Option.map_some, Option.bind_some, Nat.reduceAdd, Nat.reduceSub, Nat.reduceLeDiff, reduceIte]
  refine triples_ok b h1 h2 h3 h4 h5 h6 ke fun hc lf m1 q1 r1 f1 => ?_
  refine ⟨lf, _, rfl, r1, ?_⟩
  have b1 := b.fr f1
  refine w_loop (fun i ρ' m' => m' = m1 ∧ ∃ x y z u, ρ' = [some (.loc l), some (bestD (((tripsP s ah bh).take i).foldl (bestS (mats s ah bh kvs)) none)), x, y, z, u]) (fun i d ρ' m' hi hI => ?_) (fun ρ' m' hI => ?_) ⟨rfl, _, _, _, _, rfl⟩
  · obtain ⟨rfl, x, y, z, u, rfl⟩ := hI
    rw [List.getElem?_map] at hi
    obtain ⟨t, ht, rfl⟩ := Option.map_eq_some_iff.mp hi
    have htm := tripsP_mem (List.mem_of_getElem? ht)
    refine ⟨stands_one r1, _, rfl, ?_⟩
    have hst : bestS (mats s ah bh kvs) (((tripsP s ah bh).take i).foldl (bestS (mats s ah bh kvs)) none) t = ((tripsP s ah bh).take (i + 1)).foldl (bestS (mats s ah bh kvs)) none := by
      rw [List.take_add_one, ht, List.foldl_append]; rfl
    rw [← hst]
    generalize ((tripsP s ah bh).take i).foldl (bestS (mats s ah bh kvs)) none = β
    have hlen : t.1.length + t.2.1.length + t.2.2.length ≤ 1000 := by
      have := htm.1.2.1
      have := htm.2.1.2.1
      have := htm.2.2.2.1
      omega
    have hkey : D.tup [.int ((t.1.length : Int) + (t.2.1.length : Int) + (t.2.2.length : Int)), .tup [row t.1, row t.2.1, row t.2.2]] = keyD t := rfl
    simp only [w_fn, w_ok, w_ex, w_no, w_nos, w_mno, w_exc, w_nxt, w_ret, w_bind, w_opt, w_optM, w_chk, w_of, w_settle_d, w_settle_o, w_cond, w_condS, w_ite, w_iteS, w_iteM, w_var, sIf, sSet, sAug, sSub, sFldS, sRet, sRetN, sDrop, sNil, sAsg, sBreak, sCont, sRaise0, sRaise1, xtAnd, xtOr, xtNot, xB, x1, x2, xC, xCB, xCh, xAnd, xOr, xNot, xIf, xTup, xLst, xDct0, xCall, xM, xMd, xIsi, aNil, aCons, adNil, adCons, xSl, oNo, oI, gN, gT, gsNil, gsCons, List.map, List.append, List.replicate, List.cons_append, List.nil_append, List.append_nil, List.getElem?_cons_zero, List.getElem?_cons_succ, List.set_cons_zero, List.set_cons_succ, List.length_cons, List.length_nil, add_ok, sub_ok, eqi_ok, nei_ok, lti_ok, gti_ok, lei_ok, gei_ok, int_ok, if_true, if_false, cond_true, cond_false, Bool.false_eq_true, true_and, and_true, Option.map_some, Option.bind_some, Nat.reduceAdd, Nat.reduceSub, Nat.reduceLeDiff, reduceIte, w_seq, len_row, hkey, show (2 : Nat) ≤ LIM from by decide, show (3 : Nat) ≤ LIM from by decide]
    cases β with
    | none =>
      simp only [bestD, isN_non, w_fn, w_ok, w_ex, w_no, w_nos, w_mno, w_exc, w_nxt, w_ret, w_bind, w_opt, w_optM, w_chk, w_of, w_settle_d, w_settle_o, w_cond, w_condS, w_ite, w_iteS, w_iteM, w_var, sIf, sSet, sAug, sSub, sFldS, sRet, sRetN, sDrop, sNil, sAsg, sBreak, sCont, sRaise0, sRaise1, xtAnd, xtOr, xtNot, xB, x1, x2, xC, xCB, xCh, xAnd, xOr, xNot, xIf, xTup, xLst, xDct0, xCall, xM, xMd, xIsi, aNil, aCons, adNil, adCons, xSl, oNo, oI, gN, gT, gsNil, gsCons, List.map, List.append, List.replicate, List.cons_append, List.nil_append, List.append_nil, List.getElem?_cons_zero, List.getElem?_cons_succ, List.set_cons_zero, List.set_cons_succ, List.length_cons, List.length_nil, add_ok, sub_ok, eqi_ok, nei_ok, lti_ok, gti_ok, lei_ok, gei_ok, int_ok, if_true, if_false, cond_true, cond_false, Bool.false_eq_true, true_and, and_true, Option.map_some, Option.bind_some, Nat.reduceAdd, Nat.reduceSub, Nat.reduceLeDiff, reduceIte]
      refine matters_at_ok b1 tb (by omega) hlen ?_
      simp only [w_fn, w_ok, w_ex, w_no, w_nos, w_mno, w_exc, w_nxt, w_ret, w_bind, w_opt, w_optM, w_chk, w_of, w_settle_d, w_settle_o, w_cond, w_condS, w_ite, w_iteS, w_iteM, w_var, sIf, sSet, sAug, sSub, sFldS, sRet, sRetN, sDrop, sNil, sAsg, sBreak, sCont, sRaise0, sRaise1, xtAnd, xtOr, xtNot, xB, x1, x2, xC, xCB, xCh, xAnd, xOr, xNot, xIf, xTup, xLst, xDct0, xCall, xM, xMd, xIsi, aNil, aCons, adNil, adCons, xSl, oNo, oI, gN, gT, gsNil, gsCons, List.map, List.append, List.replicate, List.cons_append, List.nil_append, List.append_nil, List.getElem?_cons_zero, List.getElem?_cons_succ, List.set_cons_zero, List.set_cons_succ, List.length_cons, List.length_nil, add_ok, sub_ok, eqi_ok, nei_ok, lti_ok, gti_ok, lei_ok, gei_ok, int_ok, if_true, if_false, cond_true, cond_false, Bool.false_eq_true, true_and, and_true, Option.map_some, Option.bind_some, Nat.reduceAdd, Nat.reduceSub, Nat.reduceLeDiff, reduceIte]
      by_cases hm : matP ah bh kvs t.1 t.2.1 t.2.2 = true
      · simp only [hm, w_fn, w_ok, w_ex, w_no, w_nos, w_mno, w_exc, w_nxt, w_ret, w_bind, w_opt, w_optM, w_chk, w_of, w_settle_d, w_settle_o, w_cond, w_condS, w_ite, w_iteS, w_iteM, w_var, sIf, sSet, sAug, sSub, sFldS, sRet, sRetN, sDrop, sNil, sAsg, sBreak, sCont, sRaise0, sRaise1, xtAnd, xtOr, xtNot, xB, x1, x2, xC, xCB, xCh, xAnd, xOr, xNot, xIf, xTup, xLst, xDct0, xCall, xM, xMd, xIsi, aNil, aCons, adNil, adCons, xSl, oNo, oI, gN, gT, gsNil, gsCons, List.map, List.append, List.replicate, List.cons_append, List.nil_append, List.append_nil, List.getElem?_cons_zero, List.getElem?_cons_succ, List.set_cons_zero, List.set_cons_succ, List.length_cons, List.length_nil, add_ok, sub_ok, eqi_ok, nei_ok, lti_ok, gti_ok, lei_ok, gei_ok, int_ok, if_true, if_false, cond_true, cond_false, Bool.false_eq_true, true_and, and_true, Option.map_some, Option.bind_some, Nat.reduceAdd, Nat.reduceSub, Nat.reduceLeDiff, reduceIte, bestS, mats, Bool.and_true]
        exact ⟨_, _, _, _, rfl⟩
      · simp only [hm, w_fn, w_ok, w_ex, w_no, w_nos, w_mno, w_exc, w_nxt, w_ret, w_bind, w_opt, w_optM, w_chk, w_of, w_settle_d, w_settle_o, w_cond, w_condS, w_ite, w_iteS, w_iteM, w_var, sIf, sSet, sAug, sSub, sFldS, sRet, sRetN, sDrop, sNil, sAsg, sBreak, sCont, sRaise0, sRaise1, xtAnd, xtOr, xtNot, xB, x1, x2, xC, xCB, xCh, xAnd, xOr, xNot, xIf, xTup, xLst, xDct0, xCall, xM, xMd, xIsi, aNil, aCons, adNil, adCons, xSl, oNo, oI, gN, gT, gsNil, gsCons, List.map, List.append, List.replicate, List.cons_append, List.nil_append, List.append_nil, List.getElem?_cons_zero, List.getElem?_cons_succ, List.set_cons_zero, List.set_cons_succ, List.length_cons, List.length_nil, add_ok, sub_ok, eqi_ok, nei_ok, lti_ok, gti_ok, lei_ok, gei_ok, int_ok, if_true, if_false, cond_true, cond_false, Bool.false_eq_true, true_and, and_true, Option.map_some, Option.bind_some, Nat.reduceAdd, Nat.reduceSub, Nat.reduceLeDiff, reduceIte, bestS, mats, Bool.and_true, Bool.true_and]
        exact ⟨_, _, _, _, rfl⟩
    | some u =>
      simp only [bestD, isN_key, w_fn, w_ok, w_ex, w_no, w_nos, w_mno, w_exc, w_nxt, w_ret, w_bind, w_opt, w_optM, w_chk, w_of, w_settle_d, w_settle_o, w_cond, w_condS, w_ite, w_iteS, w_iteM, w_var, sIf, sSet, sAug, sSub, sFldS, sRet, sRetN, sDrop, sNil, sAsg, sBreak, sCont, sRaise0, sRaise1, xtAnd, xtOr, xtNot, xB, x1, x2, xC, xCB, xCh, xAnd, xOr, xNot, xIf, xTup, xLst, xDct0, xCall, xM, xMd, xIsi, aNil, aCons, adNil, adCons, xSl, oNo, oI, gN, gT, gsNil, gsCons, List.map, List.append, List.replicate, List.cons_append, List.nil_append, List.append_nil, List.getElem?_cons_zero, List.getElem?_cons_succ, List.set_cons_zero, List.set_cons_succ, List.length_cons, List.length_nil, add_ok, sub_ok, eqi_ok, nei_ok, lti_ok, gti_ok, lei_ok, gei_ok, int_ok, if_true, if_false, cond_true, cond_false, Bool.false_eq_true, true_and, and_true, Option.map_some, Option.bind_some, Nat.reduceAdd, Nat.reduceSub, Nat.reduceLeDiff, reduceIte, ltK_ok]
      by_cases hl : ltK t u = true
      · simp only [hl, w_fn, w_ok, w_ex, w_no, w_nos, w_mno, w_exc, w_nxt, w_ret, w_bind, w_opt, w_optM, w_chk, w_of, w_settle_d, w_settle_o, w_cond, w_condS, w_ite, w_iteS, w_iteM, w_var, sIf, sSet, sAug, sSub, sFldS, sRet, sRetN, sDrop, sNil, sAsg, sBreak, sCont, sRaise0, sRaise1, xtAnd, xtOr, xtNot, xB, x1, x2, xC, xCB, xCh, xAnd, xOr, xNot, xIf, xTup, xLst, xDct0, xCall, xM, xMd, xIsi, aNil, aCons, adNil, adCons, xSl, oNo, oI, gN, gT, gsNil, gsCons, List.map, List.append, List.replicate, List.cons_append, List.nil_append, List.append_nil, List.getElem?_cons_zero, List.getElem?_cons_succ, List.set_cons_zero, List.set_cons_succ, List.length_cons, List.length_nil, add_ok, sub_ok, eqi_ok, nei_ok, lti_ok, gti_ok, lei_ok, gei_ok, int_ok, if_true, if_false, cond_true, cond_false, Bool.false_eq_true, true_and, and_true, Option.map_some, Option.bind_some, Nat.reduceAdd, Nat.reduceSub, Nat.reduceLeDiff, reduceIte]
        refine matters_at_ok b1 tb (by omega) hlen ?_
        simp only [w_fn, w_ok, w_ex, w_no, w_nos, w_mno, w_exc, w_nxt, w_ret, w_bind, w_opt, w_optM, w_chk, w_of, w_settle_d, w_settle_o, w_cond, w_condS, w_ite, w_iteS, w_iteM, w_var, sIf, sSet, sAug, sSub, sFldS, sRet, sRetN, sDrop, sNil, sAsg, sBreak, sCont, sRaise0, sRaise1, xtAnd, xtOr, xtNot, xB, x1, x2, xC, xCB, xCh, xAnd, xOr, xNot, xIf, xTup, xLst, xDct0, xCall, xM, xMd, xIsi, aNil, aCons, adNil, adCons, xSl, oNo, oI, gN, gT, gsNil, gsCons, List.map, List.append, List.replicate, List.cons_append, List.nil_append, List.append_nil, List.getElem?_cons_zero, List.getElem?_cons_succ, List.set_cons_zero, List.set_cons_succ, List.length_cons, List.length_nil, add_ok, sub_ok, eqi_ok, nei_ok, lti_ok, gti_ok, lei_ok, gei_ok, int_ok, if_true, if_false, cond_true, cond_false, Bool.false_eq_true, true_and, and_true, Option.map_some, Option.bind_some, Nat.reduceAdd, Nat.reduceSub, Nat.reduceLeDiff, reduceIte]
        by_cases hm : matP ah bh kvs t.1 t.2.1 t.2.2 = true
        · simp only [hm, hl, w_fn, w_ok, w_ex, w_no, w_nos, w_mno, w_exc, w_nxt, w_ret, w_bind, w_opt, w_optM, w_chk, w_of, w_settle_d, w_settle_o, w_cond, w_condS, w_ite, w_iteS, w_iteM, w_var, sIf, sSet, sAug, sSub, sFldS, sRet, sRetN, sDrop, sNil, sAsg, sBreak, sCont, sRaise0, sRaise1, xtAnd, xtOr, xtNot, xB, x1, x2, xC, xCB, xCh, xAnd, xOr, xNot, xIf, xTup, xLst, xDct0, xCall, xM, xMd, xIsi, aNil, aCons, adNil, adCons, xSl, oNo, oI, gN, gT, gsNil, gsCons, List.map, List.append, List.replicate, List.cons_append, List.nil_append, List.append_nil, List.getElem?_cons_zero, List.getElem?_cons_succ, List.set_cons_zero, List.set_cons_succ, List.length_cons, List.length_nil, add_ok, sub_ok, eqi_ok, nei_ok, lti_ok, gti_ok, lei_ok, gei_ok, int_ok, if_true, if_false, cond_true, cond_false, Bool.false_eq_true, true_and, and_true, Option.map_some, Option.bind_some, Nat.reduceAdd, Nat.reduceSub, Nat.reduceLeDiff, reduceIte, bestS, mats, Bool.and_true]
          exact ⟨_, _, _, _, rfl⟩
        · simp only [hm, hl, w_fn, w_ok, w_ex, w_no, w_nos, w_mno, w_exc, w_nxt, w_ret, w_bind, w_opt, w_optM, w_chk, w_of, w_settle_d, w_settle_o, w_cond, w_condS, w_ite, w_iteS, w_iteM, w_var, sIf, sSet, sAug, sSub, sFldS, sRet, sRetN, sDrop, sNil, sAsg, sBreak, sCont, sRaise0, sRaise1, xtAnd, xtOr, xtNot, xB, x1, x2, xC, xCB, xCh, xAnd, xOr, xNot, xIf, xTup, xLst, xDct0, xCall, xM, xMd, xIsi, aNil, aCons, adNil, adCons, xSl, oNo, oI, gN, gT, gsNil, gsCons, List.map, List.append, List.replicate, List.cons_append, List.nil_append, List.append_nil, List.getElem?_cons_zero, List.getElem?_cons_succ, List.set_cons_zero, List.set_cons_succ, List.length_cons, List.length_nil, add_ok, sub_ok, eqi_ok, nei_ok, lti_ok, gti_ok, lei_ok, gei_ok, int_ok, if_true, if_false, cond_true, cond_false, Bool.false_eq_true, true_and, and_true, Option.map_some, Option.bind_some, Nat.reduceAdd, Nat.reduceSub, Nat.reduceLeDiff, reduceIte, bestS, mats, Bool.and_true, Bool.true_and]
          exact ⟨_, _, _, _, rfl⟩
      · simp only [hl, w_fn, w_ok, w_ex, w_no, w_nos, w_mno, w_exc, w_nxt, w_ret, w_bind, w_opt, w_optM, w_chk, w_of, w_settle_d, w_settle_o, w_cond, w_condS, w_ite, w_iteS, w_iteM, w_var, sIf, sSet, sAug, sSub, sFldS, sRet, sRetN, sDrop, sNil, sAsg, sBreak, sCont, sRaise0, sRaise1, xtAnd, xtOr, xtNot, xB, x1, x2, xC, xCB, xCh, xAnd, xOr, xNot, xIf, xTup, xLst, xDct0, xCall, xM, xMd, xIsi, aNil, aCons, adNil, adCons, xSl, oNo, oI, gN, gT, gsNil, gsCons, List.map, List.append, List.replicate, List.cons_append, List.nil_append, List.append_nil, List.getElem?_cons_zero, List.getElem?_cons_succ, List.set_cons_zero, List.set_cons_succ, List.length_cons, List.length_nil, add_ok, sub_ok, eqi_ok, nei_ok, lti_ok, gti_ok, lei_ok, gei_ok, int_ok, if_true, if_false, cond_true, cond_false, Bool.false_eq_true, true_and, and_true, Option.map_some, Option.bind_some, Nat.reduceAdd, Nat.reduceSub, Nat.reduceLeDiff, reduceIte, bestS, Bool.false_and]
        exact ⟨_, _, _, _, rfl⟩
  · obtain ⟨rfl, x, y, z, u, rfl⟩ := hI
    refine ⟨stands_one r1, ?_⟩
    have e0 : (tripsP s ah bh).take ((tripsP s ah bh).map trip).length = tripsP s ah bh := by rw [List.length_map, List.take_length]
    rw [e0]
    have k := k hc m' f1
    unfold best at k
    generalize (tripsP s ah bh).foldl (bestS (mats s ah bh kvs)) none = β at k ⊢
    cases β with
    | none => simp only [bestD, isN_non, w_fn, w_ok, w_ex, w_no, w_nos, w_mno, w_exc, w_nxt, w_ret, w_bind, w_opt, w_optM, w_chk, w_of, w_settle_d, w_settle_o, w_cond, w_condS, w_ite, w_iteS, w_iteM, w_var, sIf, sSet, sAug, sSub, sFldS, sRet, sRetN, sDrop, sNil, sAsg, sBreak, sCont, sRaise0, sRaise1, xtAnd, xtOr, xtNot, xB, x1, x2, xC, xCB, xCh, xAnd, xOr, xNot, xIf, xTup, xLst, xDct0, xCall, xM, xMd, xIsi, aNil, aCons, adNil, adCons, xSl, oNo, oI, gN, gT, gsNil, gsCons, List.map, List.append, List.replicate, List.cons_append, List.nil_append, List.append_nil, List.getElem?_cons_zero, List.getElem?_cons_succ, List.set_cons_zero, List.set_cons_succ, List.length_cons, List.length_nil, add_ok, sub_ok, eqi_ok, nei_ok, lti_ok, gti_ok, lei_ok, gei_ok, int_ok, if_true, if_false, cond_true, cond_false, Bool.false_eq_true, true_and, and_true, Option.map_some, Option.bind_some, Nat.reduceAdd, Nat.reduceSub, Nat.reduceLeDiff, reduceIte]; exact k
    | some t =>
      simp only [bestD, isN_key, w_fn, w_ok, w_ex, w_no, w_nos, w_mno, w_exc, w_nxt, w_ret, w_bind, w_opt, w_optM, w_chk, w_of, w_settle_d, w_settle_o, w_cond, w_condS, w_ite, w_iteS, w_iteM, w_var, sIf, sSet, sAug, sSub, sFldS, sRet, sRetN, sDrop, sNil, sAsg, sBreak, sCont, sRaise0, sRaise1, xtAnd, xtOr, xtNot, xB, x1, x2, xC, xCB, xCh, xAnd, xOr, xNot, xIf, xTup, xLst, xDct0, xCall, xM, xMd, xIsi, aNil, aCons, adNil, adCons, xSl, oNo, oI, gN, gT, gsNil, gsCons, List.map, List.append, List.replicate, List.cons_append, List.nil_append, List.append_nil, List.getElem?_cons_zero, List.getElem?_cons_succ, List.set_cons_zero, List.set_cons_succ, List.length_cons, List.length_nil, add_ok, sub_ok, eqi_ok, nei_ok, lti_ok, gti_ok, lei_ok, gei_ok, int_ok, if_true, if_false, cond_true, cond_false, Bool.false_eq_true, true_and, and_true, Option.map_some, Option.bind_some, Nat.reduceAdd, Nat.reduceSub, Nat.reduceLeDiff, reduceIte]
      unfold keyD
      simp only [ix_tup, at_1, w_fn, w_ok, w_ex, w_no, w_nos, w_mno, w_exc, w_nxt, w_ret, w_bind, w_opt, w_optM, w_chk, w_of, w_settle_d, w_settle_o, w_cond, w_condS, w_ite, w_iteS, w_iteM, w_var, sIf, sSet, sAug, sSub, sFldS, sRet, sRetN, sDrop, sNil, sAsg, sBreak, sCont, sRaise0, sRaise1, xtAnd, xtOr, xtNot, xB, x1, x2, xC, xCB, xCh, xAnd, xOr, xNot, xIf, xTup, xLst, xDct0, xCall, xM, xMd, xIsi, aNil, aCons, adNil, adCons, xSl, oNo, oI, gN, gT, gsNil, gsCons, List.map, List.append, List.replicate, List.cons_append, List.nil_append, List.append_nil, List.getElem?_cons_zero, List.getElem?_cons_succ, List.set_cons_zero, List.set_cons_succ, List.length_cons, List.length_nil, add_ok, sub_ok, eqi_ok, nei_ok, lti_ok, gti_ok, lei_ok, gei_ok, int_ok, if_true, if_false, cond_true, cond_false, Bool.false_eq_true, true_and, and_true, Option.map_some, Option.bind_some, Nat.reduceAdd, Nat.reduceSub, Nat.reduceLeDiff, reduceIte]
      exact k
theorem matters_many_ok {l s ah bh : Nat} {kvs : List (D × D)} {m : Mu} {Q : D → Mu → Prop} {E : D → Mu → Prop} (b : BookAt l s ah bh kvs m) (tb : Tab s ah bh kvs) (h1 : 1 ≤ s) (h2 : s ≤ 8) (h3 : 1 ≤ ah) (h4 : ah ≤ 4) (h5 : 1 ≤ bh) (h6 : bh ≤ 4)
    (ke : 20000 < cnt s ah bh → E (.exn "TooMany" "most" [.int 20000]) m)
    (k : cnt s ah bh ≤ 20000 → ∀ m', Fr [] m m' → Q (.int (many s ah bh kvs)) m') : WM (fm_matters_many [.loc l] m) Q E := by
  unfold fm_matters_many m_matters_many
  simp only [w_fn, w_ok, w_ex, w_no, w_nos, w_mno, w_exc, w_nxt, w_ret, w_bind, w_opt, w_optM, w_chk, w_of, w_settle_d, w_settle_o, w_cond, w_condS, w_ite, w_iteS, w_iteM, w_var, sIf, sSet, sAug, sSub, sFldS, sRet, sRetN, sDrop, sNil, sAsg, sBreak, sCont, sRaise0, sRaise1, xtAnd, xtOr, xtNot, xB, x1, x2, xC, xCB, xCh, xAnd, xOr, xNot, xIf, xTup, xLst, xDct0, xCall, xM, xMd, xIsi, aNil, aCons, adNil, adCons, xSl, oNo, oI, gN, gT, gsNil, gsCons, List.map, List.append, List.replicate, List.cons_append, List.nil_append, List.append_nil, List.getElem?_cons_zero, List.getElem?_cons_succ, List.set_cons_zero, List.set_cons_succ, List.length_cons, List.length_nil, add_ok, sub_ok, eqi_ok, nei_ok, lti_ok, gti_ok, lei_ok, gei_ok, int_ok, if_true, if_false, cond_true, cond_false, Bool.false_eq_true, true_and, and_true, Option.map_some, Option.bind_some, Nat.reduceAdd, Nat.reduceSub, Nat.reduceLeDiff, reduceIte]
  rw [w_lc]
  refine w_iAny_lst ?_
  simp only [w_fn, w_ok, w_ex, w_no, w_nos, w_mno, w_exc, w_nxt, w_ret, w_bind, w_opt, w_optM, w_chk, w_of, w_settle_d, w_settle_o, w_cond, w_condS, w_ite, w_iteS, w_iteM, w_var, sIf, sSet, sAug, sSub, sFldS, sRet, sRetN, sDrop, sNil, sAsg, sBreak, sCont, sRaise0, sRaise1, xtAnd, xtOr, xtNot, xB, x1, x2, xC, xCB, xCh, xAnd, xOr, xNot, xIf, xTup, xLst, xDct0, xCall, xM, xMd, xIsi, aNil, aCons, adNil, adCons, xSl, oNo, oI, gN, gT, gsNil, gsCons, List.map, List.append, List.replicate, List.cons_append, List.nil_append, List.append_nil, List.getElem?_cons_zero, List.getElem?_cons_succ, List.set_cons_zero, List.set_cons_succ, List.length_cons, List.length_nil, add_ok, sub_ok, eqi_ok, nei_ok, lti_ok, gti_ok, lei_ok, gei_ok, int_ok, if_true, if_false, cond_true, cond_false, Bool.false_eq_true, true_and, and_true, Option.map_some, Option.bind_some, Nat.reduceAdd, Nat.reduceSub, Nat.reduceLeDiff, reduceIte]
  refine triples_ok b h1 h2 h3 h4 h5 h6 ke fun hc lf m1 q1 r1 f1 => ?_
  refine ⟨lf, _, rfl, r1, ?_⟩
  have b1 := b.fr f1
  obtain ⟨c1, c2, c3, c4, c5⟩ := cnt_fac h1 h2 h3 h4 h5 h6 hc
  refine w_comp (I := fun i acc m' => m' = m1 ∧ acc = List.replicate (((tripsP s ah bh).take i).countP (mats s ah bh kvs)) (.int 1)) (fun i d acc m' hi hI => ?_) (fun acc m' hI => ?_) ⟨rfl, rfl⟩
  · obtain ⟨rfl, rfl⟩ := hI
    rw [List.getElem?_map] at hi
    obtain ⟨t, ht, rfl⟩ := Option.map_eq_some_iff.mp hi
    have htm := tripsP_mem (List.mem_of_getElem? ht)
    refine ⟨stands_one r1, _, rfl, ?_⟩
    have hst : ((tripsP s ah bh).take (i + 1)).countP (mats s ah bh kvs) = ((tripsP s ah bh).take i).countP (mats s ah bh kvs) + if mats s ah bh kvs t = true then 1 else 0 := by
      rw [List.take_add_one, ht, List.countP_append]
      simp [List.countP_cons]
    have hcl : ((tripsP s ah bh).take i).countP (mats s ah bh kvs) < LIM := by
      have q := List.countP_le_length (p := mats s ah bh kvs) (l := (tripsP s ah bh).take i)
      rw [List.length_take] at q
      unfold LIM
      omega
    have hlen : t.1.length + t.2.1.length + t.2.2.length ≤ 1000 := by
      have := htm.1.2.1
      have := htm.2.1.2.1
      have := htm.2.2.2.1
      omega
    simp only [w_fn, w_ok, w_ex, w_no, w_nos, w_mno, w_exc, w_nxt, w_ret, w_bind, w_opt, w_optM, w_chk, w_of, w_settle_d, w_settle_o, w_cond, w_condS, w_ite, w_iteS, w_iteM, w_var, sIf, sSet, sAug, sSub, sFldS, sRet, sRetN, sDrop, sNil, sAsg, sBreak, sCont, sRaise0, sRaise1, xtAnd, xtOr, xtNot, xB, x1, x2, xC, xCB, xCh, xAnd, xOr, xNot, xIf, xTup, xLst, xDct0, xCall, xM, xMd, xIsi, aNil, aCons, adNil, adCons, xSl, oNo, oI, gN, gT, gsNil, gsCons, List.map, List.append, List.replicate, List.cons_append, List.nil_append, List.append_nil, List.getElem?_cons_zero, List.getElem?_cons_succ, List.set_cons_zero, List.set_cons_succ, List.length_cons, List.length_nil, add_ok, sub_ok, eqi_ok, nei_ok, lti_ok, gti_ok, lei_ok, gei_ok, int_ok, if_true, if_false, cond_true, cond_false, Bool.false_eq_true, true_and, and_true, Option.map_some, Option.bind_some, Nat.reduceAdd, Nat.reduceSub, Nat.reduceLeDiff, reduceIte, wipeR]
    refine matters_at_ok b1 tb (by omega) hlen ?_
    simp only [w_fn, w_ok, w_ex, w_no, w_nos, w_mno, w_exc, w_nxt, w_ret, w_bind, w_opt, w_optM, w_chk, w_of, w_settle_d, w_settle_o, w_cond, w_condS, w_ite, w_iteS, w_iteM, w_var, sIf, sSet, sAug, sSub, sFldS, sRet, sRetN, sDrop, sNil, sAsg, sBreak, sCont, sRaise0, sRaise1, xtAnd, xtOr, xtNot, xB, x1, x2, xC, xCB, xCh, xAnd, xOr, xNot, xIf, xTup, xLst, xDct0, xCall, xM, xMd, xIsi, aNil, aCons, adNil, adCons, xSl, oNo, oI, gN, gT, gsNil, gsCons, List.map, List.append, List.replicate, List.cons_append, List.nil_append, List.append_nil, List.getElem?_cons_zero, List.getElem?_cons_succ, List.set_cons_zero, List.set_cons_succ, List.length_cons, List.length_nil, add_ok, sub_ok, eqi_ok, nei_ok, lti_ok, gti_ok, lei_ok, gei_ok, int_ok, if_true, if_false, cond_true, cond_false, Bool.false_eq_true, true_and, and_true, Option.map_some, Option.bind_some, Nat.reduceAdd, Nat.reduceSub, Nat.reduceLeDiff, reduceIte]
    rw [hst]
    unfold mats at hcl ⊢
    by_cases hm : matP ah bh kvs t.1 t.2.1 t.2.2 = true
    · simp only [hm, if_true, List.length_replicate, w_fn, w_ok, w_ex, w_no, w_nos, w_mno, w_exc, w_nxt, w_ret, w_bind, w_opt, w_optM, w_chk, w_of, w_settle_d, w_settle_o, w_cond, w_condS, w_ite, w_iteS, w_iteM, w_var, sIf, sSet, sAug, sSub, sFldS, sRet, sRetN, sDrop, sNil, sAsg, sBreak, sCont, sRaise0, sRaise1, xtAnd, xtOr, xtNot, xB, x1, x2, xC, xCB, xCh, xAnd, xOr, xNot, xIf, xTup, xLst, xDct0, xCall, xM, xMd, xIsi, aNil, aCons, adNil, adCons, xSl, oNo, oI, gN, gT, gsNil, gsCons, List.map, List.append, List.replicate, List.cons_append, List.nil_append, List.append_nil, List.getElem?_cons_zero, List.getElem?_cons_succ, List.set_cons_zero, List.set_cons_succ, List.length_cons, List.length_nil, add_ok, sub_ok, eqi_ok, nei_ok, lti_ok, gti_ok, lei_ok, gei_ok, int_ok, if_true, if_false, cond_true, cond_false, Bool.false_eq_true, true_and, and_true, Option.map_some, Option.bind_some, Nat.reduceAdd, Nat.reduceSub, Nat.reduceLeDiff, reduceIte]
      exact ⟨hcl, (List.replicate_succ' (n := _) (a := D.int 1)).symm⟩
    · simp only [hm, if_false, w_fn, w_ok, w_ex, w_no, w_nos, w_mno, w_exc, w_nxt, w_ret, w_bind, w_opt, w_optM, w_chk, w_of, w_settle_d, w_settle_o, w_cond, w_condS, w_ite, w_iteS, w_iteM, w_var, sIf, sSet, sAug, sSub, sFldS, sRet, sRetN, sDrop, sNil, sAsg, sBreak, sCont, sRaise0, sRaise1, xtAnd, xtOr, xtNot, xB, x1, x2, xC, xCB, xCh, xAnd, xOr, xNot, xIf, xTup, xLst, xDct0, xCall, xM, xMd, xIsi, aNil, aCons, adNil, adCons, xSl, oNo, oI, gN, gT, gsNil, gsCons, List.map, List.append, List.replicate, List.cons_append, List.nil_append, List.append_nil, List.getElem?_cons_zero, List.getElem?_cons_succ, List.set_cons_zero, List.set_cons_succ, List.length_cons, List.length_nil, add_ok, sub_ok, eqi_ok, nei_ok, lti_ok, gti_ok, lei_ok, gei_ok, int_ok, if_true, if_false, cond_true, cond_false, Bool.false_eq_true, true_and, and_true, Option.map_some, Option.bind_some, Nat.reduceAdd, Nat.reduceSub, Nat.reduceLeDiff, reduceIte, Nat.add_zero]
  · obtain ⟨rfl, rfl⟩ := hI
    refine ⟨stands_one r1, ?_⟩
    have e0 : (tripsP s ah bh).take ((tripsP s ah bh).map trip).length = tripsP s ah bh := by rw [List.length_map, List.take_length]
    rw [e0]
    simp only [w_fn, w_ok, w_ex, w_no, w_nos, w_mno, w_exc, w_nxt, w_ret, w_bind, w_opt, w_optM, w_chk, w_of, w_settle_d, w_settle_o, w_cond, w_condS, w_ite, w_iteS, w_iteM, w_var, sIf, sSet, sAug, sSub, sFldS, sRet, sRetN, sDrop, sNil, sAsg, sBreak, sCont, sRaise0, sRaise1, xtAnd, xtOr, xtNot, xB, x1, x2, xC, xCB, xCh, xAnd, xOr, xNot, xIf, xTup, xLst, xDct0, xCall, xM, xMd, xIsi, aNil, aCons, adNil, adCons, xSl, oNo, oI, gN, gT, gsNil, gsCons, List.map, List.append, List.replicate, List.cons_append, List.nil_append, List.append_nil, List.getElem?_cons_zero, List.getElem?_cons_succ, List.set_cons_zero, List.set_cons_succ, List.length_cons, List.length_nil, add_ok, sub_ok, eqi_ok, nei_ok, lti_ok, gti_ok, lei_ok, gei_ok, int_ok, if_true, if_false, cond_true, cond_false, Bool.false_eq_true, true_and, and_true, Option.map_some, Option.bind_some, Nat.reduceAdd, Nat.reduceSub, Nat.reduceLeDiff, reduceIte, len_new, List.length_replicate]
    exact k hc m' f1
end Dn

set_option Elab.async false
set_option linter.all false
set_option maxRecDepth 100000
set_option maxHeartbeats 4000000
set_option autoImplicit false
namespace Dn
open PySem PySem.Spec

theorem w_try {i : Nat} {mt : Str → Option Bool} {body suite : SX} {ρ : Rho} {m : Mu} {Q : Fl → Rho → Mu → Prop} {E : D → Rho → Mu → Prop} (h : WS (body ρ m) Q (fun e ρ1 m1 => ∃ C f ds, e = .exn C f ds ∧ mt C = some true ∧ WS (suite (ρ1.set i (some e)) m1) (fun fl ρ2 m2 => EndOk i ρ1 m1 ρ2 m2 ∧ NoXF fl ∧ Q fl (ρ2.set i none) m2) (fun _ _ _ => False))) : WS (sTry i mt body suite ρ m) Q E := by
  unfold sTry
  cases q : body ρ m with
  | ok f ρ1 m1 => rw [q, w_nxt] at h; exact .ok h
  | no => rw [q, w_nos] at h; exact h.elim
  | ex e ρ1 m1 =>
    rw [q, w_exc] at h
    obtain ⟨C, f, ds, rfl, e2, h⟩ := h
    dsimp only
    rw [e2]
    dsimp only
    cases q2 : suite (ρ1.set i (some (.exn C f ds))) m1 with
    | ok fl ρ2 m2 =>
      rw [q2, w_nxt] at h
      dsimp only
      rw [if_pos ⟨h.1, h.2.1⟩]
      exact .ok h.2.2
    | ex e ρ2 m2 => rw [q2, w_exc] at h; exact h.elim
    | no => rw [q2, w_nos] at h; exact h.elim
def toldV (w : Int) (s ah bh : Nat) (kvs : List (D × D)) : D := if 20000 < cnt s ah bh then .tup [.str "many", .int 20000] else if w = 0 then .tup [.str "told", bestA (best s ah bh kvs)] else .tup [.str "told", .int (many s ah bh kvs)]
theorem xf_ok {mu : Mu} : xfW ["TooMany"] "most" (.d (.exn "TooMany" "most" [.int 20000])) mu = some (.d (.int 20000)) := by
  unfold xfW
  simp
theorem isi_tm {o : Str → Bool} {b : BT → Bool} {mu : Mu} : isiW owns (xsub "TooMany") b o (.d (.exn "TooMany" "most" [.int 20000])) mu = some true := by
  show ((xsub "TooMany").find? fun p => decide (p.1 = ("TooMany" : Str))).map (·.2) = some true
  decide +kernel
theorem isi_nw {o : Str → Bool} {b : BT → Bool} {mu : Mu} : isiW owns (xsub "NoWords") b o (.d (.exn "TooMany" "most" [.int 20000])) mu = some false := by
  show ((xsub "NoWords").find? fun p => decide (p.1 = ("TooMany" : Str))).map (·.2) = some false
  decide +kernel
theorem xmt_tm : xmt "SeamError" "TooMany" = some true := by decide +kernel
theorem law_told_ok {w : Int} {l s ah bh : Nat} {kvs : List (D × D)} {m : Mu} {Q : D → Mu → Prop} {E : D → Mu → Prop} (b : BookAt l s ah bh kvs m) (tb : Tab s ah bh kvs) (h1 : 1 ≤ s) (h2 : s ≤ 8) (h3 : 1 ≤ ah) (h4 : ah ≤ 4) (h5 : 1 ≤ bh) (h6 : bh ≤ 4)
    (k : ∀ m', Fr [] m m' → Q (toldV w s ah bh kvs) m') : WM (fm__law_told [.int w, .loc l] m) Q E := by
  unfold fm__law_told m__law_told
  have l2 : (2 : Nat) ≤ LIM := by decide
  simp only [w_fn, w_ok, w_ex, w_no, w_nos, w_mno, w_exc, w_nxt, w_ret, w_bind, w_opt, w_optM, w_chk, w_of, w_settle_d, w_settle_o, w_cond, w_condS, w_ite, w_iteS, w_iteM, w_var, sIf, sSet, sAug, sSub, sFldS, sRet, sRetN, sDrop, sNil, sAsg, sBreak, sCont, sRaise0, sRaise1, xtAnd, xtOr, xtNot, xB, x1, x2, xC, xCB, xCh, xAnd, xOr, xNot, xIf, xTup, xLst, xDct0, xCall, xM, xMd, xIsi, aNil, aCons, adNil, adCons, xSl, oNo, oI, gN, gT, gsNil, gsCons, List.map, List.append, List.replicate, List.cons_append, List.nil_append, List.append_nil, List.getElem?_cons_zero, List.getElem?_cons_succ, List.set_cons_zero, List.set_cons_succ, List.length_cons, List.length_nil, add_ok, sub_ok, eqi_ok, nei_ok, lti_ok, gti_ok, lei_ok, gei_ok, int_ok, if_true, if_false, cond_true, cond_false, Bool.false_eq_true, true_and, and_true, Option.map_some, Option.bind_some, Nat.reduceAdd, Nat.reduceSub, Nat.reduceLeDiff, reduceIte, w_seq, l2]
  refine w_try ?_
  by_cases hw : w = 0
  · simp only [hw, decide_true, w_fn, w_ok, w_ex, w_no, w_nos, w_mno, w_exc, w_nxt, w_ret, w_bind, w_opt, w_optM, w_chk, w_of, w_settle_d, w_settle_o, w_cond, w_condS, w_ite, w_iteS, w_iteM, w_var, sIf, sSet, sAug, sSub, sFldS, sRet, sRetN, sDrop, sNil, sAsg, sBreak, sCont, sRaise0, sRaise1, xtAnd, xtOr, xtNot, xB, x1, x2, xC, xCB, xCh, xAnd, xOr, xNot, xIf, xTup, xLst, xDct0, xCall, xM, xMd, xIsi, aNil, aCons, adNil, adCons, xSl, oNo, oI, gN, gT, gsNil, gsCons, List.map, List.append, List.replicate, List.cons_append, List.nil_append, List.append_nil, List.getElem?_cons_zero, List.getElem?_cons_succ, List.set_cons_zero, List.set_cons_succ, List.length_cons, List.length_nil, add_ok, sub_ok, eqi_ok, nei_ok, lti_ok, gti_ok, lei_ok, gei_ok, int_ok, if_true, if_false, cond_true, cond_false, Bool.false_eq_true, true_and, and_true, Option.map_some, Option.bind_some, Nat.reduceAdd, Nat.reduceSub, Nat.reduceLeDiff, reduceIte, l2]
    refine matters_ok b tb h1 h2 h3 h4 h5 h6 (fun hc => ?_) fun hc m' f => ?_
    · refine ⟨_, _, _, rfl, xmt_tm, ?_⟩
      simp only [w_fn, w_ok, w_ex, w_no, w_nos, w_mno, w_exc, w_nxt, w_ret, w_bind, w_opt, w_optM, w_chk, w_of, w_settle_d, w_settle_o, w_cond, w_condS, w_ite, w_iteS, w_iteM, w_var, sIf, sSet, sAug, sSub, sFldS, sRet, sRetN, sDrop, sNil, sAsg, sBreak, sCont, sRaise0, sRaise1, xtAnd, xtOr, xtNot, xB, x1, x2, xC, xCB, xCh, xAnd, xOr, xNot, xIf, xTup, xLst, xDct0, xCall, xM, xMd, xIsi, aNil, aCons, adNil, adCons, xSl, oNo, oI, gN, gT, gsNil, gsCons, List.map, List.append, List.replicate, List.cons_append, List.nil_append, List.append_nil, List.getElem?_cons_zero, List.getElem?_cons_succ, List.set_cons_zero, List.set_cons_succ, List.length_cons, List.length_nil, add_ok, sub_ok, eqi_ok, nei_ok, lti_ok, gti_ok, lei_ok, gei_ok, int_ok, if_true, if_false, cond_true, cond_false, Bool.false_eq_true, true_and, and_true, Option.map_some, Option.bind_some, Nat.reduceAdd, Nat.reduceSub, Nat.reduceLeDiff, reduceIte, w_seq, isi_tm, isi_nw, Bool.not_false, xf_ok, l2]
      refine ⟨⟨fun l o ho => .inl ho, fun j d hj hd => ?_⟩, trivial, ?_⟩
      · match j, hj, hd with
        | 0, _, hd => exact .inl hd
        | 1, _, hd => exact .inl hd
        | 2, _, hd => cases hd; exact .inr rfl
        | 3, hj, _ => exact absurd rfl hj
        | n + 4, _, hd => cases hd
      · have := k m Fr.refl
        unfold toldV at this
        rw [if_pos hc] at this
        exact this
    · have := k m' f
      unfold toldV at this
      rw [if_neg (by omega), if_pos hw] at this
      try simp only [w_fn, w_ok, w_ex, w_no, w_nos, w_mno, w_exc, w_nxt, w_ret, w_bind, w_opt, w_optM, w_chk, w_of, w_settle_d, w_settle_o, w_cond, w_condS, w_ite, w_iteS, w_iteM, w_var, sIf, sSet, sAug, sSub, sFldS, sRet, sRetN, sDrop, sNil, sAsg, sBreak, sCont, sRaise0, sRaise1, xtAnd, xtOr, xtNot, xB, x1, x2, xC, xCB, xCh, xAnd, xOr, xNot, xIf, xTup, xLst, xDct0, xCall, xM, xMd, xIsi, aNil, aCons, adNil, adCons, xSl, oNo, oI, gN, gT, gsNil, gsCons, List.map, List.append, List.replicate, List.cons_append, List.nil_append, List.append_nil, List.getElem?_cons_zero, List.getElem?_cons_succ, List.set_cons_zero, List.set_cons_succ, List.length_cons, List.length_nil, add_ok, sub_ok, eqi_ok, nei_ok, lti_ok, gti_ok, lei_ok, gei_ok, int_ok, if_true, if_false, cond_true, cond_false, Bool.false_eq_true, true_and, and_true, Option.map_some, Option.bind_some, Nat.reduceAdd, Nat.reduceSub, Nat.reduceLeDiff, reduceIte, l2]
      exact this
  · simp only [hw, decide_false, w_fn, w_ok, w_ex, w_no, w_nos, w_mno, w_exc, w_nxt, w_ret, w_bind, w_opt, w_optM, w_chk, w_of, w_settle_d, w_settle_o, w_cond, w_condS, w_ite, w_iteS, w_iteM, w_var, sIf, sSet, sAug, sSub, sFldS, sRet, sRetN, sDrop, sNil, sAsg, sBreak, sCont, sRaise0, sRaise1, xtAnd, xtOr, xtNot, xB, x1, x2, xC, xCB, xCh, xAnd, xOr, xNot, xIf, xTup, xLst, xDct0, xCall, xM, xMd, xIsi, aNil, aCons, adNil, adCons, xSl, oNo, oI, gN, gT, gsNil, gsCons, List.map, List.append, List.replicate, List.cons_append, List.nil_append, List.append_nil, List.getElem?_cons_zero, List.getElem?_cons_succ, List.set_cons_zero, List.set_cons_succ, List.length_cons, List.length_nil, add_ok, sub_ok, eqi_ok, nei_ok, lti_ok, gti_ok, lei_ok, gei_ok, int_ok, if_true, if_false, cond_true, cond_false, Bool.false_eq_true, true_and, and_true, Option.map_some, Option.bind_some, Nat.reduceAdd, Nat.reduceSub, Nat.reduceLeDiff, reduceIte, l2]
    refine matters_many_ok b tb h1 h2 h3 h4 h5 h6 (fun hc => ?_) fun hc m' f => ?_
    · refine ⟨_, _, _, rfl, xmt_tm, ?_⟩
      simp only [w_fn, w_ok, w_ex, w_no, w_nos, w_mno, w_exc, w_nxt, w_ret, w_bind, w_opt, w_optM, w_chk, w_of, w_settle_d, w_settle_o, w_cond, w_condS, w_ite, w_iteS, w_iteM, w_var, sIf, sSet, sAug, sSub, sFldS, sRet, sRetN, sDrop, sNil, sAsg, sBreak, sCont, sRaise0, sRaise1, xtAnd, xtOr, xtNot, xB, x1, x2, xC, xCB, xCh, xAnd, xOr, xNot, xIf, xTup, xLst, xDct0, xCall, xM, xMd, xIsi, aNil, aCons, adNil, adCons, xSl, oNo, oI, gN, gT, gsNil, gsCons, List.map, List.append, List.replicate, List.cons_append, List.nil_append, List.append_nil, List.getElem?_cons_zero, List.getElem?_cons_succ, List.set_cons_zero, List.set_cons_succ, List.length_cons, List.length_nil, add_ok, sub_ok, eqi_ok, nei_ok, lti_ok, gti_ok, lei_ok, gei_ok, int_ok, if_true, if_false, cond_true, cond_false, Bool.false_eq_true, true_and, and_true, Option.map_some, Option.bind_some, Nat.reduceAdd, Nat.reduceSub, Nat.reduceLeDiff, reduceIte, w_seq, isi_tm, isi_nw, Bool.not_false, xf_ok, l2]
      refine ⟨⟨fun l o ho => .inl ho, fun j d hj hd => ?_⟩, trivial, ?_⟩
      · match j, hj, hd with
        | 0, _, hd => exact .inl hd
        | 1, _, hd => exact .inl hd
        | 2, _, hd => cases hd; exact .inr rfl
        | 3, hj, _ => exact absurd rfl hj
        | n + 4, _, hd => cases hd
      · have := k m Fr.refl
        unfold toldV at this
        rw [if_pos hc] at this
        exact this
    · have := k m' f
      unfold toldV at this
      rw [if_neg (by omega), if_neg hw] at this
      try simp only [w_fn, w_ok, w_ex, w_no, w_nos, w_mno, w_exc, w_nxt, w_ret, w_bind, w_opt, w_optM, w_chk, w_of, w_settle_d, w_settle_o, w_cond, w_condS, w_ite, w_iteS, w_iteM, w_var, sIf, sSet, sAug, sSub, sFldS, sRet, sRetN, sDrop, sNil, sAsg, sBreak, sCont, sRaise0, sRaise1, xtAnd, xtOr, xtNot, xB, x1, x2, xC, xCB, xCh, xAnd, xOr, xNot, xIf, xTup, xLst, xDct0, xCall, xM, xMd, xIsi, aNil, aCons, adNil, adCons, xSl, oNo, oI, gN, gT, gsNil, gsCons, List.map, List.append, List.replicate, List.cons_append, List.nil_append, List.append_nil, List.getElem?_cons_zero, List.getElem?_cons_succ, List.set_cons_zero, List.set_cons_succ, List.length_cons, List.length_nil, add_ok, sub_ok, eqi_ok, nei_ok, lti_ok, gti_ok, lei_ok, gei_ok, int_ok, if_true, if_false, cond_true, cond_false, Bool.false_eq_true, true_and, and_true, Option.map_some, Option.bind_some, Nat.reduceAdd, Nat.reduceSub, Nat.reduceLeDiff, reduceIte, l2]
      exact this
end Dn

set_option Elab.async false
set_option linter.all false
set_option maxRecDepth 100000
set_option maxHeartbeats 4000000
set_option autoImplicit false
namespace Dn
open PySem PySem.Spec

theorem best_nil (s ah bh : Nat) : best s ah bh [] = none := by
  unfold best
  have : ∀ l : List (List Int × List Int × List Int), l.foldl (bestS (mats s ah bh [])) none = none := fun l => by
    induction l with
    | nil => rfl
    | cons t l ih =>
      rw [List.foldl_cons]
      have e : bestS (mats s ah bh []) none t = none := by
        unfold bestS mats
        rw [matP_nil]; simp
      rw [e, ih]
  exact this _
theorem many_nil (s ah bh : Nat) : many s ah bh [] = 0 := by
  unfold many
  rw [List.countP_eq_zero]
  intro t _
  unfold mats
  rw [matP_nil]; simp
theorem DiceAt.setd {l n lt : Nat} {m : Mu} {a b : List (D × D)} (h : DiceAt l n m) (ht : m[lt]? = some (.dct a)) : DiceAt l n (m.set lt (.dct b)) := by
  obtain ⟨c, cs, i, q, s, t, h1, h2, h3, hr⟩ := h
  have n1 : lt ≠ l := fun z => by subst z; rw [ht] at h2; cases h2
  have n2 : lt ≠ c := fun z => by subst z; rw [ht] at h3; cases h3
  exact ⟨c, cs, i, q, s, t, h1, by rw [List.getElem?_set_ne n1]; exact h2, by rw [List.getElem?_set_ne n2]; exact h3, hr⟩
theorem DiceAt.ne {l n lt : Nat} {m : Mu} {a : List (D × D)} (h : DiceAt l n m) (ht : m[lt]? = some (.dct a)) : lt ≠ l := fun z => by
  obtain ⟨c, cs, i, q, s, t, h1, h2, h3, hr⟩ := h
  subst z; rw [ht] at h2; cases h2
theorem seta_dct {l : Nat} {k v : D} {mu : Mu} {kvs : List (D × D)} (h : mu[l]? = some (.dct kvs)) (g : DGood kvs) {xs : List D} {n : Nat} (hk : k = .tup xs) (hg : gd k n = true) (hl : kvs.length < LIM) (hn : n ≤ 8 := by decide) : setA (.loc l) k v mu = some (mu.set l (.dct (dput kvs k v))) := by
  subst hk
  unfold setA
  simp only [h]
  rw [gd_kTup hg hn, g.dT, if_pos ⟨by simp, hl⟩]
theorem st_told : PyData.strOk "told" = true := by decide +kernel
theorem st_many : PyData.strOk "many" = true := by decide +kernel
theorem st_other : PyData.strOk "other" = true := by decide +kernel
theorem gd_pair {x : Str} {d : D} (h : PyData.strOk x = true) (g : gd d 2 = true) : gd (.tup [.str x, d]) 3 = true := by
  rw [gd, gds, gds, gds, gd, h, g]; rfl
theorem gd_int {i : Int} {n : Nat} : gd (.int i) n = true := by rw [gd]
theorem gd_non {n : Nat} : gd .non n = true := by rw [gd]
theorem gd_str {x : Str} {n : Nat} (h : PyData.strOk x = true) : gd (.str x) n = true := by rw [gd]; exact h
theorem gd_bestA (β) : gd (bestA β) 2 = true := by
  cases β with
  | none => exact gd_non
  | some t => exact gd_trip t
theorem gd_toldV (w : Int) (s ah bh : Nat) (kvs : List (D × D)) : gd (toldV w s ah bh kvs) 3 = true := by
  unfold toldV
  split
  · exact gd_pair st_many gd_int
  · split
    · exact gd_pair st_told (gd_bestA _)
    · exact gd_pair st_told gd_int
theorem neb_ok {a b : Bool} {mu : Mu} : neW (.d (.bl a)) (.d (.bl b)) mu = some (.d (.bl (a != b))) := by
  unfold neW
  rw [cmp_ok (p := .bool a) (q := .bool b) rfl rfl rfl rfl]
  rfl
theorem n_tm : ¬ (("told" : Str) = "many") := by decide +kernel
theorem n_to : ¬ (("told" : Str) = "other") := by decide +kernel
theorem n_mo : ¬ (("many" : Str) = "other") := by decide +kernel
theorem toldV_many {w : Int} {s ah bh : Nat} {kvs : List (D × D)} : (toldV w s ah bh kvs = .tup [.str "many", .int 20000]) ↔ 20000 < cnt s ah bh := by
  unfold toldV
  split
  · rename_i h; simp [h]
  · rename_i h
    split <;> simp [h, n_tm]
theorem toldV_ix {w : Int} {s ah bh : Nat} {kvs : List (D × D)} {mu : Mu} : ∃ x : Str, ixA (.d (toldV w s ah bh kvs)) (.d (.int 0)) mu = some (.d (.str x)) ∧ PyData.strOk x = true ∧ x ≠ "other" ∧ (¬ 20000 < cnt s ah bh → x = "told") := by
  unfold toldV
  split
  · rename_i h; exact ⟨"many", by rw [ix_tup, at_0]; rfl, st_many, n_mo, fun z => absurd h z⟩
  · split
    · exact ⟨"told", by rw [ix_tup, at_0]; rfl, st_told, n_to, fun _ => rfl⟩
    · exact ⟨"told", by rw [ix_tup, at_0]; rfl, st_told, n_to, fun _ => rfl⟩
theorem toldV_0 {s ah bh : Nat} (h : ¬ 20000 < cnt s ah bh) : toldV 0 s ah bh [] = .tup [.str "told", .non] := by
  unfold toldV
  rw [if_neg h, if_pos rfl, best_nil]; rfl
theorem toldV_1 {s ah bh : Nat} (h : ¬ 20000 < cnt s ah bh) : toldV 1 s ah bh [] = .tup [.str "told", .int 0] := by
  unfold toldV
  rw [if_neg h, if_neg (by decide), many_nil]; rfl
theorem nz : ¬ ((0 : Int) < ((0 : Nat) : Int)) := by decide
theorem law_wish {ns : List Int} (hn : ns.length ≤ 63) : WM (fm_law [.rol (ns.map .int)] []) (fun d _ => d = .bl true) (fun _ _ => False) := by
  unfold fm_law m_law
  try simp only [w_fn, w_ok, w_ex, w_no, w_nos, w_mno, w_exc, w_nxt, w_ret, w_bind, w_opt, w_optM, w_chk, w_of, w_settle_d, w_settle_o, w_cond, w_condS, w_ite, w_iteS, w_iteM, w_var, sIf, sSet, sAug, sSub, sFldS, sRet, sRetN, sDrop, sNil, sAsg, sBreak, sCont, sRaise0, sRaise1, xtAnd, xtOr, xtNot, xB, x1, x2, xC, xCB, xCh, xAnd, xOr, xNot, xIf, xTup, xLst, xDct0, xCall, xM, xMd, xIsi, aNil, aCons, adNil, adCons, xSl, oNo, oI, gN, gT, gsNil, gsCons, List.map, List.append, List.replicate, List.cons_append, List.nil_append, List.append_nil, List.getElem?_cons_zero, List.getElem?_cons_succ, List.set_cons_zero, List.set_cons_succ, List.length_cons, List.length_nil, add_ok, sub_ok, eqi_ok, nei_ok, lti_ok, gti_ok, lei_ok, gei_ok, int_ok, if_true, if_false, cond_true, cond_false, Bool.false_eq_true, true_and, and_true, Option.map_some, Option.bind_some, Nat.reduceAdd, Nat.reduceSub, Nat.reduceLeDiff, reduceIte, w_seq]
  refine law_dice_ok hn fun l m1 d1 _ => ?_
  have d1 := d1.mono (k := 1000) (by decide)
  refine draw_ok (n := 999) d1 (by decide) (by decide) fun v1 m2 a1 a2 d2 _ => ?_
  obtain ⟨s, rfl⟩ := Int.eq_ofNat_of_zero_le a1
  try simp only [w_fn, w_ok, w_ex, w_no, w_nos, w_mno, w_exc, w_nxt, w_ret, w_bind, w_opt, w_optM, w_chk, w_of, w_settle_d, w_settle_o, w_cond, w_condS, w_ite, w_iteS, w_iteM, w_var, sIf, sSet, sAug, sSub, sFldS, sRet, sRetN, sDrop, sNil, sAsg, sBreak, sCont, sRaise0, sRaise1, xtAnd, xtOr, xtNot, xB, x1, x2, xC, xCB, xCh, xAnd, xOr, xNot, xIf, xTup, xLst, xDct0, xCall, xM, xMd, xIsi, aNil, aCons, adNil, adCons, xSl, oNo, oI, gN, gT, gsNil, gsCons, List.map, List.append, List.replicate, List.cons_append, List.nil_append, List.append_nil, List.getElem?_cons_zero, List.getElem?_cons_succ, List.set_cons_zero, List.set_cons_succ, List.length_cons, List.length_nil, add_ok, sub_ok, eqi_ok, nei_ok, lti_ok, gti_ok, lei_ok, gei_ok, int_ok, if_true, if_false, cond_true, cond_false, Bool.false_eq_true, true_and, and_true, Option.map_some, Option.bind_some, Nat.reduceAdd, Nat.reduceSub, Nat.reduceLeDiff, reduceIte, w_seq]
  refine draw_ok (n := 998) d2 (by decide) (by decide) fun v2 m3 a3 a4 d3 _ => ?_
  obtain ⟨ah, rfl⟩ := Int.eq_ofNat_of_zero_le a3
  try simp only [w_fn, w_ok, w_ex, w_no, w_nos, w_mno, w_exc, w_nxt, w_ret, w_bind, w_opt, w_optM, w_chk, w_of, w_settle_d, w_settle_o, w_cond, w_condS, w_ite, w_iteS, w_iteM, w_var, sIf, sSet, sAug, sSub, sFldS, sRet, sRetN, sDrop, sNil, sAsg, sBreak, sCont, sRaise0, sRaise1, xtAnd, xtOr, xtNot, xB, x1, x2, xC, xCB, xCh, xAnd, xOr, xNot, xIf, xTup, xLst, xDct0, xCall, xM, xMd, xIsi, aNil, aCons, adNil, adCons, xSl, oNo, oI, gN, gT, gsNil, gsCons, List.map, List.append, List.replicate, List.cons_append, List.nil_append, List.append_nil, List.getElem?_cons_zero, List.getElem?_cons_succ, List.set_cons_zero, List.set_cons_succ, List.length_cons, List.length_nil, add_ok, sub_ok, eqi_ok, nei_ok, lti_ok, gti_ok, lei_ok, gei_ok, int_ok, if_true, if_false, cond_true, cond_false, Bool.false_eq_true, true_and, and_true, Option.map_some, Option.bind_some, Nat.reduceAdd, Nat.reduceSub, Nat.reduceLeDiff, reduceIte, w_seq]
  refine draw_ok (n := 997) d3 (by decide) (by decide) fun v3 m4 a5 a6 d4 _ => ?_
  obtain ⟨bh, rfl⟩ := Int.eq_ofNat_of_zero_le a5
  have es : (1 : Int) + (s : Int) = ((1 + s : Nat) : Int) := by omega
  have ea : (1 : Int) + (ah : Int) = ((1 + ah : Nat) : Int) := by omega
  have eb : (1 : Int) + (bh : Int) = ((1 + bh : Nat) : Int) := by omega
  try simp only [w_fn, w_ok, w_ex, w_no, w_nos, w_mno, w_exc, w_nxt, w_ret, w_bind, w_opt, w_optM, w_chk, w_of, w_settle_d, w_settle_o, w_cond, w_condS, w_ite, w_iteS, w_iteM, w_var, sIf, sSet, sAug, sSub, sFldS, sRet, sRetN, sDrop, sNil, sAsg, sBreak, sCont, sRaise0, sRaise1, xtAnd, xtOr, xtNot, xB, x1, x2, xC, xCB, xCh, xAnd, xOr, xNot, xIf, xTup, xLst, xDct0, xCall, xM, xMd, xIsi, aNil, aCons, adNil, adCons, xSl, oNo, oI, gN, gT, gsNil, gsCons, List.map, List.append, List.replicate, List.cons_append, List.nil_append, List.append_nil, List.getElem?_cons_zero, List.getElem?_cons_succ, List.set_cons_zero, List.set_cons_succ, List.length_cons, List.length_nil, add_ok, sub_ok, eqi_ok, nei_ok, lti_ok, gti_ok, lei_ok, gei_ok, int_ok, if_true, if_false, cond_true, cond_false, Bool.false_eq_true, true_and, and_true, Option.map_some, Option.bind_some, Nat.reduceAdd, Nat.reduceSub, Nat.reduceLeDiff, reduceIte, w_seq, es, ea, eb]
  have h1 : 1 ≤ 1 + s := by omega
  have h2 : 1 + s ≤ 8 := by omega
  have h3 : 1 ≤ 1 + ah := by omega
  have h4 : 1 + ah ≤ 4 := by omega
  have h5 : 1 ≤ 1 + bh := by omega
  have h6 : 1 + bh ≤ 4 := by omega
  generalize 1 + s = s at *
  generalize 1 + ah = ah at *
  generalize 1 + bh = bh at *
  have d5 : DiceAt l 997 (m4 ++ [O.dct []]) := d4.fr Fr.app
  have t5 : (m4 ++ [O.dct []])[m4.length]? = some (.dct []) := get_app
  generalize m4 ++ [O.dct []] = m5 at d5 t5 ⊢
  generalize m4.length = lt at t5 ⊢
  rw [w_for]
  refine w_rg1 ?_
  try simp only [w_fn, w_ok, w_ex, w_no, w_nos, w_mno, w_exc, w_nxt, w_ret, w_bind, w_opt, w_optM, w_chk, w_of, w_settle_d, w_settle_o, w_cond, w_condS, w_ite, w_iteS, w_iteM, w_var, sIf, sSet, sAug, sSub, sFldS, sRet, sRetN, sDrop, sNil, sAsg, sBreak, sCont, sRaise0, sRaise1, xtAnd, xtOr, xtNot, xB, x1, x2, xC, xCB, xCh, xAnd, xOr, xNot, xIf, xTup, xLst, xDct0, xCall, xM, xMd, xIsi, aNil, aCons, adNil, adCons, xSl, oNo, oI, gN, gT, gsNil, gsCons, List.map, List.append, List.replicate, List.cons_append, List.nil_append, List.append_nil, List.getElem?_cons_zero, List.getElem?_cons_succ, List.set_cons_zero, List.set_cons_succ, List.length_cons, List.length_nil, add_ok, sub_ok, eqi_ok, nei_ok, lti_ok, gti_ok, lei_ok, gei_ok, int_ok, if_true, if_false, cond_true, cond_false, Bool.false_eq_true, true_and, and_true, Option.map_some, Option.bind_some, Nat.reduceAdd, Nat.reduceSub, Nat.reduceLeDiff, reduceIte]
  refine draw_ok (n := 996) d5 (by decide) (by decide) fun v4 m6 a7 a8 d6 f6 => ?_
  have t6 := f6.2 lt _ (by simpa using d5.ne t5) t5
  refine ⟨_, rfl, by omega, by omega, ?_⟩
  refine w_loop (fun i ρ m' => ∃ kvs x y z, ρ = [some (.rol (ns.map .int)), some (.loc l), some (.int s), some (.int ah), some (.int bh), some (.loc lt), x, y, z, none, none, none, none] ∧ DiceAt l (996 - 50 * i) m' ∧ m'[lt]? = some (.dct kvs) ∧ Tab s ah bh kvs ∧ kvs.length ≤ i) (fun i d ρ m' hi hI => ?_) (fun ρ m' hI => ?_) ⟨[], _, _, _, rfl, d6, t6, fun _ h => (nomatch h), Nat.le_refl _⟩
  · obtain ⟨hi, rfl⟩ := rng_get hi
    obtain ⟨kvs, x, y, z, rfl, dd, tt, tb, hl⟩ := hI
    refine ⟨stands_nil, _, rfl, ?_⟩
    try simp only [w_fn, w_ok, w_ex, w_no, w_nos, w_mno, w_exc, w_nxt, w_ret, w_bind, w_opt, w_optM, w_chk, w_of, w_settle_d, w_settle_o, w_cond, w_condS, w_ite, w_iteS, w_iteM, w_var, sIf, sSet, sAug, sSub, sFldS, sRet, sRetN, sDrop, sNil, sAsg, sBreak, sCont, sRaise0, sRaise1, xtAnd, xtOr, xtNot, xB, x1, x2, xC, xCB, xCh, xAnd, xOr, xNot, xIf, xTup, xLst, xDct0, xCall, xM, xMd, xIsi, aNil, aCons, adNil, adCons, xSl, oNo, oI, gN, gT, gsNil, gsCons, List.map, List.append, List.replicate, List.cons_append, List.nil_append, List.append_nil, List.getElem?_cons_zero, List.getElem?_cons_succ, List.set_cons_zero, List.set_cons_succ, List.length_cons, List.length_nil, add_ok, sub_ok, eqi_ok, nei_ok, lti_ok, gti_ok, lei_ok, gei_ok, int_ok, if_true, if_false, cond_true, cond_false, Bool.false_eq_true, true_and, and_true, Option.map_some, Option.bind_some, Nat.reduceAdd, Nat.reduceSub, Nat.reduceLeDiff, reduceIte, w_seq]
    refine law_row_ok (n := 996 - 50 * i - 5) (dd.mono (by omega)) (by omega) (by omega) h3 (by omega) fun xs m7 r7 d7 f7 => ?_
    have t7 := f7.2 lt _ (by simpa using dd.ne tt) tt
    try simp only [w_fn, w_ok, w_ex, w_no, w_nos, w_mno, w_exc, w_nxt, w_ret, w_bind, w_opt, w_optM, w_chk, w_of, w_settle_d, w_settle_o, w_cond, w_condS, w_ite, w_iteS, w_iteM, w_var, sIf, sSet, sAug, sSub, sFldS, sRet, sRetN, sDrop, sNil, sAsg, sBreak, sCont, sRaise0, sRaise1, xtAnd, xtOr, xtNot, xB, x1, x2, xC, xCB, xCh, xAnd, xOr, xNot, xIf, xTup, xLst, xDct0, xCall, xM, xMd, xIsi, aNil, aCons, adNil, adCons, xSl, oNo, oI, gN, gT, gsNil, gsCons, List.map, List.append, List.replicate, List.cons_append, List.nil_append, List.append_nil, List.getElem?_cons_zero, List.getElem?_cons_succ, List.set_cons_zero, List.set_cons_succ, List.length_cons, List.length_nil, add_ok, sub_ok, eqi_ok, nei_ok, lti_ok, gti_ok, lei_ok, gei_ok, int_ok, if_true, if_false, cond_true, cond_false, Bool.false_eq_true, true_and, and_true, Option.map_some, Option.bind_some, Nat.reduceAdd, Nat.reduceSub, Nat.reduceLeDiff, reduceIte, w_seq]
    refine law_row_ok (n := 996 - 50 * i - 10) (d7.mono (by omega)) (by omega) (by omega) h5 (by omega) fun ys m8 r8 d8 f8 => ?_
    have t8 := f8.2 lt _ (by simpa using d7.ne t7) t7
    try simp only [w_fn, w_ok, w_ex, w_no, w_nos, w_mno, w_exc, w_nxt, w_ret, w_bind, w_opt, w_optM, w_chk, w_of, w_settle_d, w_settle_o, w_cond, w_condS, w_ite, w_iteS, w_iteM, w_var, sIf, sSet, sAug, sSub, sFldS, sRet, sRetN, sDrop, sNil, sAsg, sBreak, sCont, sRaise0, sRaise1, xtAnd, xtOr, xtNot, xB, x1, x2, xC, xCB, xCh, xAnd, xOr, xNot, xIf, xTup, xLst, xDct0, xCall, xM, xMd, xIsi, aNil, aCons, adNil, adCons, xSl, oNo, oI, gN, gT, gsNil, gsCons, List.map, List.append, List.replicate, List.cons_append, List.nil_append, List.append_nil, List.getElem?_cons_zero, List.getElem?_cons_succ, List.set_cons_zero, List.set_cons_succ, List.length_cons, List.length_nil, add_ok, sub_ok, eqi_ok, nei_ok, lti_ok, gti_ok, lei_ok, gei_ok, int_ok, if_true, if_false, cond_true, cond_false, Bool.false_eq_true, true_and, and_true, Option.map_some, Option.bind_some, Nat.reduceAdd, Nat.reduceSub, Nat.reduceLeDiff, reduceIte, w_seq, sSub]
    refine law_like_ok (n := 996 - 50 * i - 20) (d8.mono (by have := r7.2.1; omega)) (by omega) (by omega) r7 (by omega) fun us m9 r9 l9 d9 f9 => ?_
    have t9 := f9.2 lt _ (by simpa using d8.ne t8) t8
    try simp only [w_fn, w_ok, w_ex, w_no, w_nos, w_mno, w_exc, w_nxt, w_ret, w_bind, w_opt, w_optM, w_chk, w_of, w_settle_d, w_settle_o, w_cond, w_condS, w_ite, w_iteS, w_iteM, w_var, sIf, sSet, sAug, sSub, sFldS, sRet, sRetN, sDrop, sNil, sAsg, sBreak, sCont, sRaise0, sRaise1, xtAnd, xtOr, xtNot, xB, x1, x2, xC, xCB, xCh, xAnd, xOr, xNot, xIf, xTup, xLst, xDct0, xCall, xM, xMd, xIsi, aNil, aCons, adNil, adCons, xSl, oNo, oI, gN, gT, gsNil, gsCons, List.map, List.append, List.replicate, List.cons_append, List.nil_append, List.append_nil, List.getElem?_cons_zero, List.getElem?_cons_succ, List.set_cons_zero, List.set_cons_succ, List.length_cons, List.length_nil, add_ok, sub_ok, eqi_ok, nei_ok, lti_ok, gti_ok, lei_ok, gei_ok, int_ok, if_true, if_false, cond_true, cond_false, Bool.false_eq_true, true_and, and_true, Option.map_some, Option.bind_some, Nat.reduceAdd, Nat.reduceSub, Nat.reduceLeDiff, reduceIte]
    refine law_like_ok (n := 996 - 50 * i - 30) (d9.mono (by have := r8.2.1; omega)) (by omega) (by omega) r8 (by omega) fun vs m10 r10 l10 d10 f10 => ?_
    have t10 := f10.2 lt _ (by simpa using d9.ne t9) t9
    have en : Ent s ah bh (.tup [row xs, row ys], .tup [row us, row vs]) := ⟨xs, ys, us, vs, rfl, r7, r8, r9, r10, l9, l10⟩
    try simp only [w_fn, w_ok, w_ex, w_no, w_nos, w_mno, w_exc, w_nxt, w_ret, w_bind, w_opt, w_optM, w_chk, w_of, w_settle_d, w_settle_o, w_cond, w_condS, w_ite, w_iteS, w_iteM, w_var, sIf, sSet, sAug, sSub, sFldS, sRet, sRetN, sDrop, sNil, sAsg, sBreak, sCont, sRaise0, sRaise1, xtAnd, xtOr, xtNot, xB, x1, x2, xC, xCB, xCh, xAnd, xOr, xNot, xIf, xTup, xLst, xDct0, xCall, xM, xMd, xIsi, aNil, aCons, adNil, adCons, xSl, oNo, oI, gN, gT, gsNil, gsCons, List.map, List.append, List.replicate, List.cons_append, List.nil_append, List.append_nil, List.getElem?_cons_zero, List.getElem?_cons_succ, List.set_cons_zero, List.set_cons_succ, List.length_cons, List.length_nil, add_ok, sub_ok, eqi_ok, nei_ok, lti_ok, gti_ok, lei_ok, gei_ok, int_ok, if_true, if_false, cond_true, cond_false, Bool.false_eq_true, true_and, and_true, Option.map_some, Option.bind_some, Nat.reduceAdd, Nat.reduceSub, Nat.reduceLeDiff, reduceIte, show (2 : Nat) ≤ LIM from by decide, seta_dct t10 tb.good rfl gd_row2 (show kvs.length < LIM by unfold LIM; omega)]
    have tp := tb.put en
    exact ⟨_, _, _, _, rfl, (d10.setd t10).mono (by omega), get_set t10, tp.1, by have := tp.2.1; omega⟩
  · obtain ⟨kvs, x, y, z, rfl, dd, tt, tb, hl⟩ := hI
    refine ⟨stands_nil, ?_⟩
    rw [rng_len] at hl dd
    have hl6 : kvs.length ≤ 6 := by omega
    have dd := dd.mono (k := 600) (by omega)
    try simp only [w_fn, w_ok, w_ex, w_no, w_nos, w_mno, w_exc, w_nxt, w_ret, w_bind, w_opt, w_optM, w_chk, w_of, w_settle_d, w_settle_o, w_cond, w_condS, w_ite, w_iteS, w_iteM, w_var, sIf, sSet, sAug, sSub, sFldS, sRet, sRetN, sDrop, sNil, sAsg, sBreak, sCont, sRaise0, sRaise1, xtAnd, xtOr, xtNot, xB, x1, x2, xC, xCB, xCh, xAnd, xOr, xNot, xIf, xTup, xLst, xDct0, xCall, xM, xMd, xIsi, aNil, aCons, adNil, adCons, xSl, oNo, oI, gN, gT, gsNil, gsCons, List.map, List.append, List.replicate, List.cons_append, List.nil_append, List.append_nil, List.getElem?_cons_zero, List.getElem?_cons_succ, List.set_cons_zero, List.set_cons_succ, List.length_cons, List.length_nil, add_ok, sub_ok, eqi_ok, nei_ok, lti_ok, gti_ok, lei_ok, gei_ok, int_ok, if_true, if_false, cond_true, cond_false, Bool.false_eq_true, true_and, and_true, Option.map_some, Option.bind_some, Nat.reduceAdd, Nat.reduceSub, Nat.reduceLeDiff, reduceIte, w_seq]
    refine w_make (ds := []) ?_
    try simp only [w_fn, w_ok, w_ex, w_no, w_nos, w_mno, w_exc, w_nxt, w_ret, w_bind, w_opt, w_optM, w_chk, w_of, w_settle_d, w_settle_o, w_cond, w_condS, w_ite, w_iteS, w_iteM, w_var, sIf, sSet, sAug, sSub, sFldS, sRet, sRetN, sDrop, sNil, sAsg, sBreak, sCont, sRaise0, sRaise1, xtAnd, xtOr, xtNot, xB, x1, x2, xC, xCB, xCh, xAnd, xOr, xNot, xIf, xTup, xLst, xDct0, xCall, xM, xMd, xIsi, aNil, aCons, adNil, adCons, xSl, oNo, oI, gN, gT, gsNil, gsCons, List.map, List.append, List.replicate, List.cons_append, List.nil_append, List.append_nil, List.getElem?_cons_zero, List.getElem?_cons_succ, List.set_cons_zero, List.set_cons_succ, List.length_cons, List.length_nil, add_ok, sub_ok, eqi_ok, nei_ok, lti_ok, gti_ok, lei_ok, gei_ok, int_ok, if_true, if_false, cond_true, cond_false, Bool.false_eq_true, true_and, and_true, Option.map_some, Option.bind_some, Nat.reduceAdd, Nat.reduceSub, Nat.reduceLeDiff, reduceIte]
    have nl := lt_of_get tt
    refine init_ok (kvs := kvs) get_app (by rw [List.getElem?_append_left nl]; exact tt) (by omega) tb (by omega) (by omega) (by omega) h3 h4 h5 h6 fun kvs' m7 tb' hnil b7 e7 f7 => ?_
    have t7 : m7[lt]? = some (.dct kvs) := by rw [← e7, List.getElem?_append_left nl]; exact tt
    have d7 : DiceAt l 600 m7 := dd.fr (((Fr.app (S := [m'.length]) (t := [O.ins "Book" []])).trans f7).new (Nat.le_refl _))
    generalize m'.length = lb at b7 ⊢
    have e1 : ((ah : Int) + (bh : Int) - 1) = ((ah + bh - 1 : Nat) : Int) := by omega
    obtain ⟨_, a1, a2⟩ := rowsMany_le (s := s) (n := ah) (by omega) (by omega) (by omega)
    obtain ⟨_, a3, a4⟩ := rowsMany_le (s := s) (n := ah + bh - 1) (by omega) (by omega) (by omega)
    obtain ⟨_, a5, a6⟩ := rowsMany_le (s := s) (n := bh) (by omega) (by omega) (by omega)
    have hmul : ∀ {mu : Mu} {x y : Int}, 0 ≤ x → x ≤ 2 ^ 60 → 0 ≤ y → y ≤ 2 ^ 25 → mulW (.d (.int x)) (.d (.int y)) mu = some (.d (.int (x * y))) := fun {mu x y} q1 q2 q3 q4 => mul_ok (lg q1 (by omega)) (lg q3 (by omega))
    have p0 : 0 ≤ rowsMany s ah * rowsMany s (ah + bh - 1) := Int.mul_nonneg a1 a3
    have p1 : rowsMany s ah * rowsMany s (ah + bh - 1) ≤ 2 ^ 60 := Int.le_trans (Int.mul_le_mul a2 a4 a3 (by decide)) (by decide)
    refine ⟨rfl, ?_⟩
    try simp only [w_fn, w_ok, w_ex, w_no, w_nos, w_mno, w_exc, w_nxt, w_ret, w_bind, w_opt, w_optM, w_chk, w_of, w_settle_d, w_settle_o, w_cond, w_condS, w_ite, w_iteS, w_iteM, w_var, sIf, sSet, sAug, sSub, sFldS, sRet, sRetN, sDrop, sNil, sAsg, sBreak, sCont, sRaise0, sRaise1, xtAnd, xtOr, xtNot, xB, x1, x2, xC, xCB, xCh, xAnd, xOr, xNot, xIf, xTup, xLst, xDct0, xCall, xM, xMd, xIsi, aNil, aCons, adNil, adCons, xSl, oNo, oI, gN, gT, gsNil, gsCons, List.map, List.append, List.replicate, List.cons_append, List.nil_append, List.append_nil, List.getElem?_cons_zero, List.getElem?_cons_succ, List.set_cons_zero, List.set_cons_succ, List.length_cons, List.length_nil, add_ok, sub_ok, eqi_ok, nei_ok, lti_ok, gti_ok, lei_ok, gei_ok, int_ok, if_true, if_false, cond_true, cond_false, Bool.false_eq_true, true_and, and_true, Option.map_some, Option.bind_some, Nat.reduceAdd, Nat.reduceSub, Nat.reduceLeDiff, reduceIte, w_seq]
    refine law_rows_many_ok (by omega) (by omega) (by omega) ?_
    try simp only [w_fn, w_ok, w_ex, w_no, w_nos, w_mno, w_exc, w_nxt, w_ret, w_bind, w_opt, w_optM, w_chk, w_of, w_settle_d, w_settle_o, w_cond, w_condS, w_ite, w_iteS, w_iteM, w_var, sIf, sSet, sAug, sSub, sFldS, sRet, sRetN, sDrop, sNil, sAsg, sBreak, sCont, sRaise0, sRaise1, xtAnd, xtOr, xtNot, xB, x1, x2, xC, xCB, xCh, xAnd, xOr, xNot, xIf, xTup, xLst, xDct0, xCall, xM, xMd, xIsi, aNil, aCons, adNil, adCons, xSl, oNo, oI, gN, gT, gsNil, gsCons, List.map, List.append, List.replicate, List.cons_append, List.nil_append, List.append_nil, List.getElem?_cons_zero, List.getElem?_cons_succ, List.set_cons_zero, List.set_cons_succ, List.length_cons, List.length_nil, add_ok, sub_ok, eqi_ok, nei_ok, lti_ok, gti_ok, lei_ok, gei_ok, int_ok, if_true, if_false, cond_true, cond_false, Bool.false_eq_true, true_and, and_true, Option.map_some, Option.bind_some, Nat.reduceAdd, Nat.reduceSub, Nat.reduceLeDiff, reduceIte, sub_ok, e1]
    refine law_rows_many_ok (by omega) (by omega) (by omega) ?_
    try simp only [w_fn, w_ok, w_ex, w_no, w_nos, w_mno, w_exc, w_nxt, w_ret, w_bind, w_opt, w_optM, w_chk, w_of, w_settle_d, w_settle_o, w_cond, w_condS, w_ite, w_iteS, w_iteM, w_var, sIf, sSet, sAug, sSub, sFldS, sRet, sRetN, sDrop, sNil, sAsg, sBreak, sCont, sRaise0, sRaise1, xtAnd, xtOr, xtNot, xB, x1, x2, xC, xCB, xCh, xAnd, xOr, xNot, xIf, xTup, xLst, xDct0, xCall, xM, xMd, xIsi, aNil, aCons, adNil, adCons, xSl, oNo, oI, gN, gT, gsNil, gsCons, List.map, List.append, List.replicate, List.cons_append, List.nil_append, List.append_nil, List.getElem?_cons_zero, List.getElem?_cons_succ, List.set_cons_zero, List.set_cons_succ, List.length_cons, List.length_nil, add_ok, sub_ok, eqi_ok, nei_ok, lti_ok, gti_ok, lei_ok, gei_ok, int_ok, if_true, if_false, cond_true, cond_false, Bool.false_eq_true, true_and, and_true, Option.map_some, Option.bind_some, Nat.reduceAdd, Nat.reduceSub, Nat.reduceLeDiff, reduceIte, hmul a1 (Int.le_trans a2 (by decide)) a3 a4]
    refine law_rows_many_ok (by omega) (by omega) (by omega) ?_
    try simp only [w_fn, w_ok, w_ex, w_no, w_nos, w_mno, w_exc, w_nxt, w_ret, w_bind, w_opt, w_optM, w_chk, w_of, w_settle_d, w_settle_o, w_cond, w_condS, w_ite, w_iteS, w_iteM, w_var, sIf, sSet, sAug, sSub, sFldS, sRet, sRetN, sDrop, sNil, sAsg, sBreak, sCont, sRaise0, sRaise1, xtAnd, xtOr, xtNot, xB, x1, x2, xC, xCB, xCh, xAnd, xOr, xNot, xIf, xTup, xLst, xDct0, xCall, xM, xMd, xIsi, aNil, aCons, adNil, adCons, xSl, oNo, oI, gN, gT, gsNil, gsCons, List.map, List.append, List.replicate, List.cons_append, List.nil_append, List.append_nil, List.getElem?_cons_zero, List.getElem?_cons_succ, List.set_cons_zero, List.set_cons_succ, List.length_cons, List.length_nil, add_ok, sub_ok, eqi_ok, nei_ok, lti_ok, gti_ok, lei_ok, gei_ok, int_ok, if_true, if_false, cond_true, cond_false, Bool.false_eq_true, true_and, and_true, Option.map_some, Option.bind_some, Nat.reduceAdd, Nat.reduceSub, Nat.reduceLeDiff, reduceIte, hmul p0 p1 a5 a6]
    have ec : rowsMany s ah * rowsMany s (ah + bh - 1) * rowsMany s bh = cnt s ah bh := rfl
    try simp only [ec]
    have hlen : ∀ {mu : Mu}, mu[lt]? = some (.dct kvs) → lenC [.d (.loc lt)] mu = some (.d (.int kvs.length)) := fun {mu} h => len_dct h tb.good
    by_cases c1 : 1200 < cnt s ah bh ∧ cnt s ah bh ≤ 20000
    · try simp only [c1.1, c1.2, decide_true, w_fn, w_ok, w_ex, w_no, w_nos, w_mno, w_exc, w_nxt, w_ret, w_bind, w_opt, w_optM, w_chk, w_of, w_settle_d, w_settle_o, w_cond, w_condS, w_ite, w_iteS, w_iteM, w_var, sIf, sSet, sAug, sSub, sFldS, sRet, sRetN, sDrop, sNil, sAsg, sBreak, sCont, sRaise0, sRaise1, xtAnd, xtOr, xtNot, xB, x1, x2, xC, xCB, xCh, xAnd, xOr, xNot, xIf, xTup, xLst, xDct0, xCall, xM, xMd, xIsi, aNil, aCons, adNil, adCons, xSl, oNo, oI, gN, gT, gsNil, gsCons, List.map, List.append, List.replicate, List.cons_append, List.nil_append, List.append_nil, List.getElem?_cons_zero, List.getElem?_cons_succ, List.set_cons_zero, List.set_cons_succ, List.length_cons, List.length_nil, add_ok, sub_ok, eqi_ok, nei_ok, lti_ok, gti_ok, lei_ok, gei_ok, int_ok, if_true, if_false, cond_true, cond_false, Bool.false_eq_true, true_and, and_true, Option.map_some, Option.bind_some, Nat.reduceAdd, Nat.reduceSub, Nat.reduceLeDiff, reduceIte]
      refine draw_ok (n := 599) d7 (by decide) (by decide) fun v m8 _ _ d8 f8 => ?_
      have t8 := f8.2 lt _ (by simpa using d7.ne t7) t7
      have b8 : BookAt lb s ah bh kvs' m8 := by
        obtain ⟨q, g1, g2⟩ := b7
        have n1 : lb ≠ l := fun z => by
          obtain ⟨c, cs, i, q, s, t, y1, y2, y3, hr⟩ := d7
          subst z; rw [g1] at y2; cases y2
        exact ⟨q, f8.2 _ _ (by simpa using n1) g1, f8.2 _ _ (by simpa using d7.ne g2) g2⟩
      try simp only [w_fn, w_ok, w_ex, w_no, w_nos, w_mno, w_exc, w_nxt, w_ret, w_bind, w_opt, w_optM, w_chk, w_of, w_settle_d, w_settle_o, w_cond, w_condS, w_ite, w_iteS, w_iteM, w_var, sIf, sSet, sAug, sSub, sFldS, sRet, sRetN, sDrop, sNil, sAsg, sBreak, sCont, sRaise0, sRaise1, xtAnd, xtOr, xtNot, xB, x1, x2, xC, xCB, xCh, xAnd, xOr, xNot, xIf, xTup, xLst, xDct0, xCall, xM, xMd, xIsi, aNil, aCons, adNil, adCons, xSl, oNo, oI, gN, gT, gsNil, gsCons, List.map, List.append, List.replicate, List.cons_append, List.nil_append, List.append_nil, List.getElem?_cons_zero, List.getElem?_cons_succ, List.set_cons_zero, List.set_cons_succ, List.length_cons, List.length_nil, add_ok, sub_ok, eqi_ok, nei_ok, lti_ok, gti_ok, lei_ok, gei_ok, int_ok, if_true, if_false, cond_true, cond_false, Bool.false_eq_true, true_and, and_true, Option.map_some, Option.bind_some, Nat.reduceAdd, Nat.reduceSub, Nat.reduceLeDiff, reduceIte]
      by_cases hv : 0 < v
      · try simp only [hv, decide_true, w_fn, w_ok, w_ex, w_no, w_nos, w_mno, w_exc, w_nxt, w_ret, w_bind, w_opt, w_optM, w_chk, w_of, w_settle_d, w_settle_o, w_cond, w_condS, w_ite, w_iteS, w_iteM, w_var, sIf, sSet, sAug, sSub, sFldS, sRet, sRetN, sDrop, sNil, sAsg, sBreak, sCont, sRaise0, sRaise1, xtAnd, xtOr, xtNot, xB, x1, x2, xC, xCB, xCh, xAnd, xOr, xNot, xIf, xTup, xLst, xDct0, xCall, xM, xMd, xIsi, aNil, aCons, adNil, adCons, xSl, oNo, oI, gN, gT, gsNil, gsCons, List.map, List.append, List.replicate, List.cons_append, List.nil_append, List.append_nil, List.getElem?_cons_zero, List.getElem?_cons_succ, List.set_cons_zero, List.set_cons_succ, List.length_cons, List.length_nil, add_ok, sub_ok, eqi_ok, nei_ok, lti_ok, gti_ok, lei_ok, gei_ok, int_ok, if_true, if_false, cond_true, cond_false, Bool.false_eq_true, true_and, and_true, Option.map_some, Option.bind_some, Nat.reduceAdd, Nat.reduceSub, Nat.reduceLeDiff, reduceIte]
      · try simp only [hv, decide_false, w_fn, w_ok, w_ex, w_no, w_nos, w_mno, w_exc, w_nxt, w_ret, w_bind, w_opt, w_optM, w_chk, w_of, w_settle_d, w_settle_o, w_cond, w_condS, w_ite, w_iteS, w_iteM, w_var, sIf, sSet, sAug, sSub, sFldS, sRet, sRetN, sDrop, sNil, sAsg, sBreak, sCont, sRaise0, sRaise1, xtAnd, xtOr, xtNot, xB, x1, x2, xC, xCB, xCh, xAnd, xOr, xNot, xIf, xTup, xLst, xDct0, xCall, xM, xMd, xIsi, aNil, aCons, adNil, adCons, xSl, oNo, oI, gN, gT, gsNil, gsCons, List.map, List.append, List.replicate, List.cons_append, List.nil_append, List.append_nil, List.getElem?_cons_zero, List.getElem?_cons_succ, List.set_cons_zero, List.set_cons_succ, List.length_cons, List.length_nil, add_ok, sub_ok, eqi_ok, nei_ok, lti_ok, gti_ok, lei_ok, gei_ok, int_ok, if_true, if_false, cond_true, cond_false, Bool.false_eq_true, true_and, and_true, Option.map_some, Option.bind_some, Nat.reduceAdd, Nat.reduceSub, Nat.reduceLeDiff, reduceIte, w_seq]
        refine law_told_ok b8 tb' (by omega) (by omega) h3 h4 h5 h6 fun m9 f9 => ?_
        have t9 := f9.get t8
        obtain ⟨x, x1, x2, x3, x4⟩ := toldV_ix (w := 1) (s := s) (ah := ah) (bh := bh) (kvs := kvs') (mu := m9)
        have x4 := x4 (by omega)
        subst x4
        try simp only [w_fn, w_ok, w_ex, w_no, w_nos, w_mno, w_exc, w_nxt, w_ret, w_bind, w_opt, w_optM, w_chk, w_of, w_settle_d, w_settle_o, w_cond, w_condS, w_ite, w_iteS, w_iteM, w_var, sIf, sSet, sAug, sSub, sFldS, sRet, sRetN, sDrop, sNil, sAsg, sBreak, sCont, sRaise0, sRaise1, xtAnd, xtOr, xtNot, xB, x1, x2, xC, xCB, xCh, xAnd, xOr, xNot, xIf, xTup, xLst, xDct0, xCall, xM, xMd, xIsi, aNil, aCons, adNil, adCons, xSl, oNo, oI, gN, gT, gsNil, gsCons, List.map, List.append, List.replicate, List.cons_append, List.nil_append, List.append_nil, List.getElem?_cons_zero, List.getElem?_cons_succ, List.set_cons_zero, List.set_cons_succ, List.length_cons, List.length_nil, add_ok, sub_ok, eqi_ok, nei_ok, lti_ok, gti_ok, lei_ok, gei_ok, int_ok, if_true, if_false, cond_true, cond_false, Bool.false_eq_true, true_and, and_true, Option.map_some, Option.bind_some, Nat.reduceAdd, Nat.reduceSub, Nat.reduceLeDiff, reduceIte, x1, eqg_ok (gd_str (n := 1) st_told) (gd_str (n := 1) st_told), decide_true, hlen t9]
        by_cases hk : kvs = []
        · have := hnil hk
          subst this hk
          try simp only [List.length_nil, w_fn, w_ok, w_ex, w_no, w_nos, w_mno, w_exc, w_nxt, w_ret, w_bind, w_opt, w_optM, w_chk, w_of, w_settle_d, w_settle_o, w_cond, w_condS, w_ite, w_iteS, w_iteM, w_var, sIf, sSet, sAug, sSub, sFldS, sRet, sRetN, sDrop, sNil, sAsg, sBreak, sCont, sRaise0, sRaise1, xtAnd, xtOr, xtNot, xB, x1, x2, xC, xCB, xCh, xAnd, xOr, xNot, xIf, xTup, xLst, xDct0, xCall, xM, xMd, xIsi, aNil, aCons, adNil, adCons, xSl, oNo, oI, gN, gT, gsNil, gsCons, List.map, List.append, List.replicate, List.cons_append, List.nil_append, List.append_nil, List.getElem?_cons_zero, List.getElem?_cons_succ, List.set_cons_zero, List.set_cons_succ, List.length_cons, List.length_nil, add_ok, sub_ok, eqi_ok, nei_ok, lti_ok, gti_ok, lei_ok, gei_ok, int_ok, if_true, if_false, cond_true, cond_false, Bool.false_eq_true, true_and, and_true, Option.map_some, Option.bind_some, Nat.reduceAdd, Nat.reduceSub, Nat.reduceLeDiff, reduceIte]
          simp only [nz, decide_false, toldV_1 (show ¬ 20000 < cnt s ah bh by omega), w_fn, w_ok, w_ex, w_no, w_nos, w_mno, w_exc, w_nxt, w_ret, w_bind, w_opt, w_optM, w_chk, w_of, w_settle_d, w_settle_o, w_cond, w_condS, w_ite, w_iteS, w_iteM, w_var, sIf, sSet, sAug, sSub, sFldS, sRet, sRetN, sDrop, sNil, sAsg, sBreak, sCont, sRaise0, sRaise1, xtAnd, xtOr, xtNot, xB, x1, x2, xC, xCB, xCh, xAnd, xOr, xNot, xIf, xTup, xLst, xDct0, xCall, xM, xMd, xIsi, aNil, aCons, adNil, adCons, xSl, oNo, oI, gN, gT, gsNil, gsCons, List.map, List.append, List.replicate, List.cons_append, List.nil_append, List.append_nil, List.getElem?_cons_zero, List.getElem?_cons_succ, List.set_cons_zero, List.set_cons_succ, List.length_cons, List.length_nil, add_ok, sub_ok, eqi_ok, nei_ok, lti_ok, gti_ok, lei_ok, gei_ok, int_ok, if_true, if_false, cond_true, cond_false, Bool.false_eq_true, true_and, and_true, Option.map_some, Option.bind_some, Nat.reduceAdd, Nat.reduceSub, Nat.reduceLeDiff, reduceIte, show (2 : Nat) ≤ LIM from by decide, eqg_ok (gd_pair st_told (gd_int (i := 0))) (gd_pair st_told (gd_int (i := 0))), decide_true]
        · have : 0 < kvs.length := List.length_pos_iff.mpr hk
          have : (0 : Int) < (kvs.length : Int) := by omega
          try simp only [this, decide_true, w_fn, w_ok, w_ex, w_no, w_nos, w_mno, w_exc, w_nxt, w_ret, w_bind, w_opt, w_optM, w_chk, w_of, w_settle_d, w_settle_o, w_cond, w_condS, w_ite, w_iteS, w_iteM, w_var, sIf, sSet, sAug, sSub, sFldS, sRet, sRetN, sDrop, sNil, sAsg, sBreak, sCont, sRaise0, sRaise1, xtAnd, xtOr, xtNot, xB, x1, x2, xC, xCB, xCh, xAnd, xOr, xNot, xIf, xTup, xLst, xDct0, xCall, xM, xMd, xIsi, aNil, aCons, adNil, adCons, xSl, oNo, oI, gN, gT, gsNil, gsCons, List.map, List.append, List.replicate, List.cons_append, List.nil_append, List.append_nil, List.getElem?_cons_zero, List.getElem?_cons_succ, List.set_cons_zero, List.set_cons_succ, List.length_cons, List.length_nil, add_ok, sub_ok, eqi_ok, nei_ok, lti_ok, gti_ok, lei_ok, gei_ok, int_ok, if_true, if_false, cond_true, cond_false, Bool.false_eq_true, true_and, and_true, Option.map_some, Option.bind_some, Nat.reduceAdd, Nat.reduceSub, Nat.reduceLeDiff, reduceIte]
    · by_cases c2 : 1200 < cnt s ah bh
      · have c3 : ¬ cnt s ah bh ≤ 20000 := fun z => c1 ⟨c2, z⟩
        try simp only [c2, c3, decide_true, decide_false, w_fn, w_ok, w_ex, w_no, w_nos, w_mno, w_exc, w_nxt, w_ret, w_bind, w_opt, w_optM, w_chk, w_of, w_settle_d, w_settle_o, w_cond, w_condS, w_ite, w_iteS, w_iteM, w_var, sIf, sSet, sAug, sSub, sFldS, sRet, sRetN, sDrop, sNil, sAsg, sBreak, sCont, sRaise0, sRaise1, xtAnd, xtOr, xtNot, xB, x1, x2, xC, xCB, xCh, xAnd, xOr, xNot, xIf, xTup, xLst, xDct0, xCall, xM, xMd, xIsi, aNil, aCons, adNil, adCons, xSl, oNo, oI, gN, gT, gsNil, gsCons, List.map, List.append, List.replicate, List.cons_append, List.nil_append, List.append_nil, List.getElem?_cons_zero, List.getElem?_cons_succ, List.set_cons_zero, List.set_cons_succ, List.length_cons, List.length_nil, add_ok, sub_ok, eqi_ok, nei_ok, lti_ok, gti_ok, lei_ok, gei_ok, int_ok, if_true, if_false, cond_true, cond_false, Bool.false_eq_true, true_and, and_true, Option.map_some, Option.bind_some, Nat.reduceAdd, Nat.reduceSub, Nat.reduceLeDiff, reduceIte]
        refine s_range (fun k ρ m' => ∃ w v, ρ = [some (.rol (ns.map .int)), some (.loc l), some (.int s), some (.int ah), some (.int bh), some (.loc lt), x, y, z, some (.loc lb), some (.int (cnt s ah bh)), w, v] ∧ Fr [] m7 m') 2 ?_ ?_ ?_
        · try simp only [w_fn, w_ok, w_ex, w_no, w_nos, w_mno, w_exc, w_nxt, w_ret, w_bind, w_opt, w_optM, w_chk, w_of, w_settle_d, w_settle_o, w_cond, w_condS, w_ite, w_iteS, w_iteM, w_var, sIf, sSet, sAug, sSub, sFldS, sRet, sRetN, sDrop, sNil, sAsg, sBreak, sCont, sRaise0, sRaise1, xtAnd, xtOr, xtNot, xB, x1, x2, xC, xCB, xCh, xAnd, xOr, xNot, xIf, xTup, xLst, xDct0, xCall, xM, xMd, xIsi, aNil, aCons, adNil, adCons, xSl, oNo, oI, gN, gT, gsNil, gsCons, List.map, List.append, List.replicate, List.cons_append, List.nil_append, List.append_nil, List.getElem?_cons_zero, List.getElem?_cons_succ, List.set_cons_zero, List.set_cons_succ, List.length_cons, List.length_nil, add_ok, sub_ok, eqi_ok, nei_ok, lti_ok, gti_ok, lei_ok, gei_ok, int_ok, if_true, if_false, cond_true, cond_false, Bool.false_eq_true, true_and, and_true, Option.map_some, Option.bind_some, Nat.reduceAdd, Nat.reduceSub, Nat.reduceLeDiff, reduceIte]
          exact ⟨rfl, by decide, _, _, rfl, Fr.refl⟩
        · rintro k ρ m' hk ⟨w, v, rfl, ff⟩
          try simp only [w_fn, w_ok, w_ex, w_no, w_nos, w_mno, w_exc, w_nxt, w_ret, w_bind, w_opt, w_optM, w_chk, w_of, w_settle_d, w_settle_o, w_cond, w_condS, w_ite, w_iteS, w_iteM, w_var, sIf, sSet, sAug, sSub, sFldS, sRet, sRetN, sDrop, sNil, sAsg, sBreak, sCont, sRaise0, sRaise1, xtAnd, xtOr, xtNot, xB, x1, x2, xC, xCB, xCh, xAnd, xOr, xNot, xIf, xTup, xLst, xDct0, xCall, xM, xMd, xIsi, aNil, aCons, adNil, adCons, xSl, oNo, oI, gN, gT, gsNil, gsCons, List.map, List.append, List.replicate, List.cons_append, List.nil_append, List.append_nil, List.getElem?_cons_zero, List.getElem?_cons_succ, List.set_cons_zero, List.set_cons_succ, List.length_cons, List.length_nil, add_ok, sub_ok, eqi_ok, nei_ok, lti_ok, gti_ok, lei_ok, gei_ok, int_ok, if_true, if_false, cond_true, cond_false, Bool.false_eq_true, true_and, and_true, Option.map_some, Option.bind_some, Nat.reduceAdd, Nat.reduceSub, Nat.reduceLeDiff, reduceIte, w_seq]
          refine law_told_ok (b7.fr ff) tb' (by omega) (by omega) h3 h4 h5 h6 fun m8 f8 => ?_
          obtain ⟨x', x1, x2, x3, x4⟩ := toldV_ix (w := k) (s := s) (ah := ah) (bh := bh) (kvs := kvs') (mu := m8)
          have x5 : decide (D.str x' = D.str "other") = false := decide_eq_false (fun z => x3 (by injection z))
          simp only [w_fn, w_ok, w_ex, w_no, w_nos, w_mno, w_exc, w_nxt, w_ret, w_bind, w_opt, w_optM, w_chk, w_of, w_settle_d, w_settle_o, w_cond, w_condS, w_ite, w_iteS, w_iteM, w_var, sIf, sSet, sAug, sSub, sFldS, sRet, sRetN, sDrop, sNil, sAsg, sBreak, sCont, sRaise0, sRaise1, xtAnd, xtOr, xtNot, xB, x1, x2, xC, xCB, xCh, xAnd, xOr, xNot, xIf, xTup, xLst, xDct0, xCall, xM, xMd, xIsi, aNil, aCons, adNil, adCons, xSl, oNo, oI, gN, gT, gsNil, gsCons, List.map, List.append, List.replicate, List.cons_append, List.nil_append, List.append_nil, List.getElem?_cons_zero, List.getElem?_cons_succ, List.set_cons_zero, List.set_cons_succ, List.length_cons, List.length_nil, add_ok, sub_ok, eqi_ok, nei_ok, lti_ok, gti_ok, lei_ok, gei_ok, int_ok, if_true, if_false, cond_true, cond_false, Bool.false_eq_true, true_and, and_true, Option.map_some, Option.bind_some, Nat.reduceAdd, Nat.reduceSub, Nat.reduceLeDiff, reduceIte, show (2 : Nat) ≤ LIM from by decide, eqg_ok (gd_toldV k s ah bh kvs') (gd_pair st_many (gd_int (i := 20000))), neb_ok, toldV_many, bne_self_eq_false, x1, eqg_ok (gd_str (n := 1) x2) (gd_str (n := 1) st_other), x5]
          refine law_told_ok (b7.fr (ff.trans f8)) tb' (by omega) (by omega) h3 h4 h5 h6 fun m9 f9 => ?_
          simp only [w_fn, w_ok, w_ex, w_no, w_nos, w_mno, w_exc, w_nxt, w_ret, w_bind, w_opt, w_optM, w_chk, w_of, w_settle_d, w_settle_o, w_cond, w_condS, w_ite, w_iteS, w_iteM, w_var, sIf, sSet, sAug, sSub, sFldS, sRet, sRetN, sDrop, sNil, sAsg, sBreak, sCont, sRaise0, sRaise1, xtAnd, xtOr, xtNot, xB, x1, x2, xC, xCB, xCh, xAnd, xOr, xNot, xIf, xTup, xLst, xDct0, xCall, xM, xMd, xIsi, aNil, aCons, adNil, adCons, xSl, oNo, oI, gN, gT, gsNil, gsCons, List.map, List.append, List.replicate, List.cons_append, List.nil_append, List.append_nil, List.getElem?_cons_zero, List.getElem?_cons_succ, List.set_cons_zero, List.set_cons_succ, List.length_cons, List.length_nil, add_ok, sub_ok, eqi_ok, nei_ok, lti_ok, gti_ok, lei_ok, gei_ok, int_ok, if_true, if_false, cond_true, cond_false, Bool.false_eq_true, true_and, and_true, Option.map_some, Option.bind_some, Nat.reduceAdd, Nat.reduceSub, Nat.reduceLeDiff, reduceIte, neg_ok (gd_toldV k s ah bh kvs') (gd_toldV k s ah bh kvs'), decide_true, Bool.not_true]
          exact ⟨_, _, rfl, (ff.trans f8).trans f9⟩
        · rintro ρ m' ⟨w, v, rfl, ff⟩
          have t8 := ff.get t7
          by_cases c4 : 20000 < cnt s ah bh
          · simp only [w_fn, w_ok, w_ex, w_no, w_nos, w_mno, w_exc, w_nxt, w_ret, w_bind, w_opt, w_optM, w_chk, w_of, w_settle_d, w_settle_o, w_cond, w_condS, w_ite, w_iteS, w_iteM, w_var, sIf, sSet, sAug, sSub, sFldS, sRet, sRetN, sDrop, sNil, sAsg, sBreak, sCont, sRaise0, sRaise1, xtAnd, xtOr, xtNot, xB, x1, x2, xC, xCB, xCh, xAnd, xOr, xNot, xIf, xTup, xLst, xDct0, xCall, xM, xMd, xIsi, aNil, aCons, adNil, adCons, xSl, oNo, oI, gN, gT, gsNil, gsCons, List.map, List.append, List.replicate, List.cons_append, List.nil_append, List.append_nil, List.getElem?_cons_zero, List.getElem?_cons_succ, List.set_cons_zero, List.set_cons_succ, List.length_cons, List.length_nil, add_ok, sub_ok, eqi_ok, nei_ok, lti_ok, gti_ok, lei_ok, gei_ok, int_ok, if_true, if_false, cond_true, cond_false, Bool.false_eq_true, true_and, and_true, Option.map_some, Option.bind_some, Nat.reduceAdd, Nat.reduceSub, Nat.reduceLeDiff, reduceIte, c4, decide_true]
          · simp only [w_fn, w_ok, w_ex, w_no, w_nos, w_mno, w_exc, w_nxt, w_ret, w_bind, w_opt, w_optM, w_chk, w_of, w_settle_d, w_settle_o, w_cond, w_condS, w_ite, w_iteS, w_iteM, w_var, sIf, sSet, sAug, sSub, sFldS, sRet, sRetN, sDrop, sNil, sAsg, sBreak, sCont, sRaise0, sRaise1, xtAnd, xtOr, xtNot, xB, x1, x2, xC, xCB, xCh, xAnd, xOr, xNot, xIf, xTup, xLst, xDct0, xCall, xM, xMd, xIsi, aNil, aCons, adNil, adCons, xSl, oNo, oI, gN, gT, gsNil, gsCons, List.map, List.append, List.replicate, List.cons_append, List.nil_append, List.append_nil, List.getElem?_cons_zero, List.getElem?_cons_succ, List.set_cons_zero, List.set_cons_succ, List.length_cons, List.length_nil, add_ok, sub_ok, eqi_ok, nei_ok, lti_ok, gti_ok, lei_ok, gei_ok, int_ok, if_true, if_false, cond_true, cond_false, Bool.false_eq_true, true_and, and_true, Option.map_some, Option.bind_some, Nat.reduceAdd, Nat.reduceSub, Nat.reduceLeDiff, reduceIte, c4, decide_false, hlen t8]
            by_cases hk : kvs = []
            · have hk' := hnil hk
              subst hk' hk
              simp only [List.length_nil, nz, decide_false, w_fn, w_ok, w_ex, w_no, w_nos, w_mno, w_exc, w_nxt, w_ret, w_bind, w_opt, w_optM, w_chk, w_of, w_settle_d, w_settle_o, w_cond, w_condS, w_ite, w_iteS, w_iteM, w_var, sIf, sSet, sAug, sSub, sFldS, sRet, sRetN, sDrop, sNil, sAsg, sBreak, sCont, sRaise0, sRaise1, xtAnd, xtOr, xtNot, xB, x1, x2, xC, xCB, xCh, xAnd, xOr, xNot, xIf, xTup, xLst, xDct0, xCall, xM, xMd, xIsi, aNil, aCons, adNil, adCons, xSl, oNo, oI, gN, gT, gsNil, gsCons, List.map, List.append, List.replicate, List.cons_append, List.nil_append, List.append_nil, List.getElem?_cons_zero, List.getElem?_cons_succ, List.set_cons_zero, List.set_cons_succ, List.length_cons, List.length_nil, add_ok, sub_ok, eqi_ok, nei_ok, lti_ok, gti_ok, lei_ok, gei_ok, int_ok, if_true, if_false, cond_true, cond_false, Bool.false_eq_true, true_and, and_true, Option.map_some, Option.bind_some, Nat.reduceAdd, Nat.reduceSub, Nat.reduceLeDiff, reduceIte]
              refine law_told_ok (b7.fr ff) tb' (by omega) (by omega) h3 h4 h5 h6 fun m9 f9 => ?_
              simp only [toldV_0 c4, w_fn, w_ok, w_ex, w_no, w_nos, w_mno, w_exc, w_nxt, w_ret, w_bind, w_opt, w_optM, w_chk, w_of, w_settle_d, w_settle_o, w_cond, w_condS, w_ite, w_iteS, w_iteM, w_var, sIf, sSet, sAug, sSub, sFldS, sRet, sRetN, sDrop, sNil, sAsg, sBreak, sCont, sRaise0, sRaise1, xtAnd, xtOr, xtNot, xB, x1, x2, xC, xCB, xCh, xAnd, xOr, xNot, xIf, xTup, xLst, xDct0, xCall, xM, xMd, xIsi, aNil, aCons, adNil, adCons, xSl, oNo, oI, gN, gT, gsNil, gsCons, List.map, List.append, List.replicate, List.cons_append, List.nil_append, List.append_nil, List.getElem?_cons_zero, List.getElem?_cons_succ, List.set_cons_zero, List.set_cons_succ, List.length_cons, List.length_nil, add_ok, sub_ok, eqi_ok, nei_ok, lti_ok, gti_ok, lei_ok, gei_ok, int_ok, if_true, if_false, cond_true, cond_false, Bool.false_eq_true, true_and, and_true, Option.map_some, Option.bind_some, Nat.reduceAdd, Nat.reduceSub, Nat.reduceLeDiff, reduceIte, show (2 : Nat) ≤ LIM from by decide, eqg_ok (gd_pair st_told gd_non) (gd_pair st_told gd_non), decide_true]
              refine law_told_ok (b7.fr (ff.trans f9)) tb' (by omega) (by omega) h3 h4 h5 h6 fun m10 f10 => ?_
              simp only [toldV_1 c4, w_fn, w_ok, w_ex, w_no, w_nos, w_mno, w_exc, w_nxt, w_ret, w_bind, w_opt, w_optM, w_chk, w_of, w_settle_d, w_settle_o, w_cond, w_condS, w_ite, w_iteS, w_iteM, w_var, sIf, sSet, sAug, sSub, sFldS, sRet, sRetN, sDrop, sNil, sAsg, sBreak, sCont, sRaise0, sRaise1, xtAnd, xtOr, xtNot, xB, x1, x2, xC, xCB, xCh, xAnd, xOr, xNot, xIf, xTup, xLst, xDct0, xCall, xM, xMd, xIsi, aNil, aCons, adNil, adCons, xSl, oNo, oI, gN, gT, gsNil, gsCons, List.map, List.append, List.replicate, List.cons_append, List.nil_append, List.append_nil, List.getElem?_cons_zero, List.getElem?_cons_succ, List.set_cons_zero, List.set_cons_succ, List.length_cons, List.length_nil, add_ok, sub_ok, eqi_ok, nei_ok, lti_ok, gti_ok, lei_ok, gei_ok, int_ok, if_true, if_false, cond_true, cond_false, Bool.false_eq_true, true_and, and_true, Option.map_some, Option.bind_some, Nat.reduceAdd, Nat.reduceSub, Nat.reduceLeDiff, reduceIte, show (2 : Nat) ≤ LIM from by decide, eqg_ok (gd_pair st_told (gd_int (i := 0))) (gd_pair st_told (gd_int (i := 0))), decide_true]
            · have : 0 < kvs.length := List.length_pos_iff.mpr hk
              have : (0 : Int) < (kvs.length : Int) := by omega
              simp only [this, decide_true, w_fn, w_ok, w_ex, w_no, w_nos, w_mno, w_exc, w_nxt, w_ret, w_bind, w_opt, w_optM, w_chk, w_of, w_settle_d, w_settle_o, w_cond, w_condS, w_ite, w_iteS, w_iteM, w_var, sIf, sSet, sAug, sSub, sFldS, sRet, sRetN, sDrop, sNil, sAsg, sBreak, sCont, sRaise0, sRaise1, xtAnd, xtOr, xtNot, xB, x1, x2, xC, xCB, xCh, xAnd, xOr, xNot, xIf, xTup, xLst, xDct0, xCall, xM, xMd, xIsi, aNil, aCons, adNil, adCons, xSl, oNo, oI, gN, gT, gsNil, gsCons, List.map, List.append, List.replicate, List.cons_append, List.nil_append, List.append_nil, List.getElem?_cons_zero, List.getElem?_cons_succ, List.set_cons_zero, List.set_cons_succ, List.length_cons, List.length_nil, add_ok, sub_ok, eqi_ok, nei_ok, lti_ok, gti_ok, lei_ok, gei_ok, int_ok, if_true, if_false, cond_true, cond_false, Bool.false_eq_true, true_and, and_true, Option.map_some, Option.bind_some, Nat.reduceAdd, Nat.reduceSub, Nat.reduceLeDiff, reduceIte]
      · try simp only [c2, decide_false, w_fn, w_ok, w_ex, w_no, w_nos, w_mno, w_exc, w_nxt, w_ret, w_bind, w_opt, w_optM, w_chk, w_of, w_settle_d, w_settle_o, w_cond, w_condS, w_ite, w_iteS, w_iteM, w_var, sIf, sSet, sAug, sSub, sFldS, sRet, sRetN, sDrop, sNil, sAsg, sBreak, sCont, sRaise0, sRaise1, xtAnd, xtOr, xtNot, xB, x1, x2, xC, xCB, xCh, xAnd, xOr, xNot, xIf, xTup, xLst, xDct0, xCall, xM, xMd, xIsi, aNil, aCons, adNil, adCons, xSl, oNo, oI, gN, gT, gsNil, gsCons, List.map, List.append, List.replicate, List.cons_append, List.nil_append, List.append_nil, List.getElem?_cons_zero, List.getElem?_cons_succ, List.set_cons_zero, List.set_cons_succ, List.length_cons, List.length_nil, add_ok, sub_ok, eqi_ok, nei_ok, lti_ok, gti_ok, lei_ok, gei_ok, int_ok, if_true, if_false, cond_true, cond_false, Bool.false_eq_true, true_and, and_true, Option.map_some, Option.bind_some, Nat.reduceAdd, Nat.reduceSub, Nat.reduceLeDiff, reduceIte]
        refine s_range (fun k ρ m' => ∃ w v, ρ = [some (.rol (ns.map .int)), some (.loc l), some (.int s), some (.int ah), some (.int bh), some (.loc lt), x, y, z, some (.loc lb), some (.int (cnt s ah bh)), w, v] ∧ Fr [] m7 m') 2 ?_ ?_ ?_
        · try simp only [w_fn, w_ok, w_ex, w_no, w_nos, w_mno, w_exc, w_nxt, w_ret, w_bind, w_opt, w_optM, w_chk, w_of, w_settle_d, w_settle_o, w_cond, w_condS, w_ite, w_iteS, w_iteM, w_var, sIf, sSet, sAug, sSub, sFldS, sRet, sRetN, sDrop, sNil, sAsg, sBreak, sCont, sRaise0, sRaise1, xtAnd, xtOr, xtNot, xB, x1, x2, xC, xCB, xCh, xAnd, xOr, xNot, xIf, xTup, xLst, xDct0, xCall, xM, xMd, xIsi, aNil, aCons, adNil, adCons, xSl, oNo, oI, gN, gT, gsNil, gsCons, List.map, List.append, List.replicate, List.cons_append, List.nil_append, List.append_nil, List.getElem?_cons_zero, List.getElem?_cons_succ, List.set_cons_zero, List.set_cons_succ, List.length_cons, List.length_nil, add_ok, sub_ok, eqi_ok, nei_ok, lti_ok, gti_ok, lei_ok, gei_ok, int_ok, if_true, if_false, cond_true, cond_false, Bool.false_eq_true, true_and, and_true, Option.map_some, Option.bind_some, Nat.reduceAdd, Nat.reduceSub, Nat.reduceLeDiff, reduceIte]
          exact ⟨rfl, by decide, _, _, rfl, Fr.refl⟩
        · rintro k ρ m' hk ⟨w, v, rfl, ff⟩
          try simp only [w_fn, w_ok, w_ex, w_no, w_nos, w_mno, w_exc, w_nxt, w_ret, w_bind, w_opt, w_optM, w_chk, w_of, w_settle_d, w_settle_o, w_cond, w_condS, w_ite, w_iteS, w_iteM, w_var, sIf, sSet, sAug, sSub, sFldS, sRet, sRetN, sDrop, sNil, sAsg, sBreak, sCont, sRaise0, sRaise1, xtAnd, xtOr, xtNot, xB, x1, x2, xC, xCB, xCh, xAnd, xOr, xNot, xIf, xTup, xLst, xDct0, xCall, xM, xMd, xIsi, aNil, aCons, adNil, adCons, xSl, oNo, oI, gN, gT, gsNil, gsCons, List.map, List.append, List.replicate, List.cons_append, List.nil_append, List.append_nil, List.getElem?_cons_zero, List.getElem?_cons_succ, List.set_cons_zero, List.set_cons_succ, List.length_cons, List.length_nil, add_ok, sub_ok, eqi_ok, nei_ok, lti_ok, gti_ok, lei_ok, gei_ok, int_ok, if_true, if_false, cond_true, cond_false, Bool.false_eq_true, true_and, and_true, Option.map_some, Option.bind_some, Nat.reduceAdd, Nat.reduceSub, Nat.reduceLeDiff, reduceIte, w_seq]
          refine law_told_ok (b7.fr ff) tb' (by omega) (by omega) h3 h4 h5 h6 fun m8 f8 => ?_
          obtain ⟨x', x1, x2, x3, x4⟩ := toldV_ix (w := k) (s := s) (ah := ah) (bh := bh) (kvs := kvs') (mu := m8)
          have x5 : decide (D.str x' = D.str "other") = false := decide_eq_false (fun z => x3 (by injection z))
          simp only [w_fn, w_ok, w_ex, w_no, w_nos, w_mno, w_exc, w_nxt, w_ret, w_bind, w_opt, w_optM, w_chk, w_of, w_settle_d, w_settle_o, w_cond, w_condS, w_ite, w_iteS, w_iteM, w_var, sIf, sSet, sAug, sSub, sFldS, sRet, sRetN, sDrop, sNil, sAsg, sBreak, sCont, sRaise0, sRaise1, xtAnd, xtOr, xtNot, xB, x1, x2, xC, xCB, xCh, xAnd, xOr, xNot, xIf, xTup, xLst, xDct0, xCall, xM, xMd, xIsi, aNil, aCons, adNil, adCons, xSl, oNo, oI, gN, gT, gsNil, gsCons, List.map, List.append, List.replicate, List.cons_append, List.nil_append, List.append_nil, List.getElem?_cons_zero, List.getElem?_cons_succ, List.set_cons_zero, List.set_cons_succ, List.length_cons, List.length_nil, add_ok, sub_ok, eqi_ok, nei_ok, lti_ok, gti_ok, lei_ok, gei_ok, int_ok, if_true, if_false, cond_true, cond_false, Bool.false_eq_true, true_and, and_true, Option.map_some, Option.bind_some, Nat.reduceAdd, Nat.reduceSub, Nat.reduceLeDiff, reduceIte, show (2 : Nat) ≤ LIM from by decide, eqg_ok (gd_toldV k s ah bh kvs') (gd_pair st_many (gd_int (i := 20000))), neb_ok, toldV_many, bne_self_eq_false, x1, eqg_ok (gd_str (n := 1) x2) (gd_str (n := 1) st_other), x5]
          refine law_told_ok (b7.fr (ff.trans f8)) tb' (by omega) (by omega) h3 h4 h5 h6 fun m9 f9 => ?_
          simp only [w_fn, w_ok, w_ex, w_no, w_nos, w_mno, w_exc, w_nxt, w_ret, w_bind, w_opt, w_optM, w_chk, w_of, w_settle_d, w_settle_o, w_cond, w_condS, w_ite, w_iteS, w_iteM, w_var, sIf, sSet, sAug, sSub, sFldS, sRet, sRetN, sDrop, sNil, sAsg, sBreak, sCont, sRaise0, sRaise1, xtAnd, xtOr, xtNot, xB, x1, x2, xC, xCB, xCh, xAnd, xOr, xNot, xIf, xTup, xLst, xDct0, xCall, xM, xMd, xIsi, aNil, aCons, adNil, adCons, xSl, oNo, oI, gN, gT, gsNil, gsCons, List.map, List.append, List.replicate, List.cons_append, List.nil_append, List.append_nil, List.getElem?_cons_zero, List.getElem?_cons_succ, List.set_cons_zero, List.set_cons_succ, List.length_cons, List.length_nil, add_ok, sub_ok, eqi_ok, nei_ok, lti_ok, gti_ok, lei_ok, gei_ok, int_ok, if_true, if_false, cond_true, cond_false, Bool.false_eq_true, true_and, and_true, Option.map_some, Option.bind_some, Nat.reduceAdd, Nat.reduceSub, Nat.reduceLeDiff, reduceIte, neg_ok (gd_toldV k s ah bh kvs') (gd_toldV k s ah bh kvs'), decide_true, Bool.not_true]
          exact ⟨_, _, rfl, (ff.trans f8).trans f9⟩
        · rintro ρ m' ⟨w, v, rfl, ff⟩
          have t8 := ff.get t7
          by_cases c4 : 20000 < cnt s ah bh
          · simp only [w_fn, w_ok, w_ex, w_no, w_nos, w_mno, w_exc, w_nxt, w_ret, w_bind, w_opt, w_optM, w_chk, w_of, w_settle_d, w_settle_o, w_cond, w_condS, w_ite, w_iteS, w_iteM, w_var, sIf, sSet, sAug, sSub, sFldS, sRet, sRetN, sDrop, sNil, sAsg, sBreak, sCont, sRaise0, sRaise1, xtAnd, xtOr, xtNot, xB, x1, x2, xC, xCB, xCh, xAnd, xOr, xNot, xIf, xTup, xLst, xDct0, xCall, xM, xMd, xIsi, aNil, aCons, adNil, adCons, xSl, oNo, oI, gN, gT, gsNil, gsCons, List.map, List.append, List.replicate, List.cons_append, List.nil_append, List.append_nil, List.getElem?_cons_zero, List.getElem?_cons_succ, List.set_cons_zero, List.set_cons_succ, List.length_cons, List.length_nil, add_ok, sub_ok, eqi_ok, nei_ok, lti_ok, gti_ok, lei_ok, gei_ok, int_ok, if_true, if_false, cond_true, cond_false, Bool.false_eq_true, true_and, and_true, Option.map_some, Option.bind_some, Nat.reduceAdd, Nat.reduceSub, Nat.reduceLeDiff, reduceIte, c4, decide_true]
          · simp only [w_fn, w_ok, w_ex, w_no, w_nos, w_mno, w_exc, w_nxt, w_ret, w_bind, w_opt, w_optM, w_chk, w_of, w_settle_d, w_settle_o, w_cond, w_condS, w_ite, w_iteS, w_iteM, w_var, sIf, sSet, sAug, sSub, sFldS, sRet, sRetN, sDrop, sNil, sAsg, sBreak, sCont, sRaise0, sRaise1, xtAnd, xtOr, xtNot, xB, x1, x2, xC, xCB, xCh, xAnd, xOr, xNot, xIf, xTup, xLst, xDct0, xCall, xM, xMd, xIsi, aNil, aCons, adNil, adCons, xSl, oNo, oI, gN, gT, gsNil, gsCons, List.map, List.append, List.replicate, List.cons_append, List.nil_append, List.append_nil, List.getElem?_cons_zero, List.getElem?_cons_succ, List.set_cons_zero, List.set_cons_succ, List.length_cons, List.length_nil, add_ok, sub_ok, eqi_ok, nei_ok, lti_ok, gti_ok, lei_ok, gei_ok, int_ok, if_true, if_false, cond_true, cond_false, Bool.false_eq_true, true_and, and_true, Option.map_some, Option.bind_some, Nat.reduceAdd, Nat.reduceSub, Nat.reduceLeDiff, reduceIte, c4, decide_false, hlen t8]
            by_cases hk : kvs = []
            · have hk' := hnil hk
              subst hk' hk
              simp only [List.length_nil, nz, decide_false, w_fn, w_ok, w_ex, w_no, w_nos, w_mno, w_exc, w_nxt, w_ret, w_bind, w_opt, w_optM, w_chk, w_of, w_settle_d, w_settle_o, w_cond, w_condS, w_ite, w_iteS, w_iteM, w_var, sIf, sSet, sAug, sSub, sFldS, sRet, sRetN, sDrop, sNil, sAsg, sBreak, sCont, sRaise0, sRaise1, xtAnd, xtOr, xtNot, xB, x1, x2, xC, xCB, xCh, xAnd, xOr, xNot, xIf, xTup, xLst, xDct0, xCall, xM, xMd, xIsi, aNil, aCons, adNil, adCons, xSl, oNo, oI, gN, gT, gsNil, gsCons, List.map, List.append, List.replicate, List.cons_append, List.nil_append, List.append_nil, List.getElem?_cons_zero, List.getElem?_cons_succ, List.set_cons_zero, List.set_cons_succ, List.length_cons, List.length_nil, add_ok, sub_ok, eqi_ok, nei_ok, lti_ok, gti_ok, lei_ok, gei_ok, int_ok, if_true, if_false, cond_true, cond_false, Bool.false_eq_true, true_and, and_true, Option.map_some, Option.bind_some, Nat.reduceAdd, Nat.reduceSub, Nat.reduceLeDiff, reduceIte]
              refine law_told_ok (b7.fr ff) tb' (by omega) (by omega) h3 h4 h5 h6 fun m9 f9 => ?_
              simp only [toldV_0 c4, w_fn, w_ok, w_ex, w_no, w_nos, w_mno, w_exc, w_nxt, w_ret, w_bind, w_opt, w_optM, w_chk, w_of, w_settle_d, w_settle_o, w_cond, w_condS, w_ite, w_iteS, w_iteM, w_var, sIf, sSet, sAug, sSub, sFldS, sRet, sRetN, sDrop, sNil, sAsg, sBreak, sCont, sRaise0, sRaise1, xtAnd, xtOr, xtNot, xB, x1, x2, xC, xCB, xCh, xAnd, xOr, xNot, xIf, xTup, xLst, xDct0, xCall, xM, xMd, xIsi, aNil, aCons, adNil, adCons, xSl, oNo, oI, gN, gT, gsNil, gsCons, List.map, List.append, List.replicate, List.cons_append, List.nil_append, List.append_nil, List.getElem?_cons_zero, List.getElem?_cons_succ, List.set_cons_zero, List.set_cons_succ, List.length_cons, List.length_nil, add_ok, sub_ok, eqi_ok, nei_ok, lti_ok, gti_ok, lei_ok, gei_ok, int_ok, if_true, if_false, cond_true, cond_false, Bool.false_eq_true, true_and, and_true, Option.map_some, Option.bind_some, Nat.reduceAdd, Nat.reduceSub, Nat.reduceLeDiff, reduceIte, show (2 : Nat) ≤ LIM from by decide, eqg_ok (gd_pair st_told gd_non) (gd_pair st_told gd_non), decide_true]
              refine law_told_ok (b7.fr (ff.trans f9)) tb' (by omega) (by omega) h3 h4 h5 h6 fun m10 f10 => ?_
              simp only [toldV_1 c4, w_fn, w_ok, w_ex, w_no, w_nos, w_mno, w_exc, w_nxt, w_ret, w_bind, w_opt, w_optM, w_chk, w_of, w_settle_d, w_settle_o, w_cond, w_condS, w_ite, w_iteS, w_iteM, w_var, sIf, sSet, sAug, sSub, sFldS, sRet, sRetN, sDrop, sNil, sAsg, sBreak, sCont, sRaise0, sRaise1, xtAnd, xtOr, xtNot, xB, x1, x2, xC, xCB, xCh, xAnd, xOr, xNot, xIf, xTup, xLst, xDct0, xCall, xM, xMd, xIsi, aNil, aCons, adNil, adCons, xSl, oNo, oI, gN, gT, gsNil, gsCons, List.map, List.append, List.replicate, List.cons_append, List.nil_append, List.append_nil, List.getElem?_cons_zero, List.getElem?_cons_succ, List.set_cons_zero, List.set_cons_succ, List.length_cons, List.length_nil, add_ok, sub_ok, eqi_ok, nei_ok, lti_ok, gti_ok, lei_ok, gei_ok, int_ok, if_true, if_false, cond_true, cond_false, Bool.false_eq_true, true_and, and_true, Option.map_some, Option.bind_some, Nat.reduceAdd, Nat.reduceSub, Nat.reduceLeDiff, reduceIte, show (2 : Nat) ≤ LIM from by decide, eqg_ok (gd_pair st_told (gd_int (i := 0))) (gd_pair st_told (gd_int (i := 0))), decide_true]
            · have : 0 < kvs.length := List.length_pos_iff.mpr hk
              have : (0 : Int) < (kvs.length : Int) := by omega
              simp only [this, decide_true, w_fn, w_ok, w_ex, w_no, w_nos, w_mno, w_exc, w_nxt, w_ret, w_bind, w_opt, w_optM, w_chk, w_of, w_settle_d, w_settle_o, w_cond, w_condS, w_ite, w_iteS, w_iteM, w_var, sIf, sSet, sAug, sSub, sFldS, sRet, sRetN, sDrop, sNil, sAsg, sBreak, sCont, sRaise0, sRaise1, xtAnd, xtOr, xtNot, xB, x1, x2, xC, xCB, xCh, xAnd, xOr, xNot, xIf, xTup, xLst, xDct0, xCall, xM, xMd, xIsi, aNil, aCons, adNil, adCons, xSl, oNo, oI, gN, gT, gsNil, gsCons, List.map, List.append, List.replicate, List.cons_append, List.nil_append, List.append_nil, List.getElem?_cons_zero, List.getElem?_cons_succ, List.set_cons_zero, List.set_cons_succ, List.length_cons, List.length_nil, add_ok, sub_ok, eqi_ok, nei_ok, lti_ok, gti_ok, lei_ok, gei_ok, int_ok, if_true, if_false, cond_true, cond_false, Bool.false_eq_true, true_and, and_true, Option.map_some, Option.bind_some, Nat.reduceAdd, Nat.reduceSub, Nat.reduceLeDiff, reduceIte]
end Dn

set_option Elab.async false
set_option linter.all false
set_option maxRecDepth 100000
set_option maxHeartbeats 0
set_option autoImplicit false
namespace Dn
open PySem PySem.Spec PyProof.Rows L2
theorem law_true (ns : List Int) (hn : ns.length ≤ 63) : ∃ m, fm_law [.rol (ns.map D.int)] [] = .ok (.bl true) m := by
  obtain ⟨d, m, e, rfl⟩ := (law_wish hn).ok_of
  exact ⟨m, e⟩
end Dn
open PySem PySem.W PySem.Calls PyProof.Rows Dn in
theorem PySem.Challenge.cw_heardseams_k67_books_too_large_to_be_loo_holds : PySem.Challenge.rw_heardseams_k67_books_too_large_to_be_loo.Holds := by
  w_on
  o_law
  refine HandSHeadRun.head_any (r := OpenLaw.row PySem.Challenge.rw_heardseams_k67_books_too_large_to_be_loo) (q := view (OpenLaw.row PySem.Challenge.rw_heardseams_k67_books_too_large_to_be_loo).prog [37]) (H := hk) (ob := ob) (M := 20000) (loose := names) (d := HandSHeadRun.topDef (OpenLaw.row PySem.Challenge.rw_heardseams_k67_books_too_large_to_be_loo).prog 37) (kwd := []) ob_eq (by kernel_rfl) (fun s => by kernel_rfl) Dn.run (by kernel_rfl) (by kernel_rfl) (by kernel_rfl) (by rfl) (by first | assumption | decide +kernel) (by decide +kernel) ⟨rfl, rfl, rfl, rfl, rfl, by decide +kernel⟩ ?hw ?hc
  case hw => w_witness2
  case hc =>
    refine L2.walk_ofE (l := PySem.Challenge.rw_heardseams_k67_books_too_large_to_be_loo) (n := 63) (k := 9) (x := "_law_script") (CX := cxAny PySem.Challenge.rw_heardseams_k67_books_too_large_to_be_loo.prog) rfl (by decide) (by kernel_rfl) ⟨rfl, by decide, by decide⟩ ?F cxAny_no
    intro w mg fa h Y G hmg0
    obtain ⟨K, KX, c⟩ := Y
    have hmg : mg ("law" : PySem.Str) = some (.ref fa) := by
      have e : (HandSHeadRun.topDef (OpenLaw.row PySem.Challenge.rw_heardseams_k67_books_too_large_to_be_loo).prog 37).name = ("law" : PySem.Str) := by kernel_rfl
      rw [← e]
      exact hmg0
    have g := He.glo_ok KX G (c.fact 54 (f := fun K => (He.Fa.glo "law").ok K) rfl)
    rw [hmg] at g
    have efa : fa = He.ga K "law" := by injection g with g; injection g
    subst efa
    obtain ⟨fd, hb, hF⟩ := all_ok (w := w) KX G c
    exact ⟨K, fd, _, KX, hb, fun H a ns hl hO hS => sp_law law_true H a ns hl hO hS, fun base b1 b2 => fnOk_any (hF base b1 b2)⟩

