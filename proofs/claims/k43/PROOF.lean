import PyProof.Rows.All
import Wide.All
import OpenK.AllK
import Wide.FinOn
import HandS.ForMost
import HandS.Wide
import HandS.TupAny
import HandS.Flow
import HandS.Style
import HandS.Walk
import HandS.IsInst
import HandS.Deep
import HandS.NoneIn
import HandS.Conv
import PyProof.Rows.InDataRows
import KE.SortData
import HandS.Zip
import KE.GoesEnumKw
import PyProof.Rows.CallKw2
import KE.Datum
import HandS.EndBits
import PySem.Challenge.RW_lockwork_k43_whole_mirrored_tours_far_al
set_option Elab.async false
set_option linter.all false
set_option maxRecDepth 100000
set_option maxHeartbeats 4000000
/-! PL: the plain layer. Python's values as data, its names as slots of data; lists, dicts and sets that a def still changes are owned by one slot. -/
namespace PL
open PySem PySem.Spec PyProof.Rows L2

abbrev D := PyData
inductive OD where
  | lst (xs : List D) | dic (kvs : List (D × D)) | set (xs : List D)
/-- a local's own object; a parameter's; one that is lent out -/
inductive Ok where
  | loc | par | lck
inductive Sl where
  | un | va (d : D) | ow (k : Ok) (o : OD)
abbrev Rho := List Sl
abbrev Sig := L2.St

def dKey : Key → D
  | .inl i => .int i
  | .inr x => .str x
def dKeys (k : List Key) : D := .tuple (k.map dKey)
/-- a dict that is read, locked for good -/
inductive DAt (H : Hp) (a : Addr) : List D → List V → Prop
  | k {ob : Obj} {kvs : List (Key × V)} : H a = some (.frz ob (.dK kvs)) → DAt H a (kvs.map fun p => dKey p.1) (kvs.map (·.2))
  | t {ob : Obj} {kvs : List (List Key × V)} : H a = some (.frz ob (.dT kvs)) → DAt H a (kvs.map fun p => dKeys p.1) (kvs.map (·.2))

mutual
inductive Rep (K : PySem.W.Frag) (F : Hp) : V → D → Prop
  | non : Rep K F .non .none
  | bl (b : Bool) : Rep K F (.bl b) (.bool b)
  | int (i : Int) : Rep K F (.int i) (.int i)
  | str (x : Str) : Rep K F (.str x) (.str x)
  | lst {a : Addr} {xs : List V} {ds : List D} : SqL K F a xs → RepL K F xs ds → Rep K F (.ref a) (.list ds)
  | tup {a : Addr} {xs : List V} {ds : List D} : SqT K F a xs → RepL K F xs ds → Rep K F (.ref a) (.tuple ds)
  | dic {a : Addr} {ks : List D} {vs : List V} {ds : List D} : DAt F a ks vs → RepL K F vs ds → Rep K F (.ref a) (.dict (ks.zip ds))
inductive RepL (K : PySem.W.Frag) (F : Hp) : List V → List D → Prop
  | nil : RepL K F [] []
  | cons {v : V} {vs : List V} {d : D} {ds : List D} : Rep K F v d → RepL K F vs ds → RepL K F (v :: vs) (d :: ds)
end

theorem Rd.same {F F' : Hp} (h : Same F F') {a : Addr} {u : HO} : Rd F a u → Rd F' a u
  | .inl e => .inl (h _ _ e)
  | .inr ⟨o, e⟩ => .inr ⟨o, h _ _ e⟩
theorem SqT.same {K : PySem.W.Frag} {F F' : Hp} (h : Same F F') {a : Addr} {xs : List V} : SqT K F a xs → SqT K F' a xs
  | .inl e => .inl (Rd.same h e)
  | .inr e => .inr e
theorem DAt.same {F F' : Hp} (h : Same F F') {a : Addr} {ks : List D} {vs : List V} : DAt F a ks vs → DAt F' a ks vs
  | .k e => .k (h _ _ e)
  | .t e => .t (h _ _ e)

mutual
theorem Rep.same {K : PySem.W.Frag} {F F' : Hp} (h : Same F F') : ∀ {v : V} {d : D}, Rep K F v d → Rep K F' v d
  | _, _, .non => .non
  | _, _, .bl b => .bl b
  | _, _, .int i => .int i
  | _, _, .str x => .str x
  | _, _, .lst a b => .lst (h.seq a) (RepL.same h b)
  | _, _, .tup a b => .tup (SqT.same h a) (RepL.same h b)
  | _, _, .dic a b => .dic (DAt.same h a) (RepL.same h b)
theorem RepL.same {K : PySem.W.Frag} {F F' : Hp} (h : Same F F') : ∀ {vs : List V} {ds : List D}, RepL K F vs ds → RepL K F' vs ds
  | _, _, .nil => .nil
  | _, _, .cons a b => .cons (Rep.same h a) (RepL.same h b)
end

section
variable {K : PySem.W.Frag} {F : Hp}
theorem RepL.length : ∀ {vs : List V} {ds : List D}, RepL K F vs ds → vs.length = ds.length
  | _, _, .nil => rfl
  | _, _, .cons _ b => by simp [RepL.length b]
theorem RepL.get : ∀ {vs : List V} {ds : List D} {i : Nat} {d : D}, RepL K F vs ds → ds[i]? = some d → ∃ v, vs[i]? = some v ∧ Rep K F v d
  | _, _, _, _, .nil, e => by simp at e
  | _, _, 0, _, .cons a _, e => by simp at e; subst e; exact ⟨_, rfl, a⟩
  | _, _, i + 1, _, .cons _ b, e => by
    obtain ⟨v, h1, h2⟩ := RepL.get (i := i) b (by simpa using e)
    exact ⟨v, by simpa using h1, h2⟩
theorem RepL.getV : ∀ {vs : List V} {ds : List D} {i : Nat} {v : V}, RepL K F vs ds → vs[i]? = some v → ∃ d, ds[i]? = some d ∧ Rep K F v d
  | _, _, _, _, .nil, e => by simp at e
  | _, _, 0, _, .cons a _, e => by simp at e; subst e; exact ⟨_, rfl, a⟩
  | _, _, i + 1, _, .cons _ b, e => by
    obtain ⟨v, h1, h2⟩ := RepL.getV (i := i) b (by simpa using e)
    exact ⟨v, by simpa using h1, h2⟩
theorem RepL.append : ∀ {vs ws : List V} {ds es : List D}, RepL K F vs ds → RepL K F ws es → RepL K F (vs ++ ws) (ds ++ es)
  | _, _, _, _, .nil, h => h
  | _, _, _, _, .cons a b, h => .cons a (RepL.append b h)
theorem RepL.take : ∀ {vs : List V} {ds : List D} (n : Nat), RepL K F vs ds → RepL K F (vs.take n) (ds.take n)
  | _, _, 0, _ => .nil
  | _, _, _ + 1, .nil => .nil
  | _, _, n + 1, .cons a b => .cons a (RepL.take n b)
theorem RepL.drop : ∀ {vs : List V} {ds : List D} (n : Nat), RepL K F vs ds → RepL K F (vs.drop n) (ds.drop n)
  | _, _, 0, h => h
  | _, _, _ + 1, .nil => .nil
  | _, _, n + 1, .cons _ b => RepL.drop n b
theorem RepL.set {v : V} {d : D} (r : Rep K F v d) : ∀ {vs : List V} {ds : List D} (i : Nat), RepL K F vs ds → RepL K F (vs.set i v) (ds.set i d)
  | _, _, _, .nil => .nil
  | _, _, 0, .cons _ b => .cons r b
  | _, _, i + 1, .cons a b => .cons a (RepL.set r i b)
theorem RepL.rev {vs : List V} {ds : List D} (h : RepL K F vs ds) : RepL K F vs.reverse ds.reverse := by
  induction vs generalizing ds with
  | nil => cases h; exact .nil
  | cons v vs ih =>
    cases h with
    | cons a b =>
      rw [List.reverse_cons, List.reverse_cons]
      exact RepL.append (ih b) (.cons a .nil)
theorem RepL.erase : ∀ {vs : List V} {ds : List D} (i : Nat), RepL K F vs ds → RepL K F (vs.eraseIdx i) (ds.eraseIdx i)
  | _, _, _, .nil => .nil
  | _, _, 0, .cons _ b => b
  | _, _, i + 1, .cons a b => .cons a (RepL.erase i b)
theorem RepL.cons_inv {vs : List V} {d : D} {ds : List D} (h : RepL K F vs (d :: ds)) : ∃ v r, vs = v :: r ∧ Rep K F v d ∧ RepL K F r ds := by
  cases h with
  | cons a b => exact ⟨_, _, rfl, a, b⟩
theorem RepL.nil_inv {vs : List V} (h : RepL K F vs []) : vs = [] := by cases h; rfl
theorem Rep.none_inv {v : V} (h : Rep K F v .none) : v = .non := by cases h; rfl
theorem Rep.bool_inv {v : V} {b : Bool} (h : Rep K F v (.bool b)) : v = .bl b := by cases h; rfl
theorem Rep.int_inv {v : V} {i : Int} (h : Rep K F v (.int i)) : v = .int i := by cases h; rfl
theorem Rep.str_inv {v : V} {x : Str} (h : Rep K F v (.str x)) : v = .str x := by cases h; rfl
theorem Rep.list_inv {v : V} {ds : List D} (h : Rep K F v (.list ds)) : ∃ a xs, v = .ref a ∧ SqL K F a xs ∧ RepL K F xs ds := by
  cases h with
  | lst a b => exact ⟨_, _, rfl, a, b⟩
theorem Rep.tuple_inv {v : V} {ds : List D} (h : Rep K F v (.tuple ds)) : ∃ a xs, v = .ref a ∧ SqT K F a xs ∧ RepL K F xs ds := by
  cases h with
  | tup a b => exact ⟨_, _, rfl, a, b⟩
theorem Rep.dict_inv {v : V} {kvs : List (D × D)} (h : Rep K F v (.dict kvs)) : ∃ a ks vs ds, v = .ref a ∧ kvs = ks.zip ds ∧ DAt F a ks vs ∧ RepL K F vs ds := by
  cases h with
  | dic a b => exact ⟨_, _, _, _, rfl, rfl, a, b⟩
end

/-! ### owned objects -/
/-- a dict that may be written: ks its keys, vs its values -/
inductive DOwn (H : Hp) (a : Addr) : List D → List V → Prop
  | k {kvs : List (Key × V)} : H a = some (.dK kvs) → DOwn H a (kvs.map fun p => dKey p.1) (kvs.map (·.2))
  | t {kvs : List (List Key × V)} : H a = some (.dT kvs) → DOwn H a (kvs.map fun p => dKeys p.1) (kvs.map (·.2))
/-- a set that may be written: of ints -/
def SOwn (H : Hp) (a : Addr) (xs : List D) : Prop := ∃ (ns : List Int) (S : Int → Bool), xs = ns.map PyData.int ∧ ns.Nodup ∧ (∀ i, S i = decide (i ∈ ns)) ∧ H a = some (.set S ns.length)
def OwnAt (K : PySem.W.Frag) (F H : Hp) (a : Addr) : OD → Prop
  | .lst ds => ∃ vs, H a = some (.lst vs) ∧ RepL K F vs ds
  | .dic kvs => ∃ ks vs ds, kvs = ks.zip ds ∧ DOwn H a ks vs ∧ RepL K F vs ds
  | .set xs => SOwn H a xs
theorem DOwn.at {H H' : Hp} {a b : Addr} (e : ∀ o, H a = some o → H' b = some o) {ks : List D} {vs : List V} : DOwn H a ks vs → DOwn H' b ks vs
  | .k h => .k (e _ h)
  | .t h => .t (e _ h)
theorem DOwn.some {H : Hp} {a : Addr} {ks : List D} {vs : List V} : DOwn H a ks vs → ∃ o, H a = some o ∧ ∀ H', H' a = some o → DOwn H' a ks vs
  | .k h => ⟨_, h, fun _ e => .k e⟩
  | .t h => ⟨_, h, fun _ e => .t e⟩
theorem OwnAt.at {K : PySem.W.Frag} {F F' H H' : Hp} {a : Addr} (hf : Same F F') (e : ∀ o, H a = some o → H' a = some o) {o : OD} (h : OwnAt K F H a o) : OwnAt K F' H' a o := by
  cases o with
  | lst ds => obtain ⟨vs, h1, h2⟩ := h; exact ⟨vs, e _ h1, h2.same hf⟩
  | dic kvs => obtain ⟨ks, vs, ds, h0, h1, h2⟩ := h; exact ⟨ks, vs, ds, h0, h1.at e, h2.same hf⟩
  | set xs => obtain ⟨ns, S, h0, h1, h2, h3⟩ := h; exact ⟨ns, S, h0, h1, h2, e _ h3⟩
theorem OwnAt.some {K : PySem.W.Frag} {F H : Hp} {a : Addr} {o : OD} (h : OwnAt K F H a o) : ∃ u, H a = some u := by
  cases o with
  | lst ds => obtain ⟨vs, h1, h2⟩ := h; exact ⟨_, h1⟩
  | dic kvs => obtain ⟨ks, vs, ds, h0, h1, h2⟩ := h; obtain ⟨u, e, _⟩ := h1.some; exact ⟨u, e⟩
  | set xs => obtain ⟨ns, S, h0, h1, h2, h3⟩ := h; exact ⟨_, h3⟩

def SlRel (K : PySem.W.Frag) (F H : Hp) : Sl → Option V → Prop
  | .un, _ => True
  | .va d, v => ∃ x, v = some x ∧ Rep K F x d
  | .ow _ o, v => ∃ a, v = some (.ref a) ∧ F a = none ∧ OwnAt K F H a o

structure Rel (K : PySem.W.Frag) (F : Hp) (ρ : Rho) (σ : Sig) (H : Hp) : Prop where
  same : Same F H
  len : ρ.length = σ.length
  sl : ∀ (i : Nat) (s : Sl), ρ[i]? = some s → ∃ v, σ[i]? = some v ∧ SlRel K F H s v
  ap : ∀ (i j : Nat) (k l : Ok) (o u : OD) (a : Addr), ρ[i]? = some (.ow k o) → ρ[j]? = some (.ow l u) → σ[i]? = some (some (.ref a)) → σ[j]? = some (some (.ref a)) → i = j

/-- the addresses that slots own -/
def Own (ρ : Rho) (σ : Sig) (a : Addr) : Prop := ∃ (i : Nat) (k : Ok) (o : OD), ρ[i]? = some (.ow k o) ∧ σ[i]? = some (some (.ref a))

structure Stp (F H : Hp) (O : Addr → Prop) (F' H' : Hp) (O' : Addr → Prop) : Prop where
  fr : Same F F'
  keep : ∀ a o, H a = some o → ¬ O a → H' a = some o
  new : ∀ a, F a = none → F' a ≠ none → H a = none ∨ O a
  sub : ∀ a, O' a → O a ∨ H a = none
  grow : ∀ a, H a ≠ none → H' a ≠ none
theorem Stp.refl {F H : Hp} {O : Addr → Prop} : Stp F H O F H O := ⟨Same.refl _, fun _ _ h _ => h, fun _ h1 h2 => absurd h1 h2, fun _ h => .inl h, fun _ h => h⟩
theorem Stp.trans {F H F1 H1 F2 H2 : Hp} {O O1 O2 : Addr → Prop} (a : Stp F H O F1 H1 O1) (b : Stp F1 H1 O1 F2 H2 O2) : Stp F H O F2 H2 O2 where
  fr := a.fr.trans b.fr
  keep := fun p o h n => b.keep p o (a.keep p o h n) fun q => by
    rcases a.sub p q with q | q
    · exact n q
    · rw [h] at q; cases q
  new := fun p h1 h2 => by
    by_cases e : F1 p = none
    · rcases b.new p e h2 with q | q
      · exact .inl (Classical.byContradiction fun n => a.grow p n q)
      · exact (a.sub p q).symm
    · exact a.new p h1 e
  sub := fun p h => by
    rcases b.sub p h with q | q
    · exact a.sub p q
    · exact .inr (Classical.byContradiction fun n => a.grow p n q)
  grow := fun p h => b.grow p (a.grow p h)

def Pin (ρ : Rho) (σ : Sig) (ρ' : Rho) (σ' : Sig) : Prop := σ'.length = σ.length ∧ ∀ (i : Nat) (k : Ok) (o : OD), ρ[i]? = some (.ow k o) → k ≠ .loc → σ'[i]? = σ[i]? ∧ ∃ o', ρ'[i]? = some (.ow k o') ∧ (k = .lck → o' = o)
theorem Pin.refl {ρ : Rho} {σ : Sig} : Pin ρ σ ρ σ := ⟨rfl, fun i k o h _ => ⟨rfl, o, h, fun _ => rfl⟩⟩
theorem Pin.trans {ρ ρ1 ρ2 : Rho} {σ σ1 σ2 : Sig} (a : Pin ρ σ ρ1 σ1) (b : Pin ρ1 σ1 ρ2 σ2) : Pin ρ σ ρ2 σ2 := ⟨b.1.trans a.1, fun i k o h n => by
  obtain ⟨e1, o1, h1, l1⟩ := a.2 i k o h n
  obtain ⟨e2, o2, h2, l2⟩ := b.2 i k o1 h1 n
  exact ⟨e2.trans e1, o2, h2, fun e => (l2 e).trans (l1 e)⟩⟩

structure Mv (K : PySem.W.Frag) (F H : Hp) (ρ : Rho) (σ : Sig) (F' H' : Hp) (ρ' : Rho) (σ' : Sig) : Prop where
  rel : Rel K F' ρ' σ' H'
  stp : Stp F H (Own ρ σ) F' H' (Own ρ' σ')
  pin : Pin ρ σ ρ' σ'
theorem Mv.refl {K : PySem.W.Frag} {F H : Hp} {ρ : Rho} {σ : Sig} (R : Rel K F ρ σ H) : Mv K F H ρ σ F H ρ σ := ⟨R, Stp.refl, Pin.refl⟩
theorem Mv.trans {K : PySem.W.Frag} {F H F1 H1 F2 H2 : Hp} {ρ ρ1 ρ2 : Rho} {σ σ1 σ2 : Sig} (a : Mv K F H ρ σ F1 H1 ρ1 σ1) (b : Mv K F1 H1 ρ1 σ1 F2 H2 ρ2 σ2) : Mv K F H ρ σ F2 H2 ρ2 σ2 :=
  ⟨b.rel, a.stp.trans b.stp, a.pin.trans b.pin⟩

/-- a value that has come: data, or a new object that nobody else holds -/
def RV (K : PySem.W.Frag) (F H : Hp) (O : Addr → Prop) (H₀ : Hp) (O₀ : Addr → Prop) (v : V) : Sl → Prop
  | .un => False
  | .va d => Rep K F v d
  | .ow _ o => ∃ p, v = .ref p ∧ F p = none ∧ OwnAt K F H p o ∧ ¬ O p ∧ (H₀ p = none ∨ O₀ p)
theorem RV.back {K : PySem.W.Frag} {F H F1 H1 F0 : Hp} {O O1 O0 : Addr → Prop} {H0 : Hp} {v : V} {r : Sl} (s : Stp F0 H0 O0 F1 H1 O1) (h : RV K F H O H1 O1 v r) : RV K F H O H0 O0 v r := by
  cases r with
  | un => exact h
  | va d => exact h
  | ow k o =>
    obtain ⟨p, e, h1, h2, h3, h4⟩ := h
    refine ⟨p, e, h1, h2, h3, ?_⟩
    rcases h4 with q | q
    · exact .inl (Classical.byContradiction fun n => s.grow p n q)
    · exact (s.sub p q).symm

/-! ### how the relation moves -/
section
variable {K : PySem.W.Frag} {F H : Hp} {ρ : Rho} {σ : Sig}
theorem Rel.own_some (R : Rel K F ρ σ H) {a : Addr} (h : Own ρ σ a) : H a ≠ none ∧ F a = none := by
  obtain ⟨i, k, o, h1, h2⟩ := h
  obtain ⟨v, e, b, e2, n, ow⟩ := R.sl i _ h1
  rw [h2] at e
  have e3 : some (V.ref a) = some (V.ref b) := (Option.some.inj e).trans e2
  cases e3
  obtain ⟨u, q⟩ := ow.some
  exact ⟨by rw [q]; simp, n⟩
theorem Rel.own_addr (R : Rel K F ρ σ H) {i : Nat} {k : Ok} {o : OD} (h : ρ[i]? = some (.ow k o)) : ∃ a, σ[i]? = some (some (.ref a)) ∧ F a = none ∧ OwnAt K F H a o ∧ Own ρ σ a := by
  obtain ⟨v, e, b, e2, n, ow⟩ := R.sl i _ h
  subst e2
  exact ⟨b, e, n, ow, i, k, o, h, e⟩
theorem Rel.val (R : Rel K F ρ σ H) {i : Nat} {d : D} (h : ρ[i]? = some (.va d)) : ∃ v, σ[i]? = some (some v) ∧ Rep K F v d := by
  obtain ⟨v, e, x, e2, r⟩ := R.sl i _ h
  subst e2
  exact ⟨x, e, r⟩
theorem same_new {p : Addr} {o : HO} (h : H p = none) : Same H (upd H p o) := fun b x e => by
  rw [upd_ne (ne_of_none e h)]
  exact e
/-- a new object, not told yet -/
theorem Rel.temp (R : Rel K F ρ σ H) {p : Addr} {o : HO} (h : H p = none) : Rel K F ρ σ (upd H p o) where
  same := R.same.trans (same_new h)
  len := R.len
  sl := fun i s e => by
    obtain ⟨v, e1, r⟩ := R.sl i s e
    refine ⟨v, e1, ?_⟩
    cases s with
    | un => exact r
    | va d => exact r
    | ow k o' =>
      obtain ⟨a, e2, n, ow⟩ := r
      exact ⟨a, e2, n, ow.at (Same.refl _) fun u hu => same_new h _ _ hu⟩
  ap := R.ap
theorem Stp.temp {p : Addr} {o : HO} {O : Addr → Prop} (h : H p = none) : Stp F H O F (upd H p o) O where
  fr := Same.refl _
  keep := fun a u e _ => same_new h _ _ e
  new := fun _ h1 h2 => absurd h1 h2
  sub := fun _ h => .inl h
  grow := fun a n => by
    by_cases e : a = p
    · subst e; rw [upd_same]; simp
    · rw [upd_ne e]; exact n
theorem Mv.temp (R : Rel K F ρ σ H) {p : Addr} {o : HO} (h : H p = none) : Mv K F H ρ σ F (upd H p o) ρ σ := ⟨R.temp h, Stp.temp h, Pin.refl⟩
/-- an object that stands in H and that no slot owns joins the frozen part -/
theorem Rel.froz (R : Rel K F ρ σ H) {p : Addr} {o : HO} (h : H p = some o) (hn : F p = none) (ho : ¬ Own ρ σ p) : Rel K (upd F p o) ρ σ H where
  same := fun b x e => by
    by_cases q : b = p
    · subst q; rw [upd_same] at e; cases e; exact h
    · rw [upd_ne q] at e; exact R.same b x e
  len := R.len
  sl := fun i s e => by
    obtain ⟨v, e1, r⟩ := R.sl i s e
    refine ⟨v, e1, ?_⟩
    cases s with
    | un => exact r
    | va d => obtain ⟨x, e2, r⟩ := r; exact ⟨x, e2, r.same (same_new hn)⟩
    | ow k o' =>
      obtain ⟨a, e2, n, ow⟩ := r
      subst e2
      have ne : a ≠ p := fun z => ho (by subst z; exact ⟨i, k, o', e, e1⟩)
      exact ⟨a, rfl, by rw [upd_ne ne]; exact n, ow.at (same_new hn) fun u hu => hu⟩
  ap := R.ap
/-- a new object that is data from the start -/
theorem Mv.newv (R : Rel K F ρ σ H) {p : Addr} {o : HO} (h : H p = none) : Mv K F H ρ σ (upd F p o) (upd H p o) ρ σ := by
  have hF : F p = none := R.same.free h
  have ho : ¬ Own ρ σ p := fun q => (R.own_some q).1 h
  refine ⟨(R.temp h).froz upd_same hF ho, ⟨same_new hF, fun a u e _ => same_new h _ _ e, fun a h1 h2 => ?_, fun _ h => .inl h, (Stp.temp (F := F) (O := Own ρ σ) h).grow⟩, Pin.refl⟩
  by_cases e : a = p
  · subst e; exact .inl h
  · rw [upd_ne e] at h2; exact absurd h1 h2
/-- what came new is frozen -/
theorem Mv.freeze {F1 H1 : Hp} {ρ1 : Rho} {σ1 : Sig} {p : Addr} {o : HO} (M : Mv K F H ρ σ F1 H1 ρ1 σ1) (h : H1 p = some o) (hn : F1 p = none) (ho : ¬ Own ρ1 σ1 p) (h0 : H p = none ∨ Own ρ σ p) :
    Mv K F H ρ σ (upd F1 p o) H1 ρ1 σ1 := by
  refine ⟨M.rel.froz h hn ho, ⟨M.stp.fr.trans (same_new hn), M.stp.keep, fun a h1 h2 => ?_, M.stp.sub, M.stp.grow⟩, M.pin⟩
  by_cases e : a = p
  · subst e; exact h0
  · rw [upd_ne e] at h2; exact M.stp.new a h1 h2

/-! ### slots are stored -/
theorem set_get {α : Type} {l : List α} {i j : Nat} {x y : α} (h : (l.set i x)[j]? = some y) : (j = i ∧ y = x ∧ i < l.length) ∨ (j ≠ i ∧ l[j]? = some y) := by
  by_cases e : i = j
  · subst e
    by_cases hl : i < l.length
    · rw [List.getElem?_set_self hl] at h
      exact .inl ⟨rfl, (Option.some.inj h).symm, hl⟩
    · rw [List.getElem?_eq_none (by simpa using hl)] at h; cases h
  · rw [List.getElem?_set_ne e] at h
    exact .inr ⟨fun q => e q.symm, h⟩
/-- may the slot be stored over? -/
def Sl.free : Sl → Bool
  | .ow .loc _ => true
  | .ow _ _ => false
  | _ => true
theorem Own.set_va {i : Nat} {x : Sl} {y : Option V} {a : Addr} (hx : ∀ k o, x ≠ .ow k o) (h : Own (ρ.set i x) (σ.set i y) a) : Own ρ σ a := by
  obtain ⟨j, k, o, h1, h2⟩ := h
  rcases set_get h1 with ⟨e, e2, _⟩ | ⟨ne, h1⟩
  · exact absurd e2.symm (hx k o)
  · rcases set_get h2 with ⟨e, _⟩ | ⟨_, h2⟩
    · exact absurd e ne
    · exact ⟨j, k, o, h1, h2⟩
theorem Pin.set {i : Nat} {x : Sl} {y : Option V} (hf : ∀ s : Sl, ρ[i]? = some s → s.free = true) : Pin ρ σ (ρ.set i x) (σ.set i y) := ⟨by simp, fun j k o h n => by
  have ne : i ≠ j := fun e => by
    subst e
    have q := hf _ h
    cases k with
    | loc => exact n rfl
    | par => cases q
    | lck => cases q
  exact ⟨List.getElem?_set_ne ne, o, by rw [List.getElem?_set_ne ne]; exact h, fun _ => rfl⟩⟩
theorem Mv.set_va (R : Rel K F ρ σ H) {i : Nat} {v : V} {d : D} (r : Rep K F v d) (hf : ∀ s : Sl, ρ[i]? = some s → s.free = true) : Mv K F H ρ σ F H (ρ.set i (.va d)) (σ.set i (some v)) := by
  have sub : ∀ {a : Addr}, Own (ρ.set i (.va d)) (σ.set i (some v)) a → Own ρ σ a := fun {a} h => Own.set_va (by intro k o e; cases e) h
  refine ⟨⟨R.same, by simp [R.len], fun j s e => ?_, fun j l k k' o u a h1 h2 h3 h4 => ?_⟩, ⟨Same.refl _, fun _ _ h _ => h, fun _ h1 h2 => absurd h1 h2, fun _ h => .inl (sub h), fun _ h => h⟩, Pin.set hf⟩
  · rcases set_get e with ⟨e1, e2, hl⟩ | ⟨ne, e1⟩
    · subst e1 e2
      exact ⟨some v, by rw [List.getElem?_set_self (by rw [← R.len]; exact hl)], v, rfl, r⟩
    · obtain ⟨w, e2, q⟩ := R.sl j s e1
      exact ⟨w, by rw [List.getElem?_set_ne (Ne.symm ne)]; exact e2, q⟩
  · rcases set_get h1 with ⟨_, z, _⟩ | ⟨n1, h1⟩
    · cases z
    · rcases set_get h2 with ⟨_, z, _⟩ | ⟨n2, h2⟩
      · cases z
      · rw [List.getElem?_set_ne (Ne.symm n1)] at h3
        rw [List.getElem?_set_ne (Ne.symm n2)] at h4
        exact R.ap j l k k' o u a h1 h2 h3 h4
theorem Mv.set_un (R : Rel K F ρ σ H) {i : Nat} {y : Option V} (hf : ∀ s : Sl, ρ[i]? = some s → s.free = true) : Mv K F H ρ σ F H (ρ.set i .un) (σ.set i y) := by
  have sub : ∀ {a : Addr}, Own (ρ.set i .un) (σ.set i y) a → Own ρ σ a := fun {a} h => Own.set_va (by intro k o e; cases e) h
  refine ⟨⟨R.same, by simp [R.len], fun j s e => ?_, fun j l k k' o u a h1 h2 h3 h4 => ?_⟩, ⟨Same.refl _, fun _ _ h _ => h, fun _ h1 h2 => absurd h1 h2, fun _ h => .inl (sub h), fun _ h => h⟩, Pin.set hf⟩
  · rcases set_get e with ⟨e1, e2, hl⟩ | ⟨ne, e1⟩
    · subst e1 e2
      exact ⟨y, by rw [List.getElem?_set_self (by rw [← R.len]; exact hl)], trivial⟩
    · obtain ⟨w, e2, q⟩ := R.sl j s e1
      exact ⟨w, by rw [List.getElem?_set_ne (Ne.symm ne)]; exact e2, q⟩
  · rcases set_get h1 with ⟨_, z, _⟩ | ⟨n1, h1⟩
    · cases z
    · rcases set_get h2 with ⟨_, z, _⟩ | ⟨n2, h2⟩
      · cases z
      · rw [List.getElem?_set_ne (Ne.symm n1)] at h3
        rw [List.getElem?_set_ne (Ne.symm n2)] at h4
        exact R.ap j l k k' o u a h1 h2 h3 h4
/-- an own slot is let go (its σ stays) -/
theorem set_id {l : Sig} {i : Nat} {y : Option V} (h : l[i]? = some y) : l.set i y = l := by
  apply List.ext_getElem?
  intro j
  by_cases e : i = j
  · subst e
    obtain ⟨hl, _⟩ := List.getElem?_eq_some_iff.mp h
    rw [List.getElem?_set_self hl, h]
  · rw [List.getElem?_set_ne e]
theorem Mv.set_ow {F1 H1 : Hp} {ρ1 : Rho} {σ1 : Sig} (M : Mv K F H ρ σ F1 H1 ρ1 σ1) {i : Nat} {p : Addr} {o : OD} (hn : F1 p = none) (hw : OwnAt K F1 H1 p o) (ho : ¬ Own ρ1 σ1 p) (h0 : H p = none ∨ Own ρ σ p) (hf : ∀ s : Sl, ρ1[i]? = some s → s.free = true) :
    Mv K F H ρ σ F1 H1 (ρ1.set i (.ow .loc o)) (σ1.set i (some (.ref p))) := by
  have R := M.rel
  have sub : ∀ {a : Addr}, Own (ρ1.set i (.ow .loc o)) (σ1.set i (some (.ref p))) a → a = p ∨ Own ρ1 σ1 a := fun {a} h => by
    obtain ⟨j, k, u, h1, h2⟩ := h
    rcases set_get h2 with ⟨e, e2, _⟩ | ⟨ne, h2⟩
    · exact .inl (by cases e2; rfl)
    · rcases set_get h1 with ⟨e, _⟩ | ⟨_, h1⟩
      · exact absurd e ne
      · exact .inr ⟨j, k, u, h1, h2⟩
  refine ⟨⟨R.same, by simp [R.len], fun j s e => ?_, fun j l k k' o1 u a h1 h2 h3 h4 => ?_⟩, ⟨M.stp.fr, M.stp.keep, M.stp.new, fun a h => ?_, M.stp.grow⟩, M.pin.trans (Pin.set hf)⟩
  · rcases set_get e with ⟨e1, e2, hl⟩ | ⟨ne, e1⟩
    · subst e1 e2
      exact ⟨some (.ref p), by rw [List.getElem?_set_self (by rw [← R.len]; exact hl)], p, rfl, hn, hw⟩
    · obtain ⟨w, e2, q⟩ := R.sl j s e1
      exact ⟨w, by rw [List.getElem?_set_ne (Ne.symm ne)]; exact e2, q⟩
  · rcases set_get h3 with ⟨e3, z3, _⟩ | ⟨n1, h3⟩ <;> rcases set_get h4 with ⟨e4, z4, _⟩ | ⟨n2, h4⟩
    · exact e3.trans e4.symm
    · cases z3
      rcases set_get h2 with ⟨e, _⟩ | ⟨_, h2⟩
      · exact absurd e n2
      · exact absurd ⟨l, k', u, h2, h4⟩ ho
    · cases z4
      rcases set_get h1 with ⟨e, _⟩ | ⟨_, h1⟩
      · exact absurd e n1
      · exact absurd ⟨j, k, o1, h1, h3⟩ ho
    · rw [List.getElem?_set_ne (Ne.symm n1)] at h1
      rw [List.getElem?_set_ne (Ne.symm n2)] at h2
      exact R.ap j l k k' o1 u a h1 h2 h3 h4
  · rcases sub h with e | h
    · subst e; exact h0.symm
    · exact M.stp.sub a h
/-- an owned object is written -/
theorem Mv.write (R : Rel K F ρ σ H) {i : Nat} {k : Ok} {o o' : OD} {a : Addr} {u : HO} (h : ρ[i]? = some (.ow k o)) (hs : σ[i]? = some (some (.ref a))) (hk : k ≠ .lck) (hw : OwnAt K F (upd H a u) a o') :
    Mv K F H ρ σ F (upd H a u) (ρ.set i (.ow k o')) σ := by
  have hl : i < ρ.length := (List.getElem?_eq_some_iff.mp h).1
  have hO : Own ρ σ a := ⟨i, k, o, h, hs⟩
  have hF := (R.own_some hO).2
  have sub : ∀ {b : Addr}, Own (ρ.set i (.ow k o')) σ b → Own ρ σ b := fun {b} hb => by
    obtain ⟨j, k', u', h1, h2⟩ := hb
    rcases set_get h1 with ⟨e, e2, _⟩ | ⟨_, h1⟩
    · subst e; exact ⟨j, k, o, h, h2⟩
    · exact ⟨j, k', u', h1, h2⟩
  refine ⟨⟨fun b x e => ?_, by simp [R.len], fun j s e => ?_, fun j l k1 k2 o1 u1 b h1 h2 h3 h4 => ?_⟩, ⟨Same.refl _, fun b x e n => ?_, fun _ h1 h2 => absurd h1 h2, fun _ h => .inl (sub h), fun b n => ?_⟩, rfl, fun j k1 o1 h1 n1 => ?_⟩
  · rw [upd_ne (fun z => by subst z; rw [hF] at e; cases e)]
    exact R.same b x e
  · rcases set_get e with ⟨e1, e2, _⟩ | ⟨ne, e1⟩
    · subst e1 e2
      exact ⟨_, hs, a, rfl, hF, hw⟩
    · obtain ⟨w, e2, q⟩ := R.sl j s e1
      refine ⟨w, e2, ?_⟩
      cases s with
      | un => exact q
      | va d => exact q
      | ow k' o1 =>
        obtain ⟨b, e3, n, ow⟩ := q
        subst e3
        have nb : b ≠ a := fun z => by subst z; exact ne (R.ap j i k' k o1 o b e1 h e2 hs)
        exact ⟨b, rfl, n, ow.at (Same.refl _) fun x hx => by rw [upd_ne nb]; exact hx⟩
  · have back : ∀ {j : Nat} {k1 : Ok} {o1 : OD}, (ρ.set i (.ow k o'))[j]? = some (.ow k1 o1) → ∃ k2 o2, ρ[j]? = some (.ow k2 o2) := fun {j k1 o1} hj => by
      rcases set_get hj with ⟨e, _⟩ | ⟨_, hj⟩
      · subst e; exact ⟨k, o, h⟩
      · exact ⟨_, _, hj⟩
    obtain ⟨_, _, q1⟩ := back h1
    obtain ⟨_, _, q2⟩ := back h2
    exact R.ap j l _ _ _ _ b q1 q2 h3 h4
  · rw [upd_ne (fun z => by subst z; exact n hO)]
    exact e
  · by_cases e : b = a
    · subst e; rw [upd_same]; simp
    · rw [upd_ne e]; exact n
  · by_cases e : i = j
    · subst e
      rw [h] at h1
      cases h1
      exact ⟨rfl, o', by rw [List.getElem?_set_self hl], fun z => absurd z hk⟩
    · exact ⟨rfl, o1, by rw [List.getElem?_set_ne e]; exact h1, fun _ => rfl⟩
/-- a local's own object is let go -/
theorem Mv.letgo (R : Rel K F ρ σ H) {i : Nat} {o : OD} (h : ρ[i]? = some (.ow .loc o)) : Mv K F H ρ σ F H (ρ.set i .un) σ := by
  obtain ⟨a, hs, _⟩ := R.own_addr h
  have M := Mv.set_un R (i := i) (y := some (.ref a)) (fun s e => by rw [h] at e; cases e; rfl)
  rw [set_id hs] at M
  exact M
theorem not_own_letgo (R : Rel K F ρ σ H) {i : Nat} {k : Ok} {o : OD} {a : Addr} (h : ρ[i]? = some (.ow k o)) (hs : σ[i]? = some (some (.ref a))) : ¬ Own (ρ.set i .un) σ a := fun ⟨j, k', o', h1, h2⟩ => by
  rcases set_get h1 with ⟨_, e, _⟩ | ⟨ne, h1⟩
  · cases e
  · exact ne (R.ap j i k' k o' o a h1 h h2 hs)
theorem Rel.slot_some (R : Rel K F ρ σ H) {i : Nat} {s : Sl} (h : ρ[i]? = some s) : i < σ.length := by
  rw [← R.len]
  exact (List.getElem?_eq_some_iff.mp h).1
/-- a slot whose value is known data is told as such -/
theorem Mv.retell (R : Rel K F ρ σ H) {i : Nat} {v : V} {d : D} (hs : σ[i]? = some (some v)) (r : Rep K F v d) (hf : ∀ s : Sl, ρ[i]? = some s → s.free = true) : Mv K F H ρ σ F H (ρ.set i (.va d)) σ := by
  have M := Mv.set_va R r hf
  rw [set_id hs] at M
  exact M
end
end PL

/-! PL, second part: readings over data; expressions. -/
namespace PL
open PySem PySem.Spec PyProof.Rows L2

abbrev EM := Rho → Option (Sl × Rho)
abbrev DM := Rho → Option (D × Rho)
abbrev TM := Rho → Option (Bool × Rho)
/-- the value as data -/
def evD (f : EM) : DM := fun ρ => match f ρ with
  | some (.va d, ρ1) => some (d, ρ1)
  | some (.ow _ (.lst xs), ρ1) => some (.list xs, ρ1)
  | _ => none

def tE (K : PySem.W.Frag) (f : EM) : TE := fun σ H Q => ∃ F ρ r ρ', Rel K F ρ σ H ∧ f ρ = some (r, ρ') ∧
  ∀ F' H' v, Mv K F H ρ σ F' H' ρ' σ → RV K F' H' (Own ρ' σ) H (Own ρ σ) v r → Q v H'
def tQ (K : PySem.W.Frag) (f : TM) : TT := fun σ H Q => ∃ F ρ b ρ', Rel K F ρ σ H ∧ f ρ = some (b, ρ') ∧ ∀ F' H', Mv K F H ρ σ F' H' ρ' σ → Q b H'
/-- a value read where it stands: a list's or a dict's items as they are in H -/
inductive DIn (H : Hp) (a : Addr) (ks : List D) (vs : List V) : Prop
  | fr : DAt H a ks vs → DIn H a ks vs
  | ow : DOwn H a ks vs → DIn H a ks vs
def RB (K : PySem.W.Frag) (F H : Hp) (v : V) : D → Prop
  | .list ds => ∃ a xs, v = .ref a ∧ SqL K H a xs ∧ RepL K F xs ds
  | .dict kvs => ∃ a ks vs ds, v = .ref a ∧ kvs = ks.zip ds ∧ DIn H a ks vs ∧ RepL K F vs ds
  | d => Rep K F v d
def tV (K : PySem.W.Frag) (f : DM) : TE := fun σ H Q => ∃ F ρ d ρ', Rel K F ρ σ H ∧ f ρ = some (d, ρ') ∧
  ∀ F' H' v, Mv K F H ρ σ F' H' ρ' σ → RB K F' H' v d → Q v H'
structure PX (X : Cx) (e : Expr) (f : EM) : Prop where
  pe : PE X e (tE X.K f)
structure PQ (X : Cx) (e : Expr) (f : TM) : Prop where
  pt : PT X e (tQ X.K f)
structure PV (X : Cx) (e : Expr) (f : DM) : Prop where
  pe : PE X e (tV X.K f)
structure PQW (X : Cx) (e : Expr) (f : TM) : Prop where
  pw : PW X e (tQ X.K f)
theorem PQW.q {X : Cx} {e : Expr} {f : TM} (h : PQW X e f) : PQ X e f := ⟨h.pw.pt⟩

theorem Rep.rb {K : PySem.W.Frag} {F H : Hp} (e : Same F H) {v : V} {d : D} (h : Rep K F v d) : RB K F H v d := by
  cases h with
  | lst a b => exact ⟨_, _, rfl, e.seq a, b⟩
  | dic a b => exact ⟨_, _, _, _, rfl, rfl, .fr (DAt.same e a), b⟩
  | non => exact .non
  | bl b => exact .bl b
  | int i => exact .int i
  | str x => exact .str x
  | tup a b => exact .tup a b
theorem evD_cases {f : EM} {ρ ρ1 : Rho} {d : D} (h : evD f ρ = some (d, ρ1)) : f ρ = some (.va d, ρ1) ∨ ∃ k xs, d = .list xs ∧ f ρ = some (.ow k (.lst xs), ρ1) := by
  unfold evD at h
  split at h
  · rename_i d1 ρ2 e
    cases h
    exact .inl e
  · rename_i k xs ρ2 e
    cases h
    exact .inr ⟨k, xs, rfl, e⟩
  · cases h
theorem evD_va {f : EM} {ρ ρ1 : Rho} {d : D} (h : f ρ = some (.va d, ρ1)) : evD f ρ = some (d, ρ1) := by
  unfold evD
  rw [h]
theorem evD_lst {f : EM} {ρ ρ1 : Rho} {k : Ok} {xs : List D} (h : f ρ = some (.ow k (.lst xs), ρ1)) : evD f ρ = some (.list xs, ρ1) := by
  unfold evD
  rw [h]

section
variable {K : PySem.W.Frag} {F H : Hp} {ρ ρ1 : Rho} {σ : Sig}
theorem tE.val {f : EM} {d : D} {Q : VK} (R : Rel K F ρ σ H) (e : evD f ρ = some (d, ρ1)) (k : ∀ F1 H1 x, Mv K F H ρ σ F1 H1 ρ1 σ → Rep K F1 x d → Q x H1) : tE K f σ H Q := by
  rcases evD_cases e with e | ⟨k', xs, ed, e⟩
  · exact ⟨F, ρ, _, ρ1, R, e, fun F' H' v M r => k F' H' v M r⟩
  · refine ⟨F, ρ, .ow k' (.lst xs), ρ1, R, e, fun F' H' v M r => ?_⟩
    subst ed
    obtain ⟨p, rfl, hn, ⟨vs, h1, h2⟩, ho, h0⟩ := r
    exact k _ H' _ (M.freeze h1 hn ho h0) (.lst (.inl (.inl upd_same)) (h2.same (same_new hn)))
theorem tE.intro {f : EM} {r : Sl} {Q : VK} (R : Rel K F ρ σ H) (e : f ρ = some (r, ρ1)) (k : ∀ F1 H1 x, Mv K F H ρ σ F1 H1 ρ1 σ → RV K F1 H1 (Own ρ1 σ) H (Own ρ σ) x r → Q x H1) : tE K f σ H Q := ⟨F, ρ, r, ρ1, R, e, k⟩
theorem tV.intro {f : DM} {d : D} {Q : VK} (R : Rel K F ρ σ H) (e : f ρ = some (d, ρ1)) (k : ∀ F1 H1 x, Mv K F H ρ σ F1 H1 ρ1 σ → RB K F1 H1 x d → Q x H1) : tV K f σ H Q := ⟨F, ρ, d, ρ1, R, e, k⟩
theorem tQ.intro {f : TM} {b : Bool} {Q : Bool → Hp → Prop} (R : Rel K F ρ σ H) (e : f ρ = some (b, ρ1)) (k : ∀ F1 H1, Mv K F H ρ σ F1 H1 ρ1 σ → Q b H1) : tQ K f σ H Q := ⟨F, ρ, b, ρ1, R, e, k⟩
end
theorem _root_.L2.PE.weak {X : Cx} {e : Expr} {t t' : TE} (h : PE X e t) (w : ∀ σ H Q, t' σ H Q → t σ H Q) : PE X e t' := ⟨fun pins s σ H Q I q => h.run pins s σ H Q I (w σ H Q q)⟩
theorem _root_.L2.PT.weak {X : Cx} {e : Expr} {t t' : TT} (h : PT X e t) (w : ∀ σ H Q, t' σ H Q → t σ H Q) : PT X e t' := ⟨fun pins s σ H Q I q => h.run pins s σ H Q I (w σ H Q q)⟩

/-! ### names, constants -/
/-- the content of a slot, where it stands -/
def nmB (i : Nat) : DM := fun ρ => match ρ[i]? with
  | some (.va d) => some (d, ρ)
  | some (.ow _ (.lst xs)) => some (.list xs, ρ)
  | some (.ow _ (.dic kvs)) => some (.dict kvs, ρ)
  | _ => none
/-- a name as a value: a local's own list is data from here on -/
def nmV (i : Nat) : EM := fun ρ => match ρ[i]? with
  | some (.va d) => some (.va d, ρ)
  | some (.ow .loc (.lst xs)) => some (.va (.list xs), ρ.set i (.va (.list xs)))
  | some (.ow .loc (.dic kvs)) => some (.va (.dict kvs), ρ.set i (.va (.dict kvs)))
  | _ => none
/-- a name whose object is handed on -/
def nmM (i : Nat) : EM := fun ρ => match ρ[i]? with
  | some (.va d) => some (.va d, ρ)
  | some (.ow .loc o) => some (.ow .loc o, ρ.set i .un)
  | _ => none
def cst (d : D) : EM := fun ρ => some (.va d, ρ)

theorem slot_rb {K : PySem.W.Frag} {F H : Hp} {ρ ρ' : Rho} {σ : Sig} {i : Nat} {d : D} (R : Rel K F ρ σ H) (e : nmB i ρ = some (d, ρ')) : ρ' = ρ ∧ ∃ v, σ[i]? = some (some v) ∧ RB K F H v d := by
  unfold nmB at e
  split at e
  · rename_i d1 h
    cases e
    obtain ⟨v, h1, h2⟩ := R.val h
    exact ⟨rfl, v, h1, h2.rb R.same⟩
  · rename_i k xs h
    cases e
    obtain ⟨a, h1, _, ⟨vs, h2, h3⟩, _⟩ := R.own_addr h
    exact ⟨rfl, _, h1, a, vs, rfl, .inl (.inl h2), h3⟩
  · rename_i k kvs h
    cases e
    obtain ⟨a, h1, _, ⟨ks, vs, ds, h2, h3, h4⟩, _⟩ := R.own_addr h
    exact ⟨rfl, _, h1, a, ks, vs, ds, rfl, h2, .ow h3, h4⟩
  · cases e

section
variable {X : Cx}
theorem pv_name (i : Nat) {x : Str} {pos : Pos} (hN : X.N[i]? = some x := by rfl) (hv : Vis X.env.scope x := by first | exact Or.inl rfl | exact Or.inr (Or.inl rfl) | exact Or.inr (Or.inr rfl)) (hd : (x == ("__debug__" : Str)) = false := by decide)
    (hcd : (x == ("__classdict__" : Str)) = false := by decide) : PV X (.Name x pos) (nmB i) :=
  ⟨(pe_var hN hv hd hcd).weak fun σ H Q ⟨F, ρ, d, ρ', R, e, k⟩ => by
    obtain ⟨rfl, v, h1, h2⟩ := slot_rb R e
    exact ⟨v, h1, k F H v (Mv.refl R) h2⟩⟩
/-- a lock for good -/
theorem lock_own {pins : List (Addr × Obj)} {σ : Sig} {H : Hp} {s : Shared} {a : Addr} {ks : List D} {vs : List V} (I : Inv X pins σ H s) (h : DOwn H a ks vs) : ∃ o, Inv X pins σ (upd H a o) s ∧ DAt (upd H a o) a ks vs ∧ ∀ F : Hp, DAt (upd F a o) a ks vs := by
  cases h with
  | k h =>
    obtain ⟨od, I'⟩ := I.lock h trivial
    exact ⟨_, I', .k upd_same, fun _ => .k upd_same⟩
  | t h =>
    obtain ⟨od, I'⟩ := I.lock h trivial
    exact ⟨_, I', .t upd_same, fun _ => .t upd_same⟩
/-- an owned dict is locked and joins the data -/
theorem Mv.lockd {K : PySem.W.Frag} {F H F1 H1 : Hp} {ρ ρ1 : Rho} {σ σ1 : Sig} {p : Addr} {o : HO} (M : Mv K F H ρ σ F1 H1 ρ1 σ1) (h : ∃ u, H1 p = some u) (hn : F1 p = none) (ho : ¬ Own ρ1 σ1 p) (h0 : H p = none ∨ Own ρ σ p) :
    Mv K F H ρ σ (upd F1 p o) (upd H1 p o) ρ1 σ1 := by
  have R := M.rel
  refine ⟨⟨fun b x e => ?_, R.len, fun i s e => ?_, R.ap⟩, ⟨M.stp.fr.trans (same_new hn), fun a u e n => ?_, fun a h1 h2 => ?_, M.stp.sub, fun a n => ?_⟩, M.pin⟩
  · by_cases q : b = p
    · subst q; rw [upd_same] at e ⊢; exact e
    · rw [upd_ne q] at e ⊢; exact R.same b x e
  · obtain ⟨v, e1, r⟩ := R.sl i s e
    refine ⟨v, e1, ?_⟩
    cases s with
    | un => exact r
    | va d => obtain ⟨x, e2, r⟩ := r; exact ⟨x, e2, r.same (same_new hn)⟩
    | ow k o' =>
      obtain ⟨a, e2, n, ow⟩ := r
      subst e2
      have ne : a ≠ p := fun z => ho (by subst z; exact ⟨i, k, o', e, e1⟩)
      exact ⟨a, rfl, by rw [upd_ne ne]; exact n, ow.at (same_new hn) fun u hu => by rw [upd_ne ne]; exact hu⟩
  · have ne : a ≠ p := fun z => by
      subst z
      rcases h0 with q | q
      · rw [q] at e; cases e
      · exact n q
    rw [upd_ne ne]
    exact M.stp.keep a u e n
  · by_cases e : a = p
    · subst e; exact h0
    · rw [upd_ne e] at h2; exact M.stp.new a h1 h2
  · by_cases e : a = p
    · subst e; rw [upd_same]; simp
    · rw [upd_ne e]; exact M.stp.grow a n
theorem px_name (i : Nat) {x : Str} {pos : Pos} (hN : X.N[i]? = some x := by rfl) (hv : Vis X.env.scope x := by first | exact Or.inl rfl | exact Or.inr (Or.inl rfl) | exact Or.inr (Or.inr rfl)) (hd : (x == ("__debug__" : Str)) = false := by decide)
    (hcd : (x == ("__classdict__" : Str)) = false := by decide) : PX X (.Name x pos) (nmV i) := by
  refine ⟨⟨fun pins s σ H Q I h => ?_⟩⟩
  obtain ⟨F, ρ, r, ρ', R, e, k⟩ := h
  have pe := pe_var (X := X) (pos := pos) hN hv hd hcd
  unfold nmV at e
  split at e
  · rename_i d1 h
    cases e
    obtain ⟨v, h1, h2⟩ := R.val h
    exact pe.run pins s σ H Q I ⟨v, h1, k F H v (Mv.refl R) h2⟩
  · rename_i xs h
    cases e
    obtain ⟨a, h1, hn, ⟨vs, h2, h3⟩, hO⟩ := R.own_addr h
    have M1 := Mv.letgo R h
    have M2 := M1.freeze h2 hn (not_own_letgo R h h1) (.inr hO)
    have rp : Rep X.K (upd F a (.lst vs)) (.ref a) (.list xs) := .lst (.inl (.inl upd_same)) (h3.same (same_new hn))
    have hl : i < ρ.length := (List.getElem?_eq_some_iff.mp h).1
    have M3 := Mv.retell M2.rel (i := i) h1 rp (fun s e => by rw [List.getElem?_set_self hl] at e; cases e; rfl)
    rw [List.set_set] at M3
    exact pe.run pins s σ H Q I ⟨_, h1, k _ H _ (M2.trans M3) rp⟩
  · rename_i kvs h
    cases e
    obtain ⟨a, h1, hn, ⟨ks, vs, ds, rfl, h2, h3⟩, hO⟩ := R.own_addr h
    refine thn (pe.run pins s σ H (fun v H' => v = .ref a ∧ H' = H) I ⟨_, h1, rfl, rfl⟩) fun u s1 ⟨v, H', I', r, e1, e2⟩ => ?_
    subst e1 e2
    obtain ⟨o, I2, d1, d2⟩ := lock_own I' h2
    have M1 := Mv.letgo R h
    have M2 := M1.lockd (o := o) (let ⟨u, q, _⟩ := h2.some; ⟨u, q⟩) hn (not_own_letgo R h h1) (.inr hO)
    have rp : Rep X.K (upd F a o) (.ref a) (.dict (ks.zip ds)) := .dic (d2 F) (h3.same (same_new hn))
    have hl : i < ρ.length := (List.getElem?_eq_some_iff.mp h).1
    have M3 := Mv.retell M2.rel (i := i) h1 rp (fun s e => by rw [List.getElem?_set_self hl] at e; cases e; rfl)
    rw [List.set_set] at M3
    exact ⟨.ref a, _, I2, r, k _ _ _ (M2.trans M3) rp⟩
  · cases e
theorem px_move (i : Nat) {x : Str} {pos : Pos} (hN : X.N[i]? = some x := by rfl) (hv : Vis X.env.scope x := by first | exact Or.inl rfl | exact Or.inr (Or.inl rfl) | exact Or.inr (Or.inr rfl)) (hd : (x == ("__debug__" : Str)) = false := by decide)
    (hcd : (x == ("__classdict__" : Str)) = false := by decide) : PX X (.Name x pos) (nmM i) :=
  ⟨(pe_var hN hv hd hcd).weak fun σ H Q ⟨F, ρ, r, ρ', R, e, k⟩ => by
    unfold nmM at e
    split at e
    · rename_i d1 h
      cases e
      obtain ⟨v, h1, h2⟩ := R.val h
      exact ⟨v, h1, k F H v (Mv.refl R) h2⟩
    · rename_i o h
      cases e
      obtain ⟨a, h1, hn, hw, hO⟩ := R.own_addr h
      exact ⟨_, h1, k F H _ (Mv.letgo R h) ⟨a, rfl, hn, hw, not_own_letgo R h h1, .inr hO⟩⟩
    · cases e⟩
theorem px_cst {e : Expr} {v : V} {d : D} (h : PE X e (tC v)) (r : ∀ F, Rep X.K F v d) : PX X e (cst d) :=
  ⟨h.weak fun σ H Q ⟨F, ρ, d', ρ', R, e, k⟩ => by
    cases e
    exact k F H v (Mv.refl R) (r F)⟩
theorem px_int {i : Int} {j pos} : PX X (.Constant (.int i) j pos) (cst (.int i)) := px_cst pe_int fun _ => .int i
theorem px_bl {b : Bool} {j pos} : PX X (.Constant (.bool b) j pos) (cst (.bool b)) := px_cst pe_bl fun _ => .bl b
theorem px_non {j pos} : PX X (.Constant .none j pos) (cst .none) := px_cst pe_non fun _ => .non
theorem px_str {x : Str} {j pos} : PX X (.Constant (.str x) j pos) (cst (.str x)) := px_cst pe_str fun _ => .str x
/-- a value read -/
theorem PX.v {e : Expr} {f : EM} (h : PX X e f) : PV X e (evD f) :=
  ⟨h.pe.weak fun σ H Q ⟨F, ρ, d, ρ', R, e, k⟩ => tE.val R e fun F1 H1 x M r => k F1 H1 x M (r.rb M.rel.same)⟩

/-! ### two values -/
inductive A1 where
  | nm (i : Nat) | ex (f : EM)
def tA1 (K : PySem.W.Frag) : A1 → TE
  | .nm i => tVar i
  | .ex f => tE K f
structure PA1 (X : Cx) (e : Expr) (a : A1) : Prop where
  pe : PE X e (tA1 X.K a)
theorem pa1_name (i : Nat) {x : Str} {pos : Pos} (hN : X.N[i]? = some x := by rfl) (hv : Vis X.env.scope x := by first | exact Or.inl rfl | exact Or.inr (Or.inl rfl) | exact Or.inr (Or.inr rfl)) (hd : (x == ("__debug__" : Str)) = false := by decide)
    (hcd : (x == ("__classdict__" : Str)) = false := by decide) : PA1 X (.Name x pos) (.nm i) := ⟨pe_var hN hv hd hcd⟩
theorem PX.a {e : Expr} {f : EM} (h : PX X e f) : PA1 X e (.ex f) := ⟨h.pe⟩
/-- both values, the first one as it stands behind the second -/
def ev2 : A1 → DM → Rho → Option (D × D × Rho)
  | .nm i, g, ρ => match nmB i ρ with
    | some _ => match g ρ with
      | some (y, ρ1) => match nmB i ρ1 with
        | some (x, _) => some (x, y, ρ1)
        | none => none
      | none => none
    | none => none
  | .ex f, g, ρ => match evD f ρ with
    | some (x, ρ1) => match g ρ1 with
      | some (y, ρ2) => some (x, y, ρ2)
      | none => none
    | none => none
theorem RB.mono {K : PySem.W.Frag} {F H F' : Hp} {v : V} {d : D} (h : Same F F') (r : RB K F H v d) : RB K F' H v d := by
  cases d with
  | list ds => obtain ⟨a, xs, e, q, r⟩ := r; exact ⟨a, xs, e, q, r.same h⟩
  | dict kvs => obtain ⟨a, ks, vs, ds, e, e2, q, r⟩ := r; exact ⟨a, ks, vs, ds, e, e2, q, r.same h⟩
  | none => exact Rep.same h r
  | bool b => exact Rep.same h r
  | int b => exact Rep.same h r
  | str b => exact Rep.same h r
  | tuple b => exact Rep.same h r
theorem ev2_nm {i : Nat} {g : DM} {ρ ρ2 : Rho} {x y : D} (e : ev2 (.nm i) g ρ = some (x, y, ρ2)) : (∃ p, nmB i ρ = some p) ∧ g ρ = some (y, ρ2) ∧ ∃ ρ3, nmB i ρ2 = some (x, ρ3) := by
  simp only [ev2] at e
  split at e
  · rename_i p e1
    split at e
    · rename_i y' ρ1 e2
      split at e
      · rename_i x' ρ3 e3
        cases e
        exact ⟨⟨_, e1⟩, e2, _, e3⟩
      · cases e
    · cases e
  · cases e
theorem ev2_ex {f : EM} {g : DM} {ρ ρ2 : Rho} {x y : D} (e : ev2 (.ex f) g ρ = some (x, y, ρ2)) : ∃ ρ1, evD f ρ = some (x, ρ1) ∧ g ρ1 = some (y, ρ2) := by
  simp only [ev2] at e
  split at e
  · rename_i x' ρ1 e1
    split at e
    · rename_i y' ρ3 e2
      cases e
      exact ⟨_, e1, e2⟩
    · cases e
  · cases e
theorem two {K : PySem.W.Frag} {F H : Hp} {ρ ρ2 : Rho} {σ : Sig} {fa : A1} {fb : DM} {x y : D} {Q2 : V → V → Hp → Prop} (R : Rel K F ρ σ H) (e : ev2 fa fb ρ = some (x, y, ρ2))
    (k : ∀ F2 H2 v w, Mv K F H ρ σ F2 H2 ρ2 σ → RB K F2 H2 v x → RB K F2 H2 w y → Q2 v w H2) : tA1 K fa σ H fun v H1 => tV K fb σ H1 fun w H2 => Q2 v w H2 := by
  cases fa with
  | nm i =>
    obtain ⟨⟨p, e1⟩, e2, ρ3, e3⟩ := ev2_nm e
    obtain ⟨d0, ρ0⟩ := p
    obtain ⟨_, v, h1, _⟩ := slot_rb R e1
    refine ⟨v, h1, tV.intro R e2 fun F1 H1 w M r => ?_⟩
    obtain ⟨_, v', h1', rv⟩ := slot_rb M.rel e3
    rw [h1] at h1'
    cases h1'
    exact k F1 H1 v w M rv r
  | ex f =>
    obtain ⟨ρ1, e1, e2⟩ := ev2_ex e
    exact tE.val R e1 fun F1 H1 v M1 r1 => tV.intro M1.rel e2 fun F2 H2 w M2 r2 => k F2 H2 v w (M1.trans M2) ((r1.same M2.stp.fr).rb M2.rel.same) r2

/-- an operation on two values as data -/
def OpD (X : Cx) (f : Value → Value → Sem Value) (g : D → D → Option Sl) : Prop :=
  ∀ (pins : List (Addr × Obj)) (s : Shared) (σ : Sig) (H F : Hp) (ρ : Rho) (x y : V) (v u : Value) (dx dy : D) (r : Sl) (Q : VK), Inv X pins σ H s → Rel X.K F ρ σ H → RelV x v → RelV y u → RB X.K F H x dx → RB X.K F H y dy → g dx dy = some r →
    (∀ F' H' v', Mv X.K F H ρ σ F' H' ρ σ → RV X.K F' H' (Own ρ σ) H (Own ρ σ) v' r → Q v' H') → wpAny (model X.prog X.w) X.A (f v u) (EP X pins σ Q) X.xe s
def bin2 (g : D → D → Option Sl) (fa : A1) (fb : DM) : EM := fun ρ => match ev2 fa fb ρ with
  | some (x, y, ρ2) => match g x y with
    | some r => some (r, ρ2)
    | none => none
  | none => none
theorem bin2_inv {g : D → D → Option Sl} {fa : A1} {fb : DM} {ρ ρ2 : Rho} {r : Sl} (e : bin2 g fa fb ρ = some (r, ρ2)) : ∃ x y, ev2 fa fb ρ = some (x, y, ρ2) ∧ g x y = some r := by
  unfold bin2 at e
  cases e1 : ev2 fa fb ρ with
  | none => rw [e1] at e; cases e
  | some p =>
    obtain ⟨x, y, ρ3⟩ := p
    rw [e1] at e
    simp only at e
    cases e2 : g x y with
    | none => rw [e2] at e; cases e
    | some r' => rw [e2] at e; cases e; exact ⟨x, y, rfl, e2⟩
variable {a b c : Expr} {fa : A1} {fb : DM} {pos : Pos}
theorem RV.mv {K : PySem.W.Frag} {F H F1 H1 F2 H2 : Hp} {ρ ρ1 ρ2 : Rho} {σ σ1 σ2 : Sig} {v : V} {r : Sl} (M : Mv K F H ρ σ F1 H1 ρ1 σ1) (h : RV K F2 H2 (Own ρ2 σ2) H1 (Own ρ1 σ1) v r) : RV K F2 H2 (Own ρ2 σ2) H (Own ρ σ) v r := RV.back M.stp h
theorem px_bin {op : Operator} {g : D → D → Option Sl} (ho : OpD X (binaryOp op) g) (ha : PA1 X a fa) (hb : PV X b fb) : PX X (.BinOp a op b pos) (bin2 g fa fb) := by
  refine ⟨⟨fun pins s σ H Q I h => ?_⟩⟩
  obtain ⟨F, ρ, r, ρ', R, e, k⟩ := h
  obtain ⟨x, y, e1, e2⟩ := bin2_inv e
  refine wpAny_BinOp (binT (R := fun v w H2 => ∃ F2, Mv X.K F H ρ σ F2 H2 ρ' σ ∧ RB X.K F2 H2 v x ∧ RB X.K F2 H2 w y) ha.pe hb.pe I (two R e1 fun F2 H2 v w M r1 r2 => ⟨F2, M, r1, r2⟩) fun v u s2 x' y' H2 I2 rx ry ⟨F2, M, r1, r2⟩ => ?_)
  exact ho pins s2 σ H2 F2 ρ' x' y' v u x y r Q I2 M.rel rx ry r1 r2 e2 fun F' H' v' M' rv => k F' H' v' (M.trans M') (RV.mv M rv)

/-- a comparison: to a bool -/
def OpC (X : Cx) (f : Value → Value → Sem Value) (g : D → D → Option Bool) : Prop := OpD X f fun x y => (g x y).map fun b => .va (.bool b)
def cmpB (g : D → D → Option Bool) : D → D → Option Sl := fun x y => (g x y).map fun b => .va (.bool b)
theorem px_cmp {op : CmpOp} {g : D → D → Option Bool} (ho : OpC X (compareOp op) g) (ha : PA1 X a fa) (hb : PV X b fb) (hm : behindInMarks op b = false := by first | exact nomark _ | rfl) : PX X (.Compare a [op] [b] pos) (bin2 (cmpB g) fa fb) := by
  refine ⟨⟨fun pins s σ H Q I h => ?_⟩⟩
  obtain ⟨F, ρ, r, ρ', R, e, k⟩ := h
  obtain ⟨x, y, e1, e2⟩ := bin2_inv e
  refine wpAny_Compare1 (binT (R := fun v w H2 => ∃ F2, Mv X.K F H ρ σ F2 H2 ρ' σ ∧ RB X.K F2 H2 v x ∧ RB X.K F2 H2 w y) ha.pe hb.pe I (two R e1 fun F2 H2 v w M r1 r2 => ⟨F2, M, r1, r2⟩) fun v u s2 x' y' H2 I2 rx ry ⟨F2, M, r1, r2⟩ => ?_) hm
  exact ho pins s2 σ H2 F2 ρ' x' y' v u x y r Q I2 M.rel rx ry r1 r2 e2 fun F' H' v' M' rv => k F' H' v' (M.trans M') (RV.mv M rv)
def cmpT (g : D → D → Option Bool) (fa : A1) (fb : DM) : TM := fun ρ => match ev2 fa fb ρ with
  | some (x, y, ρ2) => match g x y with
    | some r => some (r, ρ2)
    | none => none
  | none => none
theorem cmpT_inv {g : D → D → Option Bool} {fa : A1} {fb : DM} {ρ ρ2 : Rho} {r : Bool} (e : cmpT g fa fb ρ = some (r, ρ2)) : ∃ x y, ev2 fa fb ρ = some (x, y, ρ2) ∧ g x y = some r := by
  unfold cmpT at e
  cases e1 : ev2 fa fb ρ with
  | none => rw [e1] at e; cases e
  | some p =>
    obtain ⟨x, y, ρ3⟩ := p
    rw [e1] at e
    simp only at e
    cases e2 : g x y with
    | none => rw [e2] at e; cases e
    | some r' => rw [e2] at e; cases e; exact ⟨x, y, rfl, e2⟩
theorem pq_cmp {op : CmpOp} {g : D → D → Option Bool} (ho : OpC X (compareOp op) g) (ha : PA1 X a fa) (hb : PV X b fb) (hm : behindInMarks op b = false := by first | exact nomark _ | rfl) : PQ X (.Compare a [op] [b] pos) (cmpT g fa fb) := by
  refine ⟨⟨fun pins s σ H Q I h => ?_⟩⟩
  obtain ⟨F, ρ, r, ρ', R, e, k⟩ := h
  obtain ⟨x, y, e1, e2⟩ := cmpT_inv e
  have q := two (Q2 := fun v w H2 => ∃ F2, Mv X.K F H ρ σ F2 H2 ρ' σ ∧ RB X.K F2 H2 v x ∧ RB X.K F2 H2 w y) R e1 fun F2 H2 v w M r1 r2 => ⟨F2, M, r1, r2⟩
  refine wpAny_isTrue_Compare1 (thn (ha.pe.run pins s σ H _ I q) fun v s1 ⟨x', H1, I1, r1, q1⟩ => thn (hb.pe.run pins s1 σ H1 _ I1 q1) fun u s2 ⟨y', H2, I2, r2, F2, M, b1, b2⟩ =>
    thn (ho pins s2 σ H2 F2 ρ' x' y' v u x y (.va (.bool r)) (fun v' H' => v' = .bl r ∧ ∃ F', Mv X.K F H ρ σ F' H' ρ' σ) I2 M.rel r1 r2 b1 b2 (by show (g x y).map _ = _; rw [e2]; rfl) fun F' H' v' M' rv => ⟨Rep.bool_inv rv, F', M.trans M'⟩) fun c s3 ⟨z, H3, I3, r3, e3, F3, M3⟩ => ?_) hm
  subst e3
  cases r3
  exact wpAny_truthy_bool ⟨H3, I3, k F3 H3 M3⟩
end
end PL

/-! PL, third part: operators, comparisons, displays, subscripts, built-ins. -/
namespace PL
open PySem PySem.Spec PyProof.Rows L2

section
variable {X : Cx} {pins : List (Addr × Obj)} {s : Shared} {σ : Sig} {H F : Hp} {ρ : Rho} {x y : V} {v u : Value} {Q : VK} {r : Sl}
/-! ### from readings by values -/
theorem RB.int_inv {K : PySem.W.Frag} {i : Int} (h : RB K F H x (.int i)) : x = .int i := Rep.int_inv h
theorem RB.bool_inv {K : PySem.W.Frag} {b : Bool} (h : RB K F H x (.bool b)) : x = .bl b := Rep.bool_inv h
theorem RB.str_inv {K : PySem.W.Frag} {z : Str} (h : RB K F H x (.str z)) : x = .str z := Rep.str_inv h
theorem RB.none_inv {K : PySem.W.Frag} (h : RB K F H x .none) : x = .non := Rep.none_inv h
theorem RB.tup_inv {K : PySem.W.Frag} {ds : List D} (e : Same F H) (h : RB K F H x (.tuple ds)) : ∃ a xs, x = .ref a ∧ SqT K H a xs ∧ RepL K F xs ds := by
  obtain ⟨a, xs, h1, h2, h3⟩ := Rep.tuple_inv h
  exact ⟨a, xs, h1, SqT.same e h2, h3⟩
mutual
theorem Rep.dp {K : PySem.W.Frag} {F H : Hp} (e : Same F H) : ∀ (d : D) (v : V), d.canLay0 = true → Rep K F v d → Dp K H v d
  | .none, _, _, h => by rw [h.none_inv]; exact .non
  | .bool b, _, _, h => by rw [h.bool_inv]; exact .bl b
  | .int i, _, _, h => by rw [h.int_inv]; exact .int i
  | .str x, _, _, h => by rw [h.str_inv]; exact .str x
  | .list ds, _, c, h => by
    obtain ⟨a, xs, rfl, h1, h2⟩ := h.list_inv
    exact .lst (e.seq h1) (RepL.dp e ds xs (by simpa [PyData.canLay0] using c) h2)
  | .tuple ds, _, c, h => by
    obtain ⟨a, xs, rfl, h1, h2⟩ := h.tuple_inv
    exact .tup (SqT.same e h1) (RepL.dp e ds xs (by simpa [PyData.canLay0] using c) h2)
  | .dict _, _, c, _ => by simp [PyData.canLay0] at c
theorem RepL.dp {K : PySem.W.Frag} {F H : Hp} (e : Same F H) : ∀ (ds : List D) (vs : List V), PyData.canLayAll0 ds = true → RepL K F vs ds → DpAll K H vs ds
  | [], _, _, h => by rw [h.nil_inv]; exact .nil
  | d :: ds, _, c, h => by
    obtain ⟨v, r, rfl, h1, h2⟩ := h.cons_inv
    simp only [PyData.canLayAll0, Bool.and_eq_true] at c
    exact .cons (Rep.dp e d v c.1 h1) (RepL.dp e ds r c.2 h2)
end
theorem RB.dp {K : PySem.W.Frag} (e : Same F H) {d : D} (c : d.canLay0 = true) (h : RB K F H x d) : Dp K H x d := by
  cases d with
  | list ds =>
    obtain ⟨a, xs, rfl, h1, h2⟩ := h
    exact .lst h1 (RepL.dp e ds xs (by simpa [PyData.canLay0] using c) h2)
  | dict _ => simp [PyData.canLay0] at c
  | none => exact Rep.dp e _ _ c h
  | bool b => exact Rep.dp e _ _ c h
  | int b => exact Rep.dp e _ _ c h
  | str b => exact Rep.dp e _ _ c h
  | tuple b => exact Rep.dp e _ _ c h
/-- the ways a result comes -/
def Res (X : Cx) (F H : Hp) (ρ : Rho) (σ : Sig) (r : Sl) (Q : VK) : Prop := ∀ F' H' v', Mv X.K F H ρ σ F' H' ρ σ → RV X.K F' H' (Own ρ σ) H (Own ρ σ) v' r → Q v' H'
theorem Res.va {d : D} (R : Rel X.K F ρ σ H) (k : Res X F H ρ σ (.va d) Q) {z : V} (h : Rep X.K F z d) : Q z H := k F H z (Mv.refl R) h
theorem Res.newl {ds : List D} {vs : List V} (R : Rel X.K F ρ σ H) (k : Res X F H ρ σ (.ow .loc (.lst ds)) Q) (h : RepL X.K F vs ds) {p : Addr} (hp : H p = none) : Q (.ref p) (upd H p (.lst vs)) :=
  k F _ _ (Mv.temp R hp) ⟨p, rfl, R.same.free hp, ⟨vs, upd_same, h⟩, fun q => (R.own_some q).1 hp, .inl hp⟩
theorem Res.newt {ds : List D} {vs : List V} (R : Rel X.K F ρ σ H) (k : Res X F H ρ σ (.va (.tuple ds)) Q) (h : RepL X.K F vs ds) {p : Addr} (hp : H p = none) : Q (.ref p) (upd H p (.tup vs)) :=
  k _ _ _ (Mv.newv R hp) (.tup (.inl (.inl upd_same)) (h.same (same_new (R.same.free hp))))
end

/-! ### arithmetic -/
def CMulX (i j : Int) : Prop := i.natAbs.log2 + j.natAbs.log2 < 100000000
instance (i j : Int) : Decidable (CMulX i j) := by unfold CMulX; exact inferInstance
theorem CMulX.ok {i j : Int} (h : CMulX i j) : IntMulOk i j := by
  have b : ∀ x : Int, Builtin.Int.intBits x ≤ x.natAbs.log2 + 1 := fun x => by
    unfold Builtin.Int.intBits
    split <;> omega
  have h1 := b i
  have h2 := b j
  have h3 : i.natAbs.log2 + j.natAbs.log2 < 100000000 := h
  have e : bitsLine = 134217728 := by decide
  unfold IntMulOk
  intro z
  rw [Bool.and_eq_true] at z
  have z2 := z.2
  unfold Builtin.Int.intTooBig at z2
  have z3 := of_decide_eq_true z2
  rw [e] at z3
  omega
def addD : D → D → Option Sl
  | .int i, .int j => some (.va (.int (i + j)))
  | .str i, .str j => if i.length + j.length ≤ sizeLine then some (.va (.str (i ++ j))) else none
  | .list xs, .list ys => if xs.length + ys.length ≤ sizeLine then some (.ow .loc (.lst (xs ++ ys))) else none
  | .tuple xs, .tuple ys => if xs.length + ys.length ≤ sizeLine then some (.va (.tuple (xs ++ ys))) else none
  | _, _ => none
def subD : D → D → Option Sl
  | .int i, .int j => some (.va (.int (i - j)))
  | _, _ => none
def mulD : D → D → Option Sl
  | .int i, .int j => if CMulX i j then some (.va (.int (i * j))) else none
  | .list xs, .int j => if j.natAbs < 2 ^ 62 ∧ xs.length * j.toNat ≤ sizeLine then some (.ow .loc (.lst (List.replicate j.toNat xs).flatten)) else none
  | _, _ => none
def fdivD : D → D → Option Sl
  | .int i, .int j => if 0 < j ∧ j.natAbs.log2 < 9000 then some (.va (.int (i / j))) else none
  | _, _ => none
def modD : D → D → Option Sl
  | .int i, .int j => if 0 < j then some (.va (.int (i % j))) else none
  | _, _ => none
def powD : D → D → Option Sl
  | .int i, .int j => if 0 ≤ j ∧ j.natAbs ≤ 1000000 ∧ i.natAbs < 2 ^ 64 then some (.va (.int (i ^ j.toNat))) else none
  | _, _ => none
def shlD : D → D → Option Sl
  | .int i, .int j => if 0 ≤ j ∧ j.natAbs ≤ 1000000 ∧ i.natAbs < 2 ^ 64 then some (.va (.int (i * 2 ^ j.toNat))) else none
  | _, _ => none
def shrD : D → D → Option Sl
  | .int i, .int j => if 0 ≤ j then some (.va (.int (i / 2 ^ j.toNat))) else none
  | _, _ => none
section
variable {X : Cx}
theorem add_listX {prog : Program} {w : World} {A : Around} {E : Value → Shared → Prop} {s : Shared} {l b : Addr} {vs ws : List Value} {Q : Value → Shared → Prop} (hl : s.heap.IsList l vs.toArray) (hb : s.heap.IsList b ws.toArray)
    (h : Q (.ref s.heap.objs.size) { s with heap := s.heap.push { cls := .type "list", data := .seq (vs ++ ws).toArray } }) (hsz : vs.length + ws.length ≤ sizeLine) : wpAny (model prog w) A (binaryOp .Add (.ref l) (.ref b)) Q E s := by
  obtain ⟨⟨cls, dd, data, sl⟩, ho, hc, n, hd⟩ := id hl
  obtain ⟨⟨cls2, dd2, data2, sl2⟩, ho2, hc2, n2, hd2⟩ := id hb
  simp only at hc hd hc2 hd2
  subst hc hd hc2 hd2
  have e : vs.toArray ++ ws.toArray = (vs ++ ws).toArray := by simp
  refine concat_meets ⟨_, ho, rfl⟩ ⟨_, ho2, rfl⟩ noFill_list_add seq_list_add PySem.F.slot_list_add PySem.F.entry_list_add (PySem.F.args_list_add_2 _ _) (list_addW l b vs.toArray ws.toArray n n2 dd dd2 sl sl2 (by simpa using hsz)) ⟨ho, ho2, ?_⟩
  rw [e]
  exact h
theorem opd_add : OpD X (binaryOp .Add) addD := by
  intro pins s σ H F ρ x y v u dx dy r Q I R rx ry bx byy e k
  unfold addD at e
  split at e
  · cases e
    rw [bx.int_inv] at rx
    rw [byy.int_inv] at ry
    exact op_add pins s σ H _ _ v u Q I rx ry ⟨_, _, rfl, rfl, Res.va R k (.int _)⟩
  · rw [bx.str_inv] at rx
    rw [byy.str_inv] at ry
    split at e
    · rename_i hz
      cases e
      exact op_add_str pins s σ H _ _ v u Q I rx ry ⟨_, _, rfl, rfl, hz, Res.va R k (.str _)⟩
    · cases e
  · split at e
    · rename_i xs ys hz
      cases e
      obtain ⟨a, vs, rfl, h1, h2⟩ := bx
      obtain ⟨b, ws, rfl, h3, h4⟩ := byy
      cases rx
      cases ry
      obtain ⟨i1, r1, p1, z1⟩ := I.list h1
      obtain ⟨i2, r2, p2, z2⟩ := I.list h3
      have l1 := h2.length
      have l2 := h4.length
      have m1 := r1.length
      have m2 := r2.length
      refine add_listX p1.isList p2.isList ?_ (by omega)
      exact ⟨.ref _, _, I.lnew (t' := s.toks) (r1.append r2) (by rw [List.length_append]; omega), rfl, Res.newl R k (h2.append h4) I.fresh⟩
    · cases e
  · split at e
    · rename_i xs ys hz
      cases e
      obtain ⟨a, vs, rfl, h1, h2⟩ := RB.tup_inv R.same bx
      obtain ⟨b, ws, rfl, h3, h4⟩ := RB.tup_inv R.same byy
      have l1 := h2.length
      have l2 := h4.length
      refine op_catA pins s σ H _ _ v u Q I rx ry ⟨a, b, vs, ws, rfl, rfl, h1, h3, by omega, fun z => ?_, fun z z2 => ?_, fun _ _ p hp => Res.newt R k (h2.append h4) hp⟩
      · subst z
        cases h2
        exact Res.va R k byy
      · subst z2
        cases h4
        rw [List.append_nil] at k
        exact Res.va R k bx
    · cases e
  · cases e
theorem opd_sub : OpD X (binaryOp .Sub) subD := by
  intro pins s σ H F ρ x y v u dx dy r Q I R rx ry bx byy e k
  unfold subD at e
  split at e
  · cases e
    rw [bx.int_inv] at rx
    rw [byy.int_inv] at ry
    exact op_sub pins s σ H _ _ v u Q I rx ry ⟨_, _, rfl, rfl, Res.va R k (.int _)⟩
  · cases e
theorem op_mulX : OpR X (binaryOp .Mult) (rI CMulX fun i j => .int (i * j)) := opI fun _ _ _ _ _ _ _ hc q => mul_int q hc.ok
theorem mul_listX {prog : Program} {w : World} {A : Around} {E : Value → Shared → Prop} {s : Shared} {l : Addr} {vs : List Value} {x : Int} {u : Tok} {Q : Value → Shared → Prop} (hl : s.heap.IsList l vs.toArray)
    (hlo : -(2 ^ 63 : Int) ≤ x) (hhi : x < 2 ^ 63) (hsz : vs.length * x.toNat ≤ 2 ^ 24)
    (h : Q (.ref s.heap.objs.size) { s with heap := s.heap.push { cls := .type "list", data := .seq (List.replicate x.toNat vs).flatten.toArray } }) : wpAny (model prog w) A (binaryOp .Mult (.ref l) (.int x u)) Q E s := by
  obtain ⟨⟨cls, d, data, sl⟩, ho, hcl, k, hd⟩ := id hl
  simp only at hcl hd
  subst hcl hd
  have hsz' : vs.toArray.size * x.toNat ≤ 2 ^ 24 := by simpa using hsz
  refine wpAny_binaryOp_repeat_ref (T := "list") (U := "int") (by decide) ⟨_, ho, rfl⟩ (fun s' => typeIs_int s' x u) noFill_list_mul PySem.F.fills_int_mul PySem.F.slot_int_rmul repeat_list PySem.F.slot_int_index.lookup
    (call_meets PySem.F.slot_int_rmul (typeIs_int s x u) PySem.F.entry_int_rmul (PySem.F.args_int_rmul_2 _ _) (lm_int_rmul_list_any x u l vs.toArray k d sl)
      ⟨ho, rfl, ⟨_, ho, rfl⟩, call_meets PySem.F.slot_list_mul ⟨_, ho, rfl⟩ PySem.F.entry_list_mul (PySem.F.args_list_mul_2 _ _)
        (lm_list_mul_any l vs.toArray k d sl x u (by simp [Builtin.List.listFitsIndex]; omega) (by omega) (by simp [Builtin.List.listTooLong, sizeLine]; omega))
        ⟨ho, ?_⟩⟩)
  rw [listMul_foldl_if]
  exact h
theorem repVals : ∀ (m : Nat) {vs : List V} {us : List Value}, Vals vs us → Vals (List.replicate m vs).flatten (List.replicate m us).flatten
  | 0, _, _, _ => .nil
  | m + 1, _, _, h => by
    rw [List.replicate_succ, List.replicate_succ, List.flatten_cons, List.flatten_cons]
    exact h.append (repVals m h)
theorem repRepL {K : PySem.W.Frag} {F : Hp} : ∀ (m : Nat) {vs : List V} {ds : List D}, RepL K F vs ds → RepL K F (List.replicate m vs).flatten (List.replicate m ds).flatten
  | 0, _, _, _ => .nil
  | m + 1, _, _, h => by
    rw [List.replicate_succ, List.replicate_succ, List.flatten_cons, List.flatten_cons]
    exact h.append (repRepL m h)
theorem rep_len {α : Type} (m : Nat) (xs : List α) : (List.replicate m xs).flatten.length = xs.length * m := by
  induction m with
  | zero => simp
  | succ m ih => rw [List.replicate_succ, List.flatten_cons, List.length_append, ih, Nat.mul_succ, Nat.add_comm]
theorem opd_mul : OpD X (binaryOp .Mult) mulD := by
  intro pins s σ H F ρ x y v u dx dy r Q I R rx ry bx byy e k
  unfold mulD at e
  split at e
  · split at e
    · rename_i hc
      cases e
      rw [bx.int_inv] at rx
      rw [byy.int_inv] at ry
      exact op_mulX pins s σ H _ _ v u Q I rx ry ⟨_, _, rfl, rfl, hc, Res.va R k (.int _)⟩
    · cases e
  · split at e
    · rename_i xs j hc
      cases e
      obtain ⟨a, vs, rfl, h1, h2⟩ := bx
      rw [byy.int_inv] at ry
      cases rx
      obtain ⟨t, rfl⟩ := ry
      obtain ⟨i1, r1, p1, z1⟩ := I.list h1
      have l1 := h2.length
      have m1 := r1.length
      have hz : vs.length * j.toNat ≤ sizeLine := by rw [l1]; exact hc.2
      refine mul_listX p1.isList (by omega) (by omega) (by rw [← m1]; exact hz) ?_
      exact ⟨.ref _, _, I.lnew (t' := s.toks) (repVals _ r1) (by rw [rep_len]; exact hz), rfl, Res.newl R k (repRepL _ h2) I.fresh⟩
    · cases e
  · cases e
theorem opd_fdiv : OpD X (binaryOp .FloorDiv) fdivD := by
  intro pins s σ H F ρ x y v u dx dy r Q I R rx ry bx byy e k
  unfold fdivD at e
  split at e
  · split at e
    · rename_i hc
      cases e
      rw [bx.int_inv] at rx
      rw [byy.int_inv] at ry
      exact op_fdivW pins s σ H _ _ v u Q I rx ry ⟨_, _, rfl, rfl, hc, Res.va R k (.int _)⟩
    · cases e
  · cases e
theorem opd_mod : OpD X (binaryOp .Mod) modD := by
  intro pins s σ H F ρ x y v u dx dy r Q I R rx ry bx byy e k
  unfold modD at e
  split at e
  · split at e
    · rename_i hc
      cases e
      rw [bx.int_inv] at rx
      rw [byy.int_inv] at ry
      exact op_mod pins s σ H _ _ v u Q I rx ry ⟨_, _, rfl, rfl, hc, Res.va R k (.int _)⟩
    · cases e
  · cases e
theorem opd_pow : OpD X (binaryOp .Pow) powD := by
  intro pins s σ H F ρ x y v u dx dy r Q I R rx ry bx byy e k
  unfold powD at e
  split at e
  · split at e
    · rename_i hc
      cases e
      rw [bx.int_inv] at rx
      rw [byy.int_inv] at ry
      exact op_pow pins s σ H _ _ v u Q I rx ry ⟨_, _, rfl, rfl, ⟨hc.1, by omega, hc.2.2⟩, Res.va R k (.int _)⟩
    · cases e
  · cases e
theorem opd_shl : OpD X (binaryOp .LShift) shlD := by
  intro pins s σ H F ρ x y v u dx dy r Q I R rx ry bx byy e k
  unfold shlD at e
  split at e
  · split at e
    · rename_i hc
      cases e
      rw [bx.int_inv] at rx
      rw [byy.int_inv] at ry
      exact op_shl pins s σ H _ _ v u Q I rx ry ⟨_, _, rfl, rfl, ⟨hc.1, by omega, hc.2.2⟩, Res.va R k (.int _)⟩
    · cases e
  · cases e
theorem opd_shr : OpD X (binaryOp .RShift) shrD := by
  intro pins s σ H F ρ x y v u dx dy r Q I R rx ry bx byy e k
  unfold shrD at e
  split at e
  · split at e
    · rename_i hc
      cases e
      rw [bx.int_inv] at rx
      rw [byy.int_inv] at ry
      exact op_shr pins s σ H _ _ v u Q I rx ry ⟨_, _, rfl, rfl, hc, Res.va R k (.int _)⟩
    · cases e
  · cases e

/-! ### comparisons -/
def eqC (x y : D) : Option Bool := if SeqAt.shaped x = true ∧ SeqAt.shaped y = true then some (PyData.eqv x y) else none
def neC (x y : D) : Option Bool := if SeqAt.shaped x = true ∧ SeqAt.shaped y = true then some (!PyData.eqv x y) else none
def ltC : D → D → Option Bool
  | .int i, .int j => some (decide (i < j))
  | _, _ => none
def leC : D → D → Option Bool
  | .int i, .int j => some (decide (i ≤ j))
  | _, _ => none
def gtC : D → D → Option Bool
  | .int i, .int j => some (decide (j < i))
  | _, _ => none
def geC : D → D → Option Bool
  | .int i, .int j => some (decide (j ≤ i))
  | _, _ => none
def isC : D → D → Option Bool
  | .none, .none => some true
  | _, .none => some false
  | .bool a, .bool b => some (a == b)
  | _, .bool _ => some false
  | _, _ => none
def isntC (x y : D) : Option Bool := (isC x y).map (!·)
theorem opc_eq (hu : X.A.units + 64 < cLine) : OpC X (compareOp .Eq) eqC := by
  intro pins s σ H F ρ x y v u dx dy r Q I R rx ry bx byy e k
  have e : (eqC dx dy).map _ = some r := e
  unfold eqC at e
  split at e
  · rename_i h
    cases e
    exact op_eqD hu pins s σ H _ _ v u Q I rx ry ⟨dx, dy, bx.dp R.same (SeqAt.canLay_of_shaped h.1), byy.dp R.same (SeqAt.canLay_of_shaped h.2), h.1, h.2, Res.va R k (.bl _)⟩
  · cases e
theorem opc_ne (hu : X.A.units + 64 < cLine) : OpC X (compareOp .NotEq) neC := by
  intro pins s σ H F ρ x y v u dx dy r Q I R rx ry bx byy e k
  have e : (neC dx dy).map _ = some r := e
  unfold neC at e
  split at e
  · rename_i h
    cases e
    exact op_neD hu pins s σ H _ _ v u Q I rx ry ⟨dx, dy, bx.dp R.same (SeqAt.canLay_of_shaped h.1), byy.dp R.same (SeqAt.canLay_of_shaped h.2), h.1, h.2, Res.va R k (.bl _)⟩
  · cases e
theorem opc_lt : OpC X (compareOp .Lt) ltC := by
  intro pins s σ H F ρ x y v u dx dy r Q I R rx ry bx byy e k
  have e : (ltC dx dy).map _ = some r := e
  unfold ltC at e
  split at e
  · cases e
    rw [bx.int_inv] at rx
    rw [byy.int_inv] at ry
    exact op_lt pins s σ H _ _ v u Q I rx ry ⟨_, _, rfl, rfl, Res.va R k (.bl _)⟩
  · cases e
theorem opc_le : OpC X (compareOp .LtE) leC := by
  intro pins s σ H F ρ x y v u dx dy r Q I R rx ry bx byy e k
  have e : (leC dx dy).map _ = some r := e
  unfold leC at e
  split at e
  · cases e
    rw [bx.int_inv] at rx
    rw [byy.int_inv] at ry
    exact op_le pins s σ H _ _ v u Q I rx ry ⟨_, _, rfl, rfl, Res.va R k (.bl _)⟩
  · cases e
theorem opc_gt : OpC X (compareOp .Gt) gtC := by
  intro pins s σ H F ρ x y v u dx dy r Q I R rx ry bx byy e k
  have e : (gtC dx dy).map _ = some r := e
  unfold gtC at e
  split at e
  · cases e
    rw [bx.int_inv] at rx
    rw [byy.int_inv] at ry
    exact op_gt pins s σ H _ _ v u Q I rx ry ⟨_, _, rfl, rfl, Res.va R k (.bl _)⟩
  · cases e
theorem opc_ge : OpC X (compareOp .GtE) geC := by
  intro pins s σ H F ρ x y v u dx dy r Q I R rx ry bx byy e k
  have e : (geC dx dy).map _ = some r := e
  unfold geC at e
  split at e
  · cases e
    rw [bx.int_inv] at rx
    rw [byy.int_inv] at ry
    exact op_ge pins s σ H _ _ v u Q I rx ry ⟨_, _, rfl, rfl, Res.va R k (.bl _)⟩
  · cases e
def isNon : D → Bool
  | .none => true
  | _ => false
theorem rb_none {K : PySem.W.Frag} {F H : Hp} {x : V} {d : D} (h : RB K F H x d) : decide (x = V.non) = isNon d := by
  cases d with
  | none => rw [h.none_inv]; rfl
  | bool b => rw [h.bool_inv]; rfl
  | int i => rw [h.int_inv]; rfl
  | str z => rw [h.str_inv]; rfl
  | list ds => obtain ⟨a, xs, rfl, _⟩ := h; rfl
  | tuple ds => obtain ⟨a, xs, rfl, _⟩ := Rep.tuple_inv h; rfl
  | dict kvs => obtain ⟨a, _, _, _, rfl, _⟩ := h; rfl
theorem isC_none {d : D} : isC d .none = some (isNon d) := by cases d <;> rfl
theorem plain_bool {K : PySem.W.Frag} {F H : Hp} {x : V} {d : D} {v : Value} {b : Bool} (h : RB K F H x d) (r : RelV x v) : isC d (.bool b) = some (v == .bool b) ∧ plainIs v (.bool b) = true := by
  have ne : ∀ {v : Value}, v ≠ .bool b → (v == .bool b) = false := fun h => beq_eq_false_iff_ne.mpr h
  cases d with
  | none =>
    rw [h.none_inv] at r
    cases r
    exact ⟨by rw [ne (by intro z; cases z)]; rfl, rfl⟩
  | bool c =>
    rw [h.bool_inv] at r
    cases r
    refine ⟨?_, rfl⟩
    show some (c == b) = _
    cases c <;> cases b <;> rfl
  | int i =>
    rw [h.int_inv] at r
    obtain ⟨t, rfl⟩ := r
    exact ⟨by rw [ne (by intro z; cases z)]; rfl, rfl⟩
  | str z =>
    rw [h.str_inv] at r
    obtain ⟨t, rfl⟩ := r
    exact ⟨by rw [ne (by intro z; cases z)]; rfl, rfl⟩
  | list ds =>
    obtain ⟨a, xs, rfl, _⟩ := h
    cases r
    exact ⟨by rw [ne (by intro z; cases z)]; rfl, rfl⟩
  | tuple ds =>
    obtain ⟨a, xs, rfl, _⟩ := Rep.tuple_inv h
    cases r
    exact ⟨by rw [ne (by intro z; cases z)]; rfl, rfl⟩
  | dict kvs =>
    obtain ⟨a, _, _, _, rfl, _⟩ := h
    cases r
    exact ⟨by rw [ne (by intro z; cases z)]; rfl, rfl⟩
theorem isC_some {x y : D} {b : Bool} (h : isC x y = some b) : y = .none ∨ ∃ c, y = .bool c := by
  unfold isC at h
  split at h <;> first | exact .inl rfl | exact .inr ⟨_, rfl⟩ | cases h
theorem opc_is : OpC X (compareOp .Is) isC := by
  intro pins s σ H F ρ x y v u dx dy r Q I R rx ry bx byy e k
  have e : (isC dx dy).map _ = some r := e
  obtain ⟨b, eb, rfl⟩ := Option.map_eq_some_iff.mp e
  rcases isC_some eb with rfl | ⟨c, rfl⟩
  · rw [isC_none] at eb
    rw [byy.none_inv] at ry
    refine op_isN pins s σ H _ _ v u Q I rx ry ⟨rfl, ?_⟩
    rw [rb_none bx, Option.some.inj eb]
    exact Res.va R k (.bl _)
  · obtain ⟨e1, e2⟩ := plain_bool (b := c) bx rx
    rw [e1] at eb
    rw [byy.bool_inv] at ry
    cases ry
    refine wpAny_is_plain e2 ⟨.bl b, H, I, ?_, Res.va R k (.bl _)⟩
    rw [← Option.some.inj eb]
    rfl
theorem wpAny_isNot_plain' {M : Model} {A : Around} {E : Value → Shared → Prop} {s : Shared} {a b : Value} {Q : Value → Shared → Prop} (hp : plainIs a b = true) (h : Q (.bool (!(a == b))) s) : wpAny M A (compareOp .IsNot a b) Q E s := by
  by_cases e : a = b
  · subst e
    exact wpAny_isNot_self hp (by simpa using h)
  · exact wpAny_isNot_other hp e (by
      have : (a == b) = false := beq_eq_false_iff_ne.mpr e
      rw [this] at h
      exact h)
theorem opc_isnt : OpC X (compareOp .IsNot) isntC := by
  intro pins s σ H F ρ x y v u dx dy r Q I R rx ry bx byy e k
  have e : (isntC dx dy).map _ = some r := e
  obtain ⟨b, eb, rfl⟩ := Option.map_eq_some_iff.mp e
  obtain ⟨b', eb', rfl⟩ := Option.map_eq_some_iff.mp eb
  rcases isC_some eb' with rfl | ⟨c, rfl⟩
  · rw [isC_none] at eb'
    rw [byy.none_inv] at ry
    refine op_notN pins s σ H _ _ v u Q I rx ry ⟨rfl, ?_⟩
    rw [rb_none bx, Option.some.inj eb']
    exact Res.va R k (.bl _)
  · obtain ⟨e1, e2⟩ := plain_bool (b := c) bx rx
    rw [e1] at eb'
    rw [byy.bool_inv] at ry
    cases ry
    refine wpAny_isNot_plain' e2 ⟨.bl (!b'), H, I, ?_, Res.va R k (.bl _)⟩
    rw [← Option.some.inj eb']
    rfl
end
end PL

/-! PL, fourth part: tests, displays, subscripts, slices, built-ins. -/
namespace PL
open PySem PySem.Spec PyProof.Rows L2

/-! ### truth, and, or, not -/
def truD : D → Option Bool
  | .none => some false
  | .bool b => some b
  | .int i => some (i != 0)
  | .str z => if z.length ≤ sizeLine then some ((z.length : Int) != 0) else none
  | .list xs => some (!xs.isEmpty)
  | .tuple xs => some (!xs.isEmpty)
  | .dict _ => none
def truT (f : DM) : TM := fun ρ => match f ρ with
  | some (d, ρ1) => match truD d with
    | some b => some (b, ρ1)
    | none => none
  | none => none
def andT (f g : TM) : TM := fun ρ => match f ρ with
  | some (true, ρ1) => g ρ1
  | r => r
def orT (f g : TM) : TM := fun ρ => match f ρ with
  | some (false, ρ1) => g ρ1
  | r => r
def notT (f : TM) : TM := fun ρ => match f ρ with
  | some (b, ρ1) => some (!b, ρ1)
  | none => none
/-- .. as values: bools -/
def andV (f g : EM) : EM := fun ρ => match f ρ with
  | some (.va (.bool true), ρ1) => g ρ1
  | some (.va (.bool false), ρ1) => some (.va (.bool false), ρ1)
  | _ => none
def orV (f g : EM) : EM := fun ρ => match f ρ with
  | some (.va (.bool false), ρ1) => g ρ1
  | some (.va (.bool true), ρ1) => some (.va (.bool true), ρ1)
  | _ => none
def notV (f : EM) : EM := fun ρ => match f ρ with
  | some (.va (.bool b), ρ1) => some (.va (.bool (!b)), ρ1)
  | _ => none
def ifE (c : TM) (f g : EM) : EM := fun ρ => match c ρ with
  | some (true, ρ1) => f ρ1
  | some (false, ρ1) => g ρ1
  | none => none
section
variable {K : PySem.W.Frag} {F H : Hp} {ρ ρ1 : Rho} {σ : Sig}
theorem RepL.empty {vs : List V} {ds : List D} (h : RepL K F vs ds) : vs.isEmpty = ds.isEmpty := by cases h <;> rfl
theorem RB.tru {v : V} {d : D} {b : Bool} (e : Same F H) (h : RB K F H v d) (t : truD d = some b) : TruV K v H b := by
  cases d with
  | none => rw [h.none_inv]; cases t; rfl
  | bool c => rw [h.bool_inv]; cases t; rfl
  | int i => rw [h.int_inv]; cases t; rfl
  | str z =>
    rw [h.str_inv]
    simp only [truD] at t
    split at t
    · rename_i hz
      cases t
      exact ⟨hz, rfl⟩
    · cases t
  | list ds =>
    obtain ⟨a, xs, rfl, h1, h2⟩ := h
    cases t
    exact .inl ⟨xs, h1, by rw [h2.empty]⟩
  | tuple ds =>
    obtain ⟨a, xs, rfl, h1, h2⟩ := RB.tup_inv e h
    cases t
    exact .inr (.inl ⟨xs, h1, by rw [h2.empty]⟩)
  | dict kvs => cases t
theorem truT_inv {f : DM} {b : Bool} (e : truT f ρ = some (b, ρ1)) : ∃ d, f ρ = some (d, ρ1) ∧ truD d = some b := by
  unfold truT at e
  split at e
  · rename_i d ρ2 e1
    split at e
    · rename_i b' e2
      cases e
      exact ⟨d, e1, e2⟩
    · cases e
  · cases e
end
section
variable {X : Cx} {a b c : Expr} {pos : Pos} {rest : List Expr}
theorem PV.q {f : DM} (h : PV X a f) (he : ∀ whole, isTrue a X.env whole = (do let v ← whole; standAt a.pos; holding [v] (truthy v)) := by intro _; rfl) : PQ X a (truT f) :=
  ⟨(pt_truth h.pe he).weak fun σ H Q ⟨F, ρ, b, ρ', R, e, k⟩ => by
    obtain ⟨d, e1, e2⟩ := truT_inv e
    exact tV.intro R e1 fun F1 H1 x M r => ⟨b, RB.tru M.rel.same r e2, k F1 H1 M⟩⟩
theorem pq_not {f : TM} (h : PQ X a f) : PQ X (.UnaryOp .Not a pos) (notT f) :=
  ⟨(pt_not h.pt).weak fun σ H Q ⟨F, ρ, b, ρ', R, e, k⟩ => by
    unfold notT at e
    split at e
    · rename_i b' ρ1 e1
      cases e
      exact tQ.intro R e1 fun F1 H1 M => k F1 H1 M
    · cases e⟩
theorem pqw_and1 {f : TM} (h : PQ X a f) : PQW X (.BoolOp .And [a] pos) f := ⟨pw_and1 h.pt⟩
theorem pqw_or1 {f : TM} (h : PQ X a f) : PQW X (.BoolOp .Or [a] pos) f := ⟨pw_or1 h.pt⟩
theorem _root_.L2.PW.weak {X : Cx} {e : Expr} {t t' : TT} (h : PW X e t) (w : ∀ σ H Q, t' σ H Q → t σ H Q) : PW X e t' := ⟨fun wh pins s σ H Q I q => h.run wh pins s σ H Q I (w σ H Q q)⟩
theorem pqw_and {f g : TM} (h : PQ X a f) (h2 : PQW X (.BoolOp .And (b :: rest) pos) g) : PQW X (.BoolOp .And (a :: b :: rest) pos) (andT f g) :=
  ⟨(pw_and h.pt h2.pw).weak fun σ H Q ⟨F, ρ, c, ρ', R, e, k⟩ => by
    unfold andT at e
    split at e
    · rename_i ρ1 e1
      exact tQ.intro R e1 fun F1 H1 M => by
        rw [if_pos rfl]
        exact tQ.intro M.rel e fun F2 H2 M2 => k F2 H2 (M.trans M2)
    · rename_i hn
      cases c with
      | true => exact absurd e (hn _)
      | false =>
        exact tQ.intro R e fun F1 H1 M => by
          rw [if_neg Bool.false_ne_true]
          exact k F1 H1 M⟩
theorem pqw_or {f g : TM} (h : PQ X a f) (h2 : PQW X (.BoolOp .Or (b :: rest) pos) g) : PQW X (.BoolOp .Or (a :: b :: rest) pos) (orT f g) :=
  ⟨(pw_or h.pt h2.pw).weak fun σ H Q ⟨F, ρ, c, ρ', R, e, k⟩ => by
    unfold orT at e
    split at e
    · rename_i ρ1 e1
      exact tQ.intro R e1 fun F1 H1 M => by
        rw [if_neg Bool.false_ne_true]
        exact tQ.intro M.rel e fun F2 H2 M2 => k F2 H2 (M.trans M2)
    · rename_i hn
      cases c with
      | false => exact absurd e (hn _)
      | true =>
        exact tQ.intro R e fun F1 H1 M => by
          rw [if_pos rfl]
          exact k F1 H1 M⟩
theorem px_one {op} {f : EM} (h : PX X a f) : PX X (.BoolOp op [a] pos) f := ⟨pe_one h.pe⟩
theorem RV.bool {K : PySem.W.Frag} {F H H0 : Hp} {O O0 : Addr → Prop} {v : V} {b : Bool} (h : RV K F H O H0 O0 v (.va (.bool b))) : v = .bl b := Rep.bool_inv h
theorem px_and {f g : EM} (h : PX X a f) (h2 : PX X (.BoolOp .And (b :: rest) pos) g) : PX X (.BoolOp .And (a :: b :: rest) pos) (andV f g) :=
  ⟨(pe_and h.pe h2.pe).weak fun σ H Q ⟨F, ρ, c, ρ', R, e, k⟩ => by
    unfold andV at e
    split at e
    · rename_i ρ1 e1
      exact tE.intro R e1 fun F1 H1 x M r => ⟨true, r.bool, by
        rw [if_pos rfl]
        exact tE.intro M.rel e fun F2 H2 y M2 r2 => k F2 H2 y (M.trans M2) (RV.mv M r2)⟩
    · rename_i ρ1 e1
      cases e
      exact tE.intro R e1 fun F1 H1 x M r => ⟨false, r.bool, by
        rw [if_neg Bool.false_ne_true]
        exact k F1 H1 _ M (.bl false)⟩
    · cases e⟩
theorem px_or {f g : EM} (h : PX X a f) (h2 : PX X (.BoolOp .Or (b :: rest) pos) g) : PX X (.BoolOp .Or (a :: b :: rest) pos) (orV f g) :=
  ⟨(pe_or h.pe h2.pe).weak fun σ H Q ⟨F, ρ, c, ρ', R, e, k⟩ => by
    unfold orV at e
    split at e
    · rename_i ρ1 e1
      exact tE.intro R e1 fun F1 H1 x M r => ⟨false, r.bool, by
        rw [if_neg Bool.false_ne_true]
        exact tE.intro M.rel e fun F2 H2 y M2 r2 => k F2 H2 y (M.trans M2) (RV.mv M r2)⟩
    · rename_i ρ1 e1
      cases e
      exact tE.intro R e1 fun F1 H1 x M r => ⟨true, r.bool, by
        rw [if_pos rfl]
        exact k F1 H1 _ M (.bl true)⟩
    · cases e⟩
theorem px_not {f : EM} (h : PX X a f) : PX X (.UnaryOp .Not a pos) (notV f) :=
  ⟨(pe_not h.pe).weak fun σ H Q ⟨F, ρ, c, ρ', R, e, k⟩ => by
    unfold notV at e
    split at e
    · rename_i b ρ1 e1
      cases e
      exact tE.intro R e1 fun F1 H1 x M r => ⟨b, r.bool, k F1 H1 _ M (.bl _)⟩
    · cases e⟩
theorem px_if {cm : TM} {f g : EM} (hc : PQ X c cm) (ha : PX X a f) (hb : PX X b g) : PX X (.IfExp c a b pos) (ifE cm f g) :=
  ⟨(pe_ifExp hc.pt ha.pe hb.pe).weak fun σ H Q ⟨F, ρ, r, ρ', R, e, k⟩ => by
    unfold ifE at e
    split at e
    · rename_i ρ1 e1
      exact tQ.intro R e1 fun F1 H1 M => by
        rw [if_pos rfl]
        exact tE.intro M.rel e fun F2 H2 y M2 r2 => k F2 H2 y (M.trans M2) (RV.mv M r2)
    · rename_i ρ1 e1
      exact tQ.intro R e1 fun F1 H1 M => by
        rw [if_neg Bool.false_ne_true]
        exact tE.intro M.rel e fun F2 H2 y M2 r2 => k F2 H2 y (M.trans M2) (RV.mv M r2)
    · cases e⟩

/-! ### one value -/
def un1 (g : D → Option Sl) (f : DM) : EM := fun ρ => match f ρ with
  | some (x, ρ1) => match g x with
    | some r => some (r, ρ1)
    | none => none
  | none => none
theorem un1_inv {g : D → Option Sl} {f : DM} {ρ ρ1 : Rho} {r : Sl} (e : un1 g f ρ = some (r, ρ1)) : ∃ x, f ρ = some (x, ρ1) ∧ g x = some r := by
  unfold un1 at e
  split at e
  · rename_i d ρ2 e1
    split at e
    · rename_i b' e2
      cases e
      exact ⟨d, e1, e2⟩
    · cases e
  · cases e
def negD : D → Option Sl
  | .int i => some (.va (.int (-i)))
  | _ => none
theorem px_neg {f : DM} (h : PV X a f) : PX X (.UnaryOp .USub a pos) (un1 negD f) :=
  ⟨(pe_un un_neg h.pe).weak fun σ H Q ⟨F, ρ, r, ρ', R, e, k⟩ => by
    obtain ⟨d, e1, e2⟩ := un1_inv e
    unfold negD at e2
    split at e2
    · cases e2
      exact tV.intro R e1 fun F1 H1 x M r => ⟨_, r.int_inv, k F1 H1 _ M (.int _)⟩
    · cases e2⟩

/-! ### arguments, displays -/
inductive Ag where
  | ex (f : EM) | io (i : Nat)
def evAgs : List EM → Rho → Option (List D × Rho)
  | [], ρ => some ([], ρ)
  | f :: fs, ρ => match evD f ρ with
    | some (d, ρ1) => match evAgs fs ρ1 with
      | some (ds, ρ2) => some (d :: ds, ρ2)
      | none => none
    | none => none
theorem evAgs_inv {f : EM} {fs : List EM} {ρ ρ2 : Rho} {es : List D} (e : evAgs (f :: fs) ρ = some (es, ρ2)) : ∃ d ds ρ1, es = d :: ds ∧ evD f ρ = some (d, ρ1) ∧ evAgs fs ρ1 = some (ds, ρ2) := by
  simp only [evAgs] at e
  split at e
  · rename_i d ρ1 e1
    split at e
    · rename_i ds ρ3 e2
      cases e
      exact ⟨d, ds, ρ1, rfl, e1, e2⟩
    · cases e
  · cases e
def tAg (K : PySem.W.Frag) (fs : List EM) : TA := fun σ H Q => ∃ F ρ ds ρ', Rel K F ρ σ H ∧ evAgs fs ρ = some (ds, ρ') ∧ ∀ F' H' vs, Mv K F H ρ σ F' H' ρ' σ → RepL K F' vs ds → Q vs H'
structure PAx (X : Cx) (es : List Expr) (fs : List EM) : Prop where
  pa : PA X es (tAg X.K fs)
theorem _root_.L2.PA.weak {X : Cx} {es : List Expr} {t t' : TA} (h : PA X es t) (w : ∀ σ H Q, t' σ H Q → t σ H Q) : PA X es t' := ⟨fun pos pins s σ H Q I q => h.run pos pins s σ H Q I (w σ H Q q)⟩
theorem pax_nil : PAx X [] [] := ⟨pa_nil.weak fun σ H Q ⟨F, ρ, ds, ρ', R, e, k⟩ => by
  cases e
  exact k F H [] (Mv.refl R) .nil⟩
theorem pax_cons {e : Expr} {es : List Expr} {f : EM} {fs : List EM} (h : PX X e f) (hs : PAx X es fs) (hn : starEach (e :: es) X.env = (false, eval e X.env) :: starEach es X.env := by rfl) : PAx X (e :: es) (f :: fs) :=
  ⟨(pa_cons h.pe hs.pa hn).weak fun σ H Q ⟨F, ρ, ds, ρ', R, e, k⟩ => by
    obtain ⟨d, ds', ρ1, rfl, e1, e2⟩ := evAgs_inv e
    exact tE.val R e1 fun F1 H1 x M r => ⟨F1, ρ1, ds', ρ', M.rel, e2, fun F2 H2 vs M2 rs => k F2 H2 _ (M.trans M2) (.cons (r.same M2.stp.fr) rs)⟩⟩
def tupM (fs : List EM) : EM := fun ρ => match evAgs fs ρ with
  | some (ds, ρ1) => some (.va (.tuple ds), ρ1)
  | none => none
def lstM (fs : List EM) : EM := fun ρ => match evAgs fs ρ with
  | some (ds, ρ1) => some (.ow .loc (.lst ds), ρ1)
  | none => none
theorem evAgs_len : ∀ {fs : List EM} {ρ ρ1 : Rho} {ds : List D}, evAgs fs ρ = some (ds, ρ1) → ds.length = fs.length
  | [], ρ, ρ1, ds, e => by cases e; rfl
  | f :: fs, ρ, ρ1, ds, e => by
    obtain ⟨d, ds', ρ2, rfl, e1, e2⟩ := evAgs_inv e
    simp [evAgs_len e2]
theorem px_tup {es : List Expr} {fs : List EM} {j : Nat} (h : PAx X es fs) (hl : fs.length ≤ sizeLine := by decide) : PX X (.Tuple es j pos) (tupM fs) :=
  ⟨(pe_tup h.pa).weak fun σ H Q ⟨F, ρ, r, ρ', R, e, k⟩ => by
    unfold tupM at e
    split at e
    · rename_i ds ρ1 e1
      cases e
      exact ⟨F, ρ, ds, _, R, e1, fun F1 H1 vs M rs => ⟨by rw [rs.length, evAgs_len e1]; exact hl, fun p hp => Res.newt (X := X) M.rel (fun F2 H2 v M2 rv => k F2 H2 v (M.trans M2) (RV.mv M rv)) rs hp⟩⟩
    · cases e⟩
theorem px_lst {es : List Expr} {fs : List EM} (h : PAx X es fs) (hl : fs.length ≤ sizeLine := by decide) : PX X (.List es pos) (lstM fs) :=
  ⟨(pe_lst h.pa).weak fun σ H Q ⟨F, ρ, r, ρ', R, e, k⟩ => by
    unfold lstM at e
    split at e
    · rename_i ds ρ1 e1
      cases e
      exact ⟨F, ρ, ds, _, R, e1, fun F1 H1 vs M rs => ⟨by rw [rs.length, evAgs_len e1]; exact hl, fun p hp => Res.newl (X := X) M.rel (fun F2 H2 v M2 rv => k F2 H2 v (M.trans M2) (RV.mv M rv)) rs hp⟩⟩
    · cases e⟩

/-! ### subscripts -/
def atD : D → D → Option Sl
  | .list xs, .int i => (atI xs i).map .va
  | .tuple xs, .int i => (atI xs i).map .va
  | .str z, .int i => if z.length ≤ sizeLine then (atI z.cps.toList i).map fun c => .va (.str ⟨#[c]⟩) else none
  | _, _ => none
theorem RepL.atI {K : PySem.W.Frag} {F : Hp} {vs : List V} {ds : List D} {i : Int} {d : D} (h : RepL K F vs ds) (e : atI ds i = some d) : ∃ v, L2.atI vs i = some v ∧ Rep K F v d := by
  unfold L2.atI at e ⊢
  rw [h.length]
  obtain ⟨j, h1, h2⟩ := Option.bind_eq_some_iff.mp e
  obtain ⟨v, h3, h4⟩ := h.get h2
  exact ⟨v, by rw [h1]; exact h3, h4⟩
theorem px_sub {fa : A1} {fb : DM} (ha : PA1 X a fa) (hb : PV X b fb) (hs : PlainIx b := by exact fun _ _ => rfl) : PX X (.Subscript a b pos) (bin2 atD fa fb) :=
  ⟨(pe_ix ix_seq ha.pe hb.pe hs).weak fun σ H Q ⟨F, ρ, r, ρ', R, e, k⟩ => by
    obtain ⟨x, y, e1, e2⟩ := bin2_inv e
    refine two R e1 fun F2 H2 v w M r1 r2 => ?_
    unfold atD at e2
    split at e2
    · obtain ⟨d, e3, rfl⟩ := Option.map_eq_some_iff.mp e2
      obtain ⟨p, vs, rfl, h1, h2⟩ := r1
      obtain ⟨z, h3, h4⟩ := h2.atI e3
      exact .inl ⟨p, vs, _, z, rfl, r2.int_inv, h1, h3, k F2 H2 z M h4⟩
    · obtain ⟨d, e3, rfl⟩ := Option.map_eq_some_iff.mp e2
      obtain ⟨p, vs, rfl, h1, h2⟩ := RB.tup_inv M.rel.same r1
      obtain ⟨z, h3, h4⟩ := h2.atI e3
      exact .inr (.inl ⟨p, vs, _, z, rfl, r2.int_inv, h1, h3, k F2 H2 z M h4⟩)
    · split at e2
      · rename_i hz
        obtain ⟨d, e3, rfl⟩ := Option.map_eq_some_iff.mp e2
        exact .inr (.inr ⟨_, _, d, r1.str_inv, r2.int_inv, hz, e3, k F2 H2 _ M (.str _)⟩)
      · cases e2
    · cases e2⟩

/-! ### slices -/
def cutL {α : Type} (xs : List α) (lo hi : Option Int) : List α := (xs.drop (HT.sIx xs.length 0 lo)).take (HT.sIx xs.length xs.length hi - HT.sIx xs.length 0 lo)
theorem RepL.cut {K : PySem.W.Frag} {F : Hp} {vs : List V} {ds : List D} (h : RepL K F vs ds) (lo hi : Option Int) : RepL K F (cutV vs lo hi) (cutL ds lo hi) := by
  unfold cutV cutL
  rw [h.length]
  exact (h.drop _).take _
/-- a bound of a slice -/
def evO : Option DM → Rho → Option (Option Int × Rho)
  | none, ρ => some (none, ρ)
  | some f, ρ => match f ρ with
    | some (.int i, ρ1) => some (some i, ρ1)
    | _ => none
inductive POx (X : Cx) : Option Expr → Option DM → Prop
  | no : POx X none none
  | yes {e : Expr} {f : DM} : PV X e f → POx X (some e) (some f)
def tOx (K : PySem.W.Frag) (f : Option DM) : TO := fun σ H Q => ∃ F ρ o ρ', Rel K F ρ σ H ∧ evO f ρ = some (o, ρ') ∧ ∀ F' H', Mv K F H ρ σ F' H' ρ' σ → Q o H'
theorem POx.po {o : Option Expr} {f : Option DM} (h : POx X o f) : PO X o (tOx X.K f) := by
  cases h with
  | no => exact ⟨fun pins s σ H Q I ⟨F, ρ, o, ρ', R, e, k⟩ => po_none.run pins s σ H Q I (by cases e; exact k F H (Mv.refl R))⟩
  | yes h => exact ⟨fun pins s σ H Q I ⟨F, ρ, o, ρ', R, e, k⟩ => (po_some h.pe).run pins s σ H Q I (by
      simp only [evO] at e
      split at e
      · rename_i i ρ1 e1
        cases e
        exact tV.intro R e1 fun F1 H1 x M r => ⟨i, r.int_inv, k F1 H1 M⟩
      · cases e)⟩
def sliD (x : D) (lo hi : Option Int) : Option Sl := match x with
  | .list xs => some (.ow .loc (.lst (cutL xs lo hi)))
  | .tuple xs => some (.va (.tuple (cutL xs lo hi)))
  | _ => none
def sliM (f : EM) (lo hi : Option DM) : EM := fun ρ => match evD f ρ with
  | some (x, ρ1) => match evO lo ρ1 with
    | some (l, ρ2) => match evO hi ρ2 with
      | some (h, ρ3) => match sliD x l h with
        | some r => some (r, ρ3)
        | none => none
      | none => none
    | none => none
  | none => none
/-- the slice of an own list, by its name -/
def sliN (i : Nat) (lo hi : Option DM) : EM := fun ρ => match nmB i ρ with
  | some _ => match evO lo ρ with
    | some (l, ρ2) => match evO hi ρ2 with
      | some (h, ρ3) => match nmB i ρ3 with
        | some (x, _) => match sliD x l h with
          | some r => some (r, ρ3)
          | none => none
        | none => none
      | none => none
    | none => none
  | none => none
theorem cut_whole {α : Type} {xs : List α} {lo hi : Option Int} (h : HT.sIx xs.length 0 lo = 0 ∧ HT.sIx xs.length xs.length hi = xs.length) : cutL xs lo hi = xs := by
  unfold cutL
  rw [h.1, h.2]
  simp
theorem slr_run {F H : Hp} {ρ : Rho} {σ : Sig} {x : V} {d : D} {lo hi : Option Int} {r : Sl} {Q : VK} (R : Rel X.K F ρ σ H) (rb : RB X.K F H x d) (e : sliD d lo hi = some r) (k : Res X F H ρ σ r Q) : rSlL X.K x lo hi H Q ∨ rSlA X.K x lo hi H Q := by
  unfold sliD at e
  split at e
  · cases e
    obtain ⟨p, vs, rfl, h1, h2⟩ := rb
    exact .inl ⟨p, vs, rfl, h1, fun q hq => Res.newl R k (h2.cut lo hi) hq⟩
  · rename_i xs
    cases e
    obtain ⟨p, vs, rfl, h1, h2⟩ := RB.tup_inv R.same rb
    refine .inr ⟨p, vs, rfl, h1, fun w => ?_, fun _ q hq => Res.newt R k (h2.cut lo hi) hq⟩
    rw [h2.length] at w
    rw [cut_whole w] at k
    exact Res.va R k rb
  · cases e
theorem px_slice {lo hi : Option Expr} {f : EM} {fl fh : Option DM} {p2 : Pos} (ha : PX X a f) (hl : POx X lo fl) (hh : POx X hi fh) : PX X (.Subscript a (.Slice lo hi none p2) pos) (sliM f fl fh) :=
  ⟨(pe_slice (sl_list.or sl_tupA) ha.pe hl.po hh.po).weak fun σ H Q ⟨F, ρ, r, ρ', R, e, k⟩ => by
    unfold sliM at e
    split at e
    · rename_i x ρ1 e1
      split at e
      · rename_i l ρ2 e2
        split at e
        · rename_i h ρ3 e3
          split at e
          · rename_i r' e4
            cases e
            exact tE.val R e1 fun F1 H1 v M1 r1 => ⟨F1, ρ1, l, ρ2, M1.rel, e2, fun F2 H2 M2 => ⟨F2, ρ2, h, _, M2.rel, e3, fun F3 H3 M3 =>
              slr_run M3.rel ((r1.same (M2.trans M3).stp.fr).rb M3.rel.same) e4 fun F4 H4 w M4 rv => k F4 H4 w (((M1.trans M2).trans M3).trans M4) (RV.mv ((M1.trans M2).trans M3) rv)⟩⟩
          · cases e
        · cases e
      · cases e
    · cases e⟩
theorem px_sliceN {lo hi : Option Expr} (i : Nat) {x : Str} {npos : Pos} {fl fh : Option DM} {p2 : Pos} (hl : POx X lo fl) (hh : POx X hi fh) (hN : X.N[i]? = some x := by rfl) (hv : Vis X.env.scope x := by first | exact Or.inl rfl | exact Or.inr (Or.inl rfl) | exact Or.inr (Or.inr rfl)) (hd : (x == ("__debug__" : Str)) = false := by decide)
    (hcd : (x == ("__classdict__" : Str)) = false := by decide) : PX X (.Subscript (.Name x npos) (.Slice lo hi none p2) pos) (sliN i fl fh) :=
  ⟨(pe_slice (sl_list.or sl_tupA) (pe_var hN hv hd hcd) hl.po hh.po).weak fun σ H Q ⟨F, ρ, r, ρ', R, e, k⟩ => by
    unfold sliN at e
    split at e
    · rename_i q0 e1
      obtain ⟨x0, ρ0⟩ := q0
      split at e
      · rename_i l ρ2 e2
        split at e
        · rename_i h ρ3 e3
          split at e
          · rename_i x1 ρ4 e5
            split at e
            · rename_i r' e4
              cases e
              obtain ⟨_, v, h1, _⟩ := slot_rb R e1
              exact ⟨v, h1, F, ρ, l, ρ2, R, e2, fun F2 H2 M2 => ⟨F2, ρ2, h, _, M2.rel, e3, fun F3 H3 M3 => by
                obtain ⟨_, v', h1', rb⟩ := slot_rb M3.rel e5
                rw [h1] at h1'
                cases h1'
                exact slr_run M3.rel rb e4 fun F4 H4 w M4 rv => k F4 H4 w ((M2.trans M3).trans M4) (RV.mv (M2.trans M3) rv)⟩⟩
            · cases e
          · cases e
        · cases e
      · cases e
    · cases e⟩

/-! ### built-ins by name -/
/-- a call by values of one argument -/
def OpU (X : Cx) (f : Value) (g : D → Option Sl) : Prop :=
  ∀ (pins : List (Addr × Obj)) (s : Shared) (σ : Sig) (H F : Hp) (ρ : Rho) (x : V) (u : Value) (d : D) (r : Sl) (Q : VK), Inv X pins σ H s → Rel X.K F ρ σ H → RelV x u → RB X.K F H x d → g d = some r → Res X F H ρ σ r Q →
    wpAny (model X.prog X.w) X.A (call f [u]) (EP X pins σ Q) X.xe s
theorem one_arg {e : Expr} (hn : starEach [e] X.env = (false, eval e X.env) :: starEach [] X.env := by rfl) {f : DM} (h : PV X e f) : PA X [e] (tCons (tV X.K f) tNil) := pa_cons h.pe pa_nil hn
theorem px_b1 {x : Str} {id : String} {p : Pos} {f : DM} {g : D → Option Sl} (ho : OpU X (.builtin id) g) (h : PV X a f) (hm : X.mg x = none) (hg : Gl X x := by rfl) (hv : bootBuiltins x = some (.builtin id) := by decide +kernel)
    (hn : starEach [a] X.env = (false, eval a X.env) :: starEach [] X.env := by rfl) (hnm : x ≠ "__name__" := by decide) (hdb : (x == ("__debug__" : Str)) = false := by decide) (hpl : (backTo pos (starEach [] X.env)).any (·.1) = false := by rfl) : PX X (.Call (.Name x p) [a] [] pos) (un1 g f) := by
  refine ⟨⟨fun pins s σ H Q I hh => ?_⟩⟩
  obtain ⟨F, ρ, r, ρ', R, e, k⟩ := hh
  obtain ⟨d, e1, e2⟩ := un1_inv e
  refine wpAny_Call_Name_kw (ld_blt I hg hm hv ?_ hnm hdb)
  refine PyProof.Rows.callWith_builtin1 (thn ((one_arg hn h).run pos pins s σ H (fun vs H1 => ∃ z F1, vs = [z] ∧ Mv X.K F H ρ σ F1 H1 ρ' σ ∧ RB X.K F1 H1 z d) I (tV.intro R e1 fun F1 H1 x M r => ⟨x, F1, rfl, M, r⟩)) fun us s1 ⟨vs, H1, I1, r1, z, F1, ez, M, rb⟩ => ?_) hn hpl
  subst ez
  obtain ⟨u, rfl, ru⟩ := vals1 r1
  exact ho pins s1 σ H1 F1 ρ' z u d r Q I1 M.rel ru rb e2 fun F2 H2 v M2 rv => k F2 H2 v (M.trans M2) (RV.mv M rv)
theorem px_t1 {x : Str} {T : String} {p : Pos} {f : DM} {g : D → Option Sl} (ho : OpU X (.type T) g) (h : PV X a f) (hm : X.mg x = none) (hg : Gl X x := by rfl) (hv : bootBuiltins x = some (.type T) := by decide +kernel)
    (hn : starEach [a] X.env = (false, eval a X.env) :: starEach [] X.env := by rfl) (hnm : x ≠ "__name__" := by decide) (hdb : (x == ("__debug__" : Str)) = false := by decide) (hpl : (backTo pos (starEach [] X.env)).any (·.1) = false := by rfl) : PX X (.Call (.Name x p) [a] [] pos) (un1 g f) := by
  refine ⟨⟨fun pins s σ H Q I hh => ?_⟩⟩
  obtain ⟨F, ρ, r, ρ', R, e, k⟩ := hh
  obtain ⟨d, e1, e2⟩ := un1_inv e
  refine wpAny_Call_Name_kw (ld_blt I hg hm hv ?_ hnm hdb)
  refine PyProof.Rows.callWith_type1 (thn ((one_arg hn h).run pos pins s σ H (fun vs H1 => ∃ z F1, vs = [z] ∧ Mv X.K F H ρ σ F1 H1 ρ' σ ∧ RB X.K F1 H1 z d) I (tV.intro R e1 fun F1 H1 x M r => ⟨x, F1, rfl, M, r⟩)) fun us s1 ⟨vs, H1, I1, r1, z, F1, ez, M, rb⟩ => ?_) hn hpl
  subst ez
  obtain ⟨u, rfl, ru⟩ := vals1 r1
  exact ho pins s1 σ H1 F1 ρ' z u d r Q I1 M.rel ru rb e2 fun F2 H2 v M2 rv => k F2 H2 v (M.trans M2) (RV.mv M rv)
/-- .. of two arguments -/
def OpB (X : Cx) (f : Value) (g : D → D → Option Sl) : Prop := OpD X (fun v u => call f [v, u]) g
theorem px_b2 {x : Str} {id : String} {p : Pos} {fa : A1} {fb : DM} {g : D → D → Option Sl} (ho : OpB X (.builtin id) g) (ha : PA1 X a fa) (hb : PV X b fb) (hm : X.mg x = none) (hg : Gl X x := by rfl) (hv : bootBuiltins x = some (.builtin id) := by decide +kernel)
    (hn : starEach [a, b] X.env = (false, eval a X.env) :: starEach [b] X.env := by rfl) (hn2 : starEach [b] X.env = (false, eval b X.env) :: starEach [] X.env := by rfl) (hnm : x ≠ "__name__" := by decide) (hdb : (x == ("__debug__" : Str)) = false := by decide)
    (hpl : (backTo pos (starEach [b] X.env)).any (·.1) = false := by rfl) : PX X (.Call (.Name x p) [a, b] [] pos) (bin2 g fa fb) := by
  refine ⟨⟨fun pins s σ H Q I hh => ?_⟩⟩
  obtain ⟨F, ρ, r, ρ', R, e, k⟩ := hh
  obtain ⟨x', y', e1, e2⟩ := bin2_inv e
  refine wpAny_Call_Name_kw (ld_blt I hg hm hv ?_ hnm hdb)
  have pa := pa_cons (X := X) ha.pe (pa_cons hb.pe pa_nil hn2) hn
  refine PyProof.Rows.callWith_builtin1 (thn (pa.run pos pins s σ H (fun vs H1 => ∃ z w F1, vs = [z, w] ∧ Mv X.K F H ρ σ F1 H1 ρ' σ ∧ RB X.K F1 H1 z x' ∧ RB X.K F1 H1 w y') I (two R e1 fun F1 H1 v w M r1 r2 => ⟨v, w, F1, rfl, M, r1, r2⟩)) fun us s1 ⟨vs, H1, I1, r1, z, w, F1, ez, M, rb1, rb2⟩ => ?_) hn hpl
  subst ez
  obtain ⟨u1, u2, rfl, ru1, ru2⟩ := vals2 r1
  exact ho pins s1 σ H1 F1 ρ' z w u1 u2 x' y' r Q I1 M.rel ru1 ru2 rb1 rb2 e2 fun F2 H2 v M2 rv => k F2 H2 v (M.trans M2) (RV.mv M rv)

def lenD : D → Option Sl
  | .list xs => some (.va (.int xs.length))
  | .tuple xs => some (.va (.int xs.length))
  | .str z => if z.length ≤ sizeLine then some (.va (.int z.length)) else none
  | _ => none
theorem opu_len : OpU X (.builtin "len") lenD := by
  intro pins s σ H F ρ x u d r Q I R rx rb e k
  unfold lenD at e
  split at e
  · cases e
    obtain ⟨a, xs, rfl, h1, h2⟩ := rb
    refine call_len pins s σ H [_] [u] Q I (.cons rx .nil) ⟨_, _, rfl, .inl ⟨xs, h1, rfl⟩, ?_⟩
    rw [h2.length]
    exact Res.va R k (.int _)
  · cases e
    obtain ⟨a, xs, rfl, h1, h2⟩ := RB.tup_inv R.same rb
    refine call_len pins s σ H [_] [u] Q I (.cons rx .nil) ⟨_, _, rfl, .inr ⟨xs, h1, rfl⟩, ?_⟩
    rw [h2.length]
    exact Res.va R k (.int _)
  · split at e
    · rename_i hz
      cases e
      rw [rb.str_inv] at rx
      exact call_len pins s σ H [_] [u] Q I (.cons rx .nil) ⟨_, _, rfl, ⟨hz, rfl⟩, Res.va R k (.int _)⟩
    · cases e
  · cases e
def absD : D → Option Sl
  | .int i => some (.va (.int (if i < 0 then -i else i)))
  | _ => none
theorem opu_abs : OpU X (.builtin "abs") absD := by
  intro pins s σ H F ρ x u d r Q I R rx rb e k
  unfold absD at e
  split at e
  · cases e
    rw [rb.int_inv] at rx
    exact call_abs pins s σ H [_] [u] Q I (.cons rx .nil) ⟨_, rfl, Res.va R k (.int _)⟩
  · cases e
def intD : D → Option Sl
  | .int i => some (.va (.int i))
  | .bool b => some (.va (.int (if b then 1 else 0)))
  | _ => none
theorem opu_int : OpU X (.type "int") intD := by
  intro pins s σ H F ρ x u d r Q I R rx rb e k
  unfold intD at e
  split at e
  · cases e
    rw [rb.int_inv] at rx
    exact call_int1 pins s σ H [_] [u] Q I (.cons rx .nil) (.inl ⟨_, rfl, Res.va R k (.int _)⟩)
  · cases e
    rw [rb.bool_inv] at rx
    exact call_int1 pins s σ H [_] [u] Q I (.cons rx .nil) (.inr ⟨_, rfl, Res.va R k (.int _)⟩)
  · cases e
def listD : D → Option Sl
  | .list xs => some (.ow .loc (.lst xs))
  | .tuple xs => some (.ow .loc (.lst xs))
  | _ => none
theorem opu_list : OpU X (.type "list") listD := by
  intro pins s σ H F ρ x u d r Q I R rx rb e k
  unfold listD at e
  split at e
  · cases e
    obtain ⟨a, xs, rfl, h1, h2⟩ := rb
    exact call_list_of pins s σ H [_] [u] Q I (.cons rx .nil) ⟨_, _, rfl, .inl h1, fun p hp => Res.newl R k h2 hp⟩
  · cases e
    obtain ⟨a, xs, rfl, h1, h2⟩ := RB.tup_inv R.same rb
    exact call_list_of pins s σ H [_] [u] Q I (.cons rx .nil) ⟨_, _, rfl, .inr h1, fun p hp => Res.newl R k h2 hp⟩
  · cases e
def tupleD : D → Option Sl
  | .list xs => some (.va (.tuple xs))
  | .tuple xs => some (.va (.tuple xs))
  | _ => none
theorem opu_tuple : OpU X (.type "tuple") tupleD := by
  intro pins s σ H F ρ x u d r Q I R rx rb e k
  unfold tupleD at e
  split at e
  · cases e
    obtain ⟨a, xs, rfl, h1, h2⟩ := rb
    exact call_tuple_of pins s σ H [_] [u] Q I (.cons rx .nil) ⟨_, _, rfl, .inl ⟨h1, fun p hp => Res.newt R k h2 hp⟩⟩
  · cases e
    obtain ⟨a, xs, rfl, h1, h2⟩ := RB.tup_inv R.same rb
    exact call_tuple_of pins s σ H [_] [u] Q I (.cons rx .nil) ⟨_, _, rfl, .inr ⟨h1, Res.va R k rb⟩⟩
  · cases e
/-- all items ints, bools -/
def asInts : List D → Option (List Int)
  | [] => some []
  | .int i :: r => match asInts r with
    | some t => some (i :: t)
    | none => none
  | _ => none
def asBools : List D → Option (List Bool)
  | [] => some []
  | .bool i :: r => match asBools r with
    | some t => some (i :: t)
    | none => none
  | _ => none
theorem asInts_eq : ∀ {ds : List D} {ns : List Int}, asInts ds = some ns → ds = ns.map PyData.int
  | [], ns, h => by cases h; rfl
  | d :: r, ns, h => by
    cases d <;> simp only [asInts] at h <;> first | cases h | skip
    split at h
    · rename_i t e
      cases h
      rw [asInts_eq e]
      rfl
    · cases h
theorem asInts_map : ∀ ns : List Int, asInts (ns.map PyData.int) = some ns
  | [] => rfl
  | n :: ns => by simp only [List.map_cons, asInts, asInts_map ns]
theorem asBools_eq : ∀ {ds : List D} {ns : List Bool}, asBools ds = some ns → ds = ns.map PyData.bool
  | [], ns, h => by cases h; rfl
  | d :: r, ns, h => by
    cases d <;> simp only [asBools] at h <;> first | cases h | skip
    split at h
    · rename_i t e
      cases h
      rw [asBools_eq e]
      rfl
    · cases h
theorem asBools_map : ∀ ns : List Bool, asBools (ns.map PyData.bool) = some ns
  | [] => rfl
  | n :: ns => by simp only [List.map_cons, asBools, asBools_map ns]
theorem repL_ints {K : PySem.W.Frag} {F : Hp} : ∀ {ns : List Int} {vs : List V}, RepL K F vs (ns.map PyData.int) → vs = ns.map V.int
  | [], vs, h => h.nil_inv
  | n :: ns, vs, h => by
    obtain ⟨v, r, rfl, h1, h2⟩ := h.cons_inv
    rw [h1.int_inv, repL_ints h2]
    rfl
theorem repL_of_ints {K : PySem.W.Frag} {F : Hp} : ∀ ns : List Int, RepL K F (ns.map V.int) (ns.map PyData.int)
  | [] => .nil
  | n :: ns => .cons (.int n) (repL_of_ints ns)
theorem repL_bools {K : PySem.W.Frag} {F : Hp} : ∀ {ns : List Bool} {vs : List V}, RepL K F vs (ns.map PyData.bool) → vs = ns.map V.bl
  | [], vs, h => h.nil_inv
  | n :: ns, vs, h => by
    obtain ⟨v, r, rfl, h1, h2⟩ := h.cons_inv
    rw [h1.bool_inv, repL_bools h2]
    rfl
def sumD : D → Option Sl
  | .list xs => (asInts xs).map fun ns => .va (.int ns.sum)
  | _ => none
theorem opu_sum (hc : X.calm = true) : OpU X (.builtin "sum") sumD := by
  intro pins s σ H F ρ x u d r Q I R rx rb e k
  unfold sumD at e
  split at e
  · obtain ⟨ns, e1, rfl⟩ := Option.map_eq_some_iff.mp e
    obtain ⟨a, xs, rfl, h1, h2⟩ := rb
    rw [asInts_eq e1] at h2
    rw [repL_ints h2] at h1
    exact cr_sum hc pins s σ H [_] [u] Q I (.cons rx .nil) ⟨_, _, rfl, h1, Res.va R k (.int _)⟩
  · cases e
def allD : D → Option Sl
  | .list xs => (asBools xs).map fun ns => .va (.bool (ns.all id))
  | _ => none
theorem opu_all (hc : X.calm = true) : OpU X (.builtin "all") allD := by
  intro pins s σ H F ρ x u d r Q I R rx rb e k
  unfold allD at e
  split at e
  · obtain ⟨ns, e1, rfl⟩ := Option.map_eq_some_iff.mp e
    obtain ⟨a, xs, rfl, h1, h2⟩ := rb
    rw [asBools_eq e1] at h2
    rw [repL_bools h2] at h1
    exact cr_all hc pins s σ H [_] [u] Q I (.cons rx .nil) ⟨_, _, rfl, h1, Res.va R k (.bl _)⟩
  · cases e
def minD : D → D → Option Sl
  | .int i, .int j => some (.va (.int (if j < i then j else i)))
  | _, _ => none
theorem opb_min (hc : X.calm = true) : OpB X (.builtin "min") minD := by
  intro pins s σ H F ρ x y v u dx dy r Q I R rx ry bx byy e k
  unfold minD at e
  split at e
  · cases e
    rw [bx.int_inv] at rx
    rw [byy.int_inv] at ry
    exact call_min2 hc pins s σ H [_, _] [v, u] Q I (.cons rx (.cons ry .nil)) ⟨_, _, rfl, Res.va R k (.int _)⟩
  · cases e
def maxD : D → D → Option Sl
  | .int i, .int j => some (.va (.int (if j > i then j else i)))
  | _, _ => none
theorem opb_max (hc : X.calm = true) : OpB X (.builtin "max") maxD := by
  intro pins s σ H F ρ x y v u dx dy r Q I R rx ry bx byy e k
  unfold maxD at e
  split at e
  · cases e
    rw [bx.int_inv] at rx
    rw [byy.int_inv] at ry
    exact call_max2 hc pins s σ H [_, _] [v, u] Q I (.cons rx (.cons ry .nil)) ⟨_, _, rfl, Res.va R k (.int _)⟩
  · cases e
end
end PL

/-! PL, fifth part: what is walked, targets, comprehensions. -/
namespace PL
open PySem PySem.Spec PyProof.Rows L2

/-! ### targets -/
def isFree (ρ : Rho) (i : Nat) : Bool := match ρ[i]? with
  | some s => s.free
  | none => false
abbrev GM := D → Rho → Option Rho
abbrev GMs := List D → Rho → Option Rho
def tGx (K : PySem.W.Frag) (ix : List Nat) (g : GM) : TG := fun v σ H Q => ∃ F ρ d ρ', Rel K F ρ σ H ∧ Rep K F v d ∧ g d ρ = some ρ' ∧
  ∀ σ', Mv K F H ρ σ F H ρ' σ' → (∀ j, j ∉ ix → σ'[j]? = σ[j]?) → σ'.length = σ.length → Q σ' H
def tGsx (K : PySem.W.Frag) (ix : List Nat) (g : GMs) : TGs := fun vs σ H Q => ∃ F ρ ds ρ', Rel K F ρ σ H ∧ RepL K F vs ds ∧ g ds ρ = some ρ' ∧
  ∀ σ', Mv K F H ρ σ F H ρ' σ' → (∀ j, j ∉ ix → σ'[j]? = σ[j]?) → σ'.length = σ.length → Q σ' H
structure PGx (X : Cx) (tg : Expr) (ix : List Nat) (g : GM) : Prop where
  pg : PG X tg (tGx X.K ix g)
structure PGsx (X : Cx) (tgs : List Expr) (ix : List Nat) (g : GMs) : Prop where
  pgs : PGs X tgs (tGsx X.K ix g)
def gNm (i : Nat) : GM := fun d ρ => if isFree ρ i then some (ρ.set i (.va d)) else none
def gTp (gs : GMs) : GM := fun d ρ => match d with
  | .tuple ds => gs ds ρ
  | _ => none
def gsNil : GMs := fun ds ρ => match ds with
  | [] => some ρ
  | _ :: _ => none
def gsCons (g : GM) (gs : GMs) : GMs := fun ds ρ => match ds with
  | d :: r => match g d ρ with
    | some ρ1 => gs r ρ1
    | none => none
  | [] => none
theorem isFree_slot {ρ : Rho} {i : Nat} (h : isFree ρ i = true) : ∀ s : Sl, ρ[i]? = some s → s.free = true := fun s e => by
  unfold isFree at h
  rw [e] at h
  exact h
section
variable {X : Cx} {pos : Pos}
theorem _root_.L2.PG.weak {X : Cx} {e : Expr} {t t' : TG} (h : PG X e t) (w : ∀ v σ H Q, t' v σ H Q → t v σ H Q) : PG X e t' := ⟨fun pins s σ H v u Q I r q => h.run pins s σ H v u Q I r (w v σ H Q q)⟩
theorem _root_.L2.PGs.weak {X : Cx} {e : List Expr} {t t' : TGs} (h : PGs X e t) (w : ∀ v σ H Q, t' v σ H Q → t v σ H Q) : PGs X e t' := ⟨fun pins s σ H v u Q I r q => h.run pins s σ H v u Q I r (w v σ H Q q)⟩
theorem pgx_name (i : Nat) {x : Str} (hN : X.N.Nodup) (hi : X.N[i]? = some x := by rfl) (hx : Loc X.env.scope x := by first | exact Or.inl rfl | exact Or.inr rfl) (hf : X.fn x = true ∨ X.env.scope.names.lookup x = some .local := by first | exact .inl rfl | exact .inr rfl | assumption) : PGx X (.Name x pos) [i] (gNm i) :=
  ⟨(pg_name hN hi hx hf).weak fun v σ H Q ⟨F, ρ, d, ρ', R, r, e, k⟩ => by
    unfold gNm at e
    split at e
    · rename_i hfr
      cases e
      exact k _ (Mv.set_va R r (isFree_slot hfr)) (fun j hj => List.getElem?_set_ne (fun q => hj (by simp [q]))) (by simp)
    · cases e⟩
theorem pgsx_nil : PGsx X [] [] gsNil :=
  ⟨pgs_nil.weak fun vs σ H Q ⟨F, ρ, ds, ρ', R, r, e, k⟩ => by
    unfold gsNil at e
    split at e
    · cases e
      exact ⟨r.nil_inv, k σ (Mv.refl R) (fun _ _ => rfl) rfl⟩
    · cases e⟩
theorem pgsx_cons {e : Expr} {es : List Expr} {ix jx : List Nat} {g : GM} {gs : GMs} (h : PGx X e ix g) (hs : PGsx X es jx gs) (hn : (assignEach (e :: es) X.env).map (·.2) = assign e X.env :: (assignEach es X.env).map (·.2) := by rfl) : PGsx X (e :: es) (ix ++ jx) (gsCons g gs) :=
  ⟨(pgs_cons h.pg hs.pgs hn).weak fun vs σ H Q ⟨F, ρ, ds, ρ', R, r, e, k⟩ => by
    unfold gsCons at e
    split at e
    · rename_i d r'
      split at e
      · rename_i ρ1 e1
        obtain ⟨v, vr, rfl, h1, h2⟩ := r.cons_inv
        refine ⟨v, vr, rfl, F, ρ, d, ρ1, R, h1, e1, fun σ1 M1 a1 l1 => ⟨F, ρ1, r', ρ', M1.rel, h2, e, fun σ2 M2 a2 l2 => k σ2 (M1.trans M2) (fun j hj => ?_) (l2.trans l1)⟩⟩
        rw [a2 j (fun q => hj (List.mem_append_right _ q)), a1 j (fun q => hj (List.mem_append_left _ q))]
      · cases e
    · cases e⟩
theorem pgx_tup {es : List Expr} {j : Nat} {ix : List Nat} {gs : GMs} {n : Nat} (hc : X.calm = true) (h : PGsx X es ix gs) (hlen : ∀ ds ρ ρ', gs ds ρ = some ρ' → ds.length = n)
    (hn : (assignEach es X.env).length = n := by rfl) (hst : (assignEach es X.env).findIdx? (·.1) = none := by rfl) : PGx X (.Tuple es j pos) ix (gTp gs) :=
  ⟨(pg_tup hc h.pgs hn hst).weak fun v σ H Q ⟨F, ρ, d, ρ', R, r, e, k⟩ => by
    unfold gTp at e
    split at e
    · rename_i ds
      obtain ⟨a, xs, rfl, h1, h2⟩ := r.tuple_inv
      exact ⟨a, xs, rfl, SqT.same R.same h1, by rw [h2.length, hlen _ _ _ e], F, ρ, ds, ρ', R, h2, e, k⟩
    · cases e⟩
theorem gsNil_len (ds : List D) (ρ ρ' : Rho) (e : gsNil ds ρ = some ρ') : ds.length = 0 := by
  unfold gsNil at e
  split at e
  · rfl
  · cases e
theorem gsCons_len {g : GM} {gs : GMs} {n : Nat} (h : ∀ ds ρ ρ', gs ds ρ = some ρ' → ds.length = n) (ds : List D) (ρ ρ' : Rho) (e : gsCons g gs ds ρ = some ρ') : ds.length = n + 1 := by
  unfold gsCons at e
  split at e
  · split at e
    · rw [List.length_cons, h _ _ _ e]
    · cases e
  · cases e
end

/-! ### what is walked -/
/-- J hands out the data ds, while F stands frozen -/
def Wk (K : PySem.W.Frag) (F : Hp) (J : It) (ds : List D) : Prop := ∃ (G : Hp → Prop) (Y : Nat → Hp → V → Hp → Prop), Walk J ds.length G Y ∧ (∀ H, Same F H → G H) ∧
  ∀ i H x H' F1 ρ σ, i < ds.length → Same F F1 → Rel K F1 ρ σ H → Y i H x H' → ∃ d F2, ds[i]? = some d ∧ Mv K F1 H ρ σ F2 H' ρ σ ∧ Rep K F2 x d
abbrev IM := Rho → Option (List D × Rho)
def tIx (K : PySem.W.Frag) (f : IM) : TI := fun σ H R => ∃ F ρ ds ρ', Rel K F ρ σ H ∧ f ρ = some (ds, ρ') ∧ ∀ F' H' J, Mv K F H ρ σ F' H' ρ' σ → Wk K F' J ds → R J H'
structure PIx (X : Cx) (tg iter : Expr) (f : IM) : Prop where
  pi : PI X tg iter (tIx X.K f)
section
variable {X : Cx} {tg : Expr} {pos : Pos}
theorem _root_.L2.PI.weak {X : Cx} {tg e : Expr} {t t' : TI} (h : PI X tg e t) (w : ∀ σ H Q, t' σ H Q → t σ H Q) : PI X tg e t' := ⟨fun pins s σ H R I q => h.run pins s σ H R I (w σ H R q)⟩
/-- items of a list or a tuple -/
def itS (f : EM) : IM := fun ρ => match evD f ρ with
  | some (.list ds, ρ1) => some (ds, ρ1)
  | some (.tuple ds, ρ1) => some (ds, ρ1)
  | _ => none
def itL (f : EM) : IM := fun ρ => match evD f ρ with
  | some (.list ds, ρ1) => some (ds, ρ1)
  | _ => none
def itT (f : EM) : IM := fun ρ => match evD f ρ with
  | some (.tuple ds, ρ1) => some (ds, ρ1)
  | _ => none
theorem wk_list {K : PySem.W.Frag} {F : Hp} {a : Addr} {xs : List V} {ds : List D} (h : SqL K F a xs) (r : RepL K F xs ds) : Wk K F (Itl K a) ds := by
  refine ⟨_, _, by rw [← r.length]; exact walk_list (xs := xs), fun H e => e.seq h, fun i H x H' F1 ρ σ hi e R y => ?_⟩
  obtain ⟨rfl, y⟩ := y
  obtain ⟨d, h1, h2⟩ := r.getV y
  exact ⟨d, F1, h1, Mv.refl R, h2.same e⟩
theorem wk_tup {K : PySem.W.Frag} {F : Hp} {a : Addr} {xs : List V} {ds : List D} (h : SqT K F a xs) (r : RepL K F xs ds) : Wk K F (Itt K a) ds := by
  refine ⟨_, _, by rw [← r.length]; exact walk_tup (xs := xs), fun H e => SqT.same e h, fun i H x H' F1 ρ σ hi e R y => ?_⟩
  obtain ⟨rfl, y⟩ := y
  obtain ⟨d, h1, h2⟩ := r.getV y
  exact ⟨d, F1, h1, Mv.refl R, h2.same e⟩
theorem pix_list {l : Expr} {f : EM} (h : PX X l f) : PIx X tg l (itL f) :=
  ⟨(pi_list h.pe).weak fun σ H R ⟨F, ρ, ds, ρ', Rr, e, k⟩ => by
    unfold itL at e
    split at e
    · rename_i ds' ρ1 e1
      cases e
      refine tE.val Rr e1 fun F1 H1 x M r => ?_
      obtain ⟨a, xs, rfl, h1, h2⟩ := r.list_inv
      exact ⟨a, rfl, ⟨xs, M.rel.same.seq h1⟩, k F1 H1 _ M (wk_list h1 h2)⟩
    · cases e⟩
theorem pix_tup {l : Expr} {f : EM} (h : PX X l f) : PIx X tg l (itT f) :=
  ⟨(pi_tup h.pe).weak fun σ H R ⟨F, ρ, ds, ρ', Rr, e, k⟩ => by
    unfold itT at e
    split at e
    · rename_i ds' ρ1 e1
      cases e
      refine tE.val Rr e1 fun F1 H1 x M r => ?_
      obtain ⟨a, xs, rfl, h1, h2⟩ := r.tuple_inv
      exact ⟨a, rfl, ⟨xs, SqT.same M.rel.same h1⟩, k F1 H1 _ M (wk_tup h1 h2)⟩
    · cases e⟩
/-- a list or a tuple, whichever comes -/
theorem pix_seq {l : Expr} {f : EM} (h : PX X l f) : PIx X tg l (itS f) := by
  refine ⟨⟨fun pins s σ H R I ⟨F, ρ, ds, ρ', Rr, e, k⟩ => ?_⟩⟩
  unfold itS at e
  split at e
  · rename_i ds' ρ1 e1
    cases e
    exact (pix_list h).pi.run pins s σ H R I ⟨F, ρ, ds, _, Rr, by unfold itL; rw [e1], k⟩
  · rename_i ds' ρ1 e1
    cases e
    exact (pix_tup h).pi.run pins s σ H R I ⟨F, ρ, ds, _, Rr, by unfold itT; rw [e1], k⟩
  · cases e
/-- range(n), range(a, b) -/
def rangeI (lo : Int) (n : Nat) : List D := (List.range n).map fun i => .int (lo + (i : Nat))
def itR1 (f : DM) : IM := fun ρ => match f ρ with
  | some (.int j, ρ1) => if j.natAbs < 16777216 then some (rangeI 0 j.toNat, ρ1) else none
  | _ => none
def itR2 (fa : A1) (fb : DM) : IM := fun ρ => match ev2 fa fb ρ with
  | some (.int i, .int j, ρ1) => if i.natAbs < 16777216 ∧ j.natAbs < 16777216 then some (rangeI i (j - i).toNat, ρ1) else none
  | _ => none
theorem wk_range {K : PySem.W.Frag} {F : Hp} {lo : Int} {n : Nat} : Wk K F (Itr lo n) (rangeI lo n) := by
  have hl : (rangeI lo n).length = n := by simp [rangeI]
  refine ⟨_, _, by rw [hl]; exact walk_range, fun _ _ => trivial, fun i H x H' F1 ρ σ hi e R y => ?_⟩
  obtain ⟨rfl, rfl⟩ := y
  rw [hl] at hi
  exact ⟨_, F1, by simp [rangeI, hi], Mv.refl R, .int _⟩
theorem pix_range1 {a : Expr} {f : DM} {p : Pos} (h : PV X a f) (hm : X.mg "range" = none) (hg : Gl X "range" := by rfl) (hs : starEach [a] X.env = [(false, eval a X.env)] := by rfl) (hn : starEach [a] X.env = (false, eval a X.env) :: starEach [] X.env := by rfl) : PIx X tg (.Call (.Name "range" p) [a] [] pos) (itR1 f) :=
  ⟨(pi_range1 hg hm (one_arg hn h) hs).weak fun σ H R ⟨F, ρ, ds, ρ', Rr, e, k⟩ => by
    unfold itR1 at e
    split at e
    · rename_i j ρ1 e1
      split at e
      · rename_i hj
        cases e
        refine tV.intro Rr e1 fun F1 H1 x M r => ?_
        rw [r.int_inv]
        exact ⟨j, rfl, by omega, by omega, k F1 H1 _ M wk_range⟩
      · cases e
    · cases e⟩
theorem pix_range2 {a b : Expr} {fa : A1} {fb : DM} {p : Pos} (ha : PA1 X a fa) (hb : PV X b fb) (hm : X.mg "range" = none) (hg : Gl X "range" := by rfl) (hs : starEach [a, b] X.env = [(false, eval a X.env), (false, eval b X.env)] := by rfl) (hs2 : starEach [b] X.env = [(false, eval b X.env)] := by rfl)
    (hn : starEach [a, b] X.env = (false, eval a X.env) :: starEach [b] X.env := by rfl) (hn2 : starEach [b] X.env = (false, eval b X.env) :: starEach [] X.env := by rfl) : PIx X tg (.Call (.Name "range" p) [a, b] [] pos) (itR2 fa fb) :=
  ⟨(pi_range2 hg hm (pa_cons ha.pe (pa_cons hb.pe pa_nil hn2) hn) hs hs2).weak fun σ H R ⟨F, ρ, ds, ρ', Rr, e, k⟩ => by
    unfold itR2 at e
    split at e
    · rename_i i j ρ1 e1
      split at e
      · rename_i hj
        cases e
        refine two Rr e1 fun F1 H1 v w M r1 r2 => ?_
        rw [r1.int_inv, r2.int_inv]
        exact ⟨i, j, rfl, ⟨by omega, by omega, by omega, by omega⟩, k F1 H1 _ M wk_range⟩
      · cases e
    · cases e⟩
/-- range(i, j, -1) -/
def rangeD (lo : Int) (n : Nat) : List D := (List.range n).map fun i => .int (lo - (i : Nat))
def itR3 (fa : EM) (fb : EM) (fc : DM) : IM := fun ρ => match evD fa ρ with
  | some (.int i, ρ1) => match evD fb ρ1 with
    | some (.int j, ρ2) => match fc ρ2 with
      | some (.int (-1), ρ3) => if i.natAbs < 16777216 ∧ j.natAbs < 16777216 then some (rangeD i (i - j).toNat, ρ3) else none
      | _ => none
    | _ => none
  | _ => none
theorem wk_rangeD {K : PySem.W.Frag} {F : Hp} {lo : Int} {n : Nat} : Wk K F (Itc lo (-1) n) (rangeD lo n) := by
  have hl : (rangeD lo n).length = n := by simp [rangeD]
  refine ⟨_, _, by rw [hl]; exact walk_rangeC, fun _ _ => trivial, fun i H x H' F1 ρ σ hi e R y => ?_⟩
  obtain ⟨rfl, rfl⟩ := y
  rw [hl] at hi
  have e2 : lo + ((i : Nat) : Int) * (-1) = lo - ((i : Nat) : Int) := by omega
  show ∃ d F2, _ ∧ _ ∧ Rep K F2 (.int (lo + ((i : Nat) : Int) * (-1))) d
  rw [e2]
  exact ⟨_, F1, by simp [rangeD, hi], Mv.refl R, .int _⟩
theorem pix_range3 {a b c : Expr} {fa fb : EM} {fc : DM} {p : Pos} (ha : PX X a fa) (hb : PX X b fb) (hc : PV X c fc) (hm : X.mg "range" = none) (hg : Gl X "range" := by rfl)
    (hn : starEach [a, b, c] X.env = (false, eval a X.env) :: starEach [b, c] X.env := by rfl) (hn2 : starEach [b, c] X.env = (false, eval b X.env) :: starEach [c] X.env := by rfl)
    (hn3 : starEach [c] X.env = (false, eval c X.env) :: starEach [] X.env := by rfl) (hpl : (backTo pos (starEach [b, c] X.env)).any (·.1) = false := by rfl) : PIx X tg (.Call (.Name "range" p) [a, b, c] [] pos) (itR3 fa fb fc) :=
  ⟨(pi_range3 hg hm (pa_cons ha.pe (pa_cons hb.pe (pa_cons hc.pe pa_nil hn3) hn2) hn) hn hpl).weak fun σ H R ⟨F, ρ, ds, ρ', Rr, e, k⟩ => by
    unfold itR3 at e
    split at e
    · rename_i i ρ1 e1
      split at e
      · rename_i j ρ2 e2
        split at e
        · rename_i ρ3 e3
          split at e
          · rename_i hj
            cases e
            refine tE.val Rr e1 fun F1 H1 v M1 r1 => tE.val M1.rel e2 fun F2 H2 w M2 r2 => tV.intro M2.rel e3 fun F3 H3 z M3 r3 => ?_
            rw [r1.int_inv, r2.int_inv, r3.int_inv]
            exact ⟨i, j, -1, _, rfl, RgC.neg (by omega) (by omega) (by omega) (by omega), k F3 H3 _ ((M1.trans M2).trans M3) wk_rangeD⟩
          · cases e
        · cases e
      · cases e
    · cases e⟩

/-! ### list comprehensions -/
def notOwn (ρ : Rho) (i : Nat) : Bool := match ρ[i]? with
  | some (.ow _ _) => false
  | some _ => true
  | none => false
def wipeR (ρ : Rho) : List Nat → Rho
  | [] => ρ
  | v :: vs => (wipeR ρ vs).set v .un
def wipeC (vs : List Nat) (ρ : Rho) : Option Rho := if vs.all (notOwn ρ) = true then some (wipeR ρ vs) else none
def unwipe (ρ1 : Rho) : List Nat → Rho → Rho
  | [], ρ => ρ
  | v :: vs, ρ => (unwipe ρ1 vs ρ).set v (ρ1.getD v .un)
def lcGo (g : GM) (tt : TM) (fe : EM) (vs : List Nat) : List D → Rho → Option (List D × Rho)
  | [], ρ => some ([], ρ)
  | d :: ds, ρ => match g d ρ with
    | some ρa => match tt ρa with
      | some (true, ρb) => match evD fe ρb with
        | some (y, ρc) => match wipeC vs ρc with
          | some ρd => match lcGo g tt fe vs ds ρd with
            | some (ys, ρe) => some (y :: ys, ρe)
            | none => none
          | none => none
        | none => none
      | some (false, ρb) => match wipeC vs ρb with
        | some ρd => lcGo g tt fe vs ds ρd
        | none => none
      | none => none
    | none => none
def lcM (vs : List Nat) (fi : IM) (g : GM) (tt : TM) (fe : EM) : EM := fun ρ => match fi ρ with
  | some (ds, ρ1) => match wipeC vs ρ1 with
    | some ρw => match lcGo g tt fe vs ds ρw with
      | some (ys, ρ2) => if ys.length ≤ sizeLine then some (.ow .loc (.lst ys), unwipe ρ1 vs ρ2) else none
      | none => none
    | none => none
  | none => none
def yesT : TM := fun ρ => some (true, ρ)
end
section
variable {K : PySem.W.Frag} {F H : Hp} {ρ : Rho} {σ : Sig}
theorem wipeR_length (ρ : Rho) : ∀ vs : List Nat, (wipeR ρ vs).length = ρ.length
  | [] => rfl
  | v :: vs => by unfold wipeR; rw [List.length_set, wipeR_length ρ vs]
theorem wipe_not {l : Sig} : ∀ {vs : List Nat} {j : Nat}, j ∉ vs → (wipe l vs)[j]? = l[j]?
  | [], _, _ => rfl
  | v :: vs, j, h => by
    unfold wipe
    rw [List.getElem?_set_ne (fun e => h (by simp [e])), wipe_not fun q => h (List.mem_cons_of_mem _ q)]
theorem wipe_in {l : Sig} : ∀ {vs : List Nat} {j : Nat}, j ∈ vs → j < l.length → (wipe l vs)[j]? = some none
  | v :: vs, j, h, hl => by
    unfold wipe
    by_cases e : v = j
    · subst e
      rw [List.getElem?_set_self (by rw [wipe_length]; exact hl)]
    · rw [List.getElem?_set_ne e]
      rcases List.mem_cons.mp h with q | q
      · exact absurd q.symm e
      · exact wipe_in q hl
theorem wipeR_not {l : Rho} : ∀ {vs : List Nat} {j : Nat}, j ∉ vs → (wipeR l vs)[j]? = l[j]?
  | [], _, _ => rfl
  | v :: vs, j, h => by
    unfold wipeR
    rw [List.getElem?_set_ne (fun e => h (by simp [e])), wipeR_not fun q => h (List.mem_cons_of_mem _ q)]
theorem wipeR_in {l : Rho} : ∀ {vs : List Nat} {j : Nat}, j ∈ vs → j < l.length → (wipeR l vs)[j]? = some .un
  | v :: vs, j, h, hl => by
    unfold wipeR
    by_cases e : v = j
    · subst e
      rw [List.getElem?_set_self (by rw [wipeR_length]; exact hl)]
    · rw [List.getElem?_set_ne e]
      rcases List.mem_cons.mp h with q | q
      · exact absurd q.symm e
      · exact wipeR_in q hl
theorem wipe_agree {l l' : Sig} {ix vs : List Nat} (hix : ∀ j ∈ ix, j ∈ vs) (h : ∀ j, j ∉ ix → l'[j]? = l[j]?) (hl : l'.length = l.length) : wipe l' vs = wipe l vs := by
  apply List.ext_getElem?
  intro j
  by_cases hj : j ∈ vs
  · by_cases hlt : j < l.length
    · rw [wipe_in hj hlt, wipe_in hj (by rw [hl]; exact hlt)]
    · rw [List.getElem?_eq_none (by rw [wipe_length]; omega), List.getElem?_eq_none (by rw [wipe_length]; omega)]
  · rw [wipe_not hj, wipe_not hj]
    exact h j fun q => hj (hix j q)
theorem wipe_wipe {l : Sig} {vs : List Nat} : wipe (wipe l vs) vs = wipe l vs := by
  apply List.ext_getElem?
  intro j
  by_cases hj : j ∈ vs
  · by_cases hlt : j < l.length
    · rw [wipe_in hj hlt, wipe_in hj (by rw [wipe_length]; exact hlt)]
    · rw [List.getElem?_eq_none (by simp only [wipe_length]; omega), List.getElem?_eq_none (by rw [wipe_length]; omega)]
  · rw [wipe_not hj]
theorem all_notOwn {ρ : Rho} {vs : List Nat} (h : vs.all (notOwn ρ) = true) {i : Nat} (hi : i ∈ vs) : i < ρ.length ∧ ∀ k o, ρ[i]? ≠ some (.ow k o) := by
  have q := List.all_eq_true.mp h i hi
  unfold notOwn at q
  split at q
  · cases q
  · rename_i s e hn
    refine ⟨(List.getElem?_eq_some_iff.mp hn).1, fun k o z => ?_⟩
    exact e k o (Option.some.inj (hn.symm.trans z))
  · cases q
/-- into a block: its own names forgotten -/
theorem Mv.wipe (R : Rel K F ρ σ H) {vs : List Nat} (h : vs.all (notOwn ρ) = true) : Mv K F H ρ σ F H (wipeR ρ vs) (L2.wipe σ vs) := by
  have own : ∀ {i : Nat} {k : Ok} {o : OD}, (wipeR ρ vs)[i]? = some (.ow k o) → i ∉ vs ∧ ρ[i]? = some (.ow k o) := fun {i k o} e => by
    by_cases hi : i ∈ vs
    · rw [wipeR_in hi (all_notOwn h hi).1] at e
      cases e
    · rw [wipeR_not hi] at e
      exact ⟨hi, e⟩
  have sub : ∀ {a : Addr}, Own (wipeR ρ vs) (L2.wipe σ vs) a → Own ρ σ a := fun {a} ⟨i, k, o, h1, h2⟩ => by
    obtain ⟨hi, h1⟩ := own h1
    rw [wipe_not hi] at h2
    exact ⟨i, k, o, h1, h2⟩
  refine ⟨⟨R.same, by rw [wipeR_length, wipe_length, R.len], fun i s e => ?_, fun i j k l o u a h1 h2 h3 h4 => ?_⟩, ⟨Same.refl _, fun _ _ e _ => e, fun _ h1 h2 => absurd h1 h2, fun _ q => .inl (sub q), fun _ n => n⟩, by rw [wipe_length], fun i k o e n => ?_⟩
  · by_cases hi : i ∈ vs
    · have hl := (all_notOwn h hi).1
      rw [wipeR_in hi hl] at e
      cases e
      exact ⟨none, wipe_in hi (by rw [← R.len]; exact hl), trivial⟩
    · rw [wipeR_not hi] at e
      obtain ⟨v, e1, r⟩ := R.sl i s e
      exact ⟨v, by rw [wipe_not hi]; exact e1, r⟩
  · obtain ⟨n1, h1⟩ := own h1
    obtain ⟨n2, h2⟩ := own h2
    rw [wipe_not n1] at h3
    rw [wipe_not n2] at h4
    exact R.ap i j k l o u a h1 h2 h3 h4
  · have hi : i ∉ vs := fun q => (all_notOwn h q).2 k o e
    exact ⟨wipe_not hi, o, by rw [wipeR_not hi]; exact e, fun _ => rfl⟩
theorem unwipe_length (ρ1 ρ : Rho) : ∀ vs : List Nat, (unwipe ρ1 vs ρ).length = ρ.length
  | [] => rfl
  | v :: vs => by unfold unwipe; rw [List.length_set, unwipe_length ρ1 ρ vs]
theorem unwipe_not {ρ1 l : Rho} : ∀ {vs : List Nat} {j : Nat}, j ∉ vs → (unwipe ρ1 vs l)[j]? = l[j]?
  | [], _, _ => rfl
  | v :: vs, j, h => by
    unfold unwipe
    rw [List.getElem?_set_ne (fun e => h (by simp [e])), unwipe_not fun q => h (List.mem_cons_of_mem _ q)]
theorem unwipe_in {ρ1 l : Rho} : ∀ {vs : List Nat} {j : Nat}, j ∈ vs → j < l.length → (unwipe ρ1 vs l)[j]? = some (ρ1.getD j .un)
  | v :: vs, j, h, hl => by
    unfold unwipe
    by_cases e : v = j
    · subst e
      rw [List.getElem?_set_self (by rw [unwipe_length]; exact hl)]
    · rw [List.getElem?_set_ne e]
      rcases List.mem_cons.mp h with q | q
      · exact absurd q.symm e
      · exact unwipe_in q hl
/-- back from a block -/
theorem Mv.unwipe {F1 H1 F2 H2 : Hp} {ρ1 ρ2 : Rho} {vs : List Nat} (R1 : Rel K F1 ρ1 σ H1) (h : vs.all (notOwn ρ1) = true) (M : Mv K F1 H1 (wipeR ρ1 vs) (L2.wipe σ vs) F2 H2 ρ2 (L2.wipe σ vs)) :
    Mv K F1 H1 ρ1 σ F2 H2 (unwipe ρ1 vs ρ2) σ := by
  have hlen : ρ2.length = ρ1.length := by rw [M.rel.len, wipe_length, R1.len]
  have slot : ∀ {i : Nat}, i ∈ vs → ∃ s, ρ1[i]? = some s ∧ (PL.unwipe ρ1 vs ρ2)[i]? = some s ∧ ∀ k o, s ≠ .ow k o := fun {i} hi => by
    obtain ⟨hl, q⟩ := all_notOwn h hi
    refine ⟨ρ1[i], List.getElem?_eq_getElem hl, ?_, fun k o z => q k o (by rw [List.getElem?_eq_getElem hl, z])⟩
    rw [unwipe_in hi (by rw [hlen]; exact hl), List.getD_eq_getElem?_getD, List.getElem?_eq_getElem hl]
    rfl
  have own : ∀ {i : Nat} {k : Ok} {o : OD}, (PL.unwipe ρ1 vs ρ2)[i]? = some (.ow k o) → i ∉ vs ∧ ρ2[i]? = some (.ow k o) := fun {i k o} e => by
    by_cases hi : i ∈ vs
    · obtain ⟨s, _, e2, ne⟩ := slot hi
      exact absurd (Option.some.inj (e2.symm.trans e)) (ne k o)
    · rw [unwipe_not hi] at e
      exact ⟨hi, e⟩
  have R2 := M.rel
  have back : ∀ {a : Addr}, Own (wipeR ρ1 vs) (L2.wipe σ vs) a → Own ρ1 σ a := fun {a} ⟨i, k, o, h1, h2⟩ => by
    by_cases hi : i ∈ vs
    · rw [wipeR_in hi (all_notOwn h hi).1] at h1
      cases h1
    · rw [wipeR_not hi] at h1
      rw [wipe_not hi] at h2
      exact ⟨i, k, o, h1, h2⟩
  have forw : ∀ {a : Addr}, Own ρ1 σ a → Own (wipeR ρ1 vs) (L2.wipe σ vs) a := fun {a} ⟨i, k, o, h1, h2⟩ => by
    have hi : i ∉ vs := fun q => (all_notOwn h q).2 k o h1
    exact ⟨i, k, o, by rw [wipeR_not hi]; exact h1, by rw [wipe_not hi]; exact h2⟩
  have out : ∀ {a : Addr}, Own (PL.unwipe ρ1 vs ρ2) σ a → Own ρ2 (L2.wipe σ vs) a := fun {a} ⟨i, k, o, h1, h2⟩ => by
    obtain ⟨hi, h1⟩ := own h1
    exact ⟨i, k, o, h1, by rw [wipe_not hi]; exact h2⟩
  refine ⟨⟨R2.same, by rw [unwipe_length, hlen, R1.len], fun i s e => ?_, fun i j k l o u a h1 h2 h3 h4 => ?_⟩, ⟨M.stp.fr, fun a o e n => M.stp.keep a o e fun q => n (back q), fun a h1 h2 => (M.stp.new a h1 h2).imp id back, fun a q => (M.stp.sub a (out q)).imp back id, M.stp.grow⟩, rfl, fun i k o e n => ?_⟩
  · by_cases hi : i ∈ vs
    · obtain ⟨s', e1, e2, ne⟩ := slot hi
      rw [e2] at e
      cases e
      obtain ⟨v, e3, r⟩ := R1.sl i s e1
      refine ⟨v, e3, ?_⟩
      cases s with
      | un => trivial
      | va d => obtain ⟨x, z, r⟩ := r; exact ⟨x, z, r.same M.stp.fr⟩
      | ow k o => exact absurd rfl (ne k o)
    · rw [unwipe_not hi] at e
      obtain ⟨v, e1, r⟩ := R2.sl i s e
      exact ⟨v, by rw [← wipe_not hi]; exact e1, r⟩
  · obtain ⟨n1, h1⟩ := own h1
    obtain ⟨n2, h2⟩ := own h2
    exact R2.ap i j k l o u a h1 h2 (by rw [wipe_not n1]; exact h3) (by rw [wipe_not n2]; exact h4)
  · have hi : i ∉ vs := fun q => (all_notOwn h q).2 k o e
    obtain ⟨_, o', e2, l⟩ := M.pin.2 i k o (by rw [wipeR_not hi]; exact e) n
    exact ⟨rfl, o', by rw [unwipe_not hi]; exact e2, l⟩
/-- a new object that is not told yet is written -/
theorem Mv.tempw {F1 H1 : Hp} {ρ1 : Rho} {σ1 : Sig} (M : Mv K F H ρ σ F1 H1 ρ1 σ1) {p : Addr} {o : HO} (h0 : H p = none) (hn : F1 p = none) (ho : ¬ Own ρ1 σ1 p) : Mv K F H ρ σ F1 (upd H1 p o) ρ1 σ1 := by
  have R := M.rel
  refine ⟨⟨fun b x e => ?_, R.len, fun i s e => ?_, R.ap⟩, ⟨M.stp.fr, fun a u e n => ?_, M.stp.new, M.stp.sub, fun a n => ?_⟩, M.pin⟩
  · rw [upd_ne (ne_of_none e hn)]; exact R.same b x e
  · obtain ⟨v, e1, r⟩ := R.sl i s e
    refine ⟨v, e1, ?_⟩
    cases s with
    | un => exact r
    | va d => exact r
    | ow k o' =>
      obtain ⟨a, e2, n, ow⟩ := r
      subst e2
      have ne : a ≠ p := fun z => ho (by subst z; exact ⟨i, k, o', e, e1⟩)
      exact ⟨a, rfl, n, ow.at (Same.refl _) fun u hu => by rw [upd_ne ne]; exact hu⟩
  · rw [upd_ne (ne_of_none e h0)]; exact M.stp.keep a u e n
  · by_cases e : a = p
    · subst e; rw [upd_same]; simp
    · rw [upd_ne e]; exact M.stp.grow a n
theorem own_unwipe {ρ1 ρ2 : Rho} {vs : List Nat} (h : vs.all (notOwn ρ1) = true) (hlen : ρ2.length = ρ1.length) {a : Addr} : Own (PL.unwipe ρ1 vs ρ2) σ a → Own ρ2 (L2.wipe σ vs) a := fun ⟨i, k, o, h1, h2⟩ => by
  by_cases hi : i ∈ vs
  · obtain ⟨hl, q⟩ := all_notOwn h hi
    rw [unwipe_in hi (by rw [hlen]; exact hl), List.getD_eq_getElem?_getD, List.getElem?_eq_getElem hl] at h1
    exact absurd (by rw [List.getElem?_eq_getElem hl]; exact h1) (q k o)
  · rw [unwipe_not hi] at h1
    exact ⟨i, k, o, h1, by rw [wipe_not hi]; exact h2⟩
/-- what a step leaves alone -/
theorem Mv.aside {F' H' : Hp} {ρ' : Rho} {σ' : Sig} (M : Mv K F H ρ σ F' H' ρ' σ') {p : Addr} {o : HO} (h : H p = some o) (hn : F p = none) (ho : ¬ Own ρ σ p) : H' p = some o ∧ F' p = none ∧ ¬ Own ρ' σ' p := by
  refine ⟨M.stp.keep p o h ho, Classical.byContradiction fun z => ?_, fun q => ?_⟩
  · rcases M.stp.new p hn z with q | q
    · rw [h] at q; cases q
    · exact ho q
  · rcases M.stp.sub p q with q | q
    · exact ho q
    · rw [h] at q; cases q
theorem wipeC_some {vs : List Nat} {ρ ρw : Rho} (h : wipeC vs ρ = some ρw) : vs.all (notOwn ρ) = true ∧ ρw = wipeR ρ vs := by
  unfold wipeC at h
  split at h
  · rename_i q
    cases h
    exact ⟨q, rfl⟩
  · cases h
end
theorem lcM_inv {vs : List Nat} {fi : IM} {g : GM} {tt : TM} {fe : EM} {ρ ρ' : Rho} {r : Sl} (e : lcM vs fi g tt fe ρ = some (r, ρ')) :
    ∃ ds ρ1 ys ρ2, fi ρ = some (ds, ρ1) ∧ vs.all (notOwn ρ1) = true ∧ lcGo g tt fe vs ds (wipeR ρ1 vs) = some (ys, ρ2) ∧ ys.length ≤ sizeLine ∧ r = .ow .loc (.lst ys) ∧ ρ' = unwipe ρ1 vs ρ2 := by
  unfold lcM at e
  split at e
  · rename_i ds ρ1 e1
    split at e
    · rename_i ρw e2
      obtain ⟨ha, rfl⟩ := wipeC_some e2
      split at e
      · rename_i ys ρ2 e3
        split at e
        · rename_i hz
          cases e
          exact ⟨ds, ρ1, ys, ρ2, e1, ha, e3, hz, rfl, rfl⟩
        · cases e
      · cases e
    · cases e
  · cases e
theorem lcGo_cons {g : GM} {tt : TM} {fe : EM} {vs : List Nat} {d : D} {ds : List D} {ρ ρ2 : Rho} {ys : List D} (e : lcGo g tt fe vs (d :: ds) ρ = some (ys, ρ2)) :
    ∃ ρa b ρb, g d ρ = some ρa ∧ tt ρa = some (b, ρb) ∧ ((b = false ∧ vs.all (notOwn ρb) = true ∧ lcGo g tt fe vs ds (wipeR ρb vs) = some (ys, ρ2)) ∨
      ∃ y ρc ys', b = true ∧ evD fe ρb = some (y, ρc) ∧ vs.all (notOwn ρc) = true ∧ lcGo g tt fe vs ds (wipeR ρc vs) = some (ys', ρ2) ∧ ys = y :: ys') := by
  simp only [lcGo] at e
  split at e
  · rename_i ρa e1
    split at e
    · rename_i ρb e2
      split at e
      · rename_i y ρc e3
        split at e
        · rename_i ρd e4
          obtain ⟨ha, rfl⟩ := wipeC_some e4
          split at e
          · rename_i ys' ρe e5
            cases e
            exact ⟨ρa, true, ρb, e1, e2, .inr ⟨y, ρc, ys', rfl, e3, ha, e5, rfl⟩⟩
          · cases e
        · cases e
      · cases e
    · rename_i ρb e2
      split at e
      · rename_i ρd e4
        obtain ⟨ha, rfl⟩ := wipeC_some e4
        exact ⟨ρa, false, ρb, e1, e2, .inl ⟨rfl, ha, e⟩⟩
      · cases e
    · cases e
  · cases e
section
variable {X : Cx}
/-- the reading of a comprehension -/
theorem lc_read {ix vs : List Nat} {fi : IM} {g : GM} {tt : TM} {fe : EM} (hix : ∀ j ∈ ix, j ∈ vs) (σ : Sig) (H : Hp) (Q : VK) (h : tE X.K (lcM vs fi g tt fe) σ H Q) : tLc (tIx X.K fi) (tGx X.K ix g) (tQ X.K tt) (tE X.K fe) vs σ H Q := by
  obtain ⟨F, ρ, r, ρ', R, e, k⟩ := h
  obtain ⟨ds, ρ1, ys, ρ2, e1, ha, e3, hz, rfl, rfl⟩ := lcM_inv e
  refine ⟨F, ρ, ds, ρ1, R, e1, fun F1 H1 J M1 wk D hD => ?_⟩
  obtain ⟨G, Y, w, hG, hY⟩ := wk
  have Mw := Mv.wipe M1.rel ha
  have hF1 : F1 D = none := M1.rel.same.free hD
  have hO1 : ¬ Own (wipeR ρ1 vs) (L2.wipe σ vs) D := fun q => (Mw.rel.own_some q).1 hD
  refine lc_it w (fun i H2 => ∃ F' ρ' av ad yr, Mv X.K F1 H1 (wipeR ρ1 vs) (L2.wipe σ vs) F' H2 ρ' (L2.wipe σ vs) ∧ H2 D = some (.lst av) ∧ RepL X.K F' av ad ∧ F' D = none ∧ ¬ Own ρ' (L2.wipe σ vs) D ∧
    lcGo g tt fe vs (ds.drop i) ρ' = some (yr, ρ2) ∧ ys = ad ++ yr) ?_ ?_ ?_ ?_
  · exact ⟨F1, _, [], [], ys, Mv.temp Mw.rel hD, upd_same, .nil, hF1, hO1, e3, rfl⟩
  · rintro i H2 _ ⟨F', ρ', av, ad, yr, M, _⟩
    exact hG H2 (M.stp.fr.trans M.rel.same)
  · rintro i x H2 H3 hi ⟨F', ρ', av, ad, yr, M, hD2, rl, hn, ho, e4, rfl⟩ y
    obtain ⟨d, F2, hd, M2, rp⟩ := hY i H2 x H3 F' ρ' (L2.wipe σ vs) hi M.stp.fr M.rel y
    have hdrop : ds.drop i = d :: ds.drop (i + 1) := by
      obtain ⟨hl, hv⟩ := List.getElem?_eq_some_iff.mp hd
      rw [List.drop_eq_getElem_cons hl, hv]
    rw [hdrop] at e4
    obtain ⟨ρa, b, ρb, ea, eb, rest⟩ := lcGo_cons e4
    obtain ⟨p2, q2, o2⟩ := M2.aside hD2 hn ho
    refine ⟨F2, ρ', d, ρa, M2.rel, rp, ea, fun σ2 M3 ag len => ?_⟩
    have hw : L2.wipe σ2 vs = L2.wipe σ vs := by rw [wipe_agree hix ag len, wipe_wipe]
    refine ⟨hw, F2, ρa, b, ρb, M3.rel, eb, fun F4 H4 M4 => ?_⟩
    obtain ⟨p3, q3, o3⟩ := M3.aside p2 q2 o2
    obtain ⟨p4, q4, o4⟩ := M4.aside p3 q3 o3
    rcases rest with ⟨rfl, hall, er⟩ | ⟨yd, ρc, ys', rfl, ec, hall, er, rfl⟩
    · rw [if_neg Bool.false_ne_true]
      have M5 := Mv.wipe M4.rel hall
      obtain ⟨p5, q5, o5⟩ := M5.aside p4 q4 o4
      rw [hw] at M5 o5
      exact ⟨F4, _, av, ad, yr, M.trans (M2.trans (M3.trans (M4.trans M5))), p5, rl.same (M2.stp.fr.trans (M3.stp.fr.trans M4.stp.fr)), q5, o5, er, rfl⟩
    · rw [if_pos rfl]
      refine tE.val M4.rel ec fun F5 H5 z M5 r5 => ?_
      obtain ⟨p5, q5, o5⟩ := M5.aside p4 q4 o4
      have M6 := Mv.wipe M5.rel hall
      obtain ⟨p6, q6, o6⟩ := M6.aside p5 q5 o5
      rw [hw] at M6 o6
      have hlen := rl.length
      refine ⟨av, p5, ?_, F5, _, av ++ [z], ad ++ [yd], ys', Mv.tempw (M.trans (M2.trans (M3.trans (M4.trans (M5.trans M6))))) hD q6 o6, upd_same, ?_, q6, o6, er, by simp⟩
      · rw [hlen]
        simp only [List.length_append, List.length_cons] at hz
        omega
      · exact (rl.same (M2.stp.fr.trans (M3.stp.fr.trans (M4.stp.fr.trans M5.stp.fr)))).append (.cons r5 .nil)
  · rintro H2 ⟨F', ρ', av, ad, yr, M, hD2, rl, hn, ho, e4, rfl⟩
    rw [List.drop_length] at e4
    cases e4
    have M' := Mv.unwipe M1.rel ha M
    rw [List.append_nil] at k
    refine k F' H2 (.ref D) (M1.trans M') ⟨D, rfl, hn, ⟨av, hD2, rl⟩, fun q => ho (own_unwipe ha (by rw [M.rel.len, wipe_length, M1.rel.len]) q), .inl (Classical.byContradiction fun n => M1.stp.grow D n hD)⟩
theorem px_lc {elt tg iter : Expr} {ifs : List Expr} {scope : Scope} {own : List (Str × Nat)} {pos : Pos} {ix : List Nat} {fi : IM} {g : GM} {tt : TM} {fe : EM} (hc : X.calm = true) (hN : X.N.Nodup) (hi : PIx X tg iter fi) (ok : BlkOk X.N X.env.scope scope own) (hix : ∀ j ∈ ix, j ∈ own.map (·.2))
    (hg : ∀ (s : Shared) (H : Hp) (C : Addr) (cl : List (Str × Addr)) (fp : List Addr), PGx (X.blk s H scope (compEnvC scope cl C X.env) fp) tg ix g) (ht : ∀ (s : Shared) (H : Hp) (C : Addr) (cl : List (Str × Addr)) (fp : List Addr), PTs (X.blk s H scope (compEnvC scope cl C X.env) fp) ifs (tQ X.K tt))
    (he : ∀ (s : Shared) (H : Hp) (C : Addr) (cl : List (Str × Addr)) (fp : List Addr), PX (X.blk s H scope (compEnvC scope cl C X.env) fp) elt fe) (hs : ∀ x, foldedSetIterable iter X.env x = pure x := by intro _; rfl) :
    PX X (.ListComp elt [⟨tg, iter, ifs, 0⟩] scope pos) (lcM (own.map (·.2)) fi g tt fe) :=
  ⟨(pe_lc hc hN hi.pi ok (fun s H C cl fp => (hg s H C cl fp).pg) ht (fun s H C cl fp => (he s H C cl fp).pe) hs).weak fun σ H Q h => lc_read hix σ H Q h⟩
theorem ptx_nil {X : Cx} {K : PySem.W.Frag} : PTs X [] (tQ K yesT) := ⟨fun pins s σ H Q I ⟨F, ρ, b, ρ', R, e, k⟩ => by
  cases e
  exact pts_nil.run pins s σ H Q I (k F H (Mv.refl R))⟩
theorem ptx_one {X : Cx} {c : Expr} {f : TM} (h : PQ X c f) : PTs X [c] (tQ X.K f) := pts_one h.pt
end
end PL

/-! PL, sixth part: statements, loops, defs. -/
namespace PL
open PySem PySem.Spec PyProof.Rows L2

inductive Out where
  | nx | rt (r : Sl) | bk | ct
abbrev SM := Rho → Option (Out × Rho)
abbrev Ask (K : PySem.W.Frag) (F H : Hp) (ρ : Rho) (σ : Sig) (ρ' : Rho) (D : Ends) : Out → Prop
  | .nx => ∀ F' H' σ', Mv K F H ρ σ F' H' ρ' σ' → D.nx σ' H'
  | .bk => ∀ F' H' σ', Mv K F H ρ σ F' H' ρ' σ' → D.bk σ' H'
  | .ct => ∀ F' H' σ', Mv K F H ρ σ F' H' ρ' σ' → D.ct σ' H'
  | .rt r => ∀ F' H' σ' v, Mv K F H ρ σ F' H' ρ' σ' → RV K F' H' (Own ρ' σ') H (Own ρ σ) v r → D.rt v H'
def tS (K : PySem.W.Frag) (f : SM) : TS := fun D σ H => ∃ F ρ o ρ', Rel K F ρ σ H ∧ f ρ = some (o, ρ') ∧ Ask K F H ρ σ ρ' D o
structure PSx (X : Cx) (st : Stmt) (f : SM) : Prop where
  ps : PS X st (tS X.K f)
structure PSsx (X : Cx) (st : List Stmt) (f : SM) : Prop where
  pss : PSs X st (tS X.K f)
theorem _root_.L2.PS.weak {X : Cx} {st : Stmt} {t t' : TS} (h : PS X st t) (w : ∀ D σ H, t' D σ H → t D σ H) : PS X st t' := ⟨fun pins s σ H D I q => h.run pins s σ H D I (w D σ H q)⟩
theorem _root_.L2.PSs.weak {X : Cx} {st : List Stmt} {t t' : TS} (h : PSs X st t) (w : ∀ D σ H, t' D σ H → t D σ H) : PSs X st t' := ⟨fun pins s σ H D I q => h.run pins s σ H D I (w D σ H q)⟩
section
variable {K : PySem.W.Frag} {F H : Hp} {ρ ρ1 : Rho} {σ : Sig} {D : Ends}
theorem tS.next {f : SM} (R : Rel K F ρ σ H) (e : f ρ = some (.nx, ρ1)) (k : ∀ F' H' σ', Mv K F H ρ σ F' H' ρ1 σ' → D.nx σ' H') : tS K f D σ H := ⟨F, ρ, .nx, ρ1, R, e, k⟩
/-- the end that was asked, behind a step -/
theorem tS.step {f g : SM} {F1 H1 : Hp} {ρ0 : Rho} {σ0 : Sig} {H0 F0 : Hp} {o : Out} {ρ2 : Rho} (M : Mv K F0 H0 ρ0 σ0 F1 H1 ρ σ) (e : g ρ = some (o, ρ2))
    (k : Ask K F0 H0 ρ0 σ0 ρ2 D o) : tS K g D σ H1 := by
  refine ⟨F1, ρ, o, ρ2, M.rel, e, ?_⟩
  cases o with
  | nx => exact fun F' H' σ' M' => k F' H' σ' (M.trans M')
  | bk => exact fun F' H' σ' M' => k F' H' σ' (M.trans M')
  | ct => exact fun F' H' σ' M' => k F' H' σ' (M.trans M')
  | rt r => exact fun F' H' σ' v M' rv => k F' H' σ' v (M.trans M') (RV.mv M rv)
end
def skipS : SM := fun ρ => some (.nx, ρ)
def seqS (f g : SM) : SM := fun ρ => match f ρ with
  | some (.nx, ρ1) => g ρ1
  | r => r
def exprS (f : EM) : SM := fun ρ => match f ρ with
  | some (_, ρ1) => some (.nx, ρ1)
  | none => none
def retS (f : EM) : SM := fun ρ => match f ρ with
  | some (.un, _) => none
  | some (r, ρ1) => some (.rt r, ρ1)
  | none => none
def ifS (c : TM) (f g : SM) : SM := fun ρ => match c ρ with
  | some (true, ρ1) => f ρ1
  | some (false, ρ1) => g ρ1
  | none => none
def setS (i : Nat) (f : EM) : SM := fun ρ => match f ρ with
  | some (.va d, ρ1) => if isFree ρ1 i then some (.nx, ρ1.set i (.va d)) else none
  | some (.ow _ o, ρ1) => if isFree ρ1 i then some (.nx, ρ1.set i (.ow .loc o)) else none
  | _ => none
/-- target = e, the target of any form -/
def asgS (g : GM) (f : EM) : SM := fun ρ => match evD f ρ with
  | some (d, ρ1) => match g d ρ1 with
    | some ρ2 => some (.nx, ρ2)
    | none => none
  | none => none
/-- a, b = x, y -/
def parS (i j : Nat) (f g : EM) : SM := fun ρ => match evD f ρ with
  | some (x, ρ1) => match evD g ρ1 with
    | some (y, ρ2) => if isFree ρ2 i && isFree ρ2 j then some (.nx, (ρ2.set i (.va x)).set j (.va y)) else none
    | none => none
  | none => none
def forGo (g : GM) (fb : SM) : List D → SM
  | [], ρ => some (.nx, ρ)
  | d :: ds, ρ => match g d ρ with
    | some ρa => match fb ρa with
      | some (.nx, ρb) => forGo g fb ds ρb
      | some (.ct, ρb) => forGo g fb ds ρb
      | some (.bk, ρb) => some (.nx, ρb)
      | some (.rt r, ρb) => some (.rt r, ρb)
      | none => none
    | none => none
def forS (fi : IM) (g : GM) (fb : SM) : SM := fun ρ => match fi ρ with
  | some (ds, ρ1) => forGo g fb ds ρ1
  | none => none
def whileGo (c : TM) (fb : SM) : Nat → SM
  | 0, _ => none
  | n + 1, ρ => match c ρ with
    | some (false, ρ1) => some (.nx, ρ1)
    | some (true, ρ1) => match fb ρ1 with
      | some (.nx, ρ2) => whileGo c fb n ρ2
      | some (.ct, ρ2) => whileGo c fb n ρ2
      | some (.bk, ρ2) => some (.nx, ρ2)
      | some (.rt r, ρ2) => some (.rt r, ρ2)
      | none => none
    | none => none
def fuel : Nat := 1000000000
def whileS (c : TM) (fb : SM) : SM := whileGo c fb fuel
section
variable {X : Cx} {pos : Pos} {e c : Expr}
theorem pssx_nil : PSsx X [] skipS := ⟨pss_nil.weak fun D σ H ⟨F, ρ, o, ρ', R, e, k⟩ => by
  cases e
  exact k F H σ (Mv.refl R)⟩
theorem pssx_one {st : Stmt} {f : SM} (h : PSx X st f) : PSsx X [st] f := ⟨pss_one h.ps⟩
theorem pssx_cons {st : Stmt} {rest : List Stmt} {f g : SM} (h : PSx X st f) (h2 : PSsx X rest g) : PSsx X (st :: rest) (seqS f g) :=
  ⟨(pss_cons h.ps h2.pss).weak fun D σ H ⟨F, ρ, o, ρ', R, e, k⟩ => by
    unfold seqS at e
    split at e
    · rename_i ρ1 e1
      exact tS.next (D := { D with nx := _ }) R e1 fun F' H' σ' M => tS.step (f := f) M e k
    · rename_i hn
      refine ⟨F, ρ, o, ρ', R, e, ?_⟩
      cases o with
      | nx => exact absurd e (hn ρ')
      | bk => exact k
      | ct => exact k
      | rt r => exact k⟩
theorem psx_pass : PSx X (.Pass pos) skipS := ⟨ps_pass.weak fun D σ H ⟨F, ρ, o, ρ', R, e, k⟩ => by
  cases e
  exact k F H σ (Mv.refl R)⟩
theorem psx_break : PSx X (.Break pos) (fun ρ => some (.bk, ρ)) := ⟨ps_break.weak fun D σ H ⟨F, ρ, o, ρ', R, e, k⟩ => by
  cases e
  exact k F H σ (Mv.refl R)⟩
theorem psx_continue : PSx X (.Continue pos) (fun ρ => some (.ct, ρ)) := ⟨ps_continue.weak fun D σ H ⟨F, ρ, o, ρ', R, e, k⟩ => by
  cases e
  exact k F H σ (Mv.refl R)⟩
theorem psx_never {st : Stmt} : PSx X st (fun _ => none) := ⟨ps_never.weak fun D σ H ⟨F, ρ, o, ρ', R, e, k⟩ => by cases e⟩
theorem pssx_never {st : List Stmt} : PSsx X st (fun _ => none) := ⟨pss_never.weak fun D σ H ⟨F, ρ, o, ρ', R, e, k⟩ => by cases e⟩
theorem psx_doc {x j pos'} : PSx X (.Expr (.Constant (.str x) j pos) pos') skipS := ⟨ps_doc.weak fun D σ H ⟨F, ρ, o, ρ', R, e, k⟩ => by
  cases e
  exact k F H σ (Mv.refl R)⟩
theorem psx_expr {f : EM} (h : PX X e f) (hs : swapsWith e none pos.line X.env = pure false := by rfl) : PSx X (.Expr e pos) (exprS f) :=
  ⟨(ps_expr h.pe hs).weak fun D σ H ⟨F, ρ, o, ρ', R, e, k⟩ => by
    unfold exprS at e
    split at e
    · rename_i r ρ1 e1
      cases e
      exact tE.intro R e1 fun F1 H1 x M r => k F1 H1 σ M
    · cases e⟩
theorem psx_ret {f : EM} (h : PX X e f) : PSx X (.Return (some e) pos) (retS f) :=
  ⟨(ps_ret h.pe).weak fun D σ H ⟨F, ρ, o, ρ', R, e, k⟩ => by
    unfold retS at e
    split at e
    · cases e
    · rename_i r ρ1 hn e1
      cases e
      exact tE.intro R e1 fun F1 H1 x M rv => k F1 H1 σ x M rv
    · cases e⟩
theorem psx_retN : PSx X (.Return none pos) (fun ρ => some (.rt (.va .none), ρ)) := ⟨ps_retN.weak fun D σ H ⟨F, ρ, o, ρ', R, e, k⟩ => by
  cases e
  exact k F H σ _ (Mv.refl R) .non⟩
theorem psx_if {a b : List Stmt} {cm : TM} {f g : SM} (hc : PQ X c cm) (ha : PSsx X a f) (hb : PSsx X b g) : PSx X (.If c a b pos) (ifS cm f g) :=
  ⟨(ps_if hc.pt ha.pss hb.pss).weak fun D σ H ⟨F, ρ, o, ρ', R, e, k⟩ => by
    unfold ifS at e
    split at e
    · rename_i ρ1 e1
      exact tQ.intro R e1 fun F1 H1 M => by
        rw [if_pos rfl]
        exact tS.step (f := f) M e k
    · rename_i ρ1 e1
      exact tQ.intro R e1 fun F1 H1 M => by
        rw [if_neg Bool.false_ne_true]
        exact tS.step (f := f) M e k
    · cases e⟩
theorem set_read {i : Nat} {f : EM} {D : Ends} {σ : Sig} {H : Hp} (h : tS X.K (setS i f) D σ H) : tE X.K f σ H fun x H1 => gName i x σ H1 D.nx := by
  obtain ⟨F, ρ, o, ρ', R, e, k⟩ := h
  unfold setS at e
  split at e
  · rename_i d ρ1 e1
    split at e
    · rename_i hf
      cases e
      exact tE.intro R e1 fun F1 H1 x M rv => k F1 H1 _ (M.trans (Mv.set_va M.rel rv (isFree_slot hf)))
    · cases e
  · rename_i kk od ρ1 e1
    split at e
    · rename_i hf
      cases e
      refine tE.intro R e1 fun F1 H1 x M rv => ?_
      obtain ⟨p, rfl, hn, hw, ho, h0⟩ := rv
      exact k F1 H1 _ (Mv.set_ow M hn hw ho h0 (isFree_slot hf))
    · cases e
  · cases e
theorem psx_set (i : Nat) {x : Str} {f : EM} {pos' : Pos} (hN : X.N.Nodup) (h : PX X e f) (hi : X.N[i]? = some x := by rfl) (hx : Loc X.env.scope x := by first | exact Or.inl rfl | exact Or.inr rfl) (hs : swapsWith e (some (.Name x pos')) pos.line X.env = pure false := by rfl)
    (hf : X.fn x = true ∨ X.env.scope.names.lookup x = some .local := by first | exact .inl rfl | exact .inr rfl | assumption) : PSx X (.Assign [.Name x pos'] e pos) (setS i f) :=
  ⟨(ps_set hN hi hx h.pe hs hf).weak fun D σ H h => set_read h⟩
theorem psx_asg {tg : Expr} {ix : List Nat} {g : GM} {f : EM} (h : PX X e f) (hg : PGx X tg ix g) (hs : swapsWithSole [tg] e pos.line X.env = pure false := by rfl) (hw : swappedStores [tg] e X.env = pure none := by rfl)
    (h1 : (assignEach [tg] X.env).map (·.2) = [assign tg X.env] := by rfl) : PSx X (.Assign [tg] e pos) (asgS g f) :=
  ⟨(ps_asg h.pe hg.pg hs hw h1).weak fun D σ H ⟨F, ρ, o, ρ', R, e, k⟩ => by
    unfold asgS at e
    split at e
    · rename_i d ρ1 e1
      split at e
      · rename_i ρ2 e2
        cases e
        exact tE.val R e1 fun F1 H1 x M r => ⟨F1, ρ1, d, ρ', M.rel, r, e2, fun σ' M' _ _ => k F1 H1 σ' (M.trans M')⟩
      · cases e
    · cases e⟩
/-- name = [..] on one line -/
theorem psx_setLc (i : Nat) {y : Str} {py : Pos} {elt tg iter : Expr} {ifs : List Expr} {scope : Scope} {own : List (Str × Nat)} {pos spos : Pos} {ix : List Nat} {fi : IM} {g : GM} {tt : TM} {fe : EM} (hc : X.calm = true) (hN : X.N.Nodup) (hi : PIx X tg iter fi) (ok : BlkOk X.N X.env.scope scope own) (hix : ∀ j ∈ ix, j ∈ own.map (·.2))
    (hg : ∀ (s : Shared) (H : Hp) (C : Addr) (cl : List (Str × Addr)) (fp : List Addr), PGx (X.blk s H scope (compEnvC scope cl C X.env) fp) tg ix g) (ht : ∀ (s : Shared) (H : Hp) (C : Addr) (cl : List (Str × Addr)) (fp : List Addr), PTs (X.blk s H scope (compEnvC scope cl C X.env) fp) ifs (tQ X.K tt))
    (he : ∀ (s : Shared) (H : Hp) (C : Addr) (cl : List (Str × Addr)) (fp : List Addr), PX (X.blk s H scope (compEnvC scope cl C X.env) fp) elt fe) (hy : X.N[i]? = some y := by rfl) (hyl : X.env.scope.names.lookup y = some .local := by rfl)
    (hsw : swapsWith (.ListComp elt [⟨tg, iter, ifs, 0⟩] scope pos) (some (.Name y py)) spos.line X.env = pure true := by exact sw_true rfl rfl rfl (by decide +kernel)) (hs : ∀ x, foldedSetIterable iter X.env x = pure x := by intro _; rfl) :
    PSx X (.Assign [.Name y py] (.ListComp elt [⟨tg, iter, ifs, 0⟩] scope pos) spos) (setS i (lcM (own.map (·.2)) fi g tt fe)) :=
  ⟨(ps_setLc hc hN hy hyl hsw hi.pi ok (fun s H C cl fp => (hg s H C cl fp).pg) ht (fun s H C cl fp => (he s H C cl fp).pe) hs).weak fun D σ H h => lc_read hix σ H _ (set_read h)⟩
theorem psx_par (i j : Nat) {x y : Str} {a b : Expr} {f g : EM} {px py pt : Pos} {kt k2 pt2} (hc : X.calm = true) (hN : X.N.Nodup) (ha : PX X a f) (hb : PX X b g) (hi : X.N[i]? = some x := by rfl) (hj : X.N[j]? = some y := by rfl) (hij : i ≠ j := by decide)
    (hx : X.env.scope.names.lookup x = some .local := by rfl) (hy : X.env.scope.names.lookup y = some .local := by rfl) (hn : starEach [a, b] X.env = (false, eval a X.env) :: starEach [b] X.env := by rfl) (hn2 : starEach [b] X.env = (false, eval b X.env) :: starEach [] X.env := by rfl)
    (hw : swappedStores [.Tuple [.Name x px, .Name y py] kt pt] (.Tuple [a, b] k2 pt2) X.env = pure (some [x, y]) := by rfl) (hs : swapsWithSole [.Tuple [.Name x px, .Name y py] kt pt] (.Tuple [a, b] k2 pt2) pos.line X.env = pure false := by rfl) :
    PSx X (.Assign [.Tuple [.Name x px, .Name y py] kt pt] (.Tuple [a, b] k2 pt2) pos) (parS i j f g) :=
  ⟨(ps_par hc hN hi hj hij hx hy (pa_cons ha.pe (pa_cons hb.pe pa_nil hn2) hn) hw hs).weak fun D σ H ⟨F, ρ, o, ρ', R, e, k⟩ => by
    unfold parS at e
    split at e
    · rename_i x' ρ1 e1
      split at e
      · rename_i y' ρ2 e2
        split at e
        · rename_i hf
          cases e
          rw [Bool.and_eq_true] at hf
          refine tE.val R e1 fun F1 H1 v M1 r1 => tE.val M1.rel e2 fun F2 H2 w M2 r2 => ⟨v, w, rfl, ?_⟩
          have M3 := Mv.set_va (i := i) M2.rel (r1.same M2.stp.fr) (isFree_slot hf.1)
          have M4 := Mv.set_va (i := j) M3.rel r2 (fun s q => by
            rw [List.getElem?_set_ne hij] at q
            exact isFree_slot hf.2 s q)
          exact k F2 H2 _ ((M1.trans M2).trans (M3.trans M4))
        · cases e
      · cases e
    · cases e⟩

/-! ### for -/
theorem forGo_cons {g : GM} {fb : SM} {d : D} {ds : List D} {ρ ρ2 : Rho} {o : Out} (e : forGo g fb (d :: ds) ρ = some (o, ρ2)) : ∃ ρa o1 ρb, g d ρ = some ρa ∧ fb ρa = some (o1, ρb) ∧
    (((o1 = .nx ∨ o1 = .ct) ∧ forGo g fb ds ρb = some (o, ρ2)) ∨ (o1 = .bk ∧ o = .nx ∧ ρ2 = ρb) ∨ ∃ r, o1 = .rt r ∧ o = .rt r ∧ ρ2 = ρb) := by
  simp only [forGo] at e
  split at e
  · rename_i ρa e1
    split at e
    · rename_i ρb e2; exact ⟨ρa, _, ρb, e1, e2, .inl ⟨.inl rfl, e⟩⟩
    · rename_i ρb e2; exact ⟨ρa, _, ρb, e1, e2, .inl ⟨.inr rfl, e⟩⟩
    · rename_i ρb e2; cases e; exact ⟨ρa, _, _, e1, e2, .inr (.inl ⟨rfl, rfl, rfl⟩)⟩
    · rename_i r ρb e2; cases e; exact ⟨ρa, _, _, e1, e2, .inr (.inr ⟨r, rfl, rfl, rfl⟩)⟩
    · cases e
  · cases e
theorem forGo_out {g : GM} {fb : SM} : ∀ {ds : List D} {ρ ρ2 : Rho} {o : Out}, forGo g fb ds ρ = some (o, ρ2) → o = .nx ∨ ∃ r, o = .rt r
  | [], _, _, _, e => by cases e; exact .inl rfl
  | d :: ds, _, _, _, e => by
    obtain ⟨ρa, o1, ρb, _, _, q⟩ := forGo_cons e
    rcases q with ⟨_, q⟩ | ⟨_, q, _⟩ | ⟨r, _, q, _⟩
    · exact forGo_out q
    · exact .inl q
    · exact .inr ⟨r, q⟩
theorem psx_for {tg iter : Expr} {body : List Stmt} {fi : IM} {ix : List Nat} {g : GM} {fb : SM} (hp : PassesOwn (model X.prog X.w) X.A X.env X.xe) (hc : X.calm = true) (hi : PIx X tg iter fi) (hg : PGx X tg ix g) (hb : PSsx X body fb)
    (hs : ∀ x, foldedSetIterable iter X.env x = pure x := by intro _; rfl) : PSx X (.For tg iter body [] pos) (forS fi g fb) :=
  ⟨(ps_for hp hc hi.pi hg.pg hb.pss hs).weak fun D σ H ⟨F, ρ, o, ρ', R, e, k⟩ => by
    unfold forS at e
    split at e
    · rename_i ds ρ1 e1
      refine ⟨F, ρ, ds, ρ1, R, e1, fun F1 H1 J M1 wk => ?_⟩
      obtain ⟨G, Y, w, hG, hY⟩ := wk
      refine for_it w (fun i σ2 H2 => ∃ F' ρ2, Mv X.K F1 H1 ρ1 σ F' H2 ρ2 σ2 ∧ forGo g fb (ds.drop i) ρ2 = some (o, ρ')) ?_ ?_ ?_ ?_
      · exact ⟨F1, ρ1, Mv.refl M1.rel, e⟩
      · rintro i σ2 H2 _ ⟨F', ρ2, M, _⟩
        exact hG H2 (M.stp.fr.trans M.rel.same)
      · rintro i x σ2 H2 H3 hi ⟨F', ρ2, M, e4⟩ y
        obtain ⟨d, F2, hd, M2, rp⟩ := hY i H2 x H3 F' ρ2 σ2 hi M.stp.fr M.rel y
        have hdrop : ds.drop i = d :: ds.drop (i + 1) := by
          obtain ⟨hl, hv⟩ := List.getElem?_eq_some_iff.mp hd
          rw [List.drop_eq_getElem_cons hl, hv]
        rw [hdrop] at e4
        obtain ⟨ρa, o1, ρb, ea, eb, rest⟩ := forGo_cons e4
        refine ⟨F2, ρ2, d, ρa, M2.rel, rp, ea, fun σ3 M3 _ _ => ⟨F2, ρa, o1, ρb, M3.rel, eb, ?_⟩⟩
        have Ma := M.trans (M2.trans M3)
        rcases rest with ⟨ho, er⟩ | ⟨rfl, rfl, rfl⟩ | ⟨r, rfl, rfl, rfl⟩
        · rcases ho with rfl | rfl
          · exact fun F' H' σ' M' => ⟨F', ρb, Ma.trans M', er⟩
          · exact fun F' H' σ' M' => ⟨F', ρb, Ma.trans M', er⟩
        · exact fun F' H' σ' M' => k F' H' σ' (M1.trans (Ma.trans M'))
        · exact fun F' H' σ' v M' rv => k F' H' σ' v (M1.trans (Ma.trans M')) (RV.mv (M1.trans Ma) rv)
      · rintro σ2 H2 ⟨F', ρ2, M, e4⟩
        rw [List.drop_length] at e4
        cases e4
        exact k F' H2 σ2 (M1.trans M)
    · cases e⟩

/-! ### while -/
theorem whileGo_succ {c : TM} {fb : SM} {n : Nat} {ρ ρ3 : Rho} {o : Out} (e : whileGo c fb (n + 1) ρ = some (o, ρ3)) : ∃ b ρ1, c ρ = some (b, ρ1) ∧ ((b = false ∧ o = .nx ∧ ρ3 = ρ1) ∨ (b = true ∧ ∃ o1 ρ2, fb ρ1 = some (o1, ρ2) ∧
    (((o1 = .nx ∨ o1 = .ct) ∧ whileGo c fb n ρ2 = some (o, ρ3)) ∨ (o1 = .bk ∧ o = .nx ∧ ρ3 = ρ2) ∨ ∃ r, o1 = .rt r ∧ o = .rt r ∧ ρ3 = ρ2))) := by
  simp only [whileGo] at e
  split at e
  · rename_i ρ1 e1; cases e; exact ⟨false, _, e1, .inl ⟨rfl, rfl, rfl⟩⟩
  · rename_i ρ1 e1
    refine ⟨true, ρ1, e1, .inr ⟨rfl, ?_⟩⟩
    split at e
    · rename_i ρb e2; exact ⟨_, ρb, e2, .inl ⟨.inl rfl, e⟩⟩
    · rename_i ρb e2; exact ⟨_, ρb, e2, .inl ⟨.inr rfl, e⟩⟩
    · rename_i ρb e2; cases e; exact ⟨_, _, e2, .inr (.inl ⟨rfl, rfl, rfl⟩)⟩
    · rename_i r ρb e2; cases e; exact ⟨_, _, e2, .inr (.inr ⟨r, rfl, rfl, rfl⟩)⟩
    · cases e
  · cases e
theorem psx_while {body : List Stmt} {cm : TM} {fb : SM} (hp : PassesOwn (model X.prog X.w) X.A X.env X.xe) (hc : PQ X c cm) (hb : PSsx X body fb) : PSx X (.While c body [] pos) (whileS cm fb) :=
  ⟨(ps_while hp hc.pt hb.pss).weak fun D σ H ⟨F, ρ, o, ρ', R, e, k⟩ => by
    unfold whileS at e
    generalize fuel = n at e
    refine ⟨fun m σ2 H2 => ∃ F' ρ2, Mv X.K F H ρ σ F' H2 ρ2 σ2 ∧ whileGo cm fb m ρ2 = some (o, ρ'), ⟨n, F, ρ, Mv.refl R, e⟩, ?_⟩
    rintro m σ2 H2 ⟨F', ρ2, M, e4⟩
    cases m with
    | zero => cases e4
    | succ m =>
      obtain ⟨b, ρ3, ec, rest⟩ := whileGo_succ e4
      refine ⟨F', ρ2, b, ρ3, M.rel, ec, fun F3 H3 M3 => ?_⟩
      rcases rest with ⟨rfl, rfl, rfl⟩ | ⟨rfl, o1, ρ4, eb, rest⟩
      · rw [if_neg Bool.false_ne_true]
        exact k F3 H3 σ2 (M.trans M3)
      · rw [if_pos rfl]
        refine ⟨fun σ' H' => ∃ F' ρ2, Mv X.K F H ρ σ F' H' ρ2 σ' ∧ whileGo cm fb m ρ2 = some (o, ρ'), fun σ' H' h => ⟨m, Nat.lt_succ_self m, h⟩, F3, ρ3, o1, ρ4, M3.rel, eb, ?_⟩
        have Ma := M.trans M3
        rcases rest with ⟨ho, er⟩ | ⟨rfl, rfl, rfl⟩ | ⟨r, rfl, rfl, rfl⟩
        · rcases ho with rfl | rfl
          · exact fun F' H' σ' M' => ⟨F', ρ4, Ma.trans M', er⟩
          · exact fun F' H' σ' M' => ⟨F', ρ4, Ma.trans M', er⟩
        · exact fun F' H' σ' M' => k F' H' σ' (Ma.trans M')
        · exact fun F' H' σ' v M' rv => k F' H' σ' v (Ma.trans M') (RV.mv Ma rv)⟩
end
end PL

/-! PL, seventh part: what changes an owned object; defs and their calls. -/
namespace PL
open PySem PySem.Spec PyProof.Rows L2

def Ok.mut : Ok → Bool
  | .lck => false
  | _ => true
theorem Ok.mut_ne {k : Ok} (h : k.mut = true) : k ≠ .lck := fun e => by subst e; cases h

section
variable {X : Cx} {pos : Pos} {e : Expr}
/-! ### lists -/
/-- an own list's method with one argument: the new items, the answer -/
def mtM1 (g : List D → D → Option (List D × D)) (i : Nat) (f : EM) : EM := fun ρ => match ρ[i]? with
  | some (.ow _ (.lst _)) => match evD f ρ with
    | some (d, ρ1) => match ρ1[i]? with
      | some (.ow k (.lst xs)) => if k.mut then match g xs d with
          | some (ys, r) => some (.va r, ρ1.set i (.ow k (.lst ys)))
          | none => none
        else none
      | _ => none
    | none => none
  | _ => none
theorem mtM1_inv {g : List D → D → Option (List D × D)} {i : Nat} {f : EM} {ρ ρ2 : Rho} {r : Sl} (e : mtM1 g i f ρ = some (r, ρ2)) :
    ∃ k0 xs0 d ρ1 k xs ys z, ρ[i]? = some (.ow k0 (.lst xs0)) ∧ evD f ρ = some (d, ρ1) ∧ ρ1[i]? = some (.ow k (.lst xs)) ∧ k.mut = true ∧ g xs d = some (ys, z) ∧ r = .va z ∧ ρ2 = ρ1.set i (.ow k (.lst ys)) := by
  unfold mtM1 at e
  split at e
  · rename_i k0 xs0 e0
    split at e
    · rename_i d ρ1 e1
      split at e
      · rename_i k xs e2
        split at e
        · rename_i hk
          split at e
          · rename_i ys z e3
            cases e
            exact ⟨k0, xs0, d, ρ1, k, xs, ys, z, e0, e1, e2, hk, e3, rfl, rfl⟩
          · cases e
        · cases e
      · cases e
    · cases e
  · cases e
/-- a method's rule in data: given the values, the rule's own reading -/
def MtD (X : Cx) (r : V → List V → Hp → VK → Prop) (g : List D → D → Option (List D × D)) : Prop :=
  ∀ (F H : Hp) (a : Addr) (vs : List V) (xs : List D) (y : V) (d : D) (ys : List D) (z : D) (Q : VK), H a = some (.lst vs) → RepL X.K F vs xs → Rep X.K F y d → Same F H → g xs d = some (ys, z) →
    (∀ ws v, RepL X.K F ws ys → Rep X.K F v z → Q v (upd H a (.lst ws))) → r (.ref a) [y] H Q
theorem px_mt1 (i : Nat) {x name : Str} {T id : String} {npos apos : Pos} {a : Expr} {f : EM} {r : V → List V → Hp → VK → Prop} {g : List D → D → Option (List D × D)} (pa : PlainAttrs "list") (slot : Slot "list" name id) (hty : typeOf (.builtin id) = pure (.type "method_descriptor")) (hm : MtR X id r) (hg : MtD X r g) (h : PX X a f)
    (hN : X.N[i]? = some x := by rfl) (hv : Vis X.env.scope x := by first | exact Or.inl rfl | exact Or.inr (Or.inl rfl) | exact Or.inr (Or.inr rfl)) (hn : starEach [a] X.env = (false, eval a X.env) :: starEach [] X.env := by rfl) (hd : (x == ("__debug__" : Str)) = false := by decide) (hcd : (x == ("__classdict__" : Str)) = false := by decide)
    (w : ∀ {ta tb}, PE X (.Name x npos) ta → PA X [a] tb → PE X (.Call (.Attribute (.Name x npos) name apos) [a] [] pos) (tBM X.K "list" r ta tb)) : PX X (.Call (.Attribute (.Name x npos) name apos) [a] [] pos) (mtM1 g i f) :=
  ⟨(w (pe_var hN hv hd hcd) (pa_cons h.pe pa_nil hn)).weak fun σ H Q ⟨F, ρ, r, ρ', R, e, k⟩ => by
    obtain ⟨k0, xs0, d, ρ1, kk, xs, ys, z, e0, e1, e2, hk, e3, rfl, rfl⟩ := mtM1_inv e
    obtain ⟨p, h1, hn, ⟨vs, h2, _⟩, _⟩ := R.own_addr e0
    refine ⟨.ref p, h1, .inl ⟨rfl, _, .inl (.inl h2)⟩, tE.val R e1 fun F1 H1 y M ry => ?_⟩
    obtain ⟨p', h1', hn', ⟨vs', h2', rl⟩, _⟩ := M.rel.own_addr e2
    rw [h1] at h1'
    cases h1'
    refine hg F1 H1 p vs' xs y d ys z Q h2' rl ry M.rel.same e3 fun ws v rw' rz => ?_
    exact k F1 _ v (M.trans (Mv.write M.rel e2 h1 (Ok.mut_ne hk) ⟨ws, upd_same, rw'⟩)) rz⟩
def appD (xs : List D) (d : D) : Option (List D × D) := if xs.length < sizeLine then some (xs ++ [d], .none) else none
theorem mtd_append : MtD X rAppend appD := by
  intro F H a vs xs y d ys z Q h rl ry sm e k
  unfold appD at e
  split at e
  · rename_i hz
    cases e
    exact ⟨a, vs, y, rfl, rfl, h, by rw [rl.length]; exact hz, k _ _ (rl.append (.cons ry .nil)) .non⟩
  · cases e
theorem px_append (i : Nat) {x : Str} {npos apos : Pos} {a : Expr} {f : EM} (h : PX X a f) (hN : X.N[i]? = some x := by rfl) (hv : Vis X.env.scope x := by first | exact Or.inl rfl | exact Or.inr (Or.inl rfl) | exact Or.inr (Or.inr rfl))
    (hn : starEach [a] X.env = (false, eval a X.env) :: starEach [] X.env := by rfl) (hd : (x == ("__debug__" : Str)) = false := by decide) (hcd : (x == ("__classdict__" : Str)) = false := by decide)
    (w : ∀ {ta tb}, PE X (.Name x npos) ta → PA X [a] tb → PE X (.Call (.Attribute (.Name x npos) "append" apos) [a] [] pos) (tBM X.K "list" rAppend ta tb) := by exact fun h1 h2 => pe_bm PySem.F.plainAttrs_list PySem.F.slot_list_append PySem.F.type_list_append mt_append h1 h2) :
    PX X (.Call (.Attribute (.Name x npos) "append" apos) [a] [] pos) (mtM1 appD i f) :=
  px_mt1 (T := "list") i PySem.F.plainAttrs_list PySem.F.slot_list_append PySem.F.type_list_append mt_append mtd_append h hN hv hn hd hcd w
def extD (xs : List D) (d : D) : Option (List D × D) := match d with
  | .list ys => if xs.length + ys.length ≤ sizeLine then some (xs ++ ys, .none) else none
  | _ => none
/-- xs.extend(ys) for any list -/
def rExtX (K : PySem.W.Frag) : V → List V → Hp → VK → Prop := fun x vs H Q => ∃ l b xs zs, x = .ref l ∧ vs = [.ref b] ∧ H l = some (.lst xs) ∧ Rd H b (.lst zs) ∧ xs.length + zs.length ≤ sizeLine ∧ Q .non (upd H l (.lst (xs ++ zs)))
theorem mt_extendX : MtM X "list.extend" (rExtX X.K) := by
  intro pins s σ H x vs v us Q I rx rv h
  obtain ⟨l, b, xs, zs, rfl, rfl, hH, hB, hz, q⟩ := h
  cases rx
  obtain ⟨u, rfl, ru⟩ := rv.one
  cases ru
  obtain ⟨z, its, n, r, hl, e⟩ := I.lstM hH
  obtain ⟨z2, its2, n2, r2, e2⟩ : zs.length ≤ sizeLine ∧ ∃ (its : List Value) (n : Nat), Vals zs its ∧ s.heap.get? b = some { cls := .type "list", data := .seq its.toArray n } := hB.ok I.hok
  have hl2 := r2.length
  have hsz : its.toArray.size + its2.toArray.size ≤ sizeLine := by rw [List.size_toArray, List.size_toArray]; omega
  have hlong : ¬ (!its.toArray.isEmpty && Builtin.List.listTooLong (its.toArray.size + its2.toArray.size)) = true := by
    rw [notLongL hsz, Bool.and_false]
    exact Bool.false_ne_true
  refine call_meets F.slot_list_extend ⟨_, e, rfl⟩ F.entry_list_extend (F.args_list_extend_2 _ _)
    (AutoSeq1.list_extend_list_list_0 l its.toArray n b its2.toArray n2 hlong (by rw [List.size_toArray]; omega) (by omega)) ⟨e, e2, ?_⟩
  refine ⟨.non, _, I.lset (its' := its ++ its2) hH e (by simp) (r.append r2) ?_, rfl, q⟩
  rw [List.length_append]
  omega
/-- xs[i] = e, of an own list -/
def setIx (i : Nat) (fi : DM) (fe : EM) : SM := fun ρ => match evD fe ρ with
  | some (d, ρ1) => match ρ1[i]? with
    | some (.ow _ (.lst _)) => match fi ρ1 with
      | some (.int j, ρ2) => match ρ2[i]? with
        | some (.ow k (.lst xs)) => if k.mut then match ixN xs.length j with
            | some m => some (.nx, ρ2.set i (.ow k (.lst (xs.set m d))))
            | none => none
          else none
        | _ => none
      | _ => none
    | _ => none
  | none => none
theorem psx_setix (i : Nat) {x : Str} {ix : Expr} {npos spos : Pos} {fi : DM} {fe : EM} (he : PX X e fe) (hi : PV X ix fi) (hN : X.N[i]? = some x := by rfl) (hv : Vis X.env.scope x := by first | exact Or.inl rfl | exact Or.inr (Or.inl rfl) | exact Or.inr (Or.inr rfl)) (hd : (x == ("__debug__" : Str)) = false := by decide)
    (hcd : (x == ("__classdict__" : Str)) = false := by decide) (ha : ∀ v, assign (.Subscript (.Name x npos) ix spos) X.env v = (do
      let ov ← holding [v] (eval (.Name x npos) X.env)
      let iv ← holding [v, ov] (eval ix X.env)
      standAt spos
      holding [v, ov, iv] (setItem ov iv v)
      release [v, ov, iv] []) := by intro _; rfl) (hs : swapsWithSole [.Subscript (.Name x npos) ix spos] e pos.line X.env = pure false := by rfl) (hw : swappedStores [.Subscript (.Name x npos) ix spos] e X.env = pure none := by rfl)
    (h1 : (assignEach [.Subscript (.Name x npos) ix spos] X.env).map (·.2) = [assign (.Subscript (.Name x npos) ix spos) X.env] := by rfl) : PSx X (.Assign [.Subscript (.Name x npos) ix spos] e pos) (setIx i fi fe) :=
  ⟨(ps_asg he.pe (pg_sub (pe_var hN hv hd hcd) hi.pe set_list ha) hs hw h1).weak fun D σ H ⟨F, ρ, o, ρ', R, e, k⟩ => by
    unfold setIx at e
    split at e
    · rename_i d ρ1 e1
      split at e
      · rename_i k0 xs0 e0
        split at e
        · rename_i j ρ2 e2
          split at e
          · rename_i kk xs e3
            split at e
            · rename_i hk
              split at e
              · rename_i m e4
                cases e
                refine tE.val R e1 fun F1 H1 y M1 ry => ?_
                obtain ⟨p, h1, _⟩ := M1.rel.own_addr e0
                refine ⟨.ref p, h1, tV.intro M1.rel e2 fun F2 H2 z M2 rz => ?_⟩
                obtain ⟨p', h1', hn', ⟨vs', h2', rl⟩, _⟩ := M2.rel.own_addr e3
                rw [h1] at h1'
                cases h1'
                refine ⟨p, vs', j, m, rfl, rz.int_inv, h2', by rw [rl.length]; exact e4, ?_⟩
                exact k F2 _ σ ((M1.trans M2).trans (Mv.write M2.rel e3 h1 (Ok.mut_ne hk) ⟨_, upd_same, rl.set (ry.same M2.stp.fr) m⟩))
              · cases e
            · cases e
          · cases e
        · cases e
      · cases e
    · cases e⟩
end

/-! ### defs -/
abbrev FM := List Sl → Option (Sl × List Sl)
def spG (K : PySem.W.Frag) (n : Nat) (m : FM) : Sp := fun vs H Q _ => vs.length = n ∧ ∃ F ρ r ρ', Rel K F ρ (vs.map some) H ∧ m ρ = some (r, ρ') ∧
  ∀ F' H' v, Mv K F H ρ (vs.map some) F' H' ρ' (vs.map some) → RV K F' H' (Own ρ' (vs.map some)) H (Own ρ (vs.map some)) v r → Q v H'
def outArgs : List Sl → Rho → List Sl
  | .ow _ _ :: r, t :: l => t :: outArgs r l
  | s :: r, _ :: l => s :: outArgs r l
  | _, _ => []
def argOk : Sl → Bool
  | .ow .par _ => true
  | .va _ => true
  | _ => false
def bodyM (nl : Nat) (fb : SM) : FM := fun ρ => if ρ.all argOk then match fb (ρ ++ List.replicate nl .un) with
    | some (.rt r, ρ1) => some (r, outArgs ρ ρ1)
    | some (.nx, ρ1) => some (.va .none, outArgs ρ ρ1)
    | _ => none
  else none
theorem outArgs_get : ∀ {ρ ρ1 : Rho} {i : Nat} {s : Sl}, (outArgs ρ ρ1)[i]? = some s → (∃ k o, ρ[i]? = some (.ow k o) ∧ ρ1[i]? = some s) ∨ (ρ[i]? = some s ∧ ∀ k o, s ≠ .ow k o)
  | [], ρ1, i, s, h => by simp [outArgs] at h
  | x :: r, [], i, s, h => by cases x <;> simp [outArgs] at h
  | x :: r, t :: l, 0, s, h => by
    cases x with
    | ow k o => simp [outArgs] at h; subst h; exact .inl ⟨k, o, rfl, rfl⟩
    | va d => simp [outArgs] at h; subst h; exact .inr ⟨rfl, fun k o z => by cases z⟩
    | un => simp [outArgs] at h; subst h; exact .inr ⟨rfl, fun k o z => by cases z⟩
  | x :: r, t :: l, i + 1, s, h => by
    have h' : (outArgs r l)[i]? = some s := by cases x <;> simpa [outArgs] using h
    simpa using outArgs_get h'
theorem outArgs_ow : ∀ {ρ ρ1 : Rho} {i : Nat} {k : Ok} {o : OD}, ρ.length ≤ ρ1.length → ρ[i]? = some (.ow k o) → (outArgs ρ ρ1)[i]? = ρ1[i]?
  | [], ρ1, i, k, o, hl, h => by simp at h
  | x :: r, [], i, k, o, hl, h => by simp at hl
  | x :: r, t :: l, 0, k, o, hl, h => by simp at h; subst h; simp [outArgs]
  | x :: r, t :: l, i + 1, k, o, hl, h => by
    have q : (outArgs r l)[i]? = l[i]? := outArgs_ow (by simpa using hl) (by simpa using h)
    cases x <;> simpa [outArgs] using q
theorem outArgs_length : ∀ {ρ ρ1 : Rho}, ρ.length ≤ ρ1.length → (outArgs ρ ρ1).length = ρ.length
  | [], ρ1, _ => by simp [outArgs]
  | x :: r, [], h => by simp at h
  | x :: r, t :: l, h => by
    have q := outArgs_length (ρ := r) (ρ1 := l) (by simpa using h)
    cases x <;> simp [outArgs, q]
section
variable {K : PySem.W.Frag} {F H : Hp} {ρ : Rho} {σ : Sig}
theorem own_ext {nl : Nat} {a : Addr} (hl : ρ.length = σ.length) : Own (ρ ++ List.replicate nl .un) (σ ++ List.replicate nl none) a ↔ Own ρ σ a := by
  constructor
  · rintro ⟨i, k, o, h1, h2⟩
    by_cases hi : i < ρ.length
    · rw [List.getElem?_append_left hi] at h1
      rw [List.getElem?_append_left (by omega)] at h2
      exact ⟨i, k, o, h1, h2⟩
    · rw [List.getElem?_append_right (by omega)] at h1
      have := List.mem_replicate.mp (List.mem_of_getElem? h1)
      cases this.2
  · rintro ⟨i, k, o, h1, h2⟩
    have hi := (List.getElem?_eq_some_iff.mp h1).1
    exact ⟨i, k, o, by rw [List.getElem?_append_left hi]; exact h1, by rw [List.getElem?_append_left (by omega)]; exact h2⟩
theorem Rel.ext (R : Rel K F ρ σ H) (nl : Nat) : Rel K F (ρ ++ List.replicate nl .un) (σ ++ List.replicate nl none) H := by
  refine ⟨R.same, by simp [R.len], fun i s e => ?_, fun i j k l o u a h1 h2 h3 h4 => ?_⟩
  · by_cases hi : i < ρ.length
    · rw [List.getElem?_append_left hi] at e
      obtain ⟨v, e1, r⟩ := R.sl i s e
      exact ⟨v, by rw [List.getElem?_append_left (by rw [← R.len]; exact hi)]; exact e1, r⟩
    · have hl := (List.getElem?_eq_some_iff.mp e).1
      rw [List.getElem?_append_right (by omega)] at e
      have q := (List.mem_replicate.mp (List.mem_of_getElem? e)).2
      subst q
      have hlt : i < (σ ++ List.replicate nl (none : Option V)).length := by simpa [R.len] using hl
      exact ⟨_, List.getElem?_eq_getElem hlt, trivial⟩
  · have own : ∀ {i : Nat} {k : Ok} {o : OD}, (ρ ++ List.replicate nl .un)[i]? = some (.ow k o) → i < ρ.length ∧ ρ[i]? = some (.ow k o) := fun {i k o} e => by
      by_cases hi : i < ρ.length
      · rw [List.getElem?_append_left hi] at e
        exact ⟨hi, e⟩
      · rw [List.getElem?_append_right (by omega)] at e
        cases (List.mem_replicate.mp (List.mem_of_getElem? e)).2
    obtain ⟨n1, h1⟩ := own h1
    obtain ⟨n2, h2⟩ := own h2
    rw [List.getElem?_append_left (by rw [← R.len]; exact n1)] at h3
    rw [List.getElem?_append_left (by rw [← R.len]; exact n2)] at h4
    exact R.ap i j k l o u a h1 h2 h3 h4
/-- a def's end, told to its caller -/
theorem Mv.out {F1 H1 : Hp} {nl : Nat} {ρ1 : Rho} {σ1 : Sig} (R : Rel K F ρ σ H) (hok : ρ.all argOk = true) (M : Mv K F H (ρ ++ List.replicate nl .un) (σ ++ List.replicate nl none) F1 H1 ρ1 σ1) (hl : ρ.length ≤ ρ1.length) :
    Mv K F H ρ σ F1 H1 (outArgs ρ ρ1) σ ∧ ∀ a, Own (outArgs ρ ρ1) σ a → Own ρ1 σ1 a := by
  have pin : ∀ {i : Nat} {k : Ok} {o : OD}, ρ[i]? = some (.ow k o) → k ≠ .loc ∧ σ1[i]? = σ[i]? ∧ ∃ o', ρ1[i]? = some (.ow k o') ∧ (k = .lck → o' = o) := fun {i k o} e => by
    have hi := (List.getElem?_eq_some_iff.mp e).1
    have hk : k ≠ .loc := fun z => by
      subst z
      have q := List.all_eq_true.mp hok _ (List.mem_of_getElem? e)
      cases q
    obtain ⟨e1, o', e2, l⟩ := M.pin.2 i k o (by rw [List.getElem?_append_left hi]; exact e) hk
    rw [List.getElem?_append_left (by rw [← R.len]; exact hi)] at e1
    exact ⟨hk, e1, o', e2, l⟩
  have own : ∀ {i : Nat} {k : Ok} {o : OD}, (outArgs ρ ρ1)[i]? = some (.ow k o) → σ1[i]? = σ[i]? ∧ ρ1[i]? = some (.ow k o) ∧ ∃ k0 o0, ρ[i]? = some (.ow k0 o0) := fun {i k o} e => by
    rcases outArgs_get e with ⟨k0, o0, h1, h2⟩ | ⟨_, h2⟩
    · exact ⟨(pin h1).2.1, h2, k0, o0, h1⟩
    · exact absurd rfl (h2 k o)
  have sub : ∀ a, Own (outArgs ρ ρ1) σ a → Own ρ1 σ1 a := fun a ⟨i, k, o, h1, h2⟩ => by
    obtain ⟨e1, e2, _⟩ := own h1
    exact ⟨i, k, o, e2, by rw [e1]; exact h2⟩
  refine ⟨⟨⟨M.rel.same, by rw [outArgs_length hl, R.len], fun i s e => ?_, fun i j k l o u a h1 h2 h3 h4 => ?_⟩, ⟨M.stp.fr, fun a o e n => M.stp.keep a o e fun q => n ((own_ext R.len).mp q), fun a h1 h2 => (M.stp.new a h1 h2).imp id (own_ext R.len).mp, fun a q => (M.stp.sub a (sub a q)).imp (own_ext R.len).mp id, M.stp.grow⟩, rfl, fun i k o e n => ?_⟩, sub⟩
  · rcases outArgs_get e with ⟨k0, o0, h1, h2⟩ | ⟨h1, h2⟩
    · obtain ⟨_, e1, _⟩ := pin h1
      obtain ⟨v, e2, r⟩ := M.rel.sl i s h2
      exact ⟨v, by rw [← e1]; exact e2, r⟩
    · obtain ⟨v, e1, r⟩ := R.sl i s h1
      refine ⟨v, e1, ?_⟩
      cases s with
      | un => trivial
      | va d => obtain ⟨x, z, r⟩ := r; exact ⟨x, z, r.same M.stp.fr⟩
      | ow k o => exact absurd rfl (h2 k o)
  · obtain ⟨e1, h1, _⟩ := own h1
    obtain ⟨e2, h2, _⟩ := own h2
    exact M.rel.ap i j k l o u a h1 h2 (by rw [e1]; exact h3) (by rw [e2]; exact h4)
  · obtain ⟨_, _, o', e2, l⟩ := pin e
    exact ⟨rfl, o', by rw [outArgs_ow hl e]; exact e2, l⟩
end
section
variable {P : Program} {w : World} {K : PySem.W.Frag} {mg : Str → Option Value} {base : Heap}
theorem RV.weaken {F H H0 : Hp} {O O' O0 O0' : Addr → Prop} {v : V} {r : Sl} (h : RV K F H O H0 O0 v r) (h1 : ∀ a, O' a → O a) (h2 : ∀ a, O0 a → O0' a) : RV K F H O' H0 O0' v r := by
  cases r with
  | un => exact h
  | va d => exact h
  | ow k o =>
    obtain ⟨p, e, a, b, c, d⟩ := h
    exact ⟨p, e, a, b, fun q => c (h1 p q), d.imp id (h2 p)⟩
/-- a def keeps its promise -/
theorem ok_fn {x qual : Str} {st : Stmt} {f : Addr} {fd : FuncData} {N ps : List Str} {k : Nat} (nl : Nat) {fb : SM} (Fn : Fun K x qual st f fd) (S : FnScope N ps (defScope st)) (hnl : N.length = ps.length + nl)
    (hb : ∀ (cdv : Value) (A : Around) (outer : List Env) (s : Shared) (H : Hp) (E : XK), Room k (A.deeper (envOfC qual (defScope st) s.heap.objs.size f cdv)) → PSsx (cxOf CX0 P w K mg base N qual (defScope st) f cdv A outer s H E).nox (defBody st) fb) :
    FnOk P w K mg base CX0 (k + 1) f fd ps (spG K ps.length (bodyM nl fb)) := by
  refine Fn.ok S (fun vs H Q E h => h.1) (fun cdv A outer s H vs Q E hr h => ⟨tS K fb, (hb cdv A outer s H E hr).pss, ?_⟩)
  obtain ⟨hlen, F, ρ, r, ρ', R, e, kk⟩ := h
  unfold bodyM at e
  split at e
  · rename_i hok
    have hst : L2.start N vs = vs.map some ++ List.replicate nl none := by
      unfold L2.start
      rw [hlen, hnl, Nat.add_sub_cancel_left]
    rw [hst]
    have lenOf : ∀ {F1 H1 : Hp} {ρ1 : Rho} {σ1 : Sig}, Mv K F H (ρ ++ List.replicate nl .un) (vs.map some ++ List.replicate nl none) F1 H1 ρ1 σ1 → ρ.length ≤ ρ1.length := fun M => by
      have h1 := M.rel.len
      have h2 := M.pin.1
      have h3 := R.len
      simp only [List.length_append, List.length_replicate] at h2
      omega
    split at e
    · rename_i r' ρ1 e1
      cases e
      refine ⟨F, _, _, _, R.ext nl, e1, fun F' H' σ' v M rv => ?_⟩
      obtain ⟨M', sub⟩ := Mv.out R hok M (lenOf M)
      exact kk F' H' v M' (rv.weaken sub fun a q => (own_ext R.len).mp q)
    · rename_i ρ1 e1
      cases e
      refine ⟨F, _, _, _, R.ext nl, e1, fun F' H' σ' M => ?_⟩
      obtain ⟨M', sub⟩ := Mv.out R hok M (lenOf M)
      exact kk F' H' .non M' .non
    · cases e
  · cases e

/-! ### calls -/
section
variable {X : Cx} {CX : CXT} {k : Nat} {f : Addr} {fd : FuncData} {ps : List Str} {x : Str} {p pos : Pos} {es : List Expr} {e : Expr}
theorem repL_get' {K : PySem.W.Frag} {F : Hp} {vs : List V} {ds : List D} (h : RepL K F vs ds) {i : Nat} {s : Sl} (e : (ds.map Sl.va)[i]? = some s) : ∃ v, (vs.map some)[i]? = some (some v) ∧ ∃ d, s = .va d ∧ Rep K F v d := by
  rw [List.getElem?_map] at e
  obtain ⟨d, e1, rfl⟩ := Option.map_eq_some_iff.mp e
  obtain ⟨v, h1, h2⟩ := h.get e1
  exact ⟨v, by rw [List.getElem?_map, h1]; rfl, d, rfl, h2⟩
theorem Rel.args {K : PySem.W.Frag} {F H : Hp} {vs : List V} {ds : List D} (sm : Same F H) (h : RepL K F vs ds) : Rel K F (ds.map Sl.va) (vs.map some) H := by
  refine ⟨sm, by simp [h.length], fun i s e => ?_, fun i j k l o u a h1 h2 h3 h4 => ?_⟩
  · obtain ⟨v, e1, d, rfl, r⟩ := repL_get' h e
    exact ⟨_, e1, v, rfl, r⟩
  · obtain ⟨_, _, _, z, _⟩ := repL_get' h h1
    cases z
theorem not_own_args {ds : List D} {σ : Sig} {a : Addr} : ¬ Own (ds.map Sl.va) σ a := fun ⟨i, k, o, h1, _⟩ => by
  rw [List.getElem?_map] at h1
  obtain ⟨d, _, z⟩ := Option.map_eq_some_iff.mp h1
  cases z
def callM (m : FM) (ags : List EM) : EM := fun ρ => match evAgs ags ρ with
  | some (ds, ρ1) => match m (ds.map .va) with
    | some (r, _) => some (r, ρ1)
    | none => none
  | none => none
theorem callM_inv {m : FM} {ags : List EM} {ρ ρ1 : Rho} {r : Sl} (e : callM m ags ρ = some (r, ρ1)) : ∃ ds ρ2, evAgs ags ρ = some (ds, ρ1) ∧ m (ds.map .va) = some (r, ρ2) := by
  unfold callM at e
  split at e
  · rename_i ds ρ3 e1
    split at e
    · rename_i r' ρ4 e2
      cases e
      exact ⟨ds, _, e1, e2⟩
    · cases e
  · cases e
/-- behind a call that owned nothing of ours -/
theorem Mv.called {K : PySem.W.Frag} {F H F' H' : Hp} {ρ ρc ρd : Rho} {σ σc : Sig} (R : Rel K F ρ σ H) (M : Mv K F H ρc σc F' H' ρd σc) (h : ∀ a, ¬ Own ρc σc a) : Mv K F H ρ σ F' H' ρ σ := by
  refine ⟨⟨M.rel.same, R.len, fun i s e => ?_, R.ap⟩, ⟨M.stp.fr, fun a o e _ => M.stp.keep a o e (h a), fun a h1 h2 => (M.stp.new a h1 h2).imp id fun q => absurd q (h a), fun a q => .inl q, M.stp.grow⟩, Pin.refl⟩
  obtain ⟨v, e1, r⟩ := R.sl i s e
  refine ⟨v, e1, ?_⟩
  cases s with
  | un => trivial
  | va d => obtain ⟨y, z, r⟩ := r; exact ⟨y, z, r.same M.stp.fr⟩
  | ow k o =>
    obtain ⟨a, z, n, ow⟩ := r
    subst z
    have hO : Own ρ σ a := ⟨i, k, o, e, e1⟩
    refine ⟨a, rfl, Classical.byContradiction fun q => ?_, ow.at M.stp.fr fun u hu => M.stp.keep a u hu (h a)⟩
    rcases M.stp.new a n q with q | q
    · exact (R.own_some hO).1 q
    · exact h a q
theorem px_call {n : Nat} {m : FM} {ags : List EM} (F : FnOk X.prog X.w X.K X.mg X.base CX0 k f fd ps (spG X.K n m)) (hr : Room k X.A) (hm : X.mg x = some (.ref f)) (hk : PySem.W.keepIn X.K (.ref f) = true) (hb : Binds X.K fd ps []) (ha : PAx X (e :: es) ags) (hn : ags.length = n := by rfl) (hg : Gl X x := by rfl)
    (hdb : (x == ("__debug__" : Str)) = false := by decide) (he : starEach (e :: es) X.env = (false, eval e X.env) :: starEach es X.env := by rfl) (hpl : (backTo pos (starEach es X.env)).any (·.1) = false := by rfl) : PX X (.Call (.Name x p) (e :: es) [] pos) (callM m ags) :=
  ⟨(pe_call (pos := pos) F hr hg hm hk hb .nil pass0 ha.pa hdb he hpl).weak fun σ H Q ⟨Fz, ρ, r, ρ', R, e, k⟩ => by
    obtain ⟨ds, ρ2, e1, e2⟩ := callM_inv e
    refine ⟨Fz, ρ, ds, ρ', R, e1, fun F1 H1 vs M rs => ?_⟩
    show spG X.K n m (vs ++ []) H1 Q E0
    rw [List.append_nil]
    refine ⟨by rw [rs.length, evAgs_len e1, hn], F1, _, r, ρ2, Rel.args M.rel.same rs, e2, fun F' H' v M' rv => ?_⟩
    have M2 := Mv.called M.rel M' fun a => not_own_args
    refine k F' H' v (M.trans M2) (RV.mv M ?_)
    cases r with
    | un => exact rv
    | va d => exact rv
    | ow kk o =>
      obtain ⟨pp, z, a, b, c, d⟩ := rv
      have d' : H1 pp = none := d.resolve_right not_own_args
      exact ⟨pp, z, a, b, fun q => (M.rel.own_some q).1 d', .inl d'⟩⟩
/-- f(x, ..), the first argument an object of ours that f may change -/
def callIO (m : FM) (i : Nat) (ags : List EM) : EM := fun ρ => match ρ[i]? with
  | some (.ow _ _) => match evAgs ags ρ with
    | some (ds, ρ1) => match ρ1[i]? with
      | some (.ow k o) => if k.mut then match m (.ow .par o :: ds.map .va) with
          | some (r, .ow .par o' :: _) => some (r, ρ1.set i (.ow k o'))
          | _ => none
        else none
      | _ => none
    | none => none
  | _ => none
theorem callIO_inv {m : FM} {i : Nat} {ags : List EM} {ρ ρ' : Rho} {r : Sl} (e : callIO m i ags ρ = some (r, ρ')) : ∃ k0 o0 ds ρ1 k o o' ρr, ρ[i]? = some (.ow k0 o0) ∧ evAgs ags ρ = some (ds, ρ1) ∧ ρ1[i]? = some (.ow k o) ∧ k.mut = true ∧
    m (.ow .par o :: ds.map .va) = some (r, .ow .par o' :: ρr) ∧ ρ' = ρ1.set i (.ow k o') := by
  unfold callIO at e
  split at e
  · rename_i k0 o0 e0
    split at e
    · rename_i ds ρ1 e1
      split at e
      · rename_i k o e2
        split at e
        · rename_i hk
          split at e
          · rename_i r' o' ρr e3
            cases e
            exact ⟨k0, o0, ds, ρ1, k, o, o', ρr, e0, e1, e2, hk, e3, rfl⟩
          · cases e
        · cases e
      · cases e
    · cases e
  · cases e
theorem px_callIO {n : Nat} {m : FM} (i : Nat) {y : Str} {npos : Pos} {ags : List EM} (F : FnOk X.prog X.w X.K X.mg X.base CX0 k f fd ps (spG X.K n m)) (hr : Room k X.A) (hm : X.mg x = some (.ref f)) (hk : PySem.W.keepIn X.K (.ref f) = true) (hb : Binds X.K fd ps []) (ha : PAx X es ags) (hn : ags.length + 1 = n := by rfl) (hg : Gl X x := by rfl)
    (hN : X.N[i]? = some y := by rfl) (hv : Vis X.env.scope y := by first | exact Or.inl rfl | exact Or.inr (Or.inl rfl) | exact Or.inr (Or.inr rfl)) (hd : (y == ("__debug__" : Str)) = false := by decide) (hcd : (y == ("__classdict__" : Str)) = false := by decide)
    (hdb : (x == ("__debug__" : Str)) = false := by decide) (he : starEach (.Name y npos :: es) X.env = (false, eval (.Name y npos) X.env) :: starEach es X.env := by rfl) (hpl : (backTo pos (starEach es X.env)).any (·.1) = false := by rfl) : PX X (.Call (.Name x p) (.Name y npos :: es) [] pos) (callIO m i ags) :=
  ⟨(pe_call (pos := pos) F hr hg hm hk hb .nil pass0 (pa_cons (pe_var hN hv hd hcd) ha.pa he) hdb he hpl).weak fun σ H Q ⟨Fz, ρ, r, ρ', R, e, k⟩ => by
    obtain ⟨k0, o0, ds, ρ1, kk, o, o', ρr, e0, e1, e2, hmu, e3, rfl⟩ := callIO_inv e
    obtain ⟨a, h1, _⟩ := R.own_addr e0
    refine ⟨.ref a, h1, Fz, ρ, ds, ρ1, R, e1, fun F1 H1 vs M rs => ?_⟩
    show spG X.K n m ((.ref a :: vs) ++ []) H1 Q E0
    rw [List.append_nil]
    obtain ⟨a', h1', hn', hw, hO⟩ := M.rel.own_addr e2
    rw [h1] at h1'
    cases h1'
    have Rc : Rel X.K F1 (.ow .par o :: ds.map Sl.va) ((.ref a :: vs).map some) H1 := by
      have Ra := Rel.args M.rel.same rs
      refine ⟨M.rel.same, by simp [rs.length], fun j s e => ?_, fun i1 i2 k1 k2 o1 o2 b z1 z2 _ _ => ?_⟩
      · cases j with
        | zero => simp at e; subst e; exact ⟨_, rfl, a, rfl, hn', hw⟩
        | succ j => exact Ra.sl j s (by simpa using e)
      · have only : ∀ {j : Nat} {k1 : Ok} {o1 : OD}, (Sl.ow .par o :: ds.map Sl.va)[j]? = some (.ow k1 o1) → j = 0 := fun {j k1 o1} e => by
          cases j with
          | zero => rfl
          | succ j =>
            obtain ⟨_, _, _, z, _⟩ := repL_get' (i := j) (s := .ow k1 o1) rs (by simpa using e)
            cases z
        rw [only z1, only z2]
    have ownc : ∀ b, Own (.ow .par o :: ds.map Sl.va) ((V.ref a :: vs).map some) b → b = a := fun b ⟨j, k1, o1, z1, z2⟩ => by
      cases j with
      | zero => simp at z2; exact z2.symm
      | succ j =>
        obtain ⟨_, _, _, z, _⟩ := repL_get' (i := j) (s := .ow k1 o1) rs (by simpa using z1)
        cases z
    refine ⟨by simp [rs.length, evAgs_len e1, ← hn], F1, _, r, _, Rc, e3, fun F' H' v M' rv => ?_⟩
    have hl : i < ρ1.length := (List.getElem?_eq_some_iff.mp e2).1
    obtain ⟨w0, ew, b0, eb, hnF, hw'⟩ := M'.rel.sl 0 (.ow .par o') rfl
    simp at ew
    subst ew
    cases eb
    have sub : ∀ {b : Addr}, Own (ρ1.set i (.ow kk o')) σ b → Own ρ1 σ b := fun {b} ⟨j, k1, o1, z1, z2⟩ => by
      rcases set_get z1 with ⟨ej, _, _⟩ | ⟨_, z1⟩
      · subst ej; exact ⟨j, kk, o, e2, z2⟩
      · exact ⟨j, k1, o1, z1, z2⟩
    have Mx : Mv X.K F1 H1 ρ1 σ F' H' (ρ1.set i (.ow kk o')) σ := by
      have R1 := M.rel
      refine ⟨⟨M'.rel.same, by simp [R1.len], fun j s ej => ?_, fun i1 i2 k1 k2 o1 o2 b z1 z2 z3 z4 => ?_⟩, ⟨M'.stp.fr, fun b u eb nb => M'.stp.keep b u eb fun q => nb (by rw [ownc b q]; exact hO), fun b z1 z2 => (M'.stp.new b z1 z2).imp id fun q => by rw [ownc b q]; exact hO, fun b q => .inl (sub q), M'.stp.grow⟩, rfl, fun j k1 o1 z1 z2 => ?_⟩
      · rcases set_get ej with ⟨q1, q2, _⟩ | ⟨ne, ej⟩
        · subst q1 q2
          exact ⟨_, h1, a, rfl, hnF, hw'⟩
        · obtain ⟨v', q, rr⟩ := R1.sl j s ej
          refine ⟨v', q, ?_⟩
          cases s with
          | un => trivial
          | va d => obtain ⟨y', z, rr⟩ := rr; exact ⟨y', z, rr.same M'.stp.fr⟩
          | ow k2 o2 =>
            obtain ⟨b, z, nb, ow⟩ := rr
            subst z
            have nba : b ≠ a := fun z => by subst z; exact ne (R1.ap j i k2 kk o2 o b ej e2 q h1)
            have hOb : Own ρ1 σ b := ⟨j, k2, o2, ej, q⟩
            refine ⟨b, rfl, Classical.byContradiction fun qq => ?_, ow.at M'.stp.fr fun u hu => M'.stp.keep b u hu fun qq => nba (ownc b qq)⟩
            rcases M'.stp.new b nb qq with qq | qq
            · exact (R1.own_some hOb).1 qq
            · exact nba (ownc b qq)
      · have back : ∀ {j : Nat} {k1 : Ok} {o1 : OD}, (ρ1.set i (.ow kk o'))[j]? = some (.ow k1 o1) → ∃ k2 o2, ρ1[j]? = some (.ow k2 o2) := fun {j k1 o1} hj => by
          rcases set_get hj with ⟨q, _⟩ | ⟨_, hj⟩
          · subst q; exact ⟨kk, o, e2⟩
          · exact ⟨_, _, hj⟩
        obtain ⟨_, _, q1⟩ := back z1
        obtain ⟨_, _, q2⟩ := back z2
        exact R1.ap i1 i2 _ _ _ _ b q1 q2 z3 z4
      · by_cases q : i = j
        · subst q
          rw [e2] at z1
          cases z1
          exact ⟨rfl, o', by rw [List.getElem?_set_self hl], fun z => absurd z (Ok.mut_ne hmu)⟩
        · exact ⟨rfl, o1, by rw [List.getElem?_set_ne q]; exact z1, fun _ => rfl⟩
    refine k F' H' v (M.trans Mx) (RV.mv M ?_)
    cases r with
    | un => exact rv
    | va d => exact rv
    | ow k3 o3 =>
      obtain ⟨pp, z, q1, q2, q3, q4⟩ := rv
      have nin : ¬ pp = a := fun z => q3 ⟨0, .par, o', rfl, by subst z; rfl⟩
      have q4' : H1 pp = none := q4.resolve_right fun q => nin (ownc pp q)
      exact ⟨pp, z, q1, q2, fun q => (M.rel.own_some (sub q)).1 q4', .inl q4'⟩⟩
end
end
end PL

/-! PL, eighth part: isinstance, any, more methods of lists. -/
namespace PL
open PySem PySem.Spec PyProof.Rows L2

/-! ### isinstance -/
inductive IK where
  | dict | list | tuple | str | int | bool
def IK.name : IK → String
  | .dict => "dict" | .list => "list" | .tuple => "tuple" | .str => "str" | .int => "int" | .bool => "bool"
def tyD : D → String
  | .none => "NoneType" | .bool _ => "bool" | .int _ => "int" | .str _ => "str" | .list _ => "list" | .tuple _ => "tuple" | .dict _ => "dict"
def isiD : IK → D → Bool
  | .dict, .dict _ => true
  | .list, .list _ => true
  | .tuple, .tuple _ => true
  | .str, .str _ => true
  | .int, .int _ => true
  | .int, .bool _ => true
  | .bool, .bool _ => true
  | _, _ => false
theorem kitB_isi (k : IK) (d : D) : kitB (tyD d) k.name = some (isiD k d) := by
  cases k <;> cases d <;> (dsimp only [tyD, isiD, IK.name]; decide +kernel)
section
variable {X : Cx} {pos : Pos}
theorem kit_rb {pins : List (Addr × Obj)} {σ : Sig} {H F : Hp} {s : Shared} {x : V} {u : Value} {d : D} (I : Inv X pins σ H s) (sm : Same F H) (rx : RelV x u) (h : RB X.K F H x d) :
    ∃ P : Heap → Prop, PySem.W.KitX X.K u (.type (tyD d)) P ∧ P s.heap ∧ u ≠ .builtin "__main__.__loader__#opaque" := by
  cases d with
  | none => rw [h.none_inv] at rx; exact kit_of I rx (.base .non)
  | bool b => rw [h.bool_inv] at rx; exact kit_of I rx (.base (.bl b))
  | int i => rw [h.int_inv] at rx; exact kit_of I rx (.base (.int i))
  | str z => rw [h.str_inv] at rx; exact kit_of I rx (.base (.str z))
  | list ds =>
    obtain ⟨a, xs, rfl, (e | ⟨o, e⟩) | ⟨o, its, n, e, c, _⟩, _⟩ := h
    · exact kit_of I rx (.base (.lst e))
    · exact kit_of I rx (.base (.frz e))
    · exact kit_of I rx (.kList e c)
  | tuple ds =>
    obtain ⟨a, xs, rfl, (e | ⟨o, e⟩) | ⟨o, its, n, e, c, _⟩, _⟩ := RB.tup_inv sm h
    · exact kit_of I rx (.base (.tup e))
    · exact kit_of I rx (.fTuple e)
    · exact kit_of I rx (.kTuple e c)
  | dict kvs =>
    obtain ⟨a, ks, vs, ds, rfl, _, e, _⟩ := h
    cases e with
    | fr e =>
      cases e with
      | k e => exact kit_of I rx (.fDict e)
      | @t ob kvs e =>
        cases (show u = Value.ref a from rx)
        obtain ⟨_, _, _, xs, _, o, es, ep, h1, h2, _⟩ := (show ObjOk X.prog X.w H s.heap a (.frz ob (.dT kvs)) from I.hok a _ e)
        exact ⟨_, PySem.W.kitx_dict, ⟨o, h1, h2.1⟩, fun z => nomatch z⟩
    | ow e =>
      cases e with
      | k e => exact kit_of I rx (.base (.dK e))
      | t e => exact kit_of I rx (.base (.dT e))
def isiM (k : IK) : D → Option Sl := fun d => some (.va (.bool (isiD k d)))
theorem px_isi (k : IK) {a : Expr} {p tp : Pos} {f : DM} {T : Str} (h : PV X a f) (hm : X.mg "isinstance" = none) (hmT : X.mg T = none) (hT : bootBuiltins T = some (.type k.name) := by decide +kernel) (hg : Gl X "isinstance" := by rfl) (hgT : Gl X T := by rfl)
    (hn : starEach [a, .Name T tp] X.env = (false, eval a X.env) :: starEach [.Name T tp] X.env := by rfl) (hn2 : starEach [.Name T tp] X.env = (false, eval (.Name T tp) X.env) :: starEach [] X.env := by rfl) (hT1 : T ≠ "__name__" := by decide) (hT2 : (T == ("__debug__" : Str)) = false := by decide)
    (hpl : (backTo pos (starEach [.Name T tp] X.env)).any (·.1) = false := by rfl) : PX X (.Call (.Name "isinstance" p) [a, .Name T tp] [] pos) (un1 (isiM k) f) := by
  refine ⟨⟨fun pins s σ H Q I hh => ?_⟩⟩
  obtain ⟨F, ρ, r, ρ', R, e, kk⟩ := hh
  obtain ⟨d, e1, e2⟩ := un1_inv e
  cases e2
  refine wpAny_Call_Name_kw (ld_blt I hg hm (u := .builtin "isinstance") (by decide +kernel) ?_)
  have pT := pe_bltn (X := X) (pos := tp) (v := .ty k.name) hgT hmT hT rfl hT1 hT2
  have pa := pa_cons (X := X) h.pe (pa_cons pT pa_nil hn2) hn
  refine PyProof.Rows.callWith_builtin1 (thn (pa.run pos pins s σ H (fun vs H1 => ∃ z F1, vs = [z, .ty k.name] ∧ Mv X.K F H ρ σ F1 H1 ρ' σ ∧ RB X.K F1 H1 z d) I (tV.intro R e1 fun F1 H1 x M r => ⟨x, F1, rfl, M, r⟩)) fun us s1 ⟨vs, H1, I1, r1, z, F1, ez, M, rb⟩ => ?_) hn hpl
  subst ez
  obtain ⟨u1, u2, rfl, ru1, ru2⟩ := vals2 r1
  cases (show u2 = Value.type k.name from ru2)
  obtain ⟨P, Z, p, hx⟩ := kit_rb I1 M.rel.same ru1 rb
  exact PySem.W.kia_one Z I1.kIn p (kit_ty (kitB_isi k d)) hx fun tk => ⟨.bl (isiD k d), H1, I1.tok tk, rfl, kk F1 H1 _ M (.bl _)⟩

/-! ### any -/
def plT : D → Option Bool
  | .none => some false
  | .bool b => some b
  | .int i => some (i != 0)
  | _ => none
def plTs : List D → Option (List Bool)
  | [] => some []
  | d :: r => match plT d with
    | some b => match plTs r with
      | some t => some (b :: t)
      | none => none
    | none => none
def anyD : D → Option Sl
  | .list xs => (plTs xs).map fun bs => .va (.bool (bs.any id))
  | _ => none
theorem plTs_get {K : PySem.W.Frag} {F : Hp} : ∀ {ds : List D} {bs : List Bool} {vs : List V} {us : List Value}, plTs ds = some bs → RepL K F vs ds → Vals vs us → bs.length = us.length ∧ ∀ (i : Nat) (u : Value), us[i]? = some u → ∃ b d v, bs[i]? = some b ∧ plT d = some b ∧ Rep K F v d ∧ RelV v u
  | [], bs, vs, us, h, r, rv => by
    cases h
    rw [r.nil_inv] at rv
    cases rv
    exact ⟨rfl, fun i u e => by simp at e⟩
  | d :: ds, bs, vs, us, h, r, rv => by
    simp only [plTs] at h
    split at h
    · rename_i b hb
      split at h
      · rename_i t ht
        cases h
        obtain ⟨v, r', rfl, h1, h2⟩ := r.cons_inv
        cases rv with
        | cons p q =>
          obtain ⟨l, g⟩ := plTs_get ht h2 q
          refine ⟨by simp [l], fun i u e => ?_⟩
          cases i with
          | zero => simp at e; subst e; exact ⟨b, d, v, rfl, hb, h1, p⟩
          | succ i => simpa using g i u (by simpa using e)
      · cases h
    · cases h
theorem opu_any (hc : X.calm = true) : OpU X (.builtin "any") anyD := by
  intro pins s σ H F ρ x u d r Q I R rx rb e k
  unfold anyD at e
  split at e
  · obtain ⟨bs, e1, rfl⟩ := Option.map_eq_some_iff.mp e
    obtain ⟨a, xs, rfl, hs, h2⟩ := rb
    obtain ⟨its, rv, hl, _⟩ := I.list hs
    cases rx
    obtain ⟨hlen, g⟩ := plTs_get e1 h2 rv
    refine call_any_walk (iter_any hl.isList fun s₂ e2 st hne => ?_)
    subst e2
    have tr : TruthOf X.prog X.w X.A.in1 (fun i v => its.toArray[i]? = some v) (fun i => bs.getD i false) := fun i v s Q E hv hq => by
      obtain ⟨b, d, v', hb, hd, hr, hu⟩ := g i v (by simpa using hv)
      have hg : bs.getD i false = b := by rw [List.getD_eq_getElem?_getD, hb] <;> rfl
      have hq' : Q (bs.getD i false) s := hq
      rw [hg] at hq'
      unfold plT at hd
      split at hd
      · cases hd; rw [hr.none_inv] at hu; cases hu; exact truthy_none hq'
      · cases hd; rw [hr.bool_inv] at hu; cases hu; exact wpAny_truthy_bool hq'
      · cases hd; rw [hr.int_inv] at hu; obtain ⟨t, rfl⟩ := hu; exact PySem.P.truthy_int hq'
      · cases hd
    refine ⟨_, _, _, _, _, _, _, rfl, Walks.list (A := X.A.in1) (I.ok.hd hc) _ a hne its.toArray, st, tr, fun h' tk hk => ?_⟩
    refine ⟨.bl _, H, I.kept fun b o eo => hk b o (fun hmem => ?_) (Heap.get?_push_of_some _ eo), ?_, Res.va R k (.bl _)⟩
    · rcases List.mem_cons.mp hmem with e1 | hmem
      · exact absurd (e1 ▸ Heap.lt_size eo) (Nat.lt_irrefl _)
      · cases hmem
    · show Value.bool _ = Value.bool _
      rw [← L2.any_range, hlen, List.size_toArray]
  · cases e

/-! ### more methods of an own list -/
theorem extend_any (l : Addr) (items : Array Value) (n : Nat) (b : Addr) (items2 : Array Value) (n2 : Nat) (dd : Option Addr) (sl : Array (Option Value)) (hc0 : ¬(!items.isEmpty && Builtin.List.listTooLong (items.size + items2.size)) = true) (hc1 : items.size ≤ sizeLine) (hs2 : items.size + items2.size ≤ sizeLine + 1) :
    Meets (Builtin.«list.extend» ⟨[.ref l, .ref b], []⟩) (fun _ R s => s.heap.get? l = some { cls := .type "list", dict := none, data := .seq items n, slots := #[] } ∧ s.heap.get? b = some { cls := .type "list", dict := dd, data := .seq items2 n2, slots := sl } ∧ R (.ok (.ret Value.none)) { s with heap := s.heap.update l (Obj.mapSeq fun x => x ++ items2), toks := s.toks }) :=
  .of_wp fun prog w A R s h => by
    obtain ⟨hp, g, d, tk, os⟩ := s; obtain ⟨hl, hb, h⟩ := h; have f1 := AutoSeq1.idx_int; have f2 := AutoSeq1.sub_tuple_tuple; have f3 := AutoSeq1.sub_list_list; have f4 := AutoSeq1.sub_tuple_list; have f5 := AutoSeq1.sub_list_tuple;
    have hz' : (items ++ items2).size ≤ sizeLine + 1 := by rw [Array.size_append]; exact hs2
    wp_walk using (wpAny_updateSeq hl rfl (hz := hc1) (_hz' := hz')), AutoSeq1.wpAny_loadPart' hl, AutoSeq1.wpAny_loadPart' hb; exact ⟨_, rfl, h⟩
/-- xs.extend(ys), ys any list that is read -/
def rExtS (K : PySem.W.Frag) : V → List V → Hp → VK → Prop := fun x vs H Q => ∃ l b xs zs, x = .ref l ∧ vs = [.ref b] ∧ H l = some (.lst xs) ∧ SqL K H b zs ∧ xs.length + zs.length ≤ sizeLine ∧ Q .non (upd H l (.lst (xs ++ zs)))
theorem mt_extendS : MtM X "list.extend" (rExtS X.K) := by
  intro pins s σ H x vs v us Q I rx rv h
  obtain ⟨l, b, xs, zs, rfl, rfl, hH, hB, hz, q⟩ := h
  cases rx
  obtain ⟨u, rfl, ru⟩ := rv.one
  cases ru
  obtain ⟨z, its, n, r, hl, e⟩ := I.lstM hH
  obtain ⟨its2, r2, ⟨⟨cls, dd, data, sl⟩, n2, e2, hc, hdn, hd⟩, hlen2⟩ := I.list hB
  simp only at hc hdn hd
  subst hc hdn hd
  have hl2 := r2.length
  have hsz : its.toArray.size + its2.toArray.size ≤ sizeLine := by rw [List.size_toArray, List.size_toArray]; omega
  have hlong : ¬ (!its.toArray.isEmpty && Builtin.List.listTooLong (its.toArray.size + its2.toArray.size)) = true := by
    rw [notLongL hsz, Bool.and_false]
    exact Bool.false_ne_true
  refine call_meets F.slot_list_extend ⟨_, e, rfl⟩ F.entry_list_extend (F.args_list_extend_2 _ _)
    (extend_any l its.toArray n b its2.toArray n2 none sl hlong (by rw [List.size_toArray]; omega) (by omega)) ⟨e, e2, ?_⟩
  refine ⟨.non, _, I.lset (its' := its ++ its2) hH e (by simp) (r.append r2) ?_, rfl, q⟩
  rw [List.length_append]
  omega
theorem mtd_extend : MtD X (rExtS X.K) extD := by
  intro F H a vs xs y d ys z Q h rl ry sm e k
  unfold extD at e
  split at e
  · split at e
    · rename_i zs hz
      cases e
      obtain ⟨b, ws, rfl, h1, h2⟩ := ry.list_inv
      exact ⟨a, b, vs, ws, rfl, rfl, h, sm.seq h1, by rw [rl.length, h2.length]; exact hz, k _ _ (rl.append h2) .non⟩
    · cases e
  · cases e
theorem px_extend (i : Nat) {x : Str} {npos apos : Pos} {a : Expr} {f : EM} (h : PX X a f) (hN : X.N[i]? = some x := by rfl) (hv : Vis X.env.scope x := by first | exact Or.inl rfl | exact Or.inr (Or.inl rfl) | exact Or.inr (Or.inr rfl))
    (hn : starEach [a] X.env = (false, eval a X.env) :: starEach [] X.env := by rfl) (hd : (x == ("__debug__" : Str)) = false := by decide) (hcd : (x == ("__classdict__" : Str)) = false := by decide)
    (w : ∀ {ta tb}, PE X (.Name x npos) ta → PA X [a] tb → PE X (.Call (.Attribute (.Name x npos) "extend" apos) [a] [] pos) (tBM X.K "list" (rExtS X.K) ta tb) := by exact fun h1 h2 => pe_bm PySem.F.plainAttrs_list PySem.F.slot_list_extend PySem.F.type_list_extend mt_extendS h1 h2) :
    PX X (.Call (.Attribute (.Name x npos) "extend" apos) [a] [] pos) (mtM1 extD i f) :=
  px_mt1 (T := "list") i PySem.F.plainAttrs_list PySem.F.slot_list_extend PySem.F.type_list_extend mt_extendS mtd_extend h hN hv hn hd hcd w
def popAtD (xs : List D) (d : D) : Option (List D × D) := match d with
  | .int j => if -(2 ^ 63) ≤ j ∧ j < 2 ^ 63 then match seqIndex? j xs.length with
      | some m => match xs[m]? with
        | some z => some (xs.eraseIdx m, z)
        | none => none
      | none => none
    else none
  | _ => none
theorem mtd_popAt : MtD X rPopAt popAtD := by
  intro F H a vs xs y d ys z Q h rl ry sm e k
  unfold popAtD at e
  split at e
  · rename_i j
    split at e
    · rename_i hj
      split at e
      · rename_i m e1
        split at e
        · rename_i z' e2
          cases e
          obtain ⟨w, h1, h2⟩ := rl.get e2
          exact ⟨a, vs, j, m, w, rfl, by rw [ry.int_inv], h, hj.1, hj.2, by rw [rl.length]; exact e1, h1, k _ _ (rl.erase m) h2⟩
        · cases e
      · cases e
    · cases e
  · cases e
theorem px_popAt (i : Nat) {x : Str} {npos apos : Pos} {a : Expr} {f : EM} (h : PX X a f) (hN : X.N[i]? = some x := by rfl) (hv : Vis X.env.scope x := by first | exact Or.inl rfl | exact Or.inr (Or.inl rfl) | exact Or.inr (Or.inr rfl))
    (hn : starEach [a] X.env = (false, eval a X.env) :: starEach [] X.env := by rfl) (hd : (x == ("__debug__" : Str)) = false := by decide) (hcd : (x == ("__classdict__" : Str)) = false := by decide)
    (w : ∀ {ta tb}, PE X (.Name x npos) ta → PA X [a] tb → PE X (.Call (.Attribute (.Name x npos) "pop" apos) [a] [] pos) (tBM X.K "list" rPopAt ta tb) := by exact fun h1 h2 => pe_bm PySem.F.plainAttrs_list PySem.F.slot_list_pop PySem.F.type_list_pop mt_popAt h1 h2) :
    PX X (.Call (.Attribute (.Name x npos) "pop" apos) [a] [] pos) (mtM1 popAtD i f) :=
  px_mt1 (T := "list") i PySem.F.plainAttrs_list PySem.F.slot_list_pop PySem.F.type_list_pop mt_popAt mtd_popAt h hN hv hn hd hcd w
def pop0 (i : Nat) : EM := fun ρ => match ρ[i]? with
  | some (.ow k (.lst xs)) => if k.mut then match xs[xs.length - 1]? with
      | some d => some (.va d, ρ.set i (.ow k (.lst xs.dropLast)))
      | none => none
    else none
  | _ => none
theorem RepL.dropLast {K : PySem.W.Frag} {F : Hp} {vs : List V} {ds : List D} (h : RepL K F vs ds) : RepL K F vs.dropLast ds.dropLast := by
  rw [List.dropLast_eq_take, List.dropLast_eq_take, h.length]
  exact h.take _
theorem px_pop (i : Nat) {x : Str} {npos apos : Pos} (hN : X.N[i]? = some x := by rfl) (hv : Vis X.env.scope x := by first | exact Or.inl rfl | exact Or.inr (Or.inl rfl) | exact Or.inr (Or.inr rfl)) (hd : (x == ("__debug__" : Str)) = false := by decide) (hcd : (x == ("__classdict__" : Str)) = false := by decide)
    (w : ∀ {ta}, PE X (.Name x npos) ta → PE X (.Call (.Attribute (.Name x npos) "pop" apos) [] [] pos) (tBM0 X.K "list" rPop ta) := by exact fun h1 => pe_bm0 PySem.F.plainAttrs_list PySem.F.slot_list_pop PySem.F.type_list_pop mt_pop h1) :
    PX X (.Call (.Attribute (.Name x npos) "pop" apos) [] [] pos) (pop0 i) :=
  ⟨(w (pe_var hN hv hd hcd)).weak fun σ H Q ⟨F, ρ, r, ρ', R, e, k⟩ => by
    unfold pop0 at e
    split at e
    · rename_i kk xs e0
      split at e
      · rename_i hk
        split at e
        · rename_i d e1
          cases e
          obtain ⟨p, h1, hn, ⟨vs, h2, rl⟩, _⟩ := R.own_addr e0
          obtain ⟨z, h3, h4⟩ := rl.get e1
          exact ⟨.ref p, h1, .inl ⟨rfl, _, .inl (.inl h2)⟩, p, vs, z, rfl, rfl, h2, by rw [rl.length]; exact h3, k F _ z (Mv.write R e0 h1 (Ok.mut_ne hk) ⟨_, upd_same, rl.dropLast⟩) h4⟩
        · cases e
      · cases e
    · cases e⟩
end
end PL

/-! PL, ninth part: chains, in, sorted, enumerate, ranges as lists. -/
namespace PL
open PySem PySem.Spec PyProof.Rows L2

/-! ### chains of comparisons -/
def chE (g g' : D → D → Option Bool) (fa fb : EM) (fc : DM) : EM := fun ρ => match evD fa ρ with
  | some (x, ρ1) => match evD fb ρ1 with
    | some (y, ρ2) => match g x y with
      | some true => match fc ρ2 with
        | some (z, ρ3) => match g' y z with
          | some b => some (.va (.bool b), ρ3)
          | none => none
        | none => none
      | some false => some (.va (.bool false), ρ2)
      | none => none
    | none => none
  | none => none
def chT (g g' : D → D → Option Bool) (fa fb : EM) (fc : DM) : TM := fun ρ => match chE g g' fa fb fc ρ with
  | some (.va (.bool b), ρ1) => some (b, ρ1)
  | _ => none
theorem chE_inv {g g' : D → D → Option Bool} {fa fb : EM} {fc : DM} {ρ ρ' : Rho} {r : Sl} (e : chE g g' fa fb fc ρ = some (r, ρ')) : ∃ x ρ1 y ρ2, evD fa ρ = some (x, ρ1) ∧ evD fb ρ1 = some (y, ρ2) ∧
    ((g x y = some false ∧ r = .va (.bool false) ∧ ρ' = ρ2) ∨ ∃ z b, g x y = some true ∧ fc ρ2 = some (z, ρ') ∧ g' y z = some b ∧ r = .va (.bool b)) := by
  unfold chE at e
  split at e
  · rename_i x ρ1 e1
    split at e
    · rename_i y ρ2 e2
      split at e
      · rename_i e3
        split at e
        · rename_i z ρ3 e4
          split at e
          · rename_i b e5
            cases e
            exact ⟨x, ρ1, y, ρ2, e1, e2, .inr ⟨z, b, e3, e4, e5, rfl⟩⟩
          · cases e
        · cases e
      · rename_i e3
        cases e
        exact ⟨x, ρ1, y, _, e1, e2, .inl ⟨e3, rfl, rfl⟩⟩
      · cases e
    · cases e
  · cases e
theorem chT_inv {g g' : D → D → Option Bool} {fa fb : EM} {fc : DM} {ρ ρ' : Rho} {b : Bool} (e : chT g g' fa fb fc ρ = some (b, ρ')) : chE g g' fa fb fc ρ = some (.va (.bool b), ρ') := by
  unfold chT at e
  split at e
  · rename_i e1
    cases e
    exact e1
  · cases e
section
variable {X : Cx} {a b c : Expr} {pos : Pos} {fa fb : EM} {fc : DM} {g g' : D → D → Option Bool}
theorem OpC.run {f : Value → Value → Sem Value} (ho : OpC X f g) {pins : List (Addr × Obj)} {s : Shared} {σ : Sig} {H F : Hp} {ρ : Rho} {x y : V} {v u : Value} {dx dy : D} {r : Bool} {Q : VK} (I : Inv X pins σ H s) (R : Rel X.K F ρ σ H) (rx : RelV x v) (ry : RelV y u) (bx : RB X.K F H x dx) (byy : RB X.K F H y dy) (e : g dx dy = some r)
    (k : ∀ F' H', Mv X.K F H ρ σ F' H' ρ σ → Q (.bl r) H') : wpAny (model X.prog X.w) X.A (f v u) (EP X pins σ Q) X.xe s :=
  ho pins s σ H F ρ x y v u dx dy (.va (.bool r)) Q I R rx ry bx byy (by show (g dx dy).map _ = _; rw [e]; rfl) fun F' H' v' M rv => by
    rw [rv.bool]
    exact k F' H' M
theorem px_chain {op op' : CmpOp} (ho : OpC X (compareOp op) g) (ho' : OpC X (compareOp op') g') (ha : PX X a fa) (hb : PX X b fb) (hc : PV X c fc) (hm : lastMarks [op, op'] [b, c] = false := by with_unfolding_all rfl) : PX X (.Compare a [op, op'] [b, c] pos) (chE g g' fa fb fc) := by
  refine ⟨⟨fun pins s σ H Q I h => ?_⟩⟩
  obtain ⟨F, ρ, r, ρ', R, e, k⟩ := h
  obtain ⟨x, ρ1, y, ρ2, e1, e2, rest⟩ := chE_inv e
  refine Compare_chain (thn (ha.pe.run pins s σ H (fun v H1 => ∃ F1, Mv X.K F H ρ σ F1 H1 ρ1 σ ∧ Rep X.K F1 v x) I (tE.val R e1 fun F1 H1 v M r => ⟨F1, M, r⟩)) fun v s1 ⟨x1, H1, I1, r1, F1, M1, p1⟩ => chain_link (thn (hb.pe.run pins s1 σ H1 (fun v H2 => ∃ F2, Mv X.K F1 H1 ρ1 σ F2 H2 ρ2 σ ∧ Rep X.K F2 v y) I1 (tE.val M1.rel e2 fun F1 H1 v M r => ⟨F1, M, r⟩)) fun u s2 ⟨x2, H2, I2, r2, F2, M2, p2⟩ => ?_)) hm
  have M12 := M1.trans M2
  rcases rest with ⟨e3, rfl, rfl⟩ | ⟨z, bb, e3, e4, e5, rfl⟩
  · refine thn (ho.run (Q := fun w H3 => w = .bl false ∧ ∃ F3, Mv X.K F2 H2 ρ' σ F3 H3 ρ' σ) I2 M2.rel r1 r2 ((p1.same M2.stp.fr).rb M2.rel.same) (p2.rb M2.rel.same) e3 fun F' H' M => ⟨rfl, F', M⟩) fun d s3 ⟨w, H3, I3, r3, ew, F3, M3⟩ => ?_
    subst ew
    cases r3
    exact wpAny_truthy_bool (ite_ff ⟨.bl false, H3, I3, rfl, k F3 H3 _ (M12.trans M3) (.bl false)⟩)
  · refine thn (ho.run (Q := fun w H3 => w = .bl true ∧ ∃ F3, Mv X.K F2 H2 ρ2 σ F3 H3 ρ2 σ) I2 M2.rel r1 r2 ((p1.same M2.stp.fr).rb M2.rel.same) (p2.rb M2.rel.same) e3 fun F' H' M => ⟨rfl, F', M⟩) fun d s3 ⟨w, H3, I3, r3, ew, F3, M3⟩ => ?_
    subst ew
    cases r3
    refine wpAny_truthy_bool (ite_tt (chain_last (thn (hc.pe.run pins s3 σ H3 (fun v H4 => ∃ F4, Mv X.K F3 H3 ρ2 σ F4 H4 ρ' σ ∧ RB X.K F4 H4 v z) I3 (tV.intro M3.rel e4 fun F1 H1 v M r => ⟨F1, M, r⟩)) fun t s4 ⟨x4, H4, I4, r4, F4, M4, p4⟩ => ?_)))
    exact ho'.run I4 M4.rel r2 r4 ((p2.same (M3.stp.fr.trans M4.stp.fr)).rb M4.rel.same) p4 e5 fun F' H' M5 => k F' H' _ (M12.trans (M3.trans (M4.trans M5))) (.bl bb)
theorem pq_chain {op op' : CmpOp} (ho : OpC X (compareOp op) g) (ho' : OpC X (compareOp op') g') (ha : PX X a fa) (hb : PX X b fb) (hc : PV X c fc) (hm : lastMarks [op, op'] [b, c] = false := by with_unfolding_all rfl) : PQ X (.Compare a [op, op'] [b, c] pos) (chT g g' fa fb fc) := by
  refine ⟨⟨fun pins s σ H Q I h => ?_⟩⟩
  obtain ⟨F, ρ, r, ρ', R, e, k⟩ := h
  obtain ⟨x, ρ1, y, ρ2, e1, e2, rest⟩ := chE_inv (chT_inv e)
  refine isTrue_chain (thn (ha.pe.run pins s σ H (fun v H1 => ∃ F1, Mv X.K F H ρ σ F1 H1 ρ1 σ ∧ Rep X.K F1 v x) I (tE.val R e1 fun F1 H1 v M r => ⟨F1, M, r⟩)) fun v s1 ⟨x1, H1, I1, r1, F1, M1, p1⟩ => test_link (thn (hb.pe.run pins s1 σ H1 (fun v H2 => ∃ F2, Mv X.K F1 H1 ρ1 σ F2 H2 ρ2 σ ∧ Rep X.K F2 v y) I1 (tE.val M1.rel e2 fun F1 H1 v M r => ⟨F1, M, r⟩)) fun u s2 ⟨x2, H2, I2, r2, F2, M2, p2⟩ => ?_)) hm
  have M12 := M1.trans M2
  rcases rest with ⟨e3, er, rfl⟩ | ⟨z, bb, e3, e4, e5, er⟩
  · cases er
    refine thn (ho.run (Q := fun w H3 => w = .bl false ∧ ∃ F3, Mv X.K F2 H2 ρ' σ F3 H3 ρ' σ) I2 M2.rel r1 r2 ((p1.same M2.stp.fr).rb M2.rel.same) (p2.rb M2.rel.same) e3 fun F' H' M => ⟨rfl, F', M⟩) fun d s3 ⟨w, H3, I3, r3, ew, F3, M3⟩ => ?_
    subst ew
    cases r3
    exact wpAny_truthy_bool (ite_ff ⟨H3, I3, k F3 H3 (M12.trans M3)⟩)
  · cases er
    refine thn (ho.run (Q := fun w H3 => w = .bl true ∧ ∃ F3, Mv X.K F2 H2 ρ2 σ F3 H3 ρ2 σ) I2 M2.rel r1 r2 ((p1.same M2.stp.fr).rb M2.rel.same) (p2.rb M2.rel.same) e3 fun F' H' M => ⟨rfl, F', M⟩) fun d s3 ⟨w, H3, I3, r3, ew, F3, M3⟩ => ?_
    subst ew
    cases r3
    refine wpAny_truthy_bool (ite_tt (test_last (thn (hc.pe.run pins s3 σ H3 (fun v H4 => ∃ F4, Mv X.K F3 H3 ρ2 σ F4 H4 ρ' σ ∧ RB X.K F4 H4 v z) I3 (tV.intro M3.rel e4 fun F1 H1 v M r => ⟨F1, M, r⟩)) fun t s4 ⟨x4, H4, I4, r4, F4, M4, p4⟩ => ?_)))
    refine thn (ho'.run (Q := fun w H5 => w = .bl r ∧ ∃ F5, Mv X.K F4 H4 ρ' σ F5 H5 ρ' σ) I4 M4.rel r2 r4 ((p2.same (M3.stp.fr.trans M4.stp.fr)).rb M4.rel.same) p4 e5 fun F' H' M5 => ⟨rfl, F', M5⟩) fun d s5 ⟨w, H5, I5, r5, ew, F5, M5⟩ => ?_
    subst ew
    cases r5
    exact wpAny_truthy_bool ⟨H5, I5, k F5 H5 (M12.trans (M3.trans (M4.trans M5)))⟩

/-! ### in, not in -/
def inC (x : D) : D → Option Bool
  | .list ys => if SeqAt.shaped x = true ∧ SeqAt.shaped (.list ys) = true then some (ys.any fun z => PyData.eqv z x) else none
  | .tuple ys => if SeqAt.shaped x = true ∧ SeqAt.shaped (.list ys) = true then some (ys.any fun z => PyData.eqv z x) else none
  | _ => none
def ninC (x y : D) : Option Bool := (inC x y).map (!·)
theorem opc_in_core {k : Nat} (hr : Room k X.A) (neg : Bool) {pins : List (Addr × Obj)} {s : Shared} {σ : Sig} {H F : Hp} {x y : V} {v u : Value} {dx dy : D} {r : Bool} {Q : VK} (I : Inv X pins σ H s) (sm : Same F H) (rx : RelV x v) (ry : RelV y u) (bx : RB X.K F H x dx) (byy : RB X.K F H y dy) (e : inC dx dy = some r)
    (q : Q (.bl (if neg then !r else r)) H) : wpAny (model X.prog X.w) X.A (compareOp (if neg then .NotIn else .In) v u) (EP X pins σ Q) X.xe s := by
  have hu : X.A.units + 65 < cLine := by have := hr.un; omega
  unfold inC at e
  split at e
  · rename_i ys
    split at e
    · rename_i h
      cases e
      obtain ⟨as, r1⟩ := Dp.reads I _ x v (bx.dp sm (SeqAt.canLay_of_shaped h.1)) rx
      obtain ⟨bs, r2⟩ := Dp.reads I _ y u (byy.dp sm (SeqAt.canLay_of_shaped h.2)) ry
      cases neg with
      | false => exact SeqAt.in_list_reads r2 r1 (SeqAt.canLay_of_shaped h.2) (SeqAt.canLay_of_shaped h.1) (room_in_shaped h.1 hu) ⟨.bl _, H, I, rfl, q⟩
      | true => exact SeqAt.notIn_list_reads r2 r1 (SeqAt.canLay_of_shaped h.2) (SeqAt.canLay_of_shaped h.1) (room_in_shaped h.1 hu) ⟨.bl _, H, I, rfl, q⟩
    · cases e
  · rename_i ys
    split at e
    · rename_i h
      cases e
      have hcl : PyData.canLayAll0 ys = true := SeqAt.canLay_of_shaped h.2
      obtain ⟨as, r1⟩ := Dp.reads I _ x v (bx.dp sm (SeqAt.canLay_of_shaped h.1)) rx
      obtain ⟨bs, r2⟩ := Dp.reads I (.tuple ys) y u (byy.dp sm hcl) ry
      cases neg with
      | false => exact SeqAt.in_tuple_reads r2 r1 hcl (SeqAt.canLay_of_shaped h.1) (room_in_shaped h.1 hu) ⟨.bl _, H, I, rfl, q⟩
      | true => exact SeqAt.notIn_tuple_reads r2 r1 hcl (SeqAt.canLay_of_shaped h.1) (room_in_shaped h.1 hu) ⟨.bl _, H, I, rfl, q⟩
    · cases e
  · cases e
theorem opc_in {k : Nat} (hr : Room k X.A) : OpC X (compareOp .In) inC := by
  intro pins s σ H F ρ x y v u dx dy r Q I R rx ry bx byy e k
  obtain ⟨b, eb, rfl⟩ := Option.map_eq_some_iff.mp (show (inC dx dy).map _ = some r from e)
  exact opc_in_core hr false I R.same rx ry bx byy eb (Res.va R k (.bl _))
theorem opc_nin {k : Nat} (hr : Room k X.A) : OpC X (compareOp .NotIn) ninC := by
  intro pins s σ H F ρ x y v u dx dy r Q I R rx ry bx byy e k
  obtain ⟨b, eb, rfl⟩ := Option.map_eq_some_iff.mp (show (ninC dx dy).map _ = some r from e)
  obtain ⟨b', eb', rfl⟩ := Option.map_eq_some_iff.mp (show (inC dx dy).map _ = some b from eb)
  exact opc_in_core hr true I R.same rx ry bx byy eb' (Res.va R k (.bl _))

/-! ### sorted -/
def likeB (ds : List D) : Bool := ds.all fun d => ds.all fun d' => PySem.W.alike d d'
def isTupC : D → Bool
  | .tuple (_ :: _) => true
  | _ => false
def isPlainS : D → Bool
  | .none => false
  | .tuple _ => false
  | _ => true
def sortD : D → Option Sl
  | .list ds => if PyData.canLayAll0 ds = true ∧ likeB ds = true ∧ (ds.all isTupC = true ∨ ds.all isPlainS = true) ∧ PyData.depthAll ds ≤ 64 then some (.ow .loc (.lst (ds.mergeSort (PySem.W.dataLe false id)))) else none
  | _ => none
theorem depthAll_mem : ∀ {ds : List D} {d : D}, d ∈ ds → d.depth ≤ PyData.depthAll ds
  | x :: xs, d, h => by
    simp only [PyData.depthAll]
    rcases List.mem_cons.mp h with e | e
    · subst e; exact Nat.le_max_left _ _
    · exact Nat.le_trans (depthAll_mem e) (Nat.le_max_right _ _)
theorem each_of {K : PySem.W.Frag} {F : Hp} : ∀ {ds : List D} {vs : List V} {us : List Value}, RepL K F vs ds → Vals vs us → PySem.W.EachIs (fun u d => ∃ v, RelV v u ∧ Rep K F v d) us ds
  | [], vs, us, r, rv => by
    rw [r.nil_inv] at rv
    cases rv
    exact .nil
  | d :: ds, vs, us, r, rv => by
    obtain ⟨v, r', rfl, h1, h2⟩ := r.cons_inv
    cases rv with
    | cons p q => exact .cons ⟨v, p, h1⟩ (each_of h2 q)
theorem of_each {K : PySem.W.Frag} {F : Hp} : ∀ {ds : List D} {us : List Value}, PySem.W.EachIs (fun u d => ∃ v, RelV v u ∧ Rep K F v d) us ds → ∃ vs, Vals vs us ∧ RepL K F vs ds
  | _, _, .nil => ⟨[], .nil, .nil⟩
  | _, _, .cons ⟨v, h1, h2⟩ h => by
    obtain ⟨vs, q1, q2⟩ := of_each h
    exact ⟨v :: vs, .cons h1 q1, .cons h2 q2⟩
theorem canLay_mem : ∀ {ds : List D} {d : D}, PyData.canLayAll0 ds = true → d ∈ ds → d.canLay0 = true
  | x :: xs, d, h, hm => by
    simp only [PyData.canLayAll0, Bool.and_eq_true] at h
    rcases List.mem_cons.mp hm with e | e
    · subst e; exact h.1
    · exact canLay_mem h.2 e
theorem each_mem {α β : Type} {R : α → β → Prop} : ∀ {as : List α} {bs : List β}, PySem.W.EachIs R as bs → (∀ a b, b ∈ bs → R a b → R a b) → True := fun _ _ => trivial
theorem each_imp {α β : Type} {R R' : α → β → Prop} : ∀ {as : List α} {bs : List β}, PySem.W.EachIs R as bs → (∀ a b, b ∈ bs → R a b → R' a b) → PySem.W.EachIs R' as bs
  | _, _, .nil, _ => .nil
  | _, _, .cons r h, k => .cons (k _ _ (List.mem_cons_self) r) (each_imp h fun a b hb => k a b (List.mem_cons_of_mem _ hb))
theorem opu_sorted {k : Nat} (hr : Room k X.A) : OpU X (.builtin "sorted") sortD := by
  intro pins s σ H F ρ x u d r Q I R rx rb e k
  unfold sortD at e
  split at e
  · rename_i ds
    split at e
    · rename_i hc
      obtain ⟨hlay, hlike, hk, hdep⟩ := hc
      cases e
      obtain ⟨a, xs, rfl, hs, rl⟩ := rb
      obtain ⟨its, rv, hl, hz⟩ := I.list hs
      cases rx
      have e1 := each_of rl rv
      have hlen := rl.length
      have hlen2 := rv.length
      have er : PySem.W.EachIs (fun v b => ∃ as, Reads s.heap v (id b) as) its ds := each_imp e1 fun v b hb ⟨w, h1, h2⟩ => Dp.reads I b w v (Rep.dp R.same b w (canLay_mem hlay hb) h2) h1
      refine PySem.W.sorted_data (enc := id) hl.isList e1 er (by
          intro d hd d' hd'
          rw [List.map_id] at hd hd'
          exact List.all_eq_true.mp (List.all_eq_true.mp hlike d hd) d' hd') (by
          rw [List.map_id]
          rcases hk with hk | hk
          · refine .inl fun d hd => ?_
            have q := List.all_eq_true.mp hk d hd
            unfold isTupC at q
            split at q
            · exact ⟨_, _, rfl⟩
            · cases q
          · refine .inr fun d hd => ?_
            have q := List.all_eq_true.mp hk d hd
            exact ⟨fun z => (by subst z; cases q), fun ts z => (by subst z; cases q)⟩) (by omega) (fun b hb => by
          have h1 := depthAll_mem hb
          have h2 := hr.un
          show X.A.units + 2 + b.depth < cLine
          omega) fun out hol ho => ?_
      obtain ⟨ws, q1, q2⟩ := of_each ho
      obtain ⟨ep, he'⟩ := PyProof.Rows.sortedAll_at s.heap its out.toArray
      have hwl : ws.length ≤ sizeLine := by rw [q1.length, hol, ← hlen]; exact hz
      have hfr : H (s.heap.objs.size + 1) = none := I.hok.fresh (Nat.le_succ _)
      exact ⟨.ref _, upd H (s.heap.objs.size + 1) (.lst ws), I.laid (t' := s.toks) (fun _ _ => PyProof.Rows.sortedAll_old) (Nat.le_succ _) ⟨hwl, out, ep, q1, he'⟩, rfl, Res.newl R k q2 hfr⟩
    · cases e
  · cases e

/-! ### enumerate -/
def enD (ds : List D) : List D := (List.range ds.length).zipWith (fun i d => .tuple [.int (i : Nat), d]) ds
def itEn (f : EM) : IM := fun ρ => match evD f ρ with
  | some (.list ds, ρ1) => some (enD ds, ρ1)
  | _ => none
theorem enD_length (ds : List D) : (enD ds).length = ds.length := by simp [enD]
theorem enD_get {ds : List D} {i : Nat} {d : D} (h : ds[i]? = some d) : (enD ds)[i]? = some (.tuple [.int (i : Nat), d]) := by
  obtain ⟨hl, rfl⟩ := List.getElem?_eq_some_iff.mp h
  simp [enD, List.getElem?_zipWith, hl]
theorem wk_enum {K : PySem.W.Frag} {F : Hp} {a : Addr} {xs : List V} {ds : List D} (h : SqL K F a xs) (r : RepL K F xs ds) : Wk K F (Ite K a) (enD ds) := by
  refine ⟨_, _, by rw [enD_length, ← r.length]; exact walk_enum (xs := xs), fun H e => e.seq h, fun i H x H' F1 ρ σ hi e R y => ?_⟩
  obtain ⟨T, p, q, rfl, hT, rfl, h1, h2⟩ := y
  cases h1
  obtain ⟨d, h3, h4⟩ := r.getV h2
  refine ⟨_, _, enD_get h3, Mv.newv R hT, .tup (.inl (.inl upd_same)) ?_⟩
  exact .cons (.int _) (.cons ((h4.same e).same (same_new (R.same.free hT))) .nil)
theorem pix_enum {e : Expr} {f : EM} {p tpos : Pos} {elts : List Expr} {kk : Nat} (h : PX X e f) (hm : X.mg "enumerate" = none) (hg : Gl X "enumerate" := by rfl) (hs : starEach [e] X.env = [(false, eval e X.env)] := by rfl) (hn : starEach [e] X.env = (false, eval e X.env) :: starEach [] X.env := by rfl) :
    PIx X (.Tuple elts kk tpos) (.Call (.Name "enumerate" p) [e] [] pos) (itEn f) :=
  ⟨(pi_enum hg hm (pa_cons h.pe pa_nil hn) hs).weak fun σ H R ⟨F, ρ, ds, ρ', Rr, e, k⟩ => by
    unfold itEn at e
    split at e
    · rename_i ds' ρ1 e1
      cases e
      refine tE.val Rr e1 fun F1 H1 x M r => ?_
      obtain ⟨a, xs, rfl, h1, h2⟩ := r.list_inv
      exact ⟨a, xs, rfl, M.rel.same.seq h1, k F1 H1 _ M (wk_enum h1 h2)⟩
    · cases e⟩

/-! ### list(range(..)), tuple(range(..)), xs[::-1] -/
structure PRv (X : Cx) (e : Expr) (f : IM) : Prop where
  pr : PRg X e fun σ H Q => ∃ F ρ ds ρ', Rel X.K F ρ σ H ∧ f ρ = some (ds, ρ') ∧ ∀ F' H' i j, Mv X.K F H ρ σ F' H' ρ' σ → ds = rangeI i (j - i).toNat → RgOk i j → Q i j H'
theorem _root_.L2.PRg.weak {X : Cx} {e : Expr} {t t' : L2.St → Hp → (Int → Int → Hp → Prop) → Prop} (h : PRg X e t) (w : ∀ σ H Q, t' σ H Q → t σ H Q) : PRg X e t' := by
  unfold PRg at h ⊢
  intros
  apply h
  all_goals first | assumption | (apply w; assumption)
theorem rgOk_of {i j : Int} (h : i.natAbs < 16777216 ∧ j.natAbs < 16777216) (h2 : (j - i).toNat ≤ 16777216) : RgOk i j := ⟨by omega, by omega, by omega, by omega, by omega⟩
theorem prv_1 {a : Expr} {f : DM} {p : Pos} (h : PV X a f) (hm : X.mg "range" = none) (hg : Gl X "range" := by rfl) (hn : starEach [a] X.env = (false, eval a X.env) :: starEach [] X.env := by rfl) : PRv X (.Call (.Name "range" p) [a] [] pos) (itR1 f) :=
  ⟨(prg_1 hg hm h.pe hn).weak fun σ H Q ⟨F, ρ, ds, ρ', Rr, e, k⟩ => by
    unfold itR1 at e
    split at e
    · rename_i j ρ1 e1
      split at e
      · rename_i hj
        cases e
        refine tV.intro Rr e1 fun F1 H1 x M r => ⟨j, r.int_inv, k F1 H1 0 j M (by rw [Int.sub_zero]) ⟨by omega, by omega, by omega, by omega, by omega⟩⟩
      · cases e
    · cases e⟩
theorem prv_2 {a b : Expr} {fa : A1} {fb : DM} {p : Pos} (ha : PA1 X a fa) (hb : PV X b fb) (hm : X.mg "range" = none) (hg : Gl X "range" := by rfl) (hn : starEach [a, b] X.env = (false, eval a X.env) :: starEach [b] X.env := by rfl) (hn2 : starEach [b] X.env = (false, eval b X.env) :: starEach [] X.env := by rfl) (hpl : (backTo pos (starEach [b] X.env)).any (·.1) = false := by rfl) :
    PRv X (.Call (.Name "range" p) [a, b] [] pos) (fun ρ => match itR2 fa fb ρ with | some (ds, ρ1) => if ds.length ≤ 16777216 then some (ds, ρ1) else none | none => none) :=
  ⟨(prg_2 hg hm ha.pe hb.pe hn hn2 hpl).weak fun σ H Q ⟨F, ρ, ds, ρ', Rr, e, k⟩ => by
    split at e
    · rename_i ds' ρ1 e0
      split at e
      · rename_i hz
        cases e
        unfold itR2 at e0
        split at e0
        · rename_i i j ρ2 e1
          split at e0
          · rename_i hj
            cases e0
            refine two Rr e1 fun F1 H1 v w M r1 r2 => ⟨i, j, r1.int_inv, r2.int_inv, k F1 H1 i j M rfl (rgOk_of hj ?_)⟩
            simpa [rangeI] using hz
          · cases e0
        · cases e0
      · cases e
    · cases e⟩
def itR2L (fa : A1) (fb : DM) : IM := fun ρ => match itR2 fa fb ρ with | some (ds, ρ1) => if ds.length ≤ 16777216 then some (ds, ρ1) else none | none => none
def rgL (f : IM) : EM := fun ρ => match f ρ with
  | some (ds, ρ1) => some (.ow .loc (.lst ds), ρ1)
  | none => none
def rgT (f : IM) : EM := fun ρ => match f ρ with
  | some (ds, ρ1) => some (.va (.tuple ds), ρ1)
  | none => none
theorem repL_rg {K : PySem.W.Frag} {F : Hp} (i j : Int) : RepL K F (rgV i j) (rangeI i (j - i).toNat) := by
  have q := repL_of_ints (K := K) (F := F) ((List.range (j - i).toNat).map fun k => i + (k : Nat))
  rw [List.map_map, List.map_map] at q
  exact q
theorem px_rgL {e : Expr} {f : IM} {p : Pos} (h : PRv X e f) (hm : X.mg "list" = none) (hc : X.calm = true := by rfl) (hg : Gl X "list" := by rfl) (hn : starEach [e] X.env = (false, eval e X.env) :: starEach [] X.env := by rfl) : PX X (.Call (.Name "list" p) [e] [] pos) (rgL f) :=
  ⟨(pe_listRg hc hg hm h.pr hn).weak fun σ H Q ⟨F, ρ, r, ρ', Rr, e, k⟩ => by
    unfold rgL at e
    split at e
    · rename_i ds ρ1 e1
      cases e
      refine ⟨F, ρ, ds, _, Rr, e1, fun F1 H1 i j M hd ok => ⟨ok, fun q hq => ?_⟩⟩
      subst hd
      exact Res.newl (X := X) M.rel (fun F2 H2 v M2 rv => k F2 H2 v (M.trans M2) (RV.mv M rv)) (repL_rg i j) hq
    · cases e⟩
theorem px_rgT {e : Expr} {f : IM} {p : Pos} (h : PRv X e f) (hm : X.mg "tuple" = none) (hc : X.calm = true := by rfl) (hg : Gl X "tuple" := by rfl) (hn : starEach [e] X.env = (false, eval e X.env) :: starEach [] X.env := by rfl) : PX X (.Call (.Name "tuple" p) [e] [] pos) (rgT f) :=
  ⟨(pe_tupRg hc hg hm h.pr hn).weak fun σ H Q ⟨F, ρ, r, ρ', Rr, e, k⟩ => by
    unfold rgT at e
    split at e
    · rename_i ds ρ1 e1
      cases e
      refine ⟨F, ρ, ds, _, Rr, e1, fun F1 H1 i j M hd ok => ⟨ok, fun q hq => ?_⟩⟩
      subst hd
      exact Res.newt (X := X) M.rel (fun F2 H2 v M2 rv => k F2 H2 v (M.trans M2) (RV.mv M rv)) (repL_rg i j) hq
    · cases e⟩
def revD : D → Option Sl
  | .list xs => some (.ow .loc (.lst xs.reverse))
  | _ => none
theorem px_rev {e : Expr} {f : DM} {k : Nat} {p1 p2 p3 : Pos} (h : PV X e f) : PX X (.Subscript e (.Slice none none (some (.UnaryOp .USub (.Constant (.int 1) k p1) p2)) p3) pos) (un1 revD f) :=
  ⟨(pe_revL h.pe).weak fun σ H Q ⟨F, ρ, r, ρ', Rr, e, k⟩ => by
    obtain ⟨d, e1, e2⟩ := un1_inv e
    unfold revD at e2
    split at e2
    · cases e2
      refine tV.intro Rr e1 fun F1 H1 x M r => ?_
      obtain ⟨a, xs, rfl, h1, h2⟩ := r
      exact ⟨a, xs, rfl, h1, fun p hp => Res.newl (X := X) M.rel (fun F2 H2 v M2 rv => k F2 H2 v (M.trans M2) (RV.mv M rv)) h2.rev hp⟩
    · cases e2⟩

/-! ### unpacking a list -/
def gTl (gs : GMs) : GM := fun d ρ => match d with
  | .list ds => gs ds ρ
  | _ => none
theorem pgx_lst {es : List Expr} {j : Nat} {ix : List Nat} {gs : GMs} {n : Nat} (hc : X.calm = true) (h : PGsx X es ix gs) (hlen : ∀ ds ρ ρ', gs ds ρ = some ρ' → ds.length = n)
    (hn : (assignEach es X.env).length = n := by rfl) (hst : (assignEach es X.env).findIdx? (·.1) = none := by rfl) : PGx X (.Tuple es j pos) ix (gTl gs) :=
  ⟨(pg_unl hc h.pgs hn hst).weak fun v σ H Q ⟨F, ρ, d, ρ', R, r, e, k⟩ => by
    unfold gTl at e
    split at e
    · rename_i ds
      obtain ⟨a, xs, rfl, h1, h2⟩ := r.list_inv
      exact ⟨a, xs, rfl, R.same.seq h1, by rw [h2.length, hlen _ _ _ e], F, ρ, ds, ρ', R, h2, e, k⟩
    · cases e⟩
end
section
variable {P : Program} {w : World} {K : PySem.W.Frag} {mg : Str → Option Value} {base : Heap}
theorem ok_none {x qual : Str} {st : Stmt} {f : Addr} {fd : FuncData} {N ps : List Str} {k n : Nat} (Fn : Fun K x qual st f fd) (S : FnScope N ps (defScope st)) (hn : ps.length = n := by rfl) : FnOk P w K mg base CX0 k f fd ps (spG K n fun _ => none) :=
  ⟨fun vs H Q E h => by rw [h.1, hn], fun A outer s H args us vs Q E hr he hb hv hsp => by
    obtain ⟨_, _, _, _, _, _, e, _⟩ := hsp
    cases e⟩
end
end PL

/-! PL, tenth part: zip(a, b, strict=True) of lists and tuples of one length. -/
namespace PL
open PySem
section
/-- a list's iterator (b), a tuple's (not b) -/
def ItH (b : Bool) (h : Heap) (i l : Addr) (k : Nat) : Prop := match b with
  | true => h.IsListIter i l k
  | false => h.IsTupleIter i l k
def SqH (b : Bool) (h : Heap) (l : Addr) (xs : Array Value) : Prop := match b with
  | true => h.IsList l xs
  | false => h.IsTuple l xs
def itCls (b : Bool) : String := match b with
  | true => "list_iterator"
  | false => "tuple_iterator"
theorem ItH.ob {b : Bool} {h : Heap} {i l : Addr} {k : Nat} (x : ItH b h i l k) : ∃ o, h.get? i = some o ∧ o.cls = .type (itCls b) ∧ o.data = .fields #[.ref l, .int k 0] := by
  cases b <;> exact x
theorem ItH.of {b : Bool} {h : Heap} {i l : Addr} {k : Nat} (x : ∃ o, h.get? i = some o ∧ o.cls = .type (itCls b) ∧ o.data = .fields #[.ref l, .int k 0]) : ItH b h i l k := by
  cases b <;> exact x
theorem ItH.at {b : Bool} {h h' : Heap} {i l : Addr} {k : Nat} (x : ItH b h i l k) (e : ∀ o, h.get? i = some o → h'.get? i = some o) : ItH b h' i l k := by
  obtain ⟨o, h1, h2, h3⟩ := x.ob
  exact .of ⟨o, e o h1, h2, h3⟩
theorem SqH.at {b : Bool} {h h' : Heap} {l : Addr} {xs : Array Value} (x : SqH b h l xs) (e : ∀ o, h.get? l = some o → h'.get? l = some o) : SqH b h' l xs := by
  cases b with
  | true => exact Heap.IsList.at x e
  | false => obtain ⟨o, h1, h2⟩ := x; exact ⟨o, e o h1, h2⟩
theorem ItH.ext {b : Bool} {h h' : Heap} {i l c : Addr} {k : Nat} (x : ItH b h i l k) (e : Heap.ExtBut c h h') (n : i ≠ c) : ItH b h' i l k := x.at fun o q => e _ _ n q
theorem SqH.ext {b : Bool} {h h' : Heap} {l c : Addr} {xs : Array Value} (x : SqH b h l xs) (e : Heap.ExtBut c h h') (n : l ≠ c) : SqH b h' l xs := x.at fun o q => e _ _ n q
theorem SqH.lt {b : Bool} {h : Heap} {l : Addr} {xs : Array Value} (x : SqH b h l xs) : l < h.objs.size := by
  cases b with
  | true => obtain ⟨o, h1, h2⟩ := x; exact Heap.lt_size h1
  | false => obtain ⟨o, h1, h2⟩ := x; exact Heap.lt_size h1
variable {prog : Program} {w : World} {A : Around} {E : Value → Shared → Prop} {s : Shared}
theorem nextOf_item {b : Bool} {it l : Addr} {i : Nat} {items : Array Value} {x : Value} {Q : Value → Shared → Prop} (hit : ItH b s.heap it l i) (hl : SqH b s.heap l items) (hx : items[i]? = some x)
    (hQ : ∀ h', ItH b h' it l (i + 1) → Heap.SameBut it s.heap h' → Q x { s with heap := h' }) : wpAny (model prog w) A (Builtin.SmallTypes.nextOf (.ref it)) Q E s := by
  cases b with
  | true => exact PySem.wpAny_nextOf_list_item hit hl hx hQ
  | false => exact RZ.nextOf_tuple_item hit hl hx hQ
theorem nextOf_end {b : Bool} {it l : Addr} {i : Nat} {items : Array Value} {Q : Value → Shared → Prop} (hh : A.handled = none) (hit : ItH b s.heap it l i) (hl : SqH b s.heap l items) (hx : items[i]? = none)
    (hE : ∀ h' e, Heap.ExtBut it s.heap h' → (∃ o, h'.get? e = some o ∧ o.cls = .type "StopIteration") → E (.ref e) { s with heap := h' }) : wpAny (model prog w) A (Builtin.SmallTypes.nextOf (.ref it)) Q E s := by
  cases b with
  | true => exact PySem.wpAny_nextOf_list_end hh hit hl hx hE
  | false => exact RZ.nextOf_tuple_end hh hit hl hx hE
theorem nextOrEnd_item {b : Bool} {it l : Addr} {i : Nat} {items : Array Value} {x : Value} {Q : Option Value → Shared → Prop} (hit : ItH b s.heap it l i) (hl : SqH b s.heap l items) (hx : items[i]? = some x)
    (hQ : ∀ h', ItH b h' it l (i + 1) → Heap.SameBut it s.heap h' → Q (some x) { s with heap := h' }) : wpAny (model prog w) A (Builtin.SmallTypes.nextOrEnd (.ref it)) Q E s := by
  unfold Builtin.SmallTypes.nextOrEnd
  exact wpAny_bind (wpAny_attempt (nextOf_item hit hl hx fun h' a b => wpAny_pure (hQ h' a b)))
theorem nextOrEnd_end {b : Bool} {it l : Addr} {i : Nat} {items : Array Value} {Q : Option Value → Shared → Prop} (hh : A.handled = none) (hit : ItH b s.heap it l i) (hl : SqH b s.heap l items) (hx : items[i]? = none)
    (hQ : ∀ h', Heap.ExtBut it s.heap h' → Q none { s with heap := h' }) : wpAny (model prog w) A (Builtin.SmallTypes.nextOrEnd (.ref it)) Q E s := by
  unfold Builtin.SmallTypes.nextOrEnd
  refine wpAny_bind (wpAny_attempt (nextOf_end hh hit hl hx fun h' e hs he => ?_))
  obtain ⟨o, ho, hc⟩ := he
  exact wpAny_bind (wpAny_isInstance (T := "StopIteration") (b := true) ⟨o, ho, hc⟩ isSubtype_stop (wpAny_pure (hQ h' hs)))

theorem ifn0 {M : Model} {α : Type} {f a b : Nat → Sem α} {Q : α → Shared → Prop} (h : ∀ k, f k = if k > 0 then a k else b k) (k : wpAny M A (b 0) Q E s) : wpAny M A (f 0) Q E s := by rw [h 0]; exact k
abbrev IsZs (h : Heap) (z TI TO : Addr) (f0 : Value) : Prop :=
  h.get? z = some { cls := .type "zip", dict := none, data := .fields #[f0, .bool false, .bool true, .ref TI, .ref TO], slots := #[] }

theorem zs_next_item {t1 t2 : Bool} {z TI TO i1 i2 l1 l2 : Addr} {k1 k2 : Nat} {xs ys : Array Value} {x y a b : Value} {Q : Value → Shared → Prop} (D : ZipApart z TI TO i1 i2 l1 l2)
    (hz : IsZs s.heap z TI TO .none) (hTI : IsPair s.heap TI (.ref i1) (.ref i2)) (hTO : IsPair s.heap TO a b)
    (h1 : ItH t1 s.heap i1 l1 k1) (h2 : ItH t2 s.heap i2 l2 k2) (hl1 : SqH t1 s.heap l1 xs) (hl2 : SqH t2 s.heap l2 ys) (hx : xs[k1]? = some x) (hy : ys[k2]? = some y)
    (hQ : ∀ h', IsZs h' z TI TO (rawInt s.heap.objs.size) → IsPair h' TO x y → ItH t1 h' i1 l1 (k1 + 1) → ItH t2 h' i2 l2 (k2 + 1) → IsPair h' s.heap.objs.size x y → h'.objs.size = s.heap.objs.size + 1 →
      (∀ c o, c ≠ z → c ≠ TO → c ≠ i1 → c ≠ i2 → s.heap.get? c = some o → h'.get? c = some o) → Q (.ref s.heap.objs.size) { s with heap := h' }) :
    wpAny (model prog w) A (Builtin.«zip.__next__» ⟨[.ref z], []⟩) (fun fin s' => ∃ v, fin = .done (.ret v) ∧ Q v s') E s := by
  show wpAny _ _ (field (.ref z) 2 >>= _) _ _ _
  refine wpAny_bind (wpAny_field hz rfl (x := .bool true) rfl ?_)
  show wpAny _ _ (field (.ref z) 3 >>= _) _ _ _
  refine wpAny_bind (wpAny_field hz rfl (x := .ref TI) rfl ?_)
  refine wpAny_bind (wpAny_seqItems hTI rfl ?_)
  show wpAny _ _ (Builtin.SmallTypes.ownedTupleIsFree (.ref z) >>= _) _ _ _
  refine wpAny_bind ?_
  unfold Builtin.SmallTypes.ownedTupleIsFree
  refine wpAny_bind (wpAny_field hz rfl (x := .none) rfl (wpAny_pure ?_))
  simp only [if_true]
  refine wpAny_bind (wpAny_rule ?_)
  refine wpAny_bind (wpAny_field hz rfl (x := .ref TO) rfl ?_)
  refine wpAny_bind (wpAny_setField_rec hz (by simp) fun h₁ hz₁ hs₁ => ?_)
  replace hz₁ : IsZs h₁ z TI TO .ellipsis := hz₁
  refine wpAny_bind ?_
  simp only [List.zipIdx_cons, List.zipIdx_nil, List.forIn_cons, List.forIn_nil]
  refine wpAny_bind (wpAny_bind (wpAny_onRaise ?_))
  show wpAny _ _ (Builtin.SmallTypes.nextOrEnd (.ref i1)) _ _ _
  refine nextOrEnd_item (h1.ext hs₁.extBut D.i1z) (hl1.ext hs₁.extBut D.l1z) hx fun h₂ h1₂ hs₂ => ?_
  have hTO₂ : IsPair h₂ TO a b := hs₂.extBut _ _ D.TOi1 (hs₁.extBut _ _ D.TOz hTO)
  refine wpAny_bind (wpAny_seqItems hTO₂ rfl ?_)
  refine wpAny_bind (wpAny_updateSeq_pair hTO₂ fun h₃ hTO₃ hs₃ => ?_)
  replace hTO₃ : IsPair h₃ TO x b := hTO₃
  refine wpAny_bind (wpAny_letGo (wpAny_pure ?_))
  refine wpAny_bind (wpAny_bind (wpAny_onRaise ?_))
  show wpAny _ _ (Builtin.SmallTypes.nextOrEnd (.ref i2)) _ _ _
  refine nextOrEnd_item (((h2.ext hs₁.extBut D.i2z).ext hs₂.extBut D.i12.symm).ext hs₃.extBut D.TOi2.symm)
    (((hl2.ext hs₁.extBut D.l2z).ext hs₂.extBut D.l2i1).ext hs₃.extBut D.l2TO) hy fun h₄ h2₄ hs₄ => ?_
  have hTO₄ : IsPair h₄ TO x b := hs₄.extBut _ _ D.TOi2 hTO₃
  refine wpAny_bind (wpAny_seqItems hTO₄ rfl ?_)
  refine wpAny_bind (wpAny_updateSeq_pair hTO₄ fun h₅ hTO₅ hs₅ => ?_)
  replace hTO₅ : IsPair h₅ TO x y := hTO₅
  refine wpAny_bind (wpAny_letGo (wpAny_pure (wpAny_pure ?_)))
  refine wpAny_bind (wpAny_seqItems hTO₅ rfl ?_)
  refine wpAny_bind (wpAny_newTuple ?_)
  have hsz : h₅.objs.size = s.heap.objs.size := by rw [hs₅.1, hs₄.1, hs₃.1, hs₂.1, hs₁.1]
  have hz₅ : IsZs h₅ z TI TO .ellipsis := hs₅.extBut _ _ D.TOz.symm (hs₄.extBut _ _ D.i2z.symm (hs₃.extBut _ _ D.TOz.symm (hs₂.extBut _ _ D.i1z.symm hz₁)))
  have hk₅ : ∀ c o, c ≠ z → c ≠ TO → c ≠ i1 → c ≠ i2 → s.heap.get? c = some o → h₅.get? c = some o := fun c o c1 c2 c3 c4 e =>
    hs₅.extBut _ _ c2 (hs₄.extBut _ _ c4 (hs₃.extBut _ _ c2 (hs₂.extBut _ _ c3 (hs₁.extBut _ _ c1 e))))
  have h1₅ : ItH t1 h₅ i1 l1 (k1 + 1) := ((h1₂.ext hs₃.extBut D.TOi1.symm).ext hs₄.extBut D.i12).ext hs₅.extBut D.TOi1.symm
  have h2₅ : ItH t2 h₅ i2 l2 (k2 + 1) := h2₄.ext hs₅.extBut D.TOi2.symm
  have hzlt : z < h₅.objs.size := Heap.lt_size hz₅
  show wpAny _ _ (Builtin.SmallTypes.ownedTupleHandOut (.ref z) (.ref h₅.objs.size) >>= _) _ _ _
  refine wpAny_bind ?_
  unfold Builtin.SmallTypes.ownedTupleHandOut
  have hz₆ : IsZs (h₅.push { cls := .type "tuple", data := .seq #[x, y] }) z TI TO .ellipsis := Heap.get?_push_of_some _ hz₅
  refine wpAny_bind (wpAny_setField_rec hz₆ (by simp) fun h₇ hz₇ hs₇ => ?_)
  replace hz₇ : IsZs h₇ z TI TO (rawInt h₅.objs.size) := hz₇
  refine wpAny_setField_rec hz₇ (by simp) fun h₈ hz₈ hs₈ => ?_
  replace hz₈ : IsZs h₈ z TI TO (rawInt h₅.objs.size) := hz₈
  have up : ∀ c o, c ≠ z → h₅.get? c = some o → h₈.get? c = some o := fun c o c1 e => hs₈.extBut _ _ c1 (hs₇.extBut _ _ c1 (Heap.get?_push_of_some _ e))
  have hT₈ : IsPair h₈ h₅.objs.size x y := hs₈.extBut _ _ (Nat.ne_of_gt hzlt) (hs₇.extBut _ _ (Nat.ne_of_gt hzlt) (Heap.get?_push_size _ rfl))
  have hz8 : h₈.objs.size = h₅.objs.size + 1 := by rw [hs₈.1, hs₇.1, Heap.size_push]
  rw [hsz] at hz₈ hT₈ hz8
  refine wpAny_pure ⟨_, rfl, ?_⟩
  show Q (.ref h₅.objs.size) _
  rw [hsz]
  exact hQ h₈ hz₈ (up _ _ D.TOz hTO₅) (h1₅.at fun o e => up _ o D.i1z e) (h2₅.at fun o e => up _ o D.i2z e) hT₈ hz8 fun c o c1 c2 c3 c4 e => up c o c1 (hk₅ c o c1 c2 c3 c4 e)

theorem zs_next_end {t1 t2 : Bool} {z TI TO i1 i2 l1 l2 : Addr} {k1 k2 : Nat} {xs ys : Array Value} {a b : Value} {Q : Fin → Shared → Prop} (hh : A.handled = none) (D : ZipApart z TI TO i1 i2 l1 l2)
    (hz : IsZs s.heap z TI TO .none) (hTI : IsPair s.heap TI (.ref i1) (.ref i2)) (hTO : IsPair s.heap TO a b)
    (h1 : ItH t1 s.heap i1 l1 k1) (h2 : ItH t2 s.heap i2 l2 k2) (hl1 : SqH t1 s.heap l1 xs) (hl2 : SqH t2 s.heap l2 ys) (hx : xs[k1]? = none) (hy : ys[k2]? = none)
    (hE : ∀ h' e, (∀ c o, c ≠ z → c ≠ TO → c ≠ i1 → c ≠ i2 → s.heap.get? c = some o → h'.get? c = some o) → (∃ o, h'.get? e = some o ∧ o.cls = .type "StopIteration") → E (.ref e) { s with heap := h' }) :
    wpAny (model prog w) A (Builtin.«zip.__next__» ⟨[.ref z], []⟩) Q E s := by
  show wpAny _ _ (field (.ref z) 2 >>= _) _ _ _
  refine wpAny_bind (wpAny_field hz rfl (x := .bool true) rfl ?_)
  show wpAny _ _ (field (.ref z) 3 >>= _) _ _ _
  refine wpAny_bind (wpAny_field hz rfl (x := .ref TI) rfl ?_)
  refine wpAny_bind (wpAny_seqItems hTI rfl ?_)
  show wpAny _ _ (Builtin.SmallTypes.ownedTupleIsFree (.ref z) >>= _) _ _ _
  refine wpAny_bind ?_
  unfold Builtin.SmallTypes.ownedTupleIsFree
  refine wpAny_bind (wpAny_field hz rfl (x := .none) rfl (wpAny_pure ?_))
  simp only [if_true]
  refine wpAny_bind (wpAny_rule ?_)
  refine wpAny_bind (wpAny_field hz rfl (x := .ref TO) rfl ?_)
  refine wpAny_bind (wpAny_setField_rec hz (by simp) fun h₁ hz₁ hs₁ => ?_)
  replace hz₁ : IsZs h₁ z TI TO .ellipsis := hz₁
  refine wpAny_bind ?_
  simp only [List.zipIdx_cons, List.zipIdx_nil, List.forIn_cons, List.forIn_nil]
  refine wpAny_bind (wpAny_bind (wpAny_onRaise ?_))
  show wpAny _ _ (Builtin.SmallTypes.nextOrEnd (.ref i1)) _ _ _
  refine nextOrEnd_end (by first | exact hh | (show A.in1.handled = none; exact hh)) (h1.ext hs₁.extBut D.i1z) (hl1.ext hs₁.extBut D.l1z) hx fun h₂ hs₂ => ?_
  have hz₂ : IsZs h₂ z TI TO .ellipsis := hs₂ _ _ D.i1z.symm hz₁
  refine wpAny_bind (wpAny_setField_rec hz₂ (by simp) fun h₃ hz₃ hs₃ => ?_)
  have st : ∀ c o, c ≠ z → c ≠ TO → c ≠ i1 → c ≠ i2 → s.heap.get? c = some o → h₃.get? c = some o := fun c o c1 _ c3 _ e => hs₃.extBut _ _ c1 (hs₂ _ _ c3 (hs₁.extBut _ _ c1 e))
  refine wpAny_bind ?_
  refine ifn0 (fun k => rfl) ?_
  simp only [List.drop, List.zipIdx_cons, List.zipIdx_nil, List.forIn_cons, List.forIn_nil]
  refine wpAny_bind (wpAny_bind ?_)
  refine wpAny_bind ?_
  refine nextOrEnd_end (by first | exact hh | (show A.in1.handled = none; exact hh)) (((h2.ext hs₁.extBut D.i2z).ext hs₂ D.i12.symm).ext hs₃.extBut D.i2z) (((hl2.ext hs₁.extBut D.l2z).ext hs₂ D.l2i1).ext hs₃.extBut D.l2z) hy fun h₄ hs₄ => ?_
  simp only [Option.isSome_none, Bool.false_eq_true, if_false]
  refine wpAny_pure (wpAny_pure (wpAny_bind (wpAny_rule ?_)))
  unfold Builtin.SmallTypes.stopIteration
  show wpAny _ _ (newExc (.type "StopIteration") [] >>= _) _ _ _
  refine wpAny_bind ?_
  simp only [newExc, newTuple]
  refine wpAny_bind (wpAny_newObj_type ?_ (by size_fits))
  refine wpAny_bind (m := firstArgMember _ _) (wpAny_of_eq (a := Value.none) (by first | rfl | (simp only [firstArgMember]; rfl)) ?_)
  refine wpAny_newObj_type ?_ (by size_fits)
  simp only [raiseNew]
  refine wpAny_bind (wpAny_handled ?_)
  first | rw [show A.in1.handled = none from hh] | rw [hh]
  refine wpAny_bind (wpAny_pure (wpAny_throw ?_))
  exact hE _ _ (fun c o c1 c2 c3 c4 e => Heap.get?_push_of_some _ (Heap.get?_push_of_some _ (hs₄ _ _ c4 (st c o c1 c2 c3 c4 e)))) ⟨_, Heap.get?_push_size _ rfl, rfl⟩

theorem pyNext_zs_item {t1 t2 : Bool} {z TI TO i1 i2 l1 l2 : Addr} {k1 k2 : Nat} {xs ys : Array Value} {x y a b : Value} {Q : Option Value → Shared → Prop} (D : ZipApart z TI TO i1 i2 l1 l2)
    (hz : IsZs s.heap z TI TO .none) (hTI : IsPair s.heap TI (.ref i1) (.ref i2)) (hTO : IsPair s.heap TO a b)
    (h1 : ItH t1 s.heap i1 l1 k1) (h2 : ItH t2 s.heap i2 l2 k2) (hl1 : SqH t1 s.heap l1 xs) (hl2 : SqH t2 s.heap l2 ys) (hx : xs[k1]? = some x) (hy : ys[k2]? = some y)
    (hQ : ∀ h', IsZs h' z TI TO (rawInt s.heap.objs.size) → IsPair h' TO x y → ItH t1 h' i1 l1 (k1 + 1) → ItH t2 h' i2 l2 (k2 + 1) → IsPair h' s.heap.objs.size x y → h'.objs.size = s.heap.objs.size + 1 →
      (∀ c o, c ≠ z → c ≠ TO → c ≠ i1 → c ≠ i2 → s.heap.get? c = some o → h'.get? c = some o) → Q (some (.ref s.heap.objs.size)) { s with heap := h' }) :
    wpAny (model prog w) A (pyNext (.ref z)) Q E s := by
  have hT : s.TypeIs (.ref z) "zip" := ⟨_, hz, rfl⟩
  unfold pyNext
  exact wpAny_bind (wpAny_attempt (wpAny_callSpecial?_slot (name := Str.ofString "__next__") hT F.slot_zip_next
    (wpAny_call_entry F.slot_zip_next hT F.entry_zip_next
      (zs_next_item D hz hTI hTO h1 h2 hl1 hl2 hx hy fun h' a1 a2 a3 a4 a5 a6 a7 => wpAny_pure (hQ h' a1 a2 a3 a4 a5 a6 a7)) (F.args_zip_next_1 _))))
theorem pyNext_zs_end {t1 t2 : Bool} {z TI TO i1 i2 l1 l2 : Addr} {k1 k2 : Nat} {xs ys : Array Value} {a b : Value} {Q : Option Value → Shared → Prop} (hh : A.handled = none) (D : ZipApart z TI TO i1 i2 l1 l2)
    (hz : IsZs s.heap z TI TO .none) (hTI : IsPair s.heap TI (.ref i1) (.ref i2)) (hTO : IsPair s.heap TO a b)
    (h1 : ItH t1 s.heap i1 l1 k1) (h2 : ItH t2 s.heap i2 l2 k2) (hl1 : SqH t1 s.heap l1 xs) (hl2 : SqH t2 s.heap l2 ys) (hx : xs[k1]? = none) (hy : ys[k2]? = none)
    (hQ : ∀ h', (∀ c o, c ≠ z → c ≠ TO → c ≠ i1 → c ≠ i2 → s.heap.get? c = some o → h'.get? c = some o) → Q none { s with heap := h' }) : wpAny (model prog w) A (pyNext (.ref z)) Q E s := by
  have hT : s.TypeIs (.ref z) "zip" := ⟨_, hz, rfl⟩
  unfold pyNext
  refine wpAny_bind (wpAny_attempt (wpAny_callSpecial?_slot (name := Str.ofString "__next__") hT F.slot_zip_next
    (wpAny_call_entry F.slot_zip_next hT F.entry_zip_next (zs_next_end hh D hz hTI hTO h1 h2 hl1 hl2 hx hy fun h' e hk he => ?_) (F.args_zip_next_1 _))))
  obtain ⟨o, ho, hc⟩ := he
  exact wpAny_bind (wpAny_isInstance (T := "StopIteration") (b := true) ⟨o, ho, hc⟩ isSubtype_stop (wpAny_pure (hQ _ hk)))
theorem letGo_zs {elts : List Expr} {x1} {pos : Pos} {z TI TO T : Addr} {Q : Unit → Shared → Prop} (hz : IsZs s.heap z TI TO (rawInt T))
    (hQ : ∀ h', IsZs h' z TI TO .none → Heap.SameBut z s.heap h' → Q () { s with heap := h' }) :
    wpAny (model prog w) A (letOwnedTupleGo (.Tuple elts x1 pos) (.ref z) (.ref T)) Q E s := by
  unfold letOwnedTupleGo
  refine wpAny_bind (wpAny_load hz ?_)
  show wpAny _ _ (if (["enumerate", "zip", "dict_itemiterator", "dict_reverseitemiterator", "odict_iterator", "itertools.zip_longest", "itertools.pairwise"].contains "zip" &&
      (#[rawInt T, .bool false, .bool true, .ref TI, .ref TO] : Array Value)[0]? == some (rawInt T)) = true then _ else _) Q E s
  rw [if_pos (by simp)]
  refine wpAny_bind (wpAny_rule ?_)
  show wpAny _ _ (setField (.ref z) 0 .none) Q E s
  exact wpAny_setField_rec hz (by simp) fun h' hz' hs' => hQ h' hz' hs'
theorem pyIter_zs {z TI TO : Addr} {f0 : Value} {Q : Value → Shared → Prop} (hz : IsZs s.heap z TI TO f0) (h : Q (.ref z) s) : wpAny (model prog w) A (pyIter (.ref z)) Q E s := by
  have hT : s.TypeIs (.ref z) "zip" := ⟨_, hz, rfl⟩
  refine wpAny_pyIter_slot hT F.slot_zip_iter (wpAny_call_entry F.slot_zip_iter hT F.entry_zip_iter ?_ (F.args_zip_iter_1 _))
  show wpAny _ _ (ret (.ref z)) _ _ s
  exact wpAny_pure ⟨_, rfl, "zip", _, hT, F.slot_zip_next.lookup, h⟩
end
abbrev zsH1 (t1 : Bool) (h : Heap) (l1 : Addr) : Heap := h.push { cls := .type (itCls t1), data := .fields #[.ref l1, .int 0 0] }
abbrev zsH2 (t1 t2 : Bool) (h : Heap) (l1 l2 : Addr) : Heap := (zsH1 t1 h l1).push { cls := .type (itCls t2), data := .fields #[.ref l2, .int 0 0] }
abbrev zsH3 (t1 t2 : Bool) (h : Heap) (l1 l2 : Addr) : Heap := (zsH2 t1 t2 h l1 l2).push { cls := .type "tuple", data := .seq #[.ref h.objs.size, .ref (zsH1 t1 h l1).objs.size] }
abbrev zsH4 (t1 t2 : Bool) (h : Heap) (l1 l2 : Addr) : Heap := (zsH3 t1 t2 h l1 l2).push { cls := .type "tuple", data := .seq #[.none, .none] }
abbrev zsH5 (t1 t2 : Bool) (h : Heap) (l1 l2 : Addr) : Heap := (zsH4 t1 t2 h l1 l2).push { cls := .type "zip", data := .fields #[.none, .bool false, .bool true, .ref (zsH2 t1 t2 h l1 l2).objs.size, .ref (zsH3 t1 t2 h l1 l2).objs.size] }
theorem SqH.push {b : Bool} {h : Heap} {l : Addr} {xs : Array Value} (x : SqH b h l xs) (o : Obj) : SqH b (h.push o) l xs := x.at fun _ e => Heap.get?_push_of_some _ e
theorem meets_zs_new (t1 t2 : Bool) (l1 l2 : Addr) (xs ys : Array Value) :
    Meets (Builtin.«zip.__new__» ⟨[.type "zip", .ref l1, .ref l2], [("strict", .bool true)]⟩) (fun _ R s => SqH t1 s.heap l1 xs ∧ SqH t2 s.heap l2 ys ∧
      R (.ok (.ret (.ref (zsH4 t1 t2 s.heap l1 l2).objs.size))) { s with heap := zsH5 t1 t2 s.heap l1 l2 }) :=
  .of_wp fun prog w A R s h => by
    obtain ⟨hp, g, d, tk, os⟩ := s; obtain ⟨hl1, hl2, h⟩ := h
    have hsub := sub_zip
    have hl2' := SqH.push hl2 { cls := .type (itCls t1), data := .fields #[.ref l1, .int 0 0] }
    cases t1 <;> cases t2
    · have hL1 : Heap.IsTuple (Shared.heap ⟨hp, g, d, tk, os⟩) l1 xs := hl1
      have hL2 : Heap.IsTuple (Shared.heap ⟨hp.push { cls := .type "tuple_iterator", data := .fields #[.ref l1, .int 0 0] }, g, d, tk, os⟩) l2 ys := hl2'
      wp_walk using wpAny_pyIter_tuple hL1, wpAny_pyIter_tuple hL2
      exact ⟨_, rfl, h⟩
    · have hL1 : Heap.IsTuple (Shared.heap ⟨hp, g, d, tk, os⟩) l1 xs := hl1
      have hL2 : Heap.IsList (Shared.heap ⟨hp.push { cls := .type "tuple_iterator", data := .fields #[.ref l1, .int 0 0] }, g, d, tk, os⟩) l2 ys := hl2'
      wp_walk using wpAny_pyIter_tuple hL1, wpAny_pyIter_list hL2
      exact ⟨_, rfl, h⟩
    · have hL1 : Heap.IsList (Shared.heap ⟨hp, g, d, tk, os⟩) l1 xs := hl1
      have hL2 : Heap.IsTuple (Shared.heap ⟨hp.push { cls := .type "list_iterator", data := .fields #[.ref l1, .int 0 0] }, g, d, tk, os⟩) l2 ys := hl2'
      wp_walk using wpAny_pyIter_list hL1, wpAny_pyIter_tuple hL2
      exact ⟨_, rfl, h⟩
    · have hL1 : Heap.IsList (Shared.heap ⟨hp, g, d, tk, os⟩) l1 xs := hl1
      have hL2 : Heap.IsList (Shared.heap ⟨hp.push { cls := .type "list_iterator", data := .fields #[.ref l1, .int 0 0] }, g, d, tk, os⟩) l2 ys := hl2'
      wp_walk using wpAny_pyIter_list hL1, wpAny_pyIter_list hL2
      exact ⟨_, rfl, h⟩
theorem typeCall_zs (a b c : Value) : checkTypeCall "zip" ⟨[a, b], [("strict", c)]⟩ = pure () := by kernel_rfl
theorem newCall_zs (a b c : Value) : checkBuiltinCall "zip.__new__" ⟨[.type "zip", a, b], [("strict", c)]⟩ = pure () := by kernel_rfl
theorem args_object_init_zs (a b c d : Value) : argsOk "object.__init__" ⟨[a, b, c], [("strict", d)]⟩ := by
  unfold argsOk; rw [signature?_of (id := "object.__init__") (n := ['_', '_', 't', 'i', 'n', 'i', '_', '_']) (o := ['t', 'c', 'e', 'j', 'b', 'o']) (by kernel_rfl) F.owner_object]; kernel_rfl
section
variable {prog : Program} {w : World} {A : Around} {E : Value → Shared → Prop} {s : Shared}
theorem call_zs {t1 t2 : Bool} {l1 l2 : Addr} {xs ys : Array Value} {Q : Value → Shared → Prop} (hl1 : SqH t1 s.heap l1 xs) (hl2 : SqH t2 s.heap l2 ys)
    (h : ∀ h', IsZs h' (s.heap.objs.size + 4) (s.heap.objs.size + 2) (s.heap.objs.size + 3) .none → IsPair h' (s.heap.objs.size + 2) (.ref s.heap.objs.size) (.ref (s.heap.objs.size + 1)) →
      IsPair h' (s.heap.objs.size + 3) .none .none → ItH t1 h' s.heap.objs.size l1 0 → ItH t2 h' (s.heap.objs.size + 1) l2 0 → h'.objs.size = s.heap.objs.size + 5 →
      (∀ c o, s.heap.get? c = some o → h'.get? c = some o) → Q (.ref (s.heap.objs.size + 4)) { s with heap := h' }) :
    wpAny (model prog w) A (call (.type "zip") [.ref l1, .ref l2] [("strict", .bool true)]) Q E s := by
  refine callType_newKw F.called_zip (by decide) (typeCall_zs _ _ _) (newCall_zs _ _ _) (fun obj => args_object_init_zs obj _ _ _) F.entry_zip_new
    (meets_zs_new t1 t2 l1 l2 xs ys) ⟨hl1, hl2, ?_⟩
  have z1 : (zsH1 t1 s.heap l1).objs.size = s.heap.objs.size + 1 := Heap.size_push ..
  have z2 : (zsH2 t1 t2 s.heap l1 l2).objs.size = s.heap.objs.size + 2 := by rw [Heap.size_push, z1]
  have z3 : (zsH3 t1 t2 s.heap l1 l2).objs.size = s.heap.objs.size + 3 := by rw [Heap.size_push, z2]
  have z4 : (zsH4 t1 t2 s.heap l1 l2).objs.size = s.heap.objs.size + 4 := by rw [Heap.size_push, z3]
  have z5 : (zsH5 t1 t2 s.heap l1 l2).objs.size = s.heap.objs.size + 5 := by rw [Heap.size_push, z4]
  have g5 : (zsH5 t1 t2 s.heap l1 l2).get? (zsH4 t1 t2 s.heap l1 l2).objs.size = some _ := Heap.get?_push_size _ rfl
  have g4 : (zsH5 t1 t2 s.heap l1 l2).get? (zsH3 t1 t2 s.heap l1 l2).objs.size = some _ := Heap.get?_push_of_some _ (Heap.get?_push_size _ rfl)
  have g3 : (zsH5 t1 t2 s.heap l1 l2).get? (zsH2 t1 t2 s.heap l1 l2).objs.size = some _ := Heap.get?_push_of_some _ (Heap.get?_push_of_some _ (Heap.get?_push_size _ rfl))
  have g2 : (zsH5 t1 t2 s.heap l1 l2).get? (zsH1 t1 s.heap l1).objs.size = some _ := Heap.get?_push_of_some _ (Heap.get?_push_of_some _ (Heap.get?_push_of_some _ (Heap.get?_push_size _ rfl)))
  have g1 : (zsH5 t1 t2 s.heap l1 l2).get? s.heap.objs.size = some _ := Heap.get?_push_of_some _ (Heap.get?_push_of_some _ (Heap.get?_push_of_some _ (Heap.get?_push_of_some _ (Heap.get?_push_size _ rfl))))
  show _ ∧ _
  rw [z2, z3, z4] at g5
  rw [z1, z2] at g3
  rw [z3] at g4
  rw [z1] at g2
  rw [z4]
  exact ⟨⟨_, g5, rfl⟩, h _ g5 g3 g4 (.of ⟨_, g1, rfl, rfl⟩) (.of ⟨_, g2, rfl, rfl⟩) z5 fun c o x =>
    Heap.get?_push_of_some _ (Heap.get?_push_of_some _ (Heap.get?_push_of_some _ (Heap.get?_push_of_some _ (Heap.get?_push_of_some _ x))))⟩
end

section
open PySem.Spec PyProof.Rows L2
/-- a list (true) or a tuple (false), as it stands -/
def SqB (b : Bool) (K : PySem.W.Frag) (H : Hp) (a : Addr) (xs : List V) : Prop := match b with
  | true => SqL K H a xs
  | false => SqT K H a xs
theorem SqB.read {X : Cx} {pins : List (Addr × Obj)} {σ : Sig} {H : Hp} {s : Shared} {b : Bool} {a : Addr} {xs : List V} (I : Inv X pins σ H s) (h : SqB b X.K H a xs) : ∃ its : List Value, Vals xs its ∧ SqH b s.heap a its.toArray := by
  cases b with
  | true => obtain ⟨its, rv, p, _⟩ := I.list h; exact ⟨its, rv, p.isList⟩
  | false => obtain ⟨its, rv, p, _⟩ := I.tuple h; exact ⟨its, rv, p⟩
theorem SqB.inj {X : Cx} {pins : List (Addr × Obj)} {σ : Sig} {H : Hp} {s : Shared} {b : Bool} {a : Addr} {xs ys : List V} (I : Inv X pins σ H s) (h : SqB b X.K H a xs) (h' : SqB b X.K H a ys) : xs = ys := by
  cases b with
  | true => exact I.list_inj h h'
  | false => exact I.tuple_inj h h'
def Itzs (K : PySem.W.Frag) (t1 t2 : Bool) (a b : Addr) : It :=
  ⟨fun i H => ∃ (xs ys : List V) (x y : V), SqB t1 K H a xs ∧ SqB t2 K H b ys ∧ xs[i]? = some x ∧ ys[i]? = some y,
    fun i H v H' => ∃ T x y, v = .ref T ∧ H T = none ∧ H' = upd H T (.tup [x, y]) ∧ (∀ xs, SqB t1 K H a xs → xs[i]? = some x) ∧ ∀ ys, SqB t2 K H b ys → ys[i]? = some y,
    fun i H => ∃ xs ys : List V, SqB t1 K H a xs ∧ SqB t2 K H b ys ∧ xs.length = i ∧ ys.length = i⟩
theorem turn_zs {P : Program} {w : World} {K : PySem.W.Frag} {elts : List Expr} {kk : Nat} {tpos : Pos} {t1 t2 : Bool} {a b z TI TO i1 i2 : Addr} (D : ZipApart z TI TO i1 i2 a b) :
    Turn P w K (.Tuple elts kk tpos) (Itzs K t1 t2 a b) [z, TI, TO, i1, i2] z (fun i h => IsZs h z TI TO .none ∧ IsPair h TI (.ref i1) (.ref i2) ∧ (∃ x y, IsPair h TO x y) ∧ ItH t1 h i1 a i ∧ ItH t2 h i2 b i) where
  mem := by simp
  obj := fun i h st c hc => by
    obtain ⟨hz, hTI, ⟨x, y, hTO⟩, h1, h2⟩ := st
    obtain ⟨o1, e1, _, d1⟩ := h1.ob
    obtain ⟨o2, e2, _, d2⟩ := h2.ob
    have e' : c = z ∨ c = TI ∨ c = TO ∨ c = i1 ∨ c = i2 := by simpa using hc
    rcases e' with q | q | q | q | q
    · rw [q]; exact ⟨_, hz, fun v q => nomatch q⟩
    · rw [q]; exact ⟨_, hTI, fun v q => nomatch q⟩
    · rw [q]; exact ⟨_, hTO, fun v q => nomatch q⟩
    · rw [q]; exact ⟨o1, e1, fun v q => by rw [d1] at q; cases q⟩
    · rw [q]; exact ⟨o2, e2, fun v q => by rw [d2] at q; cases q⟩
  keep := fun i h h' st k => by
    obtain ⟨hz, hTI, ⟨x, y, hTO⟩, h1, h2⟩ := st
    exact ⟨k z (by simp) _ hz, k TI (by simp) _ hTI, ⟨x, y, k TO (by simp) _ hTO⟩, h1.at fun o q => k i1 (by simp) o q, h2.at fun o q => k i2 (by simp) o q⟩
  item := by
    intro X hP hw hK hc i pins s σ H E I hf st hg
    subst hP hw hK
    obtain ⟨hz, hTI, ⟨x0, y0, hTO⟩, h1, h2⟩ := st
    obtain ⟨xs, ys, x, y, hqx, hqy, hx, hy⟩ := hg
    obtain ⟨its, rv, p⟩ := SqB.read I hqx
    obtain ⟨its2, rv2, p2⟩ := SqB.read I hqy
    obtain ⟨u, hu, ru⟩ := rv.get hx
    obtain ⟨u2, hu2, ru2⟩ := rv2.get hy
    have hzl : z < s.heap.objs.size := Heap.lt_size hz
    refine pyNext_zs_item D hz hTI hTO h1 h2 p p2 (x := u) (y := u2) (by simpa using hu) (by simpa using hu2) fun h' z' TO' h1' h2' hT hsz hk => ?_
    refine ⟨_, rfl, letGo_zs (s := { s with heap := h' }) z' fun h'' z'' sb => ?_⟩
    have hT2 : h''.get? s.heap.objs.size = some { cls := .type "tuple", data := .seq #[u, u2] } := (sb.2 _ (Nat.ne_of_gt hzl)).trans hT
    have new : ObjOk X.prog X.w (upd H s.heap.objs.size (.tup [x, y])) h'' s.heap.objs.size (.tup [x, y]) :=
      ⟨by show 2 ≤ sizeLine; decide, [u, u2], .cons ru (.cons ru2 .nil), ⟨_, hT2, rfl, _, rfl⟩⟩
    have I1 : Inv X pins σ (upd H s.heap.objs.size (.tup [x, y])) { s with heap := h'' } :=
      I.turnedNew (t' := s.toks) (ch := [z, TI, TO, i1, i2]) (fun c o hb q => (sb.2 c (fun q' => hb (by simp [q']))).trans (hk c o (fun q' => hb (by simp [q'])) (fun q' => hb (by simp [q'])) (fun q' => hb (by simp [q'])) (fun q' => hb (by simp [q'])) q)) hf (Nat.le_refl _) new
    refine ⟨.ref s.heap.objs.size, _, I1, rfl, ⟨_, x, y, rfl, I.hok.fresh (Nat.le_refl _), rfl, fun l hl => by rw [SqB.inj I hl hqx]; exact hx, fun l hl => by rw [SqB.inj I hl hqy]; exact hy⟩, ⟨z'', ?_, ⟨u, u2, ?_⟩, ?_, ?_⟩, fun c hcm => ?_⟩
    · exact (sb.2 _ D.TIz).trans (hk _ _ D.TIz D.TITO D.TIi1 D.TIi2 hTI)
    · exact (sb.2 _ D.TOz).trans TO'
    · exact h1'.at fun o q => (sb.2 _ D.i1z).trans q
    · exact h2'.at fun o q => (sb.2 _ D.i2z).trans q
    · have hlt : c < s.heap.objs.size := by
        have e' : c = z ∨ c = TI ∨ c = TO ∨ c = i1 ∨ c = i2 := by simpa using hcm
        rcases e' with q | q | q | q | q
        · rw [q]; exact hzl
        · rw [q]; exact Heap.lt_size hTI
        · rw [q]; exact Heap.lt_size hTO
        · rw [q]; obtain ⟨_, e1, _⟩ := h1.ob; exact Heap.lt_size e1
        · rw [q]; obtain ⟨_, e2, _⟩ := h2.ob; exact Heap.lt_size e2
      rw [upd_ne (Nat.ne_of_lt hlt)]
      exact (hf c hcm).1
  done := by
    intro X hP hw hK hc i pins s σ H E I hf st hg
    subst hP hw hK
    obtain ⟨hz, hTI, ⟨x0, y0, hTO⟩, h1, h2⟩ := st
    obtain ⟨xs, ys, hqx, hqy, l1, l2⟩ := hg
    obtain ⟨its, rv, p⟩ := SqB.read I hqx
    obtain ⟨its2, rv2, p2⟩ := SqB.read I hqy
    have e1 := rv.length
    have e2 := rv2.length
    exact pyNext_zs_end (I.ok.hd hc) D hz hTI hTO h1 h2 p p2 (by simp; omega) (by simp; omega) fun h' hk => ⟨rfl, I.turnedL (t' := s.toks) (ch := [z, TI, TO, i1, i2]) (fun c o hb q =>
      hk c o (fun q' => hb (by simp [q'])) (fun q' => hb (by simp [q'])) (fun q' => hb (by simp [q'])) (fun q' => hb (by simp [q'])) q) hf⟩
  self := fun A i s Q E st h => pyIter_zs st.1 h
def iZs (K : PySem.W.Frag) (ta : TA) : TI := fun σ H R => ta σ H fun vs H1 => ∃ t1 t2 a b xs ys, vs = [.ref a, .ref b] ∧ SqB t1 K H1 a xs ∧ SqB t2 K H1 b ys ∧ R (Itzs K t1 t2 a b) H1
theorem callWith_typeKw {M : Model} {A : Around} {E : Value → Shared → Prop} {s : Shared} {pos : Pos} {T : String} {first : List Value} {args : List (Bool × Sem Value)} {keywords : List (Option Str × Sem Value)} {Q : Value → Shared → Prop}
    (hplain : args.any (·.1) = false) (hkw : keywords.any (·.1.isNone) = false)
    (h : wpAny M A (evalArgs (.type T) true args keywords) (fun a s₁ => wpAny M A (call (.type T) (first ++ a.pos) a.kw) Q E s₁) E s) :
    wpAny M A (callWith pos (.type T) first args keywords) Q E s := by
  unfold callWith
  refine wpAny_bind (wpAny_holding (wpAny_mono h (fun a s₁ h₁ => wpAny_bind (wpAny_standAt ?_)) fun _ _ x => x))
  simp only [hplain, hkw, Bool.or_false]
  refine wpAny_bind (wpAny_pure ?_)
  exact wpAny_bind (wpAny_mono h₁ (fun r s₂ hr => wpAny_bind (wpAny_holding (wpAny_point (wpAny_pure hr)))) fun _ _ x => x)
theorem callWith_typeK {M : Model} {A : Around} {E : Value → Shared → Prop} {s : Shared} {env : Env} {pos : Pos} {T : String} {e : Expr} {rest : List Expr} {kws : List Keyword} {Q : Value → Shared → Prop}
    (h : wpAny M A (spliced (backTo pos (starEach (e :: rest) env))) (fun vs s₁ => wpAny M A (evalAll ((backToKw pos (keywordEach kws env)).map (·.2)))
      (fun kvs s₂ => wpAny M A (call (.type T) vs (((backToKw pos (keywordEach kws env)).filterMap (·.1)).zip kvs)) Q E s₂) E s₁) E s)
    (he : backTo pos (starEach (e :: rest) env) = (false, eval e env) :: backTo pos (starEach rest env) := by rfl)
    (hplain : (backTo pos (starEach (e :: rest) env)).any (·.1) = false := by rfl)
    (hall : (backToKw pos (keywordEach kws env)).all (·.1.isSome) = true := by rfl)
    (hkw : (backToKw pos (keywordEach kws env)).any (·.1.isNone) = false := by rfl) :
    wpAny M A (callWith pos (.type T) [] (backTo pos (starEach (e :: rest) env)) (backToKw pos (keywordEach kws env))) Q E s := by
  refine callWith_typeKw hplain hkw ?_
  rw [he] at h ⊢
  exact evalArgs_kwB hall h
theorem SqB.lt {X : Cx} {pins : List (Addr × Obj)} {σ : Sig} {H : Hp} {s : Shared} {b : Bool} {a : Addr} {xs : List V} (I : Inv X pins σ H s) (h : SqB b X.K H a xs) : a < s.heap.objs.size := by
  obtain ⟨its, rv, p⟩ := SqB.read I h
  exact SqH.lt p
theorem pi_zs {X : Cx} {e e2 : Expr} {ta : TA} {p pos tpos jpos kpos : Pos} {elts : List Expr} {kk : Nat} {jj : Nat} (hg : Gl X "zip") (hm : X.mg "zip" = none) (ha : PA X [e, e2] ta)
    (hs : starEach [e, e2] X.env = (false, eval e X.env) :: starEach [e2] X.env := by rfl) (he : backTo pos (starEach [e, e2] X.env) = (false, eval e X.env) :: backTo pos (starEach [e2] X.env) := by rfl)
    (hpl : (backTo pos (starEach [e, e2] X.env)).any (·.1) = false := by rfl) :
    PI X (.Tuple elts kk tpos) (.Call (.Name "zip" p) [e, e2] [⟨some "strict", .Constant (.bool true) jj jpos, kpos⟩] pos) (iZs X.K ta) := by
  refine ⟨fun pins s σ H R I h => ?_⟩
  have hk : PK X [⟨some "strict", .Constant (.bool true) jj jpos, kpos⟩] (tCons (tC (.bl true)) tNil) := pk_cons pe_bl pk_nil
  refine wpAny_Call_Name_kw (ld_blt I hg hm PyProof.Rows.boot_zip (callWith_typeK (thn (ha.run pos pins s σ H _ I h) fun us s1 ⟨vs, H1, I1, r1, q1⟩ =>
    thn (hk.run pos pins s1 σ H1 (fun zs H2 => zs = [.bl true] ∧ H2 = H1) I1 ⟨rfl, rfl⟩) fun ws s2 ⟨zs, H2, I2, r2, q2⟩ => ?_) he hpl))
  obtain ⟨rfl, rfl⟩ := q2
  obtain ⟨t1, t2, a, b, xs, ys, ex, hqx, hqy, q⟩ := q1
  subst ex
  cases r2 with
  | cons rk rr =>
  cases rr
  cases rk
  cases r1 with
  | cons r rr =>
    cases rr with
    | cons r' rr =>
      cases rr
      cases r
      cases r'
      obtain ⟨its, rv, p1⟩ := SqB.read I2 hqx
      obtain ⟨its2, rv2, p2⟩ := SqB.read I2 hqy
      have la : a < s2.heap.objs.size := p1.lt
      have lb : b < s2.heap.objs.size := p2.lt
      show wpAny _ _ (call (.type "zip") [.ref a, .ref b] [("strict", .bool true)]) _ _ _
      refine call_zs p1 p2 fun h' hz hTI hTO h1 h2 hsz hk => pyIter_zs hz ?_
      have I3 : Inv X pins σ H2 { s2 with heap := h' } := I2.kept (t' := s2.toks) hk
      refine ⟨s2.heap.objs.size + 4, [s2.heap.objs.size + 4, s2.heap.objs.size + 2, s2.heap.objs.size + 3, s2.heap.objs.size, s2.heap.objs.size + 1], _, _, H2, rfl, I3, turn_zs (PySem.W.ktu_apart s2.heap.objs.size a b la lb), ⟨hz, hTI, ⟨_, _, hTO⟩, h1, h2⟩, fun c hcm => ?_, q⟩
      have e' : c = s2.heap.objs.size + 4 ∨ c = s2.heap.objs.size + 2 ∨ c = s2.heap.objs.size + 3 ∨ c = s2.heap.objs.size ∨ c = s2.heap.objs.size + 1 := by simpa using hcm
      have hle : s2.heap.objs.size ≤ c := by
        rcases e' with z | z | z | z | z
        · rw [z]; exact Nat.le_add_right _ _
        · rw [z]; exact Nat.le_add_right _ _
        · rw [z]; exact Nat.le_add_right _ _
        · rw [z]; exact Nat.le_refl _
        · rw [z]; exact Nat.le_add_right _ _
      exact I2.fpOk hle (I2.hok.fresh hle)
/-! ### as data -/
def seqOf : D → Option (List D)
  | .list ds => some ds
  | .tuple ds => some ds
  | _ => none
def zsD (xs ys : List D) : List D := (xs.zip ys).map fun p => .tuple [p.1, p.2]
def itZs (fa fb : EM) : IM := fun ρ => match evD fa ρ with
  | some (x, ρ1) => match evD fb ρ1 with
    | some (y, ρ2) => match seqOf x, seqOf y with
      | some xs, some ys => if xs.length = ys.length then some (zsD xs ys, ρ2) else none
      | _, _ => none
    | none => none
  | none => none
theorem Rep.seq_inv {K : PySem.W.Frag} {F : Hp} {v : V} {d : D} {ds : List D} (e : seqOf d = some ds) (h : Rep K F v d) : ∃ t a xs, v = .ref a ∧ SqB t K F a xs ∧ RepL K F xs ds := by
  unfold seqOf at e
  split at e
  · cases e; obtain ⟨a, xs, h1, h2, h3⟩ := h.list_inv; exact ⟨true, a, xs, h1, h2, h3⟩
  · cases e; obtain ⟨a, xs, h1, h2, h3⟩ := h.tuple_inv; exact ⟨false, a, xs, h1, h2, h3⟩
  · cases e
theorem SqB.same {K : PySem.W.Frag} {F F' : Hp} (h : Same F F') {t : Bool} {a : Addr} {xs : List V} (q : SqB t K F a xs) : SqB t K F' a xs := by
  cases t with
  | true => exact h.seq q
  | false => exact SqT.same h q
theorem wk_zs {K : PySem.W.Frag} {F : Hp} {t1 t2 : Bool} {a b : Addr} {xs ys : List V} {ds es : List D} (h1 : SqB t1 K F a xs) (h2 : SqB t2 K F b ys) (r1 : RepL K F xs ds) (r2 : RepL K F ys es) (hl : ds.length = es.length) : Wk K F (Itzs K t1 t2 a b) (zsD ds es) := by
  have hn : (zsD ds es).length = xs.length := by rw [r1.length]; simp [zsD, hl]
  have hn2 : xs.length = ys.length := by rw [r1.length, r2.length, hl]
  refine ⟨fun H => SqB t1 K H a xs ∧ SqB t2 K H b ys, YPair (fun i => xs[i]?) (fun i => ys[i]?), ?_, fun H e => ⟨h1.same e, h2.same e⟩, fun i H x H' F1 ρ σ hi e R y => ?_⟩
  · rw [hn]
    refine ⟨fun i _ hi q => ?_, fun _ q => ⟨xs, ys, q.1, q.2, rfl, hn2.symm⟩, fun i H v H' _ q y => ?_⟩
    · have h2 : i < ys.length := by omega
      exact ⟨xs, ys, xs[i], ys[i], q.1, q.2, by simp [hi], by simp [h2]⟩
    · obtain ⟨T, x, z, h1, h2, h3, h4, h5⟩ := y
      exact ⟨T, x, z, h1, h2, h3, h4 xs q.1, h5 ys q.2⟩
  · obtain ⟨T, p, q, rfl, hT, rfl, e1, e2⟩ := y
    obtain ⟨d, h3, h4⟩ := r1.getV e1
    obtain ⟨d', h5, h6⟩ := r2.getV e2
    refine ⟨.tuple [d, d'], _, by simp [zsD, (List.getElem?_zip_eq_some (z := (d, d'))).mpr ⟨h3, h5⟩], Mv.newv R hT, .tup (.inl (.inl upd_same)) ?_⟩
    exact .cons ((h4.same e).same (same_new (R.same.free hT))) (.cons ((h6.same e).same (same_new (R.same.free hT))) .nil)
variable {X : Cx} {pos : Pos}
theorem pix_zips {ea eb : Expr} {fa fb : EM} {p tpos jpos kpos : Pos} {elts : List Expr} {kk : Nat} {jj : Nat} (ha : PX X ea fa) (hb : PX X eb fb) (hm : X.mg "zip" = none) (hg : Gl X "zip" := by rfl)
    (hs : starEach [ea, eb] X.env = (false, eval ea X.env) :: starEach [eb] X.env := by rfl) (hs2 : starEach [eb] X.env = (false, eval eb X.env) :: starEach [] X.env := by rfl)
    (he : backTo pos (starEach [ea, eb] X.env) = (false, eval ea X.env) :: backTo pos (starEach [eb] X.env) := by rfl) (hpl : (backTo pos (starEach [ea, eb] X.env)).any (·.1) = false := by rfl) :
    PIx X (.Tuple elts kk tpos) (.Call (.Name "zip" p) [ea, eb] [⟨some "strict", .Constant (.bool true) jj jpos, kpos⟩] pos) (itZs fa fb) :=
  ⟨(pi_zs hg hm (pa_cons ha.pe (pa_cons hb.pe pa_nil hs2) hs) hs he hpl).weak fun σ H R ⟨F, ρ, ds, ρ', Rr, e, k⟩ => by
    unfold itZs at e
    split at e
    · rename_i x ρ1 e1
      split at e
      · rename_i y ρ2 e2
        split at e
        · rename_i xs ys e3 e4
          split at e
          · rename_i hl
            cases e
            refine tE.val Rr e1 fun F1 H1 v M1 r1 => tE.val M1.rel e2 fun F2 H2 w M2 r2 => ?_
            obtain ⟨t1, a, vs, rfl, q1, q2⟩ := Rep.seq_inv e3 (r1.same M2.stp.fr)
            obtain ⟨t2, b, ws, rfl, q3, q4⟩ := Rep.seq_inv e4 r2
            exact ⟨t1, t2, a, b, vs, ws, rfl, q1.same M2.rel.same, q3.same M2.rel.same, k F2 H2 _ (M1.trans M2) (wk_zs q1 q3 q2 q4 hl)⟩
          · cases e
        · cases e
      · cases e
    · cases e⟩
end
end PL

/-! PL: chains of comparisons of any length. -/
namespace PL
open PySem PySem.Spec PyProof.Rows L2
def lkL (g : D → D → Option Bool) (fc : DM) : D → TM := fun x ρ => match fc ρ with
  | some (z, ρ1) => match g x z with
    | some b => some (b, ρ1)
    | none => none
  | none => none
def lkC (g : D → D → Option Bool) (fb : EM) (r : D → TM) : D → TM := fun x ρ => match evD fb ρ with
  | some (y, ρ1) => match g x y with
    | some true => r y ρ1
    | some false => some (false, ρ1)
    | none => none
  | none => none
def chMT (fa : EM) (r : D → TM) : TM := fun ρ => match evD fa ρ with
  | some (x, ρ1) => r x ρ1
  | none => none
def chM (fa : EM) (r : D → TM) : EM := fun ρ => match chMT fa r ρ with
  | some (b, ρ1) => some (.va (.bool b), ρ1)
  | none => none
section
variable {X : Cx} {a b c : Expr} {pos : Pos} {fa fb : EM} {fc : DM} {g : D → D → Option Bool}
structure PCh (X : Cx) (ops : List CmpOp) (rs : List Expr) (r : D → TM) : Prop where
  go : ∀ (pos : Pos) (pins : List (Addr × Obj)) (s : Shared) (σ : Sig) (H F : Hp) (ρ ρ' : Rho) (x : V) (v : Value) (d : D) (o : Bool) (Q : VK), Inv X pins σ H s → RelV x v → Rel X.K F ρ σ H → Rep X.K F x d → r d ρ = some (o, ρ') →
    (∀ F' H', Mv X.K F H ρ σ F' H' ρ' σ → Q (.bl o) H') → wpAny (model X.prog X.w) X.A (compareChain pos v ops (rs.map fun e => eval e X.env)) (EP X pins σ Q) X.xe s
  te : ∀ (pos : Pos) (pins : List (Addr × Obj)) (s : Shared) (σ : Sig) (H F : Hp) (ρ ρ' : Rho) (x : V) (v : Value) (d : D) (o : Bool) (Q : Bool → Shared → Prop), Inv X pins σ H s → RelV x v → Rel X.K F ρ σ H → Rep X.K F x d → r d ρ = some (o, ρ') →
    (∀ F' H' s', Inv X pins σ H' s' → Mv X.K F H ρ σ F' H' ρ' σ → Q o s') → wpAny (model X.prog X.w) X.A (testChain pos v ops (rs.map fun e => eval e X.env)) Q X.xe s
theorem pch_last {op : CmpOp} (ho : OpC X (compareOp op) g) (hc : PV X c fc) : PCh X [op] [c] (lkL g fc) := by
  have key : ∀ {d : D} {ρ ρ' : Rho} {o : Bool}, lkL g fc d ρ = some (o, ρ') → ∃ z, fc ρ = some (z, ρ') ∧ g d z = some o := by
    intro d ρ ρ' o e
    unfold lkL at e
    split at e
    · rename_i z ρ1 e1
      split at e
      · rename_i b e2
        cases e
        exact ⟨z, e1, e2⟩
      · cases e
    · cases e
  constructor
  · intro pos pins s σ H F ρ ρ' x v d o Q I rx R p e k
    obtain ⟨z, e1, e2⟩ := key e
    refine chain_last (thn (hc.pe.run pins s σ H (fun v H4 => ∃ F4, Mv X.K F H ρ σ F4 H4 ρ' σ ∧ RB X.K F4 H4 v z) I (tV.intro R e1 fun F1 H1 v M r => ⟨F1, M, r⟩)) fun t s4 ⟨x4, H4, I4, r4, F4, M4, p4⟩ => ?_)
    exact ho.run I4 M4.rel rx r4 ((p.same M4.stp.fr).rb M4.rel.same) p4 e2 fun F' H' M5 => k F' H' (M4.trans M5)
  · intro pos pins s σ H F ρ ρ' x v d o Q I rx R p e k
    obtain ⟨z, e1, e2⟩ := key e
    refine test_last (thn (hc.pe.run pins s σ H (fun v H4 => ∃ F4, Mv X.K F H ρ σ F4 H4 ρ' σ ∧ RB X.K F4 H4 v z) I (tV.intro R e1 fun F1 H1 v M r => ⟨F1, M, r⟩)) fun t s4 ⟨x4, H4, I4, r4, F4, M4, p4⟩ => ?_)
    refine thn (ho.run (Q := fun w H5 => w = .bl o ∧ ∃ F5, Mv X.K F4 H4 ρ' σ F5 H5 ρ' σ) I4 M4.rel rx r4 ((p.same M4.stp.fr).rb M4.rel.same) p4 e2 fun F' H' M5 => ⟨rfl, F', M5⟩) fun d s5 ⟨w, H5, I5, r5, ew, F5, M5⟩ => ?_
    subst ew
    cases r5
    exact wpAny_truthy_bool (k F5 H5 s5 I5 (M4.trans M5))
theorem pch_link {op op' : CmpOp} {ops : List CmpOp} {rs : List Expr} {r : D → TM} (ho : OpC X (compareOp op) g) (hb : PX X b fb) (h : PCh X (op' :: ops) (c :: rs) r) : PCh X (op :: op' :: ops) (b :: c :: rs) (lkC g fb r) := by
  have key : ∀ {d : D} {ρ ρ' : Rho} {o : Bool}, lkC g fb r d ρ = some (o, ρ') → ∃ y ρ1, evD fb ρ = some (y, ρ1) ∧ ((g d y = some true ∧ r y ρ1 = some (o, ρ')) ∨ (g d y = some false ∧ o = false ∧ ρ1 = ρ')) := by
    intro d ρ ρ' o e
    unfold lkC at e
    split at e
    · rename_i y ρ1 e1
      split at e
      · rename_i e2
        exact ⟨y, ρ1, e1, .inl ⟨e2, e⟩⟩
      · rename_i e2
        cases e
        exact ⟨y, _, e1, .inr ⟨e2, rfl, rfl⟩⟩
      · cases e
    · cases e
  constructor
  · intro pos pins s σ H F ρ ρ' x v d o Q I rx R p e k
    obtain ⟨y, ρ1, e1, e2⟩ := key e
    refine chain_link (thn (hb.pe.run pins s σ H (fun v H2 => ∃ F2, Mv X.K F H ρ σ F2 H2 ρ1 σ ∧ Rep X.K F2 v y) I (tE.val R e1 fun F1 H1 v M r => ⟨F1, M, r⟩)) fun u s2 ⟨x2, H2, I2, r2, F2, M2, p2⟩ => ?_)
    rcases e2 with ⟨e2, e3⟩ | ⟨e2, rfl, rfl⟩
    · refine thn (ho.run (Q := fun w H3 => w = .bl true ∧ ∃ F3, Mv X.K F2 H2 ρ1 σ F3 H3 ρ1 σ) I2 M2.rel rx r2 ((p.same M2.stp.fr).rb M2.rel.same) (p2.rb M2.rel.same) e2 fun F' H' M => ⟨rfl, F', M⟩) fun d s3 ⟨w, H3, I3, r3, ew, F3, M3⟩ => ?_
      subst ew
      cases r3
      exact wpAny_truthy_bool (ite_tt (h.go pos pins s3 σ H3 F3 ρ1 ρ' x2 u y o Q I3 r2 M3.rel (p2.same M3.stp.fr) e3 fun F' H' M => k F' H' (M2.trans (M3.trans M))))
    · refine thn (ho.run (Q := fun w H3 => w = .bl false ∧ ∃ F3, Mv X.K F2 H2 ρ1 σ F3 H3 ρ1 σ) I2 M2.rel rx r2 ((p.same M2.stp.fr).rb M2.rel.same) (p2.rb M2.rel.same) e2 fun F' H' M => ⟨rfl, F', M⟩) fun d s3 ⟨w, H3, I3, r3, ew, F3, M3⟩ => ?_
      subst ew
      cases r3
      exact wpAny_truthy_bool (ite_ff ⟨.bl false, H3, I3, rfl, k F3 H3 (M2.trans M3)⟩)
  · intro pos pins s σ H F ρ ρ' x v d o Q I rx R p e k
    obtain ⟨y, ρ1, e1, e2⟩ := key e
    refine test_link (thn (hb.pe.run pins s σ H (fun v H2 => ∃ F2, Mv X.K F H ρ σ F2 H2 ρ1 σ ∧ Rep X.K F2 v y) I (tE.val R e1 fun F1 H1 v M r => ⟨F1, M, r⟩)) fun u s2 ⟨x2, H2, I2, r2, F2, M2, p2⟩ => ?_)
    rcases e2 with ⟨e2, e3⟩ | ⟨e2, rfl, rfl⟩
    · refine thn (ho.run (Q := fun w H3 => w = .bl true ∧ ∃ F3, Mv X.K F2 H2 ρ1 σ F3 H3 ρ1 σ) I2 M2.rel rx r2 ((p.same M2.stp.fr).rb M2.rel.same) (p2.rb M2.rel.same) e2 fun F' H' M => ⟨rfl, F', M⟩) fun d s3 ⟨w, H3, I3, r3, ew, F3, M3⟩ => ?_
      subst ew
      cases r3
      exact wpAny_truthy_bool (ite_tt (h.te pos pins s3 σ H3 F3 ρ1 ρ' x2 u y o Q I3 r2 M3.rel (p2.same M3.stp.fr) e3 fun F' H' s' I' M => k F' H' s' I' (M2.trans (M3.trans M))))
    · refine thn (ho.run (Q := fun w H3 => w = .bl false ∧ ∃ F3, Mv X.K F2 H2 ρ1 σ F3 H3 ρ1 σ) I2 M2.rel rx r2 ((p.same M2.stp.fr).rb M2.rel.same) (p2.rb M2.rel.same) e2 fun F' H' M => ⟨rfl, F', M⟩) fun d s3 ⟨w, H3, I3, r3, ew, F3, M3⟩ => ?_
      subst ew
      cases r3
      exact wpAny_truthy_bool (ite_ff (k F3 H3 s3 I3 (M2.trans M3)))
theorem chMT_inv {r : D → TM} {ρ ρ' : Rho} {o : Bool} (e : chMT fa r ρ = some (o, ρ')) : ∃ x ρ1, evD fa ρ = some (x, ρ1) ∧ r x ρ1 = some (o, ρ') := by
  unfold chMT at e
  split at e
  · rename_i x ρ1 e1
    exact ⟨x, ρ1, e1, e⟩
  · cases e
theorem px_chM {op op' : CmpOp} {ops : List CmpOp} {rs : List Expr} {r : D → TM} (ha : PX X a fa) (h : PCh X (op :: op' :: ops) (b :: c :: rs) r) (hm : lastMarks (op :: op' :: ops) (b :: c :: rs) = false := by with_unfolding_all rfl)
    (hee : evalEach rs X.env = rs.map fun e => eval e X.env := by rfl) : PX X (.Compare a (op :: op' :: ops) (b :: c :: rs) pos) (chM fa r) := by
  refine ⟨⟨fun pins s σ H Q I h0 => ?_⟩⟩
  obtain ⟨F, ρ, rr, ρ', R, e, k⟩ := h0
  unfold chM at e
  split at e
  · rename_i o ρ2 e1
    cases e
    obtain ⟨x, ρ1, e2, e3⟩ := chMT_inv e1
    refine Compare_chain (thn (ha.pe.run pins s σ H (fun v H1 => ∃ F1, Mv X.K F H ρ σ F1 H1 ρ1 σ ∧ Rep X.K F1 v x) I (tE.val R e2 fun F1 H1 v M r => ⟨F1, M, r⟩)) fun v s1 ⟨x1, H1, I1, r1, F1, M1, p1⟩ => ?_) hm
    rw [hee]
    exact h.go pos pins s1 σ H1 F1 ρ1 _ x1 v x o Q I1 r1 M1.rel p1 e3 fun F' H' M => k F' H' _ (M1.trans M) (.bl o)
  · cases e
theorem pq_chM {op op' : CmpOp} {ops : List CmpOp} {rs : List Expr} {r : D → TM} (ha : PX X a fa) (h : PCh X (op :: op' :: ops) (b :: c :: rs) r) (hm : lastMarks (op :: op' :: ops) (b :: c :: rs) = false := by with_unfolding_all rfl)
    (hee : evalEach rs X.env = rs.map fun e => eval e X.env := by rfl) : PQ X (.Compare a (op :: op' :: ops) (b :: c :: rs) pos) (chMT fa r) := by
  refine ⟨⟨fun pins s σ H Q I h0 => ?_⟩⟩
  obtain ⟨F, ρ, o, ρ', R, e, k⟩ := h0
  obtain ⟨x, ρ1, e2, e3⟩ := chMT_inv e
  refine isTrue_chain (thn (ha.pe.run pins s σ H (fun v H1 => ∃ F1, Mv X.K F H ρ σ F1 H1 ρ1 σ ∧ Rep X.K F1 v x) I (tE.val R e2 fun F1 H1 v M r => ⟨F1, M, r⟩)) fun v s1 ⟨x1, H1, I1, r1, F1, M1, p1⟩ => ?_) hm
  rw [hee]
  exact h.te pos pins s1 σ H1 F1 ρ1 ρ' x1 v x o _ I1 r1 M1.rel p1 e3 fun F' H' s' I' M => ⟨H', I', k F' H' (M1.trans M)⟩
end
end PL

/-! PL, the plain side: how readings are computed. -/
namespace PL
open PySem PySem.Spec PyProof.Rows L2

/-! ### small facts -/
theorem cmulX_of {i j : Int} (a b : Nat) (hi : i.natAbs < 2 ^ a) (hj : j.natAbs < 2 ^ b) (h : a + b < 100000000) : CMulX i j := by
  have q : ∀ (x : Int) (c : Nat), x.natAbs < 2 ^ c → x.natAbs.log2 ≤ c := fun x c hx => by
    by_cases h0 : x.natAbs = 0
    · rw [h0]; simp
    · exact Nat.le_of_lt ((Nat.log2_lt h0).mpr hx)
  have h1 := q i a hi
  have h2 := q j b hj
  show i.natAbs.log2 + j.natAbs.log2 < 100000000
  omega
theorem cmulX_lt {i j : Int} (hi : i.natAbs < 1000000000000000000000000000000) (hj : j.natAbs < 1000000000000000000000000000000) : CMulX i j :=
  cmulX_of 100 100 (Nat.lt_trans hi (by decide)) (Nat.lt_trans hj (by decide)) (by decide)
theorem log2_of {j : Int} (a : Nat) (h : j.natAbs < 2 ^ a) (h2 : a < 9000) : j.natAbs.log2 < 9000 := by
  by_cases h0 : j.natAbs = 0
  · rw [h0]; simp
  · exact Nat.lt_trans ((Nat.log2_lt h0).mpr h) h2
theorem log2_lt9 {j : Int} (h : j.natAbs < 1000000000000000000000000000000) : j.natAbs.log2 < 9000 := log2_of 100 (Nat.lt_trans h (by decide)) (by decide)

theorem pow2_le {a b : Nat} (h : a ≤ b) : (2 : Int) ^ a ≤ 2 ^ b := by
  have q := Nat.pow_le_pow_right (n := 2) (by decide) h
  exact_mod_cast q
/-! ### steps -/
theorem seq_nx {f g : SM} {ρ ρ1 : Rho} (h : f ρ = some (.nx, ρ1)) : seqS f g ρ = g ρ1 := by unfold seqS; rw [h]
theorem seq_rt {f g : SM} {ρ ρ1 : Rho} {r : Sl} (h : f ρ = some (.rt r, ρ1)) : seqS f g ρ = some (.rt r, ρ1) := by unfold seqS; rw [h]
theorem if_t {c : TM} {f g : SM} {ρ ρ1 : Rho} (h : c ρ = some (true, ρ1)) : ifS c f g ρ = f ρ1 := by unfold ifS; rw [h]
theorem if_f {c : TM} {f g : SM} {ρ ρ1 : Rho} (h : c ρ = some (false, ρ1)) : ifS c f g ρ = g ρ1 := by unfold ifS; rw [h]

theorem body_rt {nl : Nat} {fb : SM} {as : List Sl} {r : Sl} {ρ : Rho} (h : fb (as ++ List.replicate nl .un) = some (.rt r, ρ)) (ok : as.all argOk = true := by rfl) : bodyM nl fb as = some (r, outArgs as ρ) := by
  unfold bodyM
  rw [if_pos ok, h]
theorem body_nx {nl : Nat} {fb : SM} {as : List Sl} {ρ : Rho} (h : fb (as ++ List.replicate nl .un) = some (.nx, ρ)) (ok : as.all argOk = true := by rfl) : bodyM nl fb as = some (.va .none, outArgs as ρ) := by
  unfold bodyM
  rw [if_pos ok, h]
/-! ### comprehensions -/
theorem wipeR_self {ρ : Rho} {vs : List Nat} : unwipe ρ vs (wipeR ρ vs) = ρ := by
  suffices h : ∀ (vs ws : List Nat), (∀ v, v ∈ vs → v ∈ ws) → unwipe ρ vs (wipeR ρ ws) = wipeR ρ (ws.filter fun v => decide (v ∉ vs)) by
    rw [h vs vs fun _ q => q]
    have e : vs.filter (fun v => decide (v ∉ vs)) = [] := by
      rw [List.filter_eq_nil_iff]
      intro a ha
      simp [ha]
    rw [e]
    rfl
  intro vs
  induction vs with
  | nil =>
    intro ws _
    show wipeR ρ ws = _
    have e : ws.filter (fun v => decide (v ∉ ([] : List Nat))) = ws := by
      rw [List.filter_eq_self]
      intro a _
      simp
    rw [e]
  | cons v vs ih =>
    intro ws hsub
    show (unwipe ρ vs (wipeR ρ ws)).set v (ρ.getD v .un) = _
    rw [ih ws fun x hx => hsub x (List.mem_cons_of_mem _ hx)]
    apply List.ext_getElem?
    intro j
    by_cases hj : v = j
    · subst hj
      by_cases hl : v < ρ.length
      · rw [List.getElem?_set_self (by rw [wipeR_length]; exact hl), wipeR_not (by simp), List.getD_eq_getElem?_getD, List.getElem?_eq_getElem hl]
        rfl
      · rw [List.getElem?_eq_none (by rw [List.length_set, wipeR_length]; omega), List.getElem?_eq_none (by rw [wipeR_length]; omega)]
    · rw [List.getElem?_set_ne hj]
      by_cases hl : j < ρ.length
      · by_cases hm : j ∈ ws ∧ j ∉ vs
        · rw [wipeR_in (by simp [hm.1, hm.2]) hl, wipeR_in (by simp [hm.1, hm.2, show ¬ j = v from fun q => hj (Eq.symm q)]) hl]
        · rw [wipeR_not (by simp; intro q; exact Classical.byContradiction fun q2 => hm ⟨q, q2⟩), wipeR_not (by simp; intro q _; exact Classical.byContradiction fun q2 => hm ⟨q, q2⟩)]
      · rw [List.getElem?_eq_none (by rw [wipeR_length]; omega), List.getElem?_eq_none (by rw [wipeR_length]; omega)]
theorem lcGo_eq {α : Type} {inj : α → D} {g : GM} {tt : TM} {fe : EM} {vs : List Nat} {ρw : Rho} (e : α → Option D) : ∀ xs : List α,
    (∀ x, x ∈ xs → ∃ ρa, g (inj x) ρw = some ρa ∧ ((∃ ρb, tt ρa = some (false, ρb) ∧ wipeC vs ρb = some ρw ∧ e x = none) ∨ ∃ ρb y ρc, tt ρa = some (true, ρb) ∧ evD fe ρb = some (y, ρc) ∧ wipeC vs ρc = some ρw ∧ e x = some y)) →
    lcGo g tt fe vs (xs.map inj) ρw = some (xs.filterMap e, ρw)
  | [], _ => rfl
  | x :: xs, h => by
    have ih := lcGo_eq e xs fun y hy => h y (List.mem_cons_of_mem _ hy)
    obtain ⟨ρa, h1, h2⟩ := h x List.mem_cons_self
    rw [List.map_cons, List.filterMap_cons]
    rcases h2 with ⟨ρb, h3, h4, h5⟩ | ⟨ρb, y, ρc, h3, h4, h5, h6⟩
    · rw [h5]
      unfold lcGo
      simp only [h1, h3, h4, ih]
    · rw [h6]
      unfold lcGo
      simp only [h1, h3, h4, h5, ih]
theorem wipeC_eq {vs : List Nat} {ρ ρw : Rho} (h : wipeC vs ρ = some ρw) : ρw = wipeR ρ vs := by
  unfold wipeC at h
  split at h
  · cases h; rfl
  · cases h
/-- a comprehension with a test, over xs -/
theorem lc_filter {α : Type} {inj : α → D} {g : GM} {tt : TM} {fe : EM} {vs : List Nat} {ρ ρ1 ρw : Rho} {fi : IM} {xs : List α} (e : α → Option D) (hi : fi ρ = some (xs.map inj, ρ1)) (hw : wipeC vs ρ1 = some ρw)
    (hb : ∀ x, x ∈ xs → ∃ ρa, g (inj x) ρw = some ρa ∧ ((∃ ρb, tt ρa = some (false, ρb) ∧ wipeC vs ρb = some ρw ∧ e x = none) ∨ ∃ ρb y ρc, tt ρa = some (true, ρb) ∧ evD fe ρb = some (y, ρc) ∧ wipeC vs ρc = some ρw ∧ e x = some y))
    (hl : xs.length ≤ sizeLine := by first | assumption | decide | simp) : lcM vs fi g tt fe ρ = some (.ow .loc (.lst (xs.filterMap e)), ρ1) := by
  unfold lcM
  rw [hi]
  simp only [hw, lcGo_eq e xs hb]
  rw [if_pos (Nat.le_trans (List.length_filterMap_le _ _) hl), wipeC_eq hw, wipeR_self]
/-- without a test -/
theorem lc_map {α : Type} {inj : α → D} {g : GM} {fe : EM} {vs : List Nat} {ρ ρ1 ρw : Rho} {fi : IM} {xs : List α} (e : α → D) (hi : fi ρ = some (xs.map inj, ρ1)) (hw : wipeC vs ρ1 = some ρw)
    (hb : ∀ x, x ∈ xs → ∃ ρa ρc, g (inj x) ρw = some ρa ∧ evD fe ρa = some (e x, ρc) ∧ wipeC vs ρc = some ρw)
    (hl : xs.length ≤ sizeLine := by first | assumption | decide | simp) : lcM vs fi g yesT fe ρ = some (.ow .loc (.lst (xs.map e)), ρ1) := by
  have q := lc_filter (tt := yesT) (fe := fe) (g := g) (ρ := ρ) (fun x => some (e x)) hi hw (fun x hx => by
    obtain ⟨ρa, ρc, h1, h2, h3⟩ := hb x hx
    exact ⟨ρa, h1, .inr ⟨ρa, _, ρc, rfl, h2, h3, rfl⟩⟩) hl
  rw [q]
  simp [List.filterMap_eq_map]
/-- with a state -/
theorem lcGo_st {α : Type} {inj : α → D} {g : GM} {fe : EM} {vs : List Nat} (P : α → D → Prop) : ∀ (xs : List α) (I : Nat → Rho → Prop) (ρw : Rho), I 0 ρw →
    (∀ (i : Nat) (x : α), xs[i]? = some x → ∀ ρw, I i ρw → ∃ ρa y ρc ρd, g (inj x) ρw = some ρa ∧ evD fe ρa = some (y, ρc) ∧ wipeC vs ρc = some ρd ∧ I (i + 1) ρd ∧ P x y) →
    ∃ ys ρe, lcGo g yesT fe vs (xs.map inj) ρw = some (ys, ρe) ∧ I xs.length ρe ∧ PySem.W.EachIs P xs ys
  | [], I, ρw, h0, _ => ⟨[], ρw, rfl, h0, .nil⟩
  | x :: xs, I, ρw, h0, h => by
    obtain ⟨ρa, y, ρc, ρd, h1, h2, h3, h4, h5⟩ := h 0 x rfl ρw h0
    obtain ⟨ys, ρe, h6, h7, h8⟩ := lcGo_st P xs (fun i => I (i + 1)) ρd h4 fun i y hy ρ hI => h (i + 1) y hy ρ hI
    refine ⟨y :: ys, ρe, ?_, h7, .cons h5 h8⟩
    rw [List.map_cons]
    unfold lcGo
    simp only [h1, h2, h3, h6, yesT]
theorem eachIs_length {α β : Type} {R : α → β → Prop} : ∀ {as : List α} {bs : List β}, PySem.W.EachIs R as bs → as.length = bs.length
  | _, _, .nil => rfl
  | _, _, .cons _ h => by simp [eachIs_length h]
theorem lc_st {α : Type} {inj : α → D} {g : GM} {fe : EM} {vs : List Nat} {ρ ρ1 ρw : Rho} {fi : IM} {xs : List α} (I : Nat → Rho → Prop) (P : α → D → Prop) (hi : fi ρ = some (xs.map inj, ρ1)) (hw : wipeC vs ρ1 = some ρw) (h0 : I 0 ρw)
    (hb : ∀ (i : Nat) (x : α), xs[i]? = some x → ∀ ρw, I i ρw → ∃ ρa y ρc ρd, g (inj x) ρw = some ρa ∧ evD fe ρa = some (y, ρc) ∧ wipeC vs ρc = some ρd ∧ I (i + 1) ρd ∧ P x y) (hl : xs.length ≤ sizeLine := by first | assumption | decide | simp) :
    ∃ ys ρe, lcM vs fi g yesT fe ρ = some (.ow .loc (.lst ys), unwipe ρ1 vs ρe) ∧ I xs.length ρe ∧ PySem.W.EachIs P xs ys := by
  obtain ⟨ys, ρe, h1, h2, h3⟩ := lcGo_st (g := g) (fe := fe) (vs := vs) P xs I ρw h0 hb
  refine ⟨ys, ρe, ?_, h2, h3⟩
  unfold lcM
  rw [hi]
  simp only [hw, h1]
  rw [if_pos (by rw [← eachIs_length h3]; exact hl)]
/-- items with a property, as ints -/
theorem eachIs_ints {α : Type} {p : Int → Prop} : ∀ {xs : List α} {ys : List D}, PySem.W.EachIs (fun _ y => ∃ v : Int, y = .int v ∧ p v) xs ys → ∃ vs : List Int, ys = vs.map .int ∧ (∀ v ∈ vs, p v) ∧ vs.length = xs.length
  | _, _, .nil => ⟨[], rfl, fun _ h => (List.not_mem_nil h).elim, rfl⟩
  | _, _, .cons ⟨v, e, h⟩ r => by
    obtain ⟨vs, e2, h2, h3⟩ := eachIs_ints r
    refine ⟨v :: vs, by rw [e, e2]; rfl, fun x hx => ?_, by simp [h3]⟩
    rcases List.mem_cons.mp hx with q | q
    · subst q; exact h
    · exact h2 x q

/-! ### loops -/
theorem forGo_inv {α : Type} {inj : α → D} {g : GM} {fb : SM} (xs : List α) : ∀ (I : Nat → Rho → Prop) (ρ : Rho), I 0 ρ →
    (∀ (i : Nat) (x : α), xs[i]? = some x → ∀ ρ, I i ρ → ∃ ρa o ρb, g (inj x) ρ = some ρa ∧ fb ρa = some (o, ρb) ∧ (o = .nx ∨ o = .ct) ∧ I (i + 1) ρb) →
    ∃ ρ', forGo g fb (xs.map inj) ρ = some (.nx, ρ') ∧ I xs.length ρ' := by
  induction xs with
  | nil => exact fun I ρ h0 _ => ⟨ρ, rfl, h0⟩
  | cons x xs ih =>
    intro I ρ h0 h
    obtain ⟨ρa, o, ρb, h1, h2, h3, h4⟩ := h 0 x rfl ρ h0
    obtain ⟨ρ', h5, h6⟩ := ih (fun i => I (i + 1)) ρb h4 fun i y hy ρ hI => h (i + 1) y hy ρ hI
    refine ⟨ρ', ?_, h6⟩
    rw [List.map_cons]
    unfold forGo
    rcases h3 with rfl | rfl <;> simp only [h1, h2, h5]
theorem for_inv {α : Type} {inj : α → D} {g : GM} {fb : SM} {fi : IM} {ρ ρ1 : Rho} {xs : List α} (I : Nat → Rho → Prop) (hi : fi ρ = some (xs.map inj, ρ1)) (h0 : I 0 ρ1)
    (hb : ∀ (i : Nat) (x : α), xs[i]? = some x → ∀ ρ, I i ρ → ∃ ρa o ρb, g (inj x) ρ = some ρa ∧ fb ρa = some (o, ρb) ∧ (o = .nx ∨ o = .ct) ∧ I (i + 1) ρb) :
    ∃ ρ', forS fi g fb ρ = some (.nx, ρ') ∧ I xs.length ρ' := by
  obtain ⟨ρ', h1, h2⟩ := forGo_inv xs I ρ1 h0 hb
  exact ⟨ρ', by unfold forS; rw [hi]; exact h1, h2⟩
/-- a while: V falls at each turn -/
theorem whileGo_inv {c : TM} {fb : SM} (I : Nat → Rho → Prop) (hb : ∀ n ρ, I n ρ → (∃ ρ1, c ρ = some (false, ρ1) ∧ I 0 ρ1) ∨ ∃ ρ1 o ρ2 m, c ρ = some (true, ρ1) ∧ fb ρ1 = some (o, ρ2) ∧ (o = .nx ∨ o = .ct) ∧ m < n ∧ I m ρ2) :
    ∀ (k n : Nat) (ρ : Rho), n < k → I n ρ → ∃ ρ' ρ0, whileGo c fb k ρ = some (.nx, ρ') ∧ I 0 ρ' ∧ c ρ0 = some (false, ρ')
  | 0, n, ρ, h, _ => absurd h (Nat.not_lt_zero _)
  | k + 1, n, ρ, h, hI => by
    rcases hb n ρ hI with ⟨ρ1, h1, h2⟩ | ⟨ρ1, o, ρ2, m, h1, h2, h3, h4, h5⟩
    · refine ⟨ρ1, ρ, ?_, h2, h1⟩
      unfold whileGo
      rw [h1]
    · obtain ⟨ρ', ρ0, h6, h7, h8⟩ := whileGo_inv I hb k m ρ2 (by omega) h5
      refine ⟨ρ', ρ0, ?_, h7, h8⟩
      unfold whileGo
      rcases h3 with rfl | rfl <;> simp only [h1, h2, h6]

/-! ### values -/

theorem ixN_in {n : Nat} {i : Int} (h0 : 0 ≤ i) (h1 : i < n) : ixN n i = some i.toNat := by
  unfold ixN
  rw [if_pos h0, if_pos h1]
theorem ixN_neg {n : Nat} {i : Int} (h0 : i < 0) (h1 : -(n : Int) ≤ i) : ixN n i = some (i + n).toNat := by
  unfold ixN
  rw [if_neg (by omega), if_pos h1]
theorem atI_in {α : Type} {xs : List α} {i : Int} (h0 : 0 ≤ i) (h1 : i < xs.length) : atI xs i = some (xs[i.toNat]'(by omega)) := by
  unfold L2.atI
  rw [ixN_in h0 h1]
  simp
/-! ### data that is kept small -/
def nice : Nat → D → Prop
  | _, .none => True
  | _, .bool _ => True
  | _, .int _ => True
  | _, .str x => PyData.strOk x = true ∧ x.length ≤ sizeLine
  | 0, _ => False
  | n + 1, .list xs => xs.length < 10000000 ∧ ∀ x ∈ xs, nice n x
  | n + 1, .tuple xs => xs.length < 10000000 ∧ ∀ x ∈ xs, nice n x
  | _ + 1, .dict _ => False
theorem nice_canLay : ∀ (n : Nat) (d : D), nice n d → d.canLay0 = true ∧ d.depth ≤ n
  | n, .none, _ => ⟨rfl, by simp [PyData.depth]⟩
  | n, .bool _, _ => ⟨rfl, by simp [PyData.depth]⟩
  | n, .int _, _ => ⟨rfl, by simp [PyData.depth]⟩
  | n, .str x, h => ⟨by cases n <;> exact h.1, by simp [PyData.depth]⟩
  | 0, .list xs, h => h.elim
  | 0, .tuple xs, h => h.elim
  | 0, .dict xs, h => h.elim
  | n + 1, .dict xs, h => h.elim
  | n + 1, .list xs, h => by
    have q : PyData.canLayAll0 xs = true ∧ PyData.depthAll xs ≤ n := by
      have h2 := h.2
      clear h
      induction xs with
      | nil => exact ⟨rfl, Nat.zero_le _⟩
      | cons x xs ih =>
        obtain ⟨a, b⟩ := ih fun y hy => h2 y (List.mem_cons_of_mem _ hy)
        obtain ⟨c, d⟩ := nice_canLay n x (h2 x List.mem_cons_self)
        exact ⟨by simp [PyData.canLayAll0, a, c], by simp only [PyData.depthAll]; exact Nat.max_le.mpr ⟨d, b⟩⟩
    exact ⟨by simp only [PyData.canLay0]; exact q.1, by simp only [PyData.depth]; omega⟩
  | n + 1, .tuple xs, h => by
    have q : PyData.canLayAll0 xs = true ∧ PyData.depthAll xs ≤ n := by
      have h2 := h.2
      clear h
      induction xs with
      | nil => exact ⟨rfl, Nat.zero_le _⟩
      | cons x xs ih =>
        obtain ⟨a, b⟩ := ih fun y hy => h2 y (List.mem_cons_of_mem _ hy)
        obtain ⟨c, d⟩ := nice_canLay n x (h2 x List.mem_cons_self)
        exact ⟨by simp [PyData.canLayAll0, a, c], by simp only [PyData.depthAll]; exact Nat.max_le.mpr ⟨d, b⟩⟩
    exact ⟨by simp only [PyData.canLay0]; exact q.1, by simp only [PyData.depth]; omega⟩
theorem nice.shaped {n : Nat} {d : D} (h : nice n d) (hn : n ≤ 64 := by decide) : SeqAt.shaped d = true := by
  obtain ⟨a, b⟩ := nice_canLay n d h
  unfold SeqAt.shaped
  rw [a, decide_eq_true (Nat.le_trans b hn)]
  rfl
/-! ### typed data -/
class Dat (α : Type) [DecidableEq α] extends PySem.W.Datum α where
  lay : ∀ a : α, (PySem.W.Datum.toD a).canLay0 = true
instance : Dat Int := { (inferInstance : PySem.W.Datum Int) with lay := fun _ => rfl }
instance : Dat Bool := { (inferInstance : PySem.W.Datum Bool) with lay := fun _ => rfl }
section
variable {α β : Type} [DecidableEq α] [Dat α] [DecidableEq β] [Dat β]
def T (a : α) : D := PySem.W.Datum.toD a
theorem layAll (xs : List α) : PyData.canLayAll0 (xs.map T) = true := by
  induction xs with
  | nil => rfl
  | cons x xs ih => rw [List.map_cons]; simp only [PyData.canLayAll0]; rw [ih]; simp only [T, Dat.lay]; rfl
instance : Dat (List α) := { (inferInstance : PySem.W.Datum (List α)) with lay := fun xs => by show PyData.canLay0 (.list (xs.map T)) = true; simp only [PyData.canLay0]; exact layAll xs }
instance : Dat (PySem.W.Tup α) := { (inferInstance : PySem.W.Datum (PySem.W.Tup α)) with lay := fun xs => by show PyData.canLay0 (.tuple (xs.items.map T)) = true; simp only [PyData.canLay0]; exact layAll xs.items }
instance : Dat (α × β) := { (inferInstance : PySem.W.Datum (α × β)) with lay := fun xs => by show PyData.canLay0 (.tuple [T xs.1, T xs.2]) = true; simp [PyData.canLay0, PyData.canLayAll0, T, Dat.lay] }
theorem eqC_T (a b : α) (h : PySem.W.Datum.depth α ≤ 64 := by decide) : eqC (T a) (T b) = some (decide (a = b)) := by
  have s : ∀ x : α, SeqAt.shaped (T x) = true := fun x => by
    unfold SeqAt.shaped
    rw [show (T x).canLay0 = true from Dat.lay x, decide_eq_true (show (T x).depth ≤ 64 from Nat.le_trans (PySem.W.Datum.depth_le x) h)]
    rfl
  unfold eqC
  rw [if_pos ⟨s a, s b⟩]
  exact congrArg some (PySem.W.Datum.eqv a b)
theorem neC_T (a b : α) (h : PySem.W.Datum.depth α ≤ 64 := by decide) : neC (T a) (T b) = some (!decide (a = b)) := by
  have e := eqC_T a b h
  unfold eqC at e
  unfold neC
  split at e
  · rename_i h2
    rw [if_pos h2]
    exact congrArg some (congrArg (!·) (Option.some.inj e))
  · cases e
end
@[simp] theorem eqC_int (i j : Int) : eqC (.int i) (.int j) = some (decide (i = j)) := eqC_T i j
@[simp] theorem neC_int (i j : Int) : neC (.int i) (.int j) = some (!decide (i = j)) := neC_T i j
@[simp] theorem eqC_bool (i j : Bool) : eqC (.bool i) (.bool j) = some (decide (i = j)) := eqC_T i j
@[simp] theorem neC_bool (i j : Bool) : neC (.bool i) (.bool j) = some (!decide (i = j)) := neC_T i j
theorem eqC_ints (xs ys : List Int) : eqC (.list (xs.map .int)) (.list (ys.map .int)) = some (decide (xs = ys)) := eqC_T xs ys
theorem neC_ints (xs ys : List Int) : neC (.list (xs.map .int)) (.list (ys.map .int)) = some (!decide (xs = ys)) := neC_T xs ys

/-! ### equations for simp -/
section
variable {f g : EM} {a b c : DM} {t u : TM} {p q : SM} {ρ : Rho} {i : Nat}
@[simp] theorem seqS_e : seqS p q ρ = (match p ρ with | some (.nx, ρ1) => q ρ1 | r => r) := (rfl)
@[simp] theorem skipS_e : skipS ρ = some (.nx, ρ) := (rfl)
@[simp] theorem exprS_e : exprS f ρ = (match f ρ with | some (_, ρ1) => some (.nx, ρ1) | none => none) := (rfl)
@[simp] theorem retS_e : retS f ρ = (match f ρ with | some (.un, _) => none | some (r, ρ1) => some (.rt r, ρ1) | none => none) := (rfl)
@[simp] theorem ifS_e : ifS t p q ρ = (match t ρ with | some (true, ρ1) => p ρ1 | some (false, ρ1) => q ρ1 | none => none) := (rfl)
@[simp] theorem setS_e : setS i f ρ = (match f ρ with | some (.va d, ρ1) => if isFree ρ1 i then some (.nx, ρ1.set i (.va d)) else none | some (.ow _ o, ρ1) => if isFree ρ1 i then some (.nx, ρ1.set i (.ow .loc o)) else none | _ => none) := (rfl)
@[simp] theorem asgS_e {gm : GM} : asgS gm f ρ = (match evD f ρ with | some (d, ρ1) => (match gm d ρ1 with | some ρ2 => some (.nx, ρ2) | none => none) | none => none) := (rfl)
@[simp] theorem parS_e {j : Nat} : parS i j f g ρ = (match evD f ρ with | some (x, ρ1) => (match evD g ρ1 with | some (y, ρ2) => if isFree ρ2 i && isFree ρ2 j then some (.nx, (ρ2.set i (.va x)).set j (.va y)) else none | none => none) | none => none) := (rfl)
@[simp] theorem truT_e : truT a ρ = (match a ρ with | some (d, ρ1) => (match truD d with | some b => some (b, ρ1) | none => none) | none => none) := (rfl)
@[simp] theorem andT_e : andT t u ρ = (match t ρ with | some (true, ρ1) => u ρ1 | r => r) := (rfl)
@[simp] theorem orT_e : orT t u ρ = (match t ρ with | some (false, ρ1) => u ρ1 | r => r) := (rfl)
@[simp] theorem notT_e : notT t ρ = (match t ρ with | some (b, ρ1) => some (!b, ρ1) | none => none) := (rfl)
@[simp] theorem andV_e : andV f g ρ = (match f ρ with | some (.va (.bool true), ρ1) => g ρ1 | some (.va (.bool false), ρ1) => some (.va (.bool false), ρ1) | _ => none) := (rfl)
@[simp] theorem orV_e : orV f g ρ = (match f ρ with | some (.va (.bool false), ρ1) => g ρ1 | some (.va (.bool true), ρ1) => some (.va (.bool true), ρ1) | _ => none) := (rfl)
@[simp] theorem notV_e : notV f ρ = (match f ρ with | some (.va (.bool b), ρ1) => some (.va (.bool (!b)), ρ1) | _ => none) := (rfl)
@[simp] theorem ifE_e : ifE t f g ρ = (match t ρ with | some (true, ρ1) => f ρ1 | some (false, ρ1) => g ρ1 | none => none) := (rfl)
@[simp] theorem un1_e {k : D → Option Sl} : un1 k a ρ = (match a ρ with | some (x, ρ1) => (match k x with | some r => some (r, ρ1) | none => none) | none => none) := (rfl)
@[simp] theorem bin2_e {k : D → D → Option Sl} {fa : A1} : bin2 k fa b ρ = (match ev2 fa b ρ with | some (x, y, ρ2) => (match k x y with | some r => some (r, ρ2) | none => none) | none => none) := (rfl)
@[simp] theorem cmpT_e {k : D → D → Option Bool} {fa : A1} : cmpT k fa b ρ = (match ev2 fa b ρ with | some (x, y, ρ2) => (match k x y with | some r => some (r, ρ2) | none => none) | none => none) := (rfl)
@[simp] theorem cmpB_e {k : D → D → Option Bool} {x y : D} : cmpB k x y = (k x y).map fun b => .va (.bool b) := (rfl)
@[simp] theorem ev2_nm_e : ev2 (.nm i) b ρ = (match nmB i ρ with | some _ => (match b ρ with | some (y, ρ1) => (match nmB i ρ1 with | some (x, _) => some (x, y, ρ1) | none => none) | none => none) | none => none) := (rfl)
@[simp] theorem ev2_ex_e : ev2 (.ex f) b ρ = (match evD f ρ with | some (x, ρ1) => (match b ρ1 with | some (y, ρ2) => some (x, y, ρ2) | none => none) | none => none) := (rfl)
@[simp] theorem cst_e {d : D} : cst d ρ = some (.va d, ρ) := (rfl)
@[simp] theorem evAgs_nil : evAgs [] ρ = some ([], ρ) := (rfl)
@[simp] theorem evAgs_cons {fs : List EM} : evAgs (f :: fs) ρ = (match evD f ρ with | some (d, ρ1) => (match evAgs fs ρ1 with | some (ds, ρ2) => some (d :: ds, ρ2) | none => none) | none => none) := (rfl)
@[simp] theorem tupM_e {fs : List EM} : tupM fs ρ = (match evAgs fs ρ with | some (ds, ρ1) => some (.va (.tuple ds), ρ1) | none => none) := (rfl)
@[simp] theorem lstM_e {fs : List EM} : lstM fs ρ = (match evAgs fs ρ with | some (ds, ρ1) => some (.ow .loc (.lst ds), ρ1) | none => none) := (rfl)
@[simp] theorem callM_e {m : FM} {fs : List EM} : callM m fs ρ = (match evAgs fs ρ with | some (ds, ρ1) => (match m (ds.map .va) with | some (r, _) => some (r, ρ1) | none => none) | none => none) := (rfl)
@[simp] theorem gNm_e {d : D} : gNm i d ρ = if isFree ρ i then some (ρ.set i (.va d)) else none := (rfl)
@[simp] theorem evO_none : evO none ρ = some (none, ρ) := (rfl)
@[simp] theorem evO_some : evO (some a) ρ = (match a ρ with | some (.int i, ρ1) => some (some i, ρ1) | _ => none) := (rfl)
@[simp] theorem evD_e : evD f ρ = (match f ρ with | some (.va d, ρ1) => some (d, ρ1) | some (.ow _ (.lst xs), ρ1) => some (.list xs, ρ1) | _ => none) := (rfl)
@[simp] theorem nmB_e : nmB i ρ = (match ρ[i]? with | some (.va d) => some (d, ρ) | some (.ow _ (.lst xs)) => some (.list xs, ρ) | some (.ow _ (.dic kvs)) => some (.dict kvs, ρ) | _ => none) := (rfl)
@[simp] theorem nmV_e : nmV i ρ = (match ρ[i]? with | some (.va d) => some (.va d, ρ) | some (.ow .loc (.lst xs)) => some (.va (.list xs), ρ.set i (.va (.list xs))) | some (.ow .loc (.dic kvs)) => some (.va (.dict kvs), ρ.set i (.va (.dict kvs))) | _ => none) := (rfl)
@[simp] theorem nmM_e : nmM i ρ = (match ρ[i]? with | some (.va d) => some (.va d, ρ) | some (.ow .loc o) => some (.ow .loc o, ρ.set i .un) | _ => none) := (rfl)
@[simp] theorem isFree_e : isFree ρ i = (match ρ[i]? with | some s => s.free | none => false) := (rfl)
@[simp] theorem free_un : Sl.free .un = true := (rfl)
@[simp] theorem free_va {d : D} : Sl.free (.va d) = true := (rfl)
@[simp] theorem free_loc {o : OD} : Sl.free (.ow .loc o) = true := (rfl)
@[simp] theorem addD_int {i j : Int} : addD (.int i) (.int j) = some (.va (.int (i + j))) := (rfl)
@[simp] theorem subD_int {i j : Int} : subD (.int i) (.int j) = some (.va (.int (i - j))) := (rfl)
theorem mulD_int {i j : Int} (h : CMulX i j) : mulD (.int i) (.int j) = some (.va (.int (i * j))) := if_pos h
theorem modD_int {i j : Int} (h : 0 < j) : modD (.int i) (.int j) = some (.va (.int (i % j))) := if_pos h
theorem fdivD_int {i j : Int} (h : 0 < j) (h2 : j.natAbs.log2 < 9000) : fdivD (.int i) (.int j) = some (.va (.int (i / j))) := if_pos ⟨h, h2⟩
theorem shrD_int {i j : Int} (h : 0 ≤ j) : shrD (.int i) (.int j) = some (.va (.int (i / 2 ^ j.toNat))) := if_pos h
theorem powD_int {i j : Int} (h : 0 ≤ j ∧ j.natAbs ≤ 1000000 ∧ i.natAbs < 2 ^ 64) : powD (.int i) (.int j) = some (.va (.int (i ^ j.toNat))) := if_pos h
@[simp] theorem sliD_list {xs : List D} {lo hi : Option Int} : sliD (.list xs) lo hi = some (.ow .loc (.lst (cutL xs lo hi))) := rfl
@[simp] theorem sliD_tuple {xs : List D} {lo hi : Option Int} : sliD (.tuple xs) lo hi = some (.va (.tuple (cutL xs lo hi))) := rfl
theorem addD_list {xs ys : List D} (h : xs.length + ys.length ≤ 10000000) : addD (.list xs) (.list ys) = some (.ow .loc (.lst (xs ++ ys))) := if_pos (Nat.le_trans h (by decide))
theorem addD_tuple {xs ys : List D} (h : xs.length + ys.length ≤ 10000000) : addD (.tuple xs) (.tuple ys) = some (.va (.tuple (xs ++ ys))) := if_pos (Nat.le_trans h (by decide))
theorem appD_eq {xs : List D} {d : D} (h : xs.length < 10000000) : appD xs d = some (xs ++ [d], .none) := if_pos (Nat.lt_of_lt_of_le h (by decide))
@[simp] theorem mtM1_e {k : List D → D → Option (List D × D)} : mtM1 k i f ρ = (match ρ[i]? with | some (.ow _ (.lst _)) => (match evD f ρ with | some (d, ρ1) => (match ρ1[i]? with | some (.ow kk (.lst xs)) => (if kk.mut then (match k xs d with | some (ys, r) => some (.va r, ρ1.set i (.ow kk (.lst ys))) | none => none) else none) | _ => none) | none => none) | _ => none) := (rfl)
@[simp] theorem mut_par : Ok.mut .par = true := rfl
@[simp] theorem mut_loc : Ok.mut .loc = true := rfl
@[simp] theorem callIO_e {m : FM} {fs : List EM} : callIO m i fs ρ = (match ρ[i]? with | some (.ow _ _) => (match evAgs fs ρ with | some (ds, ρ1) => (match ρ1[i]? with | some (.ow k o) => (if k.mut then (match m (.ow .par o :: ds.map .va) with | some (r, .ow .par o' :: _) => some (r, ρ1.set i (.ow k o')) | _ => none) else none) | _ => none) | none => none) | _ => none) := (rfl)
@[simp] theorem ltC_int {i j : Int} : ltC (.int i) (.int j) = some (decide (i < j)) := (rfl)
@[simp] theorem leC_int {i j : Int} : leC (.int i) (.int j) = some (decide (i ≤ j)) := (rfl)
@[simp] theorem gtC_int {i j : Int} : gtC (.int i) (.int j) = some (decide (j < i)) := (rfl)
@[simp] theorem geC_int {i j : Int} : geC (.int i) (.int j) = some (decide (j ≤ i)) := (rfl)
@[simp] theorem lenD_list {xs : List D} : lenD (.list xs) = some (.va (.int xs.length)) := (rfl)
@[simp] theorem lenD_tuple {xs : List D} : lenD (.tuple xs) = some (.va (.int xs.length)) := (rfl)
@[simp] theorem listD_list {xs : List D} : listD (.list xs) = some (.ow .loc (.lst xs)) := (rfl)
@[simp] theorem listD_tuple {xs : List D} : listD (.tuple xs) = some (.ow .loc (.lst xs)) := (rfl)
@[simp] theorem tupleD_list {xs : List D} : tupleD (.list xs) = some (.va (.tuple xs)) := (rfl)
@[simp] theorem tupleD_tuple {xs : List D} : tupleD (.tuple xs) = some (.va (.tuple xs)) := (rfl)
@[simp] theorem intD_int {i : Int} : intD (.int i) = some (.va (.int i)) := (rfl)
@[simp] theorem negD_int {i : Int} : negD (.int i) = some (.va (.int (-i))) := (rfl)
@[simp] theorem revD_list {xs : List D} : revD (.list xs) = some (.ow .loc (.lst xs.reverse)) := (rfl)
@[simp] theorem absD_int {i : Int} : absD (.int i) = some (.va (.int (if i < 0 then -i else i))) := (rfl)
@[simp] theorem isiM_e {k : IK} {d : D} : isiM k d = some (.va (.bool (isiD k d))) := (rfl)
@[simp] theorem isi_dict_none : isiD .dict .none = false := (rfl)
@[simp] theorem isi_dict_bool {b : Bool} : isiD .dict (.bool b) = false := (rfl)
@[simp] theorem isi_dict_int {i : Int} : isiD .dict (.int i) = false := (rfl)
@[simp] theorem isi_dict_str {z : Str} : isiD .dict (.str z) = false := (rfl)
@[simp] theorem isi_dict_list {xs : List D} : isiD .dict (.list xs) = false := (rfl)
@[simp] theorem isi_dict_tuple {xs : List D} : isiD .dict (.tuple xs) = false := (rfl)
@[simp] theorem isi_dict_dict {kv : List (D × D)} : isiD .dict (.dict kv) = true := (rfl)
@[simp] theorem isi_list_none : isiD .list .none = false := (rfl)
@[simp] theorem isi_list_bool {b : Bool} : isiD .list (.bool b) = false := (rfl)
@[simp] theorem isi_list_int {i : Int} : isiD .list (.int i) = false := (rfl)
@[simp] theorem isi_list_str {z : Str} : isiD .list (.str z) = false := (rfl)
@[simp] theorem isi_list_list {xs : List D} : isiD .list (.list xs) = true := (rfl)
@[simp] theorem isi_list_tuple {xs : List D} : isiD .list (.tuple xs) = false := (rfl)
@[simp] theorem isi_list_dict {kv : List (D × D)} : isiD .list (.dict kv) = false := (rfl)
@[simp] theorem isi_tuple_none : isiD .tuple .none = false := (rfl)
@[simp] theorem isi_tuple_bool {b : Bool} : isiD .tuple (.bool b) = false := (rfl)
@[simp] theorem isi_tuple_int {i : Int} : isiD .tuple (.int i) = false := (rfl)
@[simp] theorem isi_tuple_str {z : Str} : isiD .tuple (.str z) = false := (rfl)
@[simp] theorem isi_tuple_list {xs : List D} : isiD .tuple (.list xs) = false := (rfl)
@[simp] theorem isi_tuple_tuple {xs : List D} : isiD .tuple (.tuple xs) = true := (rfl)
@[simp] theorem isi_tuple_dict {kv : List (D × D)} : isiD .tuple (.dict kv) = false := (rfl)
@[simp] theorem isi_str_none : isiD .str .none = false := (rfl)
@[simp] theorem isi_str_bool {b : Bool} : isiD .str (.bool b) = false := (rfl)
@[simp] theorem isi_str_int {i : Int} : isiD .str (.int i) = false := (rfl)
@[simp] theorem isi_str_str {z : Str} : isiD .str (.str z) = true := (rfl)
@[simp] theorem isi_str_list {xs : List D} : isiD .str (.list xs) = false := (rfl)
@[simp] theorem isi_str_tuple {xs : List D} : isiD .str (.tuple xs) = false := (rfl)
@[simp] theorem isi_str_dict {kv : List (D × D)} : isiD .str (.dict kv) = false := (rfl)
@[simp] theorem isi_int_none : isiD .int .none = false := (rfl)
@[simp] theorem isi_int_bool {b : Bool} : isiD .int (.bool b) = true := (rfl)
@[simp] theorem isi_int_int {i : Int} : isiD .int (.int i) = true := (rfl)
@[simp] theorem isi_int_str {z : Str} : isiD .int (.str z) = false := (rfl)
@[simp] theorem isi_int_list {xs : List D} : isiD .int (.list xs) = false := (rfl)
@[simp] theorem isi_int_tuple {xs : List D} : isiD .int (.tuple xs) = false := (rfl)
@[simp] theorem isi_int_dict {kv : List (D × D)} : isiD .int (.dict kv) = false := (rfl)
@[simp] theorem isi_bool_none : isiD .bool .none = false := (rfl)
@[simp] theorem isi_bool_bool {b : Bool} : isiD .bool (.bool b) = true := (rfl)
@[simp] theorem isi_bool_int {i : Int} : isiD .bool (.int i) = false := (rfl)
@[simp] theorem isi_bool_str {z : Str} : isiD .bool (.str z) = false := (rfl)
@[simp] theorem isi_bool_list {xs : List D} : isiD .bool (.list xs) = false := (rfl)
@[simp] theorem isi_bool_tuple {xs : List D} : isiD .bool (.tuple xs) = false := (rfl)
@[simp] theorem isi_bool_dict {kv : List (D × D)} : isiD .bool (.dict kv) = false := (rfl)
@[simp] theorem truD_bool {b : Bool} : truD (.bool b) = some b := (rfl)
@[simp] theorem truD_int {i : Int} : truD (.int i) = some (i != 0) := (rfl)
@[simp] theorem truD_list {xs : List D} : truD (.list xs) = some (!xs.isEmpty) := (rfl)
@[simp] theorem truD_tuple {xs : List D} : truD (.tuple xs) = some (!xs.isEmpty) := (rfl)
theorem atD_list {xs : List D} {i : Int} (h0 : 0 ≤ i) (h1 : i < xs.length) : atD (.list xs) (.int i) = some (.va (xs[i.toNat]'(by omega))) := by
  show (atI xs i).map Sl.va = _
  rw [atI_in h0 h1]
  rfl
theorem atD_tuple {xs : List D} {i : Int} (h0 : 0 ≤ i) (h1 : i < xs.length) : atD (.tuple xs) (.int i) = some (.va (xs[i.toNat]'(by omega))) := by
  show (atI xs i).map Sl.va = _
  rw [atI_in h0 h1]
  rfl
end

theorem plTs_ints (xs : List Int) : plTs (xs.map .int) = some (xs.map fun x => x != 0) := by
  induction xs with
  | nil => rfl
  | cons x xs ih => simp [plTs, plT, ih]
theorem anyD_ints (xs : List Int) : anyD (.list (xs.map .int)) = some (.va (.bool (xs.any fun x => x != 0))) := by
  show (plTs _).map _ = _
  rw [plTs_ints]
  simp [List.any_map, Function.comp_def]
theorem cut_take {α : Type} (xs : List α) (j : Nat) (h : j ≤ xs.length) : cutL xs none (some (j : Int)) = xs.take j := by
  unfold cutL
  rw [HT.sIx_none, HT.sIx_nat]
  simp [Nat.min_eq_left h]
theorem cut_drop {α : Type} (xs : List α) (j : Nat) : cutL xs (some (j : Int)) none = xs.drop j := by
  unfold cutL
  rw [HT.sIx_none, HT.sIx_nat]
  rcases Nat.le_total j xs.length with h | h
  · rw [Nat.min_eq_left h]
    apply List.take_of_length_le
    simp
  · rw [Nat.min_eq_right h]
    simp
    omega
theorem atD_head {x : D} {xs : List D} : atD (.list (x :: xs)) (.int 0) = some (.va x) := by
  rw [atD_list (Int.le_refl _) (by rw [List.length_cons]; omega)]
  rfl
/-! ### sorting whole numbers -/
theorem likeB_ints (xs : List Int) : likeB (xs.map .int) = true := by
  unfold likeB
  rw [List.all_eq_true]
  intro d hd
  rw [List.all_eq_true]
  intro e he
  obtain ⟨a, _, rfl⟩ := List.mem_map.mp hd
  obtain ⟨b, _, rfl⟩ := List.mem_map.mp he
  simp [PySem.W.alike]
theorem depthAll_ints (xs : List Int) : PyData.depthAll (xs.map .int) = 0 := by
  induction xs with
  | nil => rfl
  | cons x xs ih => simp [PyData.depthAll, PyData.depth, ih]
theorem sortD_ints (xs : List Int) : sortD (.list (xs.map .int)) = some (.ow .loc (.lst ((xs.mergeSort fun a b => decide (a ≤ b)).map .int))) := by
  show (if _ then _ else _) = _
  rw [if_pos ⟨layAll xs, likeB_ints xs, .inr (by rw [List.all_eq_true]; intro d hd; obtain ⟨a, _, rfl⟩ := List.mem_map.mp hd; rfl), by rw [depthAll_ints]; decide⟩]
  rw [List.map_mergeSort (s := PySem.W.dataLe false id) (f := PyData.int)]
  intro a _ b _
  have q := congrFun (congrFun (PySem.W.dataLe_int (fun k : Int => k)) a) b
  exact q.symm
theorem sort_ints_eq {xs zs : List Int} (p : xs.Perm zs) (h : zs.Pairwise (· ≤ ·)) : (xs.mergeSort fun a b => decide (a ≤ b)) = zs := by
  refine List.Perm.eq_of_pairwise (le := fun a b : Int => a ≤ b) (fun a b _ _ h1 h2 => Int.le_antisymm h1 h2) ?_ h ((List.mergeSort_perm _ _).trans p)
  have q := List.pairwise_mergeSort (le := fun a b : Int => decide (a ≤ b)) (fun a b c h1 h2 => by simp at *; omega) (fun a b => by simp; omega) xs
  simpa using q
end PL

/-! PL: slices of lists with a step. -/
namespace PL
open PySem PySem.Spec PyProof.Rows L2
def picks (n : Nat) (lo hi st : Option Int) : List Nat := sliceRange (sliceBounds lo hi st n).1 (sliceBounds lo hi st n).2.1 (sliceBounds lo hi st n).2.2
def pickL {α : Type} (xs : List α) (lo hi st : Option Int) : List α := (picks xs.length lo hi st).filterMap fun i => xs[i]?
theorem picks_len (n : Nat) (lo hi st : Option Int) (h0 : st ≠ some 0) {α : Type} (xs : List α) (hx : xs.length = n) : True := trivial
theorem pick_vals {xs : List V} {us : List Value} (r : Vals xs us) : ∀ ix : List Nat, Vals (ix.filterMap fun i => xs[i]?) (ix.filterMap fun i => us[i]?)
  | [] => .nil
  | i :: ix => by
    have ih := pick_vals r ix
    rw [List.filterMap_cons, List.filterMap_cons]
    by_cases h : i < xs.length
    · have h2 : i < us.length := by rw [← r.length]; exact h
      obtain ⟨u, e1, e2⟩ := r.get (List.getElem?_eq_getElem h)
      rw [List.getElem?_eq_getElem h, e1]
      exact .cons e2 ih
    · have h2 : ¬ i < us.length := by rw [← r.length]; exact h
      rw [List.getElem?_eq_none (by omega), List.getElem?_eq_none (by omega)]
      exact ih
theorem pick_repL {K : PySem.W.Frag} {F : Hp} {xs : List V} {ds : List D} (r : RepL K F xs ds) : ∀ ix : List Nat, RepL K F (ix.filterMap fun i => xs[i]?) (ix.filterMap fun i => ds[i]?)
  | [] => .nil
  | i :: ix => by
    have ih := pick_repL r ix
    rw [List.filterMap_cons, List.filterMap_cons]
    by_cases h : i < xs.length
    · obtain ⟨d, e1, e2⟩ := r.getV (List.getElem?_eq_getElem h)
      rw [List.getElem?_eq_getElem h, e1]
      exact .cons e2 ih
    · have h2 : ¬ i < ds.length := by rw [← r.length]; exact h
      rw [List.getElem?_eq_none (by omega), List.getElem?_eq_none (by omega)]
      exact ih
def tSl3 (K : PySem.W.Frag) (te : TE) (tl th ts : TO) : TE := fun σ H Q => te σ H fun x H1 => tl σ H1 fun l H2 => th σ H2 fun h H3 => ts σ H3 fun st H4 => ∃ a xs, x = .ref a ∧ st ≠ some 0 ∧ SqL K H4 a xs ∧ (pickL xs l h st).length ≤ sizeLine ∧
  ∀ p, H4 p = none → Q (.ref p) (upd H4 p (.lst (pickL xs l h st)))
section
variable {X : Cx} {pos : Pos}
theorem pe_sl3 {e se : Expr} {lo hi : Option Expr} {te : TE} {tl th ts : TO} {p3 : Pos} (he : PE X e te) (hl : PO X lo tl) (hu : PO X hi th) (hs : PO X (some se) ts) (ht0 : ∀ v sl : Value, subscripted (.Slice lo hi (some se) p3) false v sl = operate [v, sl] (getItem v sl)) :
    PE X (.Subscript e (.Slice lo hi (some se) p3) pos) (tSl3 X.K te tl th ts) := by
  refine ⟨fun pins s σ H Q I h => ?_⟩
  refine Subscript_ (thn (he.run pins s σ H _ I h) fun v s1 ⟨x, H1, I1, r1, q1⟩ => ?_)
  refine wpAny_Slice (thn (hl.run pins s1 σ H1 _ I1 q1) fun vl s2 ⟨l, H2, I2, pl, q2⟩ => thn (hu.run pins s2 σ H2 _ I2 q2) fun vu s3 ⟨u, H3, I3, pu, q3⟩ => thn (hs.run pins s3 σ H3 _ I3 q3) fun vs s4 ⟨o, H4, I4, ps, q4⟩ => ?_)
  obtain ⟨a, xs, ex, hn0, hx, hlen2, q⟩ := q4
  subst ex
  cases r1
  have I5 : Inv X pins σ H4 { s4 with heap := s4.heap.push { cls := .type "slice", data := .fields #[vl, vu, vs] } } := I4.kept (t' := s4.toks) fun b ob q => Heap.get?_push_of_some _ q
  obtain ⟨its, r, ht, hz⟩ := I5.list hx
  have hlen := r.length
  show wpAny (model X.prog X.w) X.A (subscriptTail e (.Slice lo hi (some se) p3) (.ref a) (.ref s4.heap.objs.size)) (EP X pins σ Q) X.xe { s4 with heap := s4.heap.push { cls := .type "slice", data := .fields #[vl, vu, vs] } }
  refine tail_any (ops := [.ref a, .ref s4.heap.objs.size]) ht.isList.typeIs (PySem.slot_list_getitem.lookup) ?_ (ht0 _ _)
  refine wpAny_getItem_list_slice ht.isList (Heap.IsSliceOf.new _ vl vu vs) pl pu ps hn0 ?_ (by rw [List.size_toArray]; omega)
  have ep : slicePick its.toArray l u o = (pickL its l u o).toArray := by
    unfold slicePick pickL picks
    simp
  rw [ep]
  have rv : Vals (pickL xs l u o) (pickL its l u o) := by
    unfold pickL
    rw [hlen]
    exact pick_vals r _
  refine ⟨.ref _, _, I5.laid (t' := s4.toks) (o := .lst (pickL xs l u o)) (fun b ob q => Heap.get?_push_of_some _ q) (Nat.le_refl _) ?_, rfl, q _ (I5.hok.fresh (Nat.le_refl _))⟩
  exact ⟨hlen2, _, 0, rv, Heap.get?_push_size _ rfl⟩
/-- xs[lo:hi:st] of a list -/
def sl3M (f : EM) (lo hi : Option DM) (fs : DM) : EM := fun ρ => match evD f ρ with
  | some (.list xs, ρ1) => match evO lo ρ1 with
    | some (l, ρ2) => match evO hi ρ2 with
      | some (h, ρ3) => match fs ρ3 with
        | some (.int c, ρ4) => if c ≠ 0 ∧ (pickL xs l h (some c)).length ≤ sizeLine then some (.ow .loc (.lst (pickL xs l h (some c))), ρ4) else none
        | _ => none
      | none => none
    | none => none
  | _ => none
theorem pick_len {α β : Type} {xs : List α} {ys : List β} (h : xs.length = ys.length) (l u o : Option Int) : (pickL xs l u o).length = (pickL ys l u o).length := by
  unfold pickL
  rw [h]
  induction picks ys.length l u o with
  | nil => rfl
  | cons i ix ih =>
    rw [List.filterMap_cons, List.filterMap_cons]
    by_cases hi : i < xs.length
    · rw [List.getElem?_eq_getElem hi, List.getElem?_eq_getElem (by omega)]
      simp [ih]
    · rw [List.getElem?_eq_none (by omega), List.getElem?_eq_none (by omega)]
      exact ih
theorem px_slice3 {e se : Expr} {lo hi : Option Expr} {f : EM} {fl fh : Option DM} {fs : DM} {p3 : Pos} (ha : PX X e f) (hl : POx X lo fl) (hh : POx X hi fh) (hs : PV X se fs) (ht0 : ∀ v sl : Value, subscripted (.Slice lo hi (some se) p3) false v sl = operate [v, sl] (getItem v sl) := by intros; with_unfolding_all rfl) :
    PX X (.Subscript e (.Slice lo hi (some se) p3) pos) (sl3M f fl fh fs) :=
  ⟨(pe_sl3 ha.pe hl.po hh.po (POx.yes hs).po ht0).weak fun σ H Q ⟨F, ρ, r, ρ', R, e, k⟩ => by
    unfold sl3M at e
    split at e
    · rename_i xs ρ1 e1
      split at e
      · rename_i l ρ2 e2
        split at e
        · rename_i h ρ3 e3
          split at e
          · rename_i c ρ4 e4
            split at e
            · rename_i hc
              cases e
              refine tE.val R e1 fun F1 H1 x M1 r1 => ?_
              refine ⟨F1, ρ1, l, ρ2, M1.rel, e2, fun F2 H2 M2 => ⟨F2, ρ2, h, ρ3, M2.rel, e3, fun F3 H3 M3 => ⟨F3, ρ3, some c, ρ', M3.rel, by simp only [evO, e4], fun F4 H4 M4 => ?_⟩⟩⟩
              obtain ⟨a, vs, rfl, h1, h2⟩ := (r1.same (M2.stp.fr.trans (M3.stp.fr.trans M4.stp.fr))).list_inv
              have ML := M1.trans (M2.trans (M3.trans M4))
              refine ⟨a, vs, rfl, by simpa using hc.1, ML.rel.same.seq h1, by rw [pick_len h2.length]; exact hc.2, fun p hp => ?_⟩
              refine Res.newl (X := X) ML.rel (fun F5 H5 v M5 rv => k F5 H5 v (ML.trans M5) (RV.mv ML rv)) ?_ hp
              unfold pickL
              rw [h2.length]
              exact pick_repL h2 _
            · cases e
          · cases e
        · cases e
      · cases e
    · cases e⟩
/-! list(range(a, b, c)) with a positive step -/
theorem small_pos {a b c : Int} (ha : a.natAbs < 16777216) (hb : b.natAbs < 16777216) (hc : 0 < c) (hc2 : c.natAbs < 16777216) : Builtin.Range.small a b c = true := by
  unfold Builtin.Range.small
  have hs : 0 ≤ Builtin.Range.rangeSize a b c ∧ Builtin.Range.rangeSize a b c ≤ 100000000 := by
    unfold Builtin.Range.rangeSize
    rw [if_pos hc]
    split
    · have h1 := Int.ediv_nonneg (a := b - a - 1) (b := c) (by omega) (by omega)
      have h2 := Int.ediv_le_self (a := b - a - 1) c (by omega)
      omega
    · omega
  simp only [Builtin.Range.rangeFitsLong, Bool.and_eq_true, Bool.or_eq_true, decide_eq_true_eq, beq_iff_eq, show c > 0 from hc, if_true]
  generalize Builtin.Range.rangeSize a b c = n at *
  omega
/-- how many -/
def rgCnt (i j c : Int) : Nat := if i < j then ((j - i - 1) / c + 1).toNat else 0
theorem rgCnt_size {i j c : Int} (hc : 0 < c) : Builtin.Range.rangeSize i j c = (rgCnt i j c : Nat) := by
  unfold Builtin.Range.rangeSize rgCnt
  rw [if_pos hc]
  split
  · have h1 := Int.ediv_nonneg (a := j - i - 1) (b := c) (by omega) (by omega)
    omega
  · rfl
def rangeS (lo c : Int) (n : Nat) : List D := (List.range n).map fun i => .int (lo + (i : Nat) * c)
def rgL3 (fa fb : EM) (fc : DM) : EM := fun ρ => match evD fa ρ with
  | some (.int i, ρ1) => match evD fb ρ1 with
    | some (.int j, ρ2) => match fc ρ2 with
      | some (.int c, ρ3) => if i.natAbs < 16777216 ∧ j.natAbs < 16777216 ∧ 0 < c ∧ c.natAbs < 16777216 ∧ rgCnt i j c ≤ 16777216 then some (.ow .loc (.lst (rangeS i c (rgCnt i j c))), ρ3) else none
      | _ => none
    | _ => none
  | _ => none
def tLst3 (ta : TA) : TE := fun σ H Q => ta σ H fun vs H1 => ∃ (i j c : Int) (n : Nat), vs = [.int i, .int j, .int c] ∧ c ≠ 0 ∧ c.natAbs < 1073741824 ∧ Builtin.Range.small i j c = true ∧ Builtin.Range.rangeSize i j c = n ∧ n ≤ 2 ^ 24 ∧
  ∀ q, H1 q = none → Q (.ref q) (upd H1 q (.lst ((List.range n).map fun k => V.int (i + (k : Nat) * c))))
theorem vals_items {a c : Int} {n : Nat} {acc : Array Value} (h : PySem.ItemsOf (fun i v => ∃ t, v = .int (a + i * c) t) acc n) : Vals ((List.range n).map fun k => V.int (a + (k : Nat) * c)) acc.toList := by
  have e : acc.toList.length = n := by rw [Array.length_toList]; exact h.1
  rw [← e]
  refine vals_of_get acc.toList _ fun j u hj => ?_
  obtain ⟨t, rfl⟩ := h.2 j u (by rw [← hj, Array.getElem?_toList])
  exact ⟨t, rfl⟩
theorem pe_listRg3 {a b c : Expr} {ta : TA} {p p2 pos2 : Pos} (hc : X.calm = true) (hg : Gl X "list") (hm : X.mg "list" = none) (hg2 : Gl X "range") (hm2 : X.mg "range" = none) (ha : PA X [a, b, c] ta)
    (hs : starEach [a, b, c] X.env = (false, eval a X.env) :: starEach [b, c] X.env := by rfl) (hpl : (backTo pos2 (starEach [b, c] X.env)).any (·.1) = false := by rfl)
    (na : starEach [.Call (.Name "range" p2) [a, b, c] [] pos2] X.env = (false, eval (.Call (.Name "range" p2) [a, b, c] [] pos2) X.env) :: starEach [] X.env := by rfl) :
    PE X (.Call (.Name "list" p) [.Call (.Name "range" p2) [a, b, c] [] pos2] [] pos) (tLst3 ta) := by
  refine ⟨fun pins s σ H Q I h => ?_⟩
  have hr : wpAny (model X.prog X.w) X.A (eval (.Call (.Name "range" p2) [a, b, c] [] pos2) X.env) (fun x s' => ∃ r i j k t u v n H', x = .ref r ∧ IsRange s'.heap r i j k t u v ∧ L2.Inv X pins σ H' s' ∧ k ≠ 0 ∧ k.natAbs < 1073741824 ∧ Builtin.Range.small i j k = true ∧ Builtin.Range.rangeSize i j k = (n : Nat) ∧ n ≤ 2 ^ 24 ∧
      ∀ q, H' q = none → Q (.ref q) (upd H' q (.lst ((List.range n).map fun m => V.int (i + (m : Nat) * k))))) X.xe s := by
    refine Call_ (ld_blt I hg2 hm2 boot_range (PyProof.Rows.callWith_type1 (thn (ha.run pos2 pins s σ H _ I h) fun us s1 ⟨vs, H1, I1, r1, q1⟩ => ?_) hs hpl))
    obtain ⟨i, j, k, n, e, c0, c1, c2, c3, c4, q⟩ := q1
    subst e
    cases r1 with
    | cons r rr =>
      cases rr with
      | cons r' rr =>
        cases rr with
        | cons r'' rr =>
          cases rr
          obtain ⟨t, rfl⟩ := r
          obtain ⟨t', rfl⟩ := r'
          obtain ⟨t'', rfl⟩ := r''
          refine call_range_3 c0 ?_ (.inl (PyProof.noPylong_small c1))
          exact ⟨_, i, j, k, t, t', t'', n, H1, rfl, IsRange.new .., I1.kept (t' := s1.toks) fun b o e => Heap.get?_push_of_some _ e, c0, c1, c2, c3, c4, q⟩
  refine Call_ (ld_blt I hg hm boot_list (PyProof.Rows.callWith_type1 (args_cons (thn hr fun x s1 ⟨r, i, j, k, t, u, v, n, H1, ex, hr, I1, c0, c1, c2, c3, c4, q⟩ => args_nil ?_) na) na))
  subst ex
  refine call_list_range (n := n) (I1.ok.hd hc) hr c2 c3 c4 fun h' tk acc c' hk e' hi => ?_
  refine ⟨.ref s1.heap.objs.size, _, I1.laid hk (Nat.le_refl _) (show ObjOk X.prog X.w _ _ _ (.lst ((List.range n).map fun m => V.int (i + (m : Nat) * k))) from ⟨?_, acc.toList, c', vals_items hi, ?_⟩), rfl, q _ (I1.hok.fresh (Nat.le_refl _))⟩
  · rw [List.length_map, List.length_range]; exact c4
  · rw [Array.toArray_toList]; exact e'
theorem repL_rangeS {K : PySem.W.Frag} {F : Hp} (lo c : Int) (n : Nat) : RepL K F ((List.range n).map fun m => V.int (lo + (m : Nat) * c)) (rangeS lo c n) := by
  have q := repL_of_ints (K := K) (F := F) ((List.range n).map fun m => lo + (m : Nat) * c)
  rw [List.map_map, List.map_map] at q
  exact q
theorem px_rgL3 {a b c : Expr} {fa fb : EM} {fc : DM} {p p2 pos2 : Pos} (ha : PX X a fa) (hb : PX X b fb) (hc' : PV X c fc) (hm : X.mg "list" = none) (hm2 : X.mg "range" = none) (hc : X.calm = true := by rfl) (hg : Gl X "list" := by rfl) (hg2 : Gl X "range" := by rfl)
    (hn : starEach [a, b, c] X.env = (false, eval a X.env) :: starEach [b, c] X.env := by rfl) (hn2 : starEach [b, c] X.env = (false, eval b X.env) :: starEach [c] X.env := by rfl)
    (hn3 : starEach [c] X.env = (false, eval c X.env) :: starEach [] X.env := by rfl) (hpl : (backTo pos2 (starEach [b, c] X.env)).any (·.1) = false := by rfl)
    (na : starEach [.Call (.Name "range" p2) [a, b, c] [] pos2] X.env = (false, eval (.Call (.Name "range" p2) [a, b, c] [] pos2) X.env) :: starEach [] X.env := by rfl) :
    PX X (.Call (.Name "list" p) [.Call (.Name "range" p2) [a, b, c] [] pos2] [] pos) (rgL3 fa fb fc) :=
  ⟨(pe_listRg3 hc hg hm hg2 hm2 (pa_cons ha.pe (pa_cons hb.pe (pa_cons hc'.pe pa_nil hn3) hn2) hn) hn hpl na).weak fun σ H Q ⟨F, ρ, r, ρ', Rr, e, k⟩ => by
    unfold rgL3 at e
    split at e
    · rename_i i ρ1 e1
      split at e
      · rename_i j ρ2 e2
        split at e
        · rename_i cc ρ3 e3
          split at e
          · rename_i hj
            cases e
            refine tE.val Rr e1 fun F1 H1 v M1 r1 => tE.val M1.rel e2 fun F2 H2 w M2 r2 => tV.intro M2.rel e3 fun F3 H3 z M3 r3 => ?_
            rw [r1.int_inv, r2.int_inv, r3.int_inv]
            have ML := (M1.trans M2).trans M3
            refine ⟨i, j, cc, rgCnt i j cc, rfl, by omega, by omega, small_pos hj.1 hj.2.1 hj.2.2.1 hj.2.2.2.1, rgCnt_size hj.2.2.1, hj.2.2.2.2, fun q hq => ?_⟩
            exact Res.newl (X := X) ML.rel (fun F5 H5 v M5 rv => k F5 H5 v (ML.trans M5) (RV.mv ML rv)) (repL_rangeS i cc _) hq
          · cases e
        · cases e
      · cases e
    · cases e⟩
end
end PL

namespace PL
open PySem PySem.Spec PyProof.Rows L2
def topS (i : Nat) : Stmt := PySem.Challenge.pw_lockwork_k43_whole_mirrored_tours_far_al.main.body.getD i (.Pass ⟨0, 0, 0, 0⟩)
abbrev s_power : Stmt := topS 1
abbrev n_power : List Str := ["number", "times", "found", "_"]
theorem sc_power : FnScope n_power ["number", "times"] (defScope s_power) := ⟨rfl, rfl, rfl, by decide +kernel, rfl, by decide +kernel, by decide +kernel⟩
def b_power : SM := (seqS (setS 2 (cst (.int 1)))
  (seqS (forS (itR1 (nmB 1)) (gNm 3) (setS 2 (bin2 mulD (.nm 2) (nmB 0))))
  (retS (nmM 2))))
def m_power : FM := bodyM 2 b_power
abbrev s_apart : Stmt := topS 3
abbrev n_apart : List Str := ["b", "goes_round", "one", "other", "straight"]
theorem sc_apart : FnScope n_apart ["b", "goes_round", "one", "other"] (defScope s_apart) := ⟨rfl, rfl, rfl, by decide +kernel, rfl, by decide +kernel, by decide +kernel⟩
def b_apart : SM := (seqS (setS 4 (un1 absD (evD (bin2 subD (.nm 2) (nmB 3)))))
  (retS (ifE (truT (nmB 1)) (bin2 minD (.nm 4) (evD (bin2 subD (.nm 0) (nmB 4)))) (nmV 4))))
def m_apart : FM := bodyM 1 b_apart
abbrev s_turns : Stmt := topS 4
abbrev n_turns : List Str := ["b", "goes_round", "one", "other", ".0", "first", "second"]
theorem sc_turns : FnScope n_turns ["b", "goes_round", "one", "other"] (defScope s_turns) := ⟨rfl, rfl, rfl, by decide +kernel, rfl, by decide +kernel, by decide +kernel⟩
def b_turns : SM := (retS (un1 sumD (evD (lcM [4, 5, 6] (itZs (nmV 2) (nmV 3)) (gTp (gsCons (gNm 5) (gsCons (gNm 6) gsNil))) yesT (callM m_apart [(nmV 0), (nmV 1), (nmV 5), (nmV 6)])))))
def m_turns : FM := bodyM 3 b_turns
abbrev s_mirrored : Stmt := topS 5
abbrev n_mirrored : List Str := ["b", "n", "found", "_", "further", "at", "code", "digits", ".0", "digit"]
theorem sc_mirrored : FnScope n_mirrored ["b", "n"] (defScope s_mirrored) := ⟨rfl, rfl, rfl, by decide +kernel, rfl, by decide +kernel, by decide +kernel⟩
def b_mirrored : SM := (seqS (setS 2 (lstM [(tupM [])]))
  (seqS (forS (itR1 (nmB 1)) (gNm 3) (seqS (setS 4 (lstM []))
  (seqS (forS (itEn (nmV 2)) (gTp (gsCons (gNm 5) (gsCons (gNm 6) gsNil))) (seqS (setS 7 (rgL (itR1 (nmB 0))))
  (exprS (mtM1 extD 4 (lcM [8, 9] (itS (ifE (cmpT eqC (.ex (bin2 modD (.nm 5) (evD (cst (.int 2))))) (evD (cst (.int 0)))) (nmV 7) (un1 revD (evD (nmV 7))))) (gNm 9) yesT (bin2 addD (.nm 6) (evD (tupM [(nmV 9)]))))))))
  (setS 2 (nmV 4)))))
  (retS (nmM 2))))
def m_mirrored : FM := bodyM 8 b_mirrored
abbrev s_number_in : Stmt := topS 6
abbrev n_number_in : List Str := ["b", "code", "found", "digit"]
theorem sc_number_in : FnScope n_number_in ["b", "code"] (defScope s_number_in) := ⟨rfl, rfl, rfl, by decide +kernel, rfl, by decide +kernel, by decide +kernel⟩
def b_number_in : SM := (seqS (setS 2 (cst (.int 0)))
  (seqS (forS (itS (nmV 1)) (gNm 3) (setS 2 (bin2 addD (.ex (bin2 mulD (.nm 2) (nmB 0))) (evD (ifE (cmpT eqC (.ex (bin2 modD (.nm 2) (evD (cst (.int 2))))) (evD (cst (.int 0)))) (nmV 3) (bin2 subD (.ex (bin2 subD (.nm 0) (evD (cst (.int 1))))) (nmB 3)))))))
  (retS (nmM 2))))
def m_number_in : FM := bodyM 2 b_number_in
abbrev s_code_at : Stmt := topS 7
abbrev n_code_at : List Str := ["b", "n", "number", "found", "_", "before", "digit"]
theorem sc_code_at : FnScope n_code_at ["b", "n", "number"] (defScope s_code_at) := ⟨rfl, rfl, rfl, by decide +kernel, rfl, by decide +kernel, by decide +kernel⟩
def b_code_at : SM := (seqS (setS 3 (tupM []))
  (seqS (forS (itR1 (nmB 1)) (gNm 4) (seqS (parS 5 6 (bin2 fdivD (.nm 2) (nmB 0)) (bin2 modD (.nm 2) (nmB 0)))
  (seqS (setS 3 (bin2 addD (.ex (tupM [(ifE (cmpT eqC (.ex (bin2 modD (.nm 5) (evD (cst (.int 2))))) (evD (cst (.int 0)))) (nmV 6) (bin2 subD (.ex (bin2 subD (.nm 0) (evD (cst (.int 1))))) (nmB 6)))])) (nmB 3)))
  (setS 2 (nmV 5)))))
  (retS (nmM 3))))
def m_code_at : FM := bodyM 4 b_code_at
abbrev s_closed_tour : Stmt := topS 8
abbrev n_closed_tour : List Str := ["b", "n", "first", "found", "digit", "told", ".0", "code"]
theorem sc_closed_tour : FnScope n_closed_tour ["b", "n"] (defScope s_closed_tour) := ⟨rfl, rfl, rfl, by decide +kernel, rfl, by decide +kernel, by decide +kernel⟩
def b_closed_tour : SM := (seqS (ifS (orT (cmpT eqC (.ex (bin2 modD (.nm 0) (evD (cst (.int 2))))) (evD (cst (.int 1)))) (cmpT ltC (.nm 1) (evD (cst (.int 2))))) (retS (cst .none)) skipS)
  (seqS (setS 2 (callM m_mirrored [(nmV 0), (bin2 subD (.nm 1) (evD (cst (.int 1))))]))
  (seqS (setS 3 (lstM []))
  (seqS (forS (itR1 (nmB 0)) (gNm 4) (seqS (setS 5 (ifE (cmpT eqC (.ex (bin2 modD (.nm 4) (evD (cst (.int 2))))) (evD (cst (.int 0)))) (sliN 2 (some (evD (cst (.int 1)))) none) (sl3M (nmV 2) none (some (evD (cst (.int 0)))) (evD (un1 negD (evD (cst (.int 1))))))))
  (exprS (mtM1 extD 3 (lcM [6, 7] (itS (nmV 5)) (gNm 7) yesT (bin2 addD (.nm 7) (evD (tupM [(nmV 4)]))))))))
  (retS (bin2 addD (.nm 3) (evD (lcM [6, 4] (itR3 (bin2 subD (.nm 0) (evD (cst (.int 1)))) (un1 negD (evD (cst (.int 1)))) (evD (un1 negD (evD (cst (.int 1)))))) (gNm 4) yesT (bin2 addD (.ex (bin2 atD (.nm 2) (evD (cst (.int 0))))) (evD (tupM [(nmV 4)])))))))))))
def m_closed_tour : FM := bodyM 6 b_closed_tour
abbrev s_turn_counts : Stmt := topS 9
abbrev n_turn_counts : List Str := ["b", "n", ".0", "place"]
theorem sc_turn_counts : FnScope n_turn_counts ["b", "n"] (defScope s_turn_counts) := ⟨rfl, rfl, rfl, by decide +kernel, rfl, by decide +kernel, by decide +kernel⟩
def b_turn_counts : SM := (retS (lcM [2, 3] (itR1 (nmB 1)) (gNm 3) yesT (bin2 mulD (.ex (callM m_power [(nmV 0), (nmV 3)])) (evD (bin2 subD (.nm 0) (evD (cst (.int 1))))))))
def m_turn_counts : FM := bodyM 2 b_turn_counts
abbrev s__law_mixed : Stmt := topS 11
abbrev n__law_mixed : List Str := ["number", "place", "first", "second", "third"]
theorem sc__law_mixed : FnScope n__law_mixed ["number", "place"] (defScope s__law_mixed) := ⟨rfl, rfl, rfl, by decide +kernel, rfl, by decide +kernel, by decide +kernel⟩
def b__law_mixed : SM := (seqS (setS 2 (bin2 modD (.ex (un1 intD (evD (bin2 addD (.ex (bin2 addD (.ex (bin2 mulD (.nm 0) (evD (cst (.int 410338673998125441398711))))) (evD (bin2 mulD (.nm 1) (evD (cst (.int 736418259301774563982039))))))) (evD (cst (.int 295075153872261839517363))))))) (evD (cst (.int 618970019642690137449562111)))))
  (seqS (setS 3 (bin2 modD (.ex (un1 intD (evD (bin2 addD (.ex (bin2 addD (.ex (bin2 mulD (.nm 2) (nmB 2))) (evD (bin2 mulD (.ex (cst (.int 7))) (nmB 2))))) (nmB 1))))) (evD (cst (.int 162259276829213363391578010288127)))))
  (seqS (setS 4 (bin2 modD (.ex (un1 intD (evD (bin2 addD (.ex (bin2 mulD (.nm 3) (nmB 3))) (nmB 2))))) (evD (cst (.int 618970019642690137449562111)))))
  (retS (bin2 addD (.ex (bin2 mulD (.nm 3) (evD (cst (.int 618970019642690137449562111))))) (nmB 4))))))
def m__law_mixed : FM := bodyM 3 b__law_mixed
abbrev s__law_rest : Stmt := topS 12
abbrev n__law_rest : List Str := ["script", "place", "again", "number"]
theorem sc__law_rest : FnScope n__law_rest ["script", "place", "again"] (defScope s__law_rest) := ⟨rfl, rfl, rfl, by decide +kernel, rfl, by decide +kernel, by decide +kernel⟩
def b__law_rest : SM := (seqS (setS 3 (cst (.int 0)))
  (seqS (ifS (cmpT gtC (.ex (un1 lenD (nmB 0))) (evD (cst (.int 0)))) (setS 3 (un1 intD (evD (bin2 atD (.nm 0) (evD (bin2 modD (.ex (un1 intD (nmB 1))) (evD (un1 lenD (nmB 0))))))))) skipS)
  (seqS (ifS (cmpT ltC (.nm 3) (evD (cst (.int 0)))) (setS 3 (bin2 subD (.ex (cst (.int 1))) (evD (bin2 mulD (.ex (cst (.int 2))) (nmB 3))))) skipS)
  (seqS (ifS (andT (cmpT eqC (.nm 2) (evD (cst (.int 0)))) (andT (cmpT ltC (.nm 1) (evD (un1 lenD (nmB 0)))) (cmpT geC (.nm 3) (evD (bin2 powD (.ex (cst (.int 10))) (evD (cst (.int 18)))))))) (retS (bin2 subD (.nm 3) (evD (bin2 powD (.ex (cst (.int 10))) (evD (cst (.int 18))))))) skipS)
  (retS (callM m__law_mixed [(bin2 addD (.nm 3) (evD (bin2 mulD (.nm 2) (evD (cst (.int 1000003)))))), (nmV 1)]))))))
def m__law_rest : FM := bodyM 1 b__law_rest
abbrev s__law_pool : Stmt := topS 13
abbrev n__law_pool : List Str := ["script"]
theorem sc__law_pool : FnScope n__law_pool ["script"] (defScope s__law_pool) := ⟨rfl, rfl, rfl, by decide +kernel, rfl, by decide +kernel, by decide +kernel⟩
def b__law_pool : SM := (retS (lstM [(nmV 0), (cst (.int 0)), (callM m__law_rest [(nmV 0), (cst (.int 0)), (cst (.int 0))]), (cst (.int 0))]))
def m__law_pool : FM := bodyM 0 b__law_pool
abbrev s__law_next : Stmt := topS 14
abbrev n__law_next : List Str := ["pool"]
theorem sc__law_next : FnScope n__law_next ["pool"] (defScope s__law_next) := ⟨rfl, rfl, rfl, by decide +kernel, rfl, by decide +kernel, by decide +kernel⟩
def b__law_next : SM := (seqS (setIx 0 (evD (cst (.int 1))) (bin2 addD (.ex (bin2 atD (.nm 0) (evD (cst (.int 1))))) (evD (cst (.int 1)))))
  (seqS (setIx 0 (evD (cst (.int 2))) (callM m__law_rest [(bin2 atD (.nm 0) (evD (cst (.int 0)))), (bin2 atD (.nm 0) (evD (cst (.int 1)))), (cst (.int 0))]))
  (setIx 0 (evD (cst (.int 3))) (cst (.int 0)))))
def m__law_next : FM := bodyM 0 b__law_next
abbrev s__law_draw : Stmt := topS 15
abbrev n__law_draw : List Str := ["pool", "limit", "value"]
theorem sc__law_draw : FnScope n__law_draw ["pool", "limit"] (defScope s__law_draw) := ⟨rfl, rfl, rfl, by decide +kernel, rfl, by decide +kernel, by decide +kernel⟩
def b__law_draw : SM := (seqS (ifS (cmpT leC (.ex (bin2 atD (.nm 0) (evD (cst (.int 2))))) (evD (cst (.int 1)))) (seqS (setIx 0 (evD (cst (.int 3))) (bin2 addD (.ex (bin2 atD (.nm 0) (evD (cst (.int 3))))) (evD (cst (.int 1)))))
  (setIx 0 (evD (cst (.int 2))) (callM m__law_rest [(bin2 atD (.nm 0) (evD (cst (.int 0)))), (bin2 atD (.nm 0) (evD (cst (.int 1)))), (bin2 atD (.nm 0) (evD (cst (.int 3))))]))) skipS)
  (seqS (setS 2 (bin2 modD (.ex (un1 intD (evD (bin2 atD (.nm 0) (evD (cst (.int 2))))))) (nmB 1)))
  (seqS (setIx 0 (evD (cst (.int 2))) (bin2 fdivD (.ex (un1 intD (evD (bin2 atD (.nm 0) (evD (cst (.int 2))))))) (nmB 1)))
  (retS (nmM 2)))))
def m__law_draw : FM := bodyM 1 b__law_draw
abbrev s__law_pick : Stmt := topS 16
abbrev n__law_pick : List Str := ["pool", "options"]
theorem sc__law_pick : FnScope n__law_pick ["pool", "options"] (defScope s__law_pick) := ⟨rfl, rfl, rfl, by decide +kernel, rfl, by decide +kernel, by decide +kernel⟩
def b__law_pick : SM := (retS (bin2 atD (.nm 1) (evD (callIO m__law_draw 0 [(un1 lenD (nmB 1))]))))
def m__law_pick : FM := bodyM 0 b__law_pick
abbrev s__law_same : Stmt := topS 17
abbrev n__law_same : List Str := ["answer", "due", ".0", "key", "k"]
theorem sc__law_same : FnScope n__law_same ["answer", "due"] (defScope s__law_same) := ⟨rfl, rfl, rfl, by decide +kernel, rfl, by decide +kernel, by decide +kernel⟩
def b__law_same (mr : FM) : SM := (seqS (ifS (truT (evD (un1 (isiM .dict) (nmB 1)))) (seqS (ifS (orT (notT (truT (evD (un1 (isiM .dict) (nmB 0))))) (cmpT neC (.ex (un1 lenD (nmB 0))) (evD (un1 lenD (nmB 1))))) (retS (cst (.bool false))) skipS)
  (retS (un1 allD (evD (lcM [2, 3] (itS (nmV 1)) (gNm 3) yesT (andV (bin2 (cmpB inC) (.nm 3) (nmB 0)) (callM mr [(bin2 atD (.nm 0) (nmB 3)), (bin2 atD (.nm 1) (nmB 3))]))))))) skipS)
  (seqS (ifS (orT (truT (evD (un1 (isiM .list) (nmB 1)))) (truT (evD (un1 (isiM .tuple) (nmB 1))))) (seqS (ifS (orT (cmpT neC (.ex (un1 (isiM .list) (nmB 1))) (evD (un1 (isiM .list) (nmB 0)))) (cmpT neC (.ex (un1 (isiM .tuple) (nmB 1))) (evD (un1 (isiM .tuple) (nmB 0))))) (retS (cst (.bool false))) skipS)
  (retS (andV (bin2 (cmpB eqC) (.ex (un1 lenD (nmB 0))) (evD (un1 lenD (nmB 1)))) (un1 allD (evD (lcM [2, 4] (itR1 (evD (un1 lenD (nmB 1)))) (gNm 4) yesT (callM mr [(bin2 atD (.nm 0) (nmB 4)), (bin2 atD (.nm 1) (nmB 4))]))))))) skipS)
  (seqS (ifS (truT (evD (un1 (isiM .str) (nmB 1)))) (retS (andV (un1 (isiM .str) (nmB 0)) (bin2 (cmpB eqC) (.nm 0) (nmB 1)))) skipS)
  (seqS (ifS (orT (cmpT isC (.nm 1) (evD (cst .none))) (orT (cmpT isC (.nm 1) (evD (cst (.bool true)))) (cmpT isC (.nm 1) (evD (cst (.bool false)))))) (retS (orV (andV (bin2 (cmpB isC) (.nm 1) (evD (cst .none))) (bin2 (cmpB isC) (.nm 0) (evD (cst .none)))) (orV (andV (bin2 (cmpB isC) (.nm 1) (evD (cst (.bool true)))) (bin2 (cmpB isC) (.nm 0) (evD (cst (.bool true))))) (andV (bin2 (cmpB isC) (.nm 1) (evD (cst (.bool false)))) (bin2 (cmpB isC) (.nm 0) (evD (cst (.bool false)))))))) skipS)
  (retS (andV (un1 (isiM .int) (nmB 0)) (andV (notV (un1 (isiM .bool) (nmB 0))) (bin2 (cmpB eqC) (.nm 0) (nmB 1)))))))))
def m__law_same : Nat → FM
  | 0 => fun _ => none
  | n + 1 => bodyM 3 (b__law_same (m__law_same n))
abbrev s__law_power : Stmt := topS 18
abbrev n__law_power : List Str := ["base", "many", "found", "k"]
theorem sc__law_power : FnScope n__law_power ["base", "many"] (defScope s__law_power) := ⟨rfl, rfl, rfl, by decide +kernel, rfl, by decide +kernel, by decide +kernel⟩
def b__law_power : SM := (seqS (setS 2 (cst (.int 1)))
  (seqS (forS (itR1 (nmB 1)) (gNm 3) (setS 2 (bin2 mulD (.nm 2) (nmB 0))))
  (retS (nmM 2))))
def m__law_power : FM := bodyM 2 b__law_power
abbrev s__law_number : Stmt := topS 19
abbrev n__law_number : List Str := ["b", "code", "number", "odd", "digit", "own"]
theorem sc__law_number : FnScope n__law_number ["b", "code"] (defScope s__law_number) := ⟨rfl, rfl, rfl, by decide +kernel, rfl, by decide +kernel, by decide +kernel⟩
def b__law_number : SM := (seqS (asgS (gTp (gsCons (gNm 2) (gsCons (gNm 3) gsNil))) (tupM [(cst (.int 0)), (cst (.int 0))]))
  (seqS (forS (itS (nmV 1)) (gNm 4) (seqS (setS 5 (ifE (cmpT eqC (.ex (bin2 modD (.ex (un1 intD (nmB 3))) (evD (cst (.int 2))))) (evD (cst (.int 0)))) (nmV 4) (bin2 subD (.ex (bin2 subD (.nm 0) (evD (cst (.int 1))))) (nmB 4))))
  (seqS (setS 2 (bin2 addD (.ex (bin2 mulD (.nm 2) (nmB 0))) (nmB 5)))
  (setS 3 (nmV 2)))))
  (retS (nmM 2))))
def m__law_number : FM := bodyM 4 b__law_number
abbrev s__law_code : Stmt := topS 20
abbrev n__law_code : List Str := ["b", "n", "number", "k", "heads", "found", "own", ".0"]
theorem sc__law_code : FnScope n__law_code ["b", "n", "number"] (defScope s__law_code) := ⟨rfl, rfl, rfl, by decide +kernel, rfl, by decide +kernel, by decide +kernel⟩
def b__law_code : SM := (seqS (setS 4 (lcM [7, 3] (itR1 (evD (bin2 addD (.nm 1) (evD (cst (.int 1)))))) (gNm 3) yesT (bin2 fdivD (.nm 2) (evD (callM m__law_power [(nmV 0), (bin2 subD (.nm 1) (nmB 3))])))))
  (seqS (setS 5 (lstM []))
  (seqS (forS (itR2 (.ex (cst (.int 1))) (evD (bin2 addD (.nm 1) (evD (cst (.int 1)))))) (gNm 3) (seqS (setS 6 (bin2 subD (.ex (bin2 atD (.nm 4) (nmB 3))) (evD (bin2 mulD (.nm 0) (evD (bin2 atD (.nm 4) (evD (bin2 subD (.nm 3) (evD (cst (.int 1)))))))))))
  (exprS (mtM1 appD 5 (ifE (cmpT eqC (.ex (bin2 modD (.ex (un1 intD (evD (bin2 atD (.nm 4) (evD (bin2 subD (.nm 3) (evD (cst (.int 1))))))))) (evD (cst (.int 2))))) (evD (cst (.int 0)))) (nmV 6) (bin2 subD (.ex (bin2 subD (.nm 0) (evD (cst (.int 1))))) (nmB 6)))))))
  (retS (un1 tupleD (nmB 5))))))
def m__law_code : FM := bodyM 5 b__law_code
abbrev s_law : Stmt := topS 21
abbrev n_law : List Str := ["script", "pool", "b", "n", "whole", "turn", "number", "code", "after", "moved_told", ".0", "k"]
theorem sc_law : FnScope n_law ["script"] (defScope s_law) := ⟨rfl, rfl, rfl, by decide +kernel, rfl, by decide +kernel, by decide +kernel⟩
def b_law : SM := (seqS (setS 1 (callM m__law_pool [(nmV 0)]))
  (seqS (asgS (gTp (gsCons (gNm 2) (gsCons (gNm 3) gsNil))) (tupM [(bin2 addD (.ex (cst (.int 2))) (evD (callIO m__law_draw 1 [(cst (.int 7))]))), (bin2 addD (.ex (cst (.int 1))) (evD (callIO m__law_draw 1 [(cst (.int 8))])))]))
  (seqS (setS 4 (callM m__law_power [(nmV 2), (nmV 3)]))
  (seqS (exprS (callIO m__law_next 1 []))
  (seqS (forS (itR1 (evD (cst (.int 8)))) (gNm 5) (seqS (setS 6 (callIO m__law_pick 1 [(lstM [(cst (.int 0)), (bin2 subD (.nm 4) (evD (cst (.int 1)))), (callIO m__law_draw 1 [(nmV 4)])])]))
  (seqS (setS 7 (un1 tupleD (evD (lcM [10, 11] (itR1 (nmB 3)) (gNm 11) yesT (callIO m__law_draw 1 [(nmV 2)])))))
  (seqS (ifS (notT (truT (evD (callM (m__law_same 8) [(lstM [(callM m_code_at [(nmV 2), (nmV 3), (nmV 6)]), (callM m_number_in [(nmV 2), (nmV 7)])]), (lstM [(callM m__law_code [(nmV 2), (nmV 3), (nmV 6)]), (callM m__law_number [(nmV 2), (nmV 7)])])])))) (retS (cst (.bool false))) skipS)
  (seqS (ifS (notT (truT (evD (callM (m__law_same 8) [(lstM [(callM m_number_in [(nmV 2), (callM m__law_code [(nmV 2), (nmV 3), (nmV 6)])]), (callM m_code_at [(nmV 2), (nmV 3), (callM m__law_number [(nmV 2), (nmV 7)])])]), (lstM [(nmV 6), (nmV 7)])])))) (retS (cst (.bool false))) skipS)
  (seqS (ifS (cmpT ltC (.ex (bin2 addD (.nm 6) (evD (cst (.int 1))))) (nmB 4)) (seqS (setS 8 (callM m_code_at [(nmV 2), (nmV 3), (bin2 addD (.nm 6) (evD (cst (.int 1))))]))
  (ifS (cmpT neC (.ex (callM m_turns [(nmV 2), (cst (.bool false)), (callM m_code_at [(nmV 2), (nmV 3), (nmV 6)]), (nmV 8)])) (evD (cst (.int 1)))) (retS (cst (.bool false))) skipS)) skipS)
  (exprS (callIO m__law_next 1 []))))))))
  (seqS (setS 9 (callM m_turn_counts [(nmV 2), (nmV 3)]))
  (seqS (ifS (notT (truT (evD (callM (m__law_same 8) [(lstM [(nmV 9), (un1 sumD (nmB 9))]), (lstM [(lcM [10, 11] (itR1 (nmB 3)) (gNm 11) yesT (bin2 mulD (.ex (callM m__law_power [(nmV 2), (nmV 11)])) (evD (bin2 subD (.nm 2) (evD (cst (.int 1))))))), (bin2 subD (.nm 4) (evD (cst (.int 1))))])])))) (retS (cst (.bool false))) skipS)
  (retS (orV (bin2 (cmpB gtC) (.nm 4) (evD (cst (.int 300)))) (bin2 (cmpB eqC) (.ex (bin2 (cmpB isC) (.ex (callM m_closed_tour [(nmV 2), (nmV 3)])) (evD (cst .none)))) (evD (orV (bin2 (cmpB eqC) (.ex (bin2 modD (.ex (un1 intD (nmB 2))) (evD (cst (.int 2))))) (evD (cst (.int 1)))) (bin2 (cmpB eqC) (.nm 3) (evD (cst (.int 1))))))))))))))))
def m_law : FM := bodyM 11 b_law
end PL

namespace PL
open PySem PySem.Spec PyProof.Rows L2
/-! ### the law's own helpers: the pool of drawn numbers -/
def big : Nat := 2 ^ 21
theorem big_eq : big = 2097152 := by decide
structure Pool (k : Nat) (o : List D) : Prop where
  ex : ∃ (ns : List Int) (p n a : Int), o = [.list (ns.map .int), .int p, .int n, .int a] ∧ ns.length ≤ 63 ∧ (∀ z ∈ ns, z.natAbs.log2 ≤ big) ∧ 0 ≤ p ∧ p ≤ k ∧ 0 ≤ n ∧ n.natAbs.log2 ≤ big + 4 ∧ 0 ≤ a ∧ a ≤ k
theorem log2_le {x : Nat} {c : Nat} (h : x < 2 ^ (c + 1)) : x.log2 ≤ c := by
  by_cases h0 : x = 0
  · rw [h0]; simp
  · exact Nat.le_of_lt_succ ((Nat.log2_lt h0).mpr h)
theorem lt_of_log2 {x c : Nat} (h : x.log2 ≤ c) : x < 2 ^ (c + 1) := by
  by_cases h0 : x = 0
  · rw [h0]; exact Nat.pow_pos (by decide)
  · exact (Nat.log2_lt h0).mp (Nat.lt_succ_of_le h)
theorem log2_mono {x y : Nat} (h : x ≤ y) : x.log2 ≤ y.log2 := by
  exact log2_le (Nat.lt_of_le_of_lt h (lt_of_log2 (Nat.le_refl _)))
theorem cmul_log {i j : Int} {a b : Nat} (h1 : i.natAbs.log2 ≤ a) (h2 : j.natAbs.log2 ≤ b) (h : a + b < 100000000) : CMulX i j := by
  show i.natAbs.log2 + j.natAbs.log2 < 100000000
  omega
theorem mixed_eq (n p : Int) (hn : n.natAbs.log2 ≤ big + 10) (hp : p.natAbs.log2 ≤ 100) : ∃ r : Int, 0 ≤ r ∧ r.natAbs.log2 ≤ 1000 ∧ ∃ ρ', m__law_mixed [.va (.int n), .va (.int p)] = some (.va (.int r), ρ') := by
  have hb := big_eq
  have c1 : CMulX n 410338673998125441398711 := cmul_log hn (show _ ≤ 100 by decide) (by omega)
  have c2 : CMulX p 736418259301774563982039 := cmul_log hp (show _ ≤ 100 by decide) (by omega)
  generalize hF : (n * 410338673998125441398711 + p * 736418259301774563982039 + 295075153872261839517363) % 618970019642690137449562111 = F
  have f0 : 0 ≤ F := by rw [← hF]; exact Int.emod_nonneg _ (by decide)
  have f1 : F < 618970019642690137449562111 := by rw [← hF]; exact Int.emod_lt_of_pos _ (by decide)
  have lF : F.natAbs.log2 ≤ 100 := log2_le (by omega)
  have c3 : CMulX F F := cmul_log lF lF (by decide)
  have c4 : CMulX 7 F := cmul_log (show _ ≤ 100 by decide) lF (by decide)
  generalize hS : (F * F + 7 * F + p) % 162259276829213363391578010288127 = S
  have s0 : 0 ≤ S := by rw [← hS]; exact Int.emod_nonneg _ (by decide)
  have s1 : S < 162259276829213363391578010288127 := by rw [← hS]; exact Int.emod_lt_of_pos _ (by decide)
  have lS : S.natAbs.log2 ≤ 200 := log2_le (by omega)
  have c5 : CMulX S S := cmul_log lS lS (by decide)
  generalize hT : (S * S + F) % 618970019642690137449562111 = Th
  have t0 : 0 ≤ Th := by rw [← hT]; exact Int.emod_nonneg _ (by decide)
  have t1 : Th < 618970019642690137449562111 := by rw [← hT]; exact Int.emod_lt_of_pos _ (by decide)
  have c6 : CMulX S 618970019642690137449562111 := cmul_log lS (show _ ≤ 200 by decide) (by decide)
  refine ⟨S * 618970019642690137449562111 + Th, by omega, log2_le (c := 1000) (by omega), ?_⟩
  unfold m__law_mixed bodyM b__law_mixed
  simp [argOk, mulD_int, modD_int, c1, c2, c3, c4, c5, c6, hF, hS, hT]
theorem pow18 : powD (.int 10) (.int 18) = some (.va (.int 1000000000000000000)) := by
  show (if (0 : Int) ≤ 18 ∧ (18 : Int).natAbs ≤ 1000000 ∧ (10 : Int).natAbs < 2 ^ 64 then some (Sl.va (.int (10 ^ (18 : Int).toNat))) else none) = _
  rw [if_pos (by decide)]
  rfl
theorem rest_eq (ns : List Int) (p a : Int) (hl : ns.length ≤ 63) (hz : ∀ z ∈ ns, z.natAbs.log2 ≤ big) (hp0 : 0 ≤ p) (hp : p.natAbs.log2 ≤ 100) (ha0 : 0 ≤ a) (ha : a.natAbs.log2 ≤ 100) :
    ∃ r : Int, 0 ≤ r ∧ r.natAbs.log2 ≤ big + 4 ∧ ∃ ρ', m__law_rest [.va (.list (ns.map .int)), .va (.int p), .va (.int a)] = some (.va (.int r), ρ') := by
  have hb := big_eq
  have ca : CMulX a 1000003 := cmul_log ha (show _ ≤ 100 by decide) (by omega)
  -- the number as it stands
  have key : ∀ z : Int, 0 ≤ z → z.natAbs.log2 ≤ big + 3 → ∃ r : Int, 0 ≤ r ∧ r.natAbs.log2 ≤ 1000 ∧ ∃ ρ', m__law_mixed [.va (.int (z + a * 1000003)), .va (.int p)] = some (.va (.int r), ρ') := fun z h0 h1 => by
    refine mixed_eq _ p (log2_le ?_) hp
    have q1 := lt_of_log2 h1
    have q2 := lt_of_log2 ha
    have e1 : (2 : Nat) ^ (big + 10 + 1) = 2 ^ (big + 3 + 1) * 128 := by
      rw [show big + 10 + 1 = (big + 3 + 1) + 7 by omega, Nat.pow_add]
    have e2 : (2 : Nat) ^ (100 + 1) * 1000003 ≤ 2 ^ (big + 3 + 1) := by
      exact Nat.le_trans (show 2 ^ (100 + 1) * 1000003 ≤ 2 ^ 200 by decide) (Nat.pow_le_pow_right (by decide) (by omega))
    generalize (2 : Nat) ^ (big + 3 + 1) = B at *
    generalize (2 : Nat) ^ (big + 10 + 1) = C at *
    generalize (2 : Nat) ^ (100 + 1) = E at *
    omega
  have fin : ∀ (z : Int) (ρ : Rho), 0 ≤ z → z.natAbs.log2 ≤ big + 3 → ∃ r : Int, 0 ≤ r ∧ r.natAbs.log2 ≤ big + 4 ∧ ∃ ρ', (seqS (ifS (andT (cmpT eqC (.nm 2) (evD (cst (.int 0)))) (andT (cmpT ltC (.nm 1) (evD (un1 lenD (nmB 0)))) (cmpT geC (.nm 3) (evD (bin2 powD (.ex (cst (.int 10))) (evD (cst (.int 18)))))))) (retS (bin2 subD (.nm 3) (evD (bin2 powD (.ex (cst (.int 10))) (evD (cst (.int 18))))))) skipS)
      (retS (callM m__law_mixed [(bin2 addD (.nm 3) (evD (bin2 mulD (.nm 2) (evD (cst (.int 1000003)))))), (nmV 1)]))) [.va (.list (ns.map .int)), .va (.int p), .va (.int a), .va (.int z)] = some (.rt (.va (.int r)), ρ') := fun z ρ h0 h1 => by
    obtain ⟨r, r0, r1, ρ', er⟩ := key z h0 h1
    by_cases hc : a = 0 ∧ p < ns.length ∧ 1000000000000000000 ≤ z
    · refine ⟨z - 1000000000000000000, by omega, Nat.le_trans (log2_mono (show (z - 1000000000000000000).natAbs ≤ z.natAbs by omega)) (by omega), ?_⟩
      simp [pow18, hc.1, hc.2.1, hc.2.2]
    · refine ⟨r, r0, by omega, ?_⟩
      by_cases c1 : a = 0
      · by_cases c2 : p < ns.length
        · have c3 : ¬ (1000000000000000000 ≤ z) := fun q => hc ⟨c1, c2, q⟩
          simp [pow18, c1, c2, c3, mulD_int, ca] at er ⊢
          rw [← c1]
          simp [mulD_int, ca, c1] at er ⊢
          have ca' : CMulX 0 1000003 := by rw [← c1]; exact ca
          simp [mulD_int, ca', er]
        · have ca' : CMulX 0 1000003 := by rw [← c1]; exact ca
          simp [c1] at er
          simp [pow18, c1, c2, mulD_int, ca', er]
      · simp [pow18, c1, mulD_int, ca, er]
  by_cases hn : ns = []
  · subst hn
    obtain ⟨r, r0, r1, ρ', e⟩ := fin 0 [] (by decide) (by show Nat.log2 0 ≤ _; simp)
    refine ⟨r, r0, r1, ?_⟩
    unfold m__law_rest bodyM b__law_rest
    rw [seq_nx (ρ1 := [.va (.list (([] : List Int).map .int)), .va (.int p), .va (.int a), .va (.int 0)]) (by simp), seq_nx (ρ1 := [.va (.list (([] : List Int).map .int)), .va (.int p), .va (.int a), .va (.int 0)]) (by simp), seq_nx (ρ1 := [.va (.list (([] : List Int).map .int)), .va (.int p), .va (.int a), .va (.int 0)]) (by simp), e]
    simp [argOk]
  · have hlen : 0 < ns.length := List.length_pos_iff.mpr hn
    have m0 : 0 ≤ p % (ns.length : Int) := Int.emod_nonneg _ (by omega)
    have m1 : p % (ns.length : Int) < ns.length := Int.emod_lt_of_pos _ (by omega)
    generalize hx : ns[(p % (ns.length : Int)).toNat]'(by omega) = x
    have hxm : x ∈ ns := by rw [← hx]; exact List.getElem_mem _
    have hxl := hz x hxm
    generalize hy : (if x < 0 then 1 - 2 * x else x) = y
    have hy0 : 0 ≤ y := by rw [← hy]; split <;> omega
    have hyl : y.natAbs.log2 ≤ big + 3 := by
      refine log2_le ?_
      have q := lt_of_log2 hxl
      have e1 : (2 : Nat) ^ (big + 3 + 1) = 2 ^ (big + 1) * 8 := by
        rw [show big + 3 + 1 = (big + 1) + 3 by omega, Nat.pow_add]
      have e2 : 0 < (2 : Nat) ^ (big + 1) := Nat.pow_pos (by decide)
      generalize (2 : Nat) ^ (big + 1) = B at *
      rw [← hy]
      split <;> omega
    have c2 : CMulX 2 x := cmul_log (show _ ≤ 100 by decide) hxl (by omega)
    obtain ⟨r, r0, r1, ρ', e⟩ := fin y [] hy0 hyl
    refine ⟨r, r0, r1, ?_⟩
    unfold m__law_rest bodyM b__law_rest
    have at1 : atD (.list (ns.map .int)) (.int (p % (ns.length : Int))) = some (.va (.int x)) := by
      rw [atD_list m0 (by simpa using m1)]
      simp [hx]
    rw [seq_nx (ρ1 := [.va (.list (ns.map .int)), .va (.int p), .va (.int a), .va (.int 0)]) (by simp), seq_nx (ρ1 := [.va (.list (ns.map .int)), .va (.int p), .va (.int a), .va (.int x)]) (by simp [hlen, modD_int, at1]),
      seq_nx (ρ1 := [.va (.list (ns.map .int)), .va (.int p), .va (.int a), .va (.int y)]) (by rw [← hy]; by_cases hneg : x < 0 <;> simp [hneg, mulD_int, c2]), e]
    simp [argOk]
theorem small_log {p : Int} {k : Nat} (h0 : 0 ≤ p) (h : p ≤ k) (hk : k < 2 ^ 100) : p.natAbs.log2 ≤ 100 := log2_le (by
  have : (2 : Nat) ^ 100 < 2 ^ (100 + 1) := by decide
  omega)
theorem pool_eq (ns : List Int) (hl : ns.length ≤ 63) (hz : ∀ z ∈ ns, z.natAbs.log2 ≤ big) : ∃ o, Pool 0 o ∧ ∃ ρ', m__law_pool [.va (.list (ns.map .int))] = some (.ow .loc (.lst o), ρ') := by
  obtain ⟨r, r0, r1, ρ', e⟩ := rest_eq ns 0 0 hl hz (by decide) (by decide) (by decide) (by decide)
  refine ⟨_, ⟨ns, 0, r, 0, rfl, hl, hz, by decide, by decide, r0, r1, by decide, by decide⟩, ?_⟩
  unfold m__law_pool bodyM b__law_pool
  simp [argOk, e]
theorem atP {x0 x1 x2 x3 : D} : atD (.list [x0, x1, x2, x3]) (.int 0) = some (.va x0) ∧ atD (.list [x0, x1, x2, x3]) (.int 1) = some (.va x1) ∧ atD (.list [x0, x1, x2, x3]) (.int 2) = some (.va x2) ∧ atD (.list [x0, x1, x2, x3]) (.int 3) = some (.va x3) := ⟨rfl, rfl, rfl, rfl⟩
theorem ixP : ixN 4 0 = some 0 ∧ ixN 4 1 = some 1 ∧ ixN 4 2 = some 2 ∧ ixN 4 3 = some 3 := ⟨rfl, rfl, rfl, rfl⟩
theorem next_eq {k : Nat} {o : List D} (h : Pool k o) (hk : k < 2 ^ 90) : ∃ o', Pool (k + 1) o' ∧ m__law_next [.ow .par (.lst o)] = some (.va .none, [.ow .par (.lst o')]) := by
  obtain ⟨ns, p, n, a, rfl, hl, hz, p0, p1, n0, n1, a0, a1⟩ := h
  have hp : (p + 1).natAbs.log2 ≤ 100 := small_log (k := k + 1) (by omega) (by omega) (by omega)
  obtain ⟨r, r0, r1, ρ', e⟩ := rest_eq ns (p + 1) 0 hl hz (by omega) hp (by decide) (by decide)
  refine ⟨_, ⟨ns, p + 1, r, 0, rfl, hl, hz, by omega, by omega, r0, r1, by decide, by omega⟩, ?_⟩
  unfold m__law_next bodyM b__law_next
  simp [argOk, setIx, atP, ixP, e, outArgs]
theorem draw_eq {k : Nat} {o : List D} (h : Pool k o) {l : Int} (hk : k < 2 ^ 90) (l0 : 0 < l) (l1 : l < 1000000000000000000000000000000) :
    ∃ o' v, Pool (k + 1) o' ∧ 0 ≤ v ∧ v < l ∧ m__law_draw [.ow .par (.lst o), .va (.int l)] = some (.va (.int v), [.ow .par (.lst o'), .va (.int l)]) := by
  obtain ⟨ns, p, n, a, rfl, hl, hz, p0, p1, n0, n1, a0, a1⟩ := h
  have hp : p.natAbs.log2 ≤ 100 := small_log p0 p1 (by omega)
  have hlg : l.natAbs.log2 < 9000 := log2_lt9 (by omega)
  have core : ∀ (n a : Int), 0 ≤ n → n.natAbs.log2 ≤ big + 4 → 0 ≤ a → a ≤ ((k + 1 : Nat) : Int) → ∃ o' v, Pool (k + 1) o' ∧ 0 ≤ v ∧ v < l ∧
      (seqS (setS 2 (bin2 modD (.ex (un1 intD (evD (bin2 atD (.nm 0) (evD (cst (.int 2))))))) (nmB 1)))
        (seqS (setIx 0 (evD (cst (.int 2))) (bin2 fdivD (.ex (un1 intD (evD (bin2 atD (.nm 0) (evD (cst (.int 2))))))) (nmB 1)))
        (retS (nmM 2)))) [.ow .par (.lst [.list (ns.map .int), .int p, .int n, .int a]), .va (.int l), .un] = some (.rt (.va (.int v)), [.ow .par (.lst o'), .va (.int l), .va (.int v)]) := fun n a n0 n1 a0 a1 => by
    refine ⟨_, n % l, ⟨ns, p, n / l, a, rfl, hl, hz, p0, by omega, Int.ediv_nonneg n0 (by omega), ?_, a0, a1⟩, Int.emod_nonneg _ (by omega), Int.emod_lt_of_pos _ l0, ?_⟩
    · refine Nat.le_trans (log2_mono ?_) n1
      have := Int.ediv_le_self l n0
      have := Int.ediv_nonneg (b := l) n0 (by omega)
      omega
    · simp [setIx, atP, ixP, modD_int l0, fdivD_int l0 hlg]
  by_cases hc : n ≤ 1
  · have ha : (a + 1).natAbs.log2 ≤ 100 := small_log (k := k + 1) (by omega) (by omega) (by omega)
    obtain ⟨r, r0, r1, ρ', e⟩ := rest_eq ns p (a + 1) hl hz p0 hp (by omega) ha
    obtain ⟨o', v, hP, v0, v1, ee⟩ := core r (a + 1) r0 r1 (by omega) (by omega)
    refine ⟨o', v, hP, v0, v1, ?_⟩
    unfold m__law_draw bodyM b__law_draw
    rw [seq_nx (ρ1 := [.ow .par (.lst [.list (ns.map .int), .int p, .int r, .int (a + 1)]), .va (.int l), .un]) (by simp [setIx, atP, ixP, hc, e]), ee]
    simp [argOk, outArgs]
  · obtain ⟨o', v, hP, v0, v1, ee⟩ := core n a n0 n1 (by omega) (by omega)
    refine ⟨o', v, hP, v0, v1, ?_⟩
    unfold m__law_draw bodyM b__law_draw
    rw [seq_nx (ρ1 := [.ow .par (.lst [.list (ns.map .int), .int p, .int n, .int a]), .va (.int l), .un]) (by simp [setIx, atP, ixP, hc]), ee]
    simp [argOk, outArgs]
theorem asBools_true : ∀ n : Nat, asBools (List.replicate n (.bool true)) = some (List.replicate n true)
  | 0 => rfl
  | n + 1 => by
    rw [List.replicate_succ]
    simp only [asBools, asBools_true n]
    rfl
theorem same_lc (t : Bool) {xs : List D} {mr : FM} (h : xs.length < 10000000) (ih : ∀ i (hi : i < xs.length), ∃ ρ', mr [.va xs[i], .va xs[i]] = some (.va (.bool true), ρ')) :
    lcM [2, 4] (itR1 (evD (un1 lenD (nmB 1)))) (gNm 4) yesT (callM mr [(bin2 atD (.nm 0) (nmB 4)), (bin2 atD (.nm 1) (nmB 4))]) [.va (if t then .list xs else .tuple xs), .va (if t then .list xs else .tuple xs), .un, .un, .un] =
      some (.ow .loc (.lst (List.replicate xs.length (.bool true))), [.va (if t then .list xs else .tuple xs), .va (if t then .list xs else .tuple xs), .un, .un, .un]) := by
  generalize hd : (if t then PyData.list xs else PyData.tuple xs) = d
  have hlen : lenD d = some (.va (.int xs.length)) := by rw [← hd]; cases t <;> rfl
  have hat : ∀ i (hi : i < xs.length), atD d (.int (0 + (i : Nat))) = some (.va xs[i]) := fun i hi => by
    rw [← hd]
    cases t
    · show atD (.tuple xs) _ = _
      rw [atD_tuple (by omega) (by omega)]
      simp
    · show atD (.list xs) _ = _
      rw [atD_list (by omega) (by omega)]
      simp
  have lc := lc_map (inj := fun i : Nat => PyData.int (0 + (i : Nat))) (g := gNm 4) (fe := callM mr [(bin2 atD (.nm 0) (nmB 4)), (bin2 atD (.nm 1) (nmB 4))]) (vs := [2, 4]) (fi := itR1 (evD (un1 lenD (nmB 1))))
    (ρ := [.va d, .va d, .un, .un, .un]) (ρ1 := [.va d, .va d, .un, .un, .un]) (ρw := [.va d, .va d, .un, .un, .un]) (xs := List.range xs.length) (fun _ => .bool true)
    (by
      have hj : xs.length < 16777216 := by omega
      simp only [itR1]
      simp [rangeI, hlen, hj])
    (by rfl) (fun i hi => by
      have hi' : i < xs.length := by simpa using hi
      obtain ⟨ρ', e⟩ := ih i hi'
      have at1 := hat i hi'
      refine ⟨[.va d, .va d, .un, .un, .va (.int (0 + (i : Nat)))], [.va d, .va d, .un, .un, .va (.int (0 + (i : Nat)))], by simp, ?_, by rfl⟩
      simp only [evD_e, callM_e, evAgs_cons, bin2_e, ev2_nm_e, nmB_e, evAgs_nil, List.getElem?_cons_zero, List.getElem?_cons_succ, at1, List.map_cons, List.map_nil, e]) (by
      rw [List.length_range]
      exact Nat.le_trans (Nat.le_of_lt h) (by decide))
  rw [lc]
  simp [List.map_const']
@[simp] theorem isC_none_none : isC .none .none = some true := rfl
def scal : D → Bool
  | .none => true
  | .bool _ => true
  | .int _ => true
  | .str _ => true
  | _ => false
theorem same_scal (mr : FM) (n : Nat) (x : D) (h : nice n x) (hs : scal x = true) : ∃ ρ', bodyM 3 (b__law_same mr) [.va x, .va x] = some (.va (.bool true), ρ') := by
  unfold bodyM b__law_same
  cases x with
  | none => simp [argOk, isC]
  | bool b => cases b <;> simp [argOk, isC]
  | int i => simp [argOk, isC]
  | str z =>
    have e : eqC (.str z) (.str z) = some true := by
      have hs := nice.shaped (n := 0) (d := .str z) (by cases n <;> exact h)
      unfold eqC
      rw [if_pos ⟨hs, hs⟩]
      simp [PyData.eqv]
    simp [argOk, isC, e]
  | list xs => cases hs
  | tuple xs => cases hs
  | dict xs => cases hs
theorem allD_true (n : Nat) : allD (.list (List.replicate n (.bool true))) = some (.va (.bool true)) := by
  show (asBools _).map _ = _
  rw [asBools_true]
  simp
theorem same_seq (t : Bool) {xs : List D} {mr : FM} (h : xs.length < 10000000) (ih : ∀ i (hi : i < xs.length), ∃ ρ', mr [.va xs[i], .va xs[i]] = some (.va (.bool true), ρ')) :
    ∃ ρ', bodyM 3 (b__law_same mr) [.va (if t then .list xs else .tuple xs), .va (if t then .list xs else .tuple xs)] = some (.va (.bool true), ρ') := by
  have lc := same_lc t h ih
  cases t with
  | true =>
    rw [if_pos rfl] at lc ⊢
    refine ⟨_, body_rt (ρ := [.va (.list xs), .va (.list xs), .un, .un, .un]) ?_⟩
    show b__law_same mr [.va (.list xs), .va (.list xs), .un, .un, .un] = _
    unfold b__law_same
    rw [seq_nx (ρ1 := [.va (.list xs), .va (.list xs), .un, .un, .un]) (by simp)]
    refine seq_rt ?_
    rw [if_t (ρ1 := [.va (.list xs), .va (.list xs), .un, .un, .un]) (by simp), seq_nx (ρ1 := [.va (.list xs), .va (.list xs), .un, .un, .un]) (by simp)]
    simp [lc, allD_true]
  | false =>
    rw [if_neg (by decide)] at lc ⊢
    refine ⟨_, body_rt (ρ := [.va (.tuple xs), .va (.tuple xs), .un, .un, .un]) ?_⟩
    show b__law_same mr [.va (.tuple xs), .va (.tuple xs), .un, .un, .un] = _
    unfold b__law_same
    rw [seq_nx (ρ1 := [.va (.tuple xs), .va (.tuple xs), .un, .un, .un]) (by simp)]
    refine seq_rt ?_
    rw [if_t (ρ1 := [.va (.tuple xs), .va (.tuple xs), .un, .un, .un]) (by simp), seq_nx (ρ1 := [.va (.tuple xs), .va (.tuple xs), .un, .un, .un]) (by simp)]
    simp [lc, allD_true]
theorem same_succ (n : Nat) : m__law_same (n + 1) = bodyM 3 (b__law_same (m__law_same n)) := rfl
theorem same_eq (n : Nat) : ∀ x : D, nice n x → ∃ ρ', m__law_same (n + 1) [.va x, .va x] = some (.va (.bool true), ρ') := by
  induction n with
  | zero =>
    intro x h
    rw [same_succ]
    exact same_scal (m__law_same 0) 0 x h (by cases x <;> first | rfl | exact h.elim)
  | succ n ih =>
    intro x h
    rw [same_succ]
    have sc : scal x = true → ∃ ρ', bodyM 3 (b__law_same (m__law_same (n + 1))) [.va x, .va x] = some (.va (.bool true), ρ') := fun hs => same_scal (m__law_same (n + 1)) _ x h hs
    have ls := fun (t : Bool) (xs : List D) (h : xs.length < 10000000) (ih : ∀ i (hi : i < xs.length), ∃ ρ', m__law_same (n + 1) [.va xs[i], .va xs[i]] = some (.va (.bool true), ρ')) => same_seq t h ih
    cases x with
    | none => exact sc rfl
    | bool b => exact sc rfl
    | int i => exact sc rfl
    | str z => exact sc rfl
    | list xs =>
      have q := ls true xs h.1 fun i hi => ih _ (h.2 _ (List.getElem_mem hi))
      rw [if_pos rfl] at q
      exact q
    | tuple xs =>
      have q := ls false xs h.1 fun i hi => ih _ (h.2 _ (List.getElem_mem hi))
      rw [if_neg (by decide)] at q
      exact q
    | dict xs => exact h.elim
end PL

namespace PL
open PySem PySem.Spec PyProof.Rows L2
/-! ### k43: the mathematics -/
/-- a digit mirrored behind an odd number -/
def wv (b h d : Int) : Int := if h % 2 = 0 then d else b - 1 - d
def cod (b : Int) : Nat → Int → List Int
  | 0, _ => []
  | n + 1, k => cod b n (k / b) ++ [wv b (k / b) (k % b)]
def numF (b f : Int) (ds : List Int) : Int := ds.foldl (fun f d => f * b + wv b f d) f
theorem numF_snoc (b f : Int) (ds : List Int) (d : Int) : numF b f (ds ++ [d]) = numF b f ds * b + wv b (numF b f ds) d := by
  unfold numF
  rw [List.foldl_append]
  rfl
theorem wv_wv (b h d : Int) : wv b h (wv b h d) = d := by
  unfold wv
  split <;> omega
theorem wv_range {b h d : Int} (h0 : 0 ≤ d) (h1 : d < b) : 0 ≤ wv b h d ∧ wv b h d < b := by
  unfold wv
  split <;> omega
theorem cod_length (b : Int) : ∀ (n : Nat) (k : Int), (cod b n k).length = n
  | 0, _ => rfl
  | n + 1, k => by simp [cod, cod_length b n]
theorem cod_range {b : Int} (hb : 0 < b) : ∀ (n : Nat) (k : Int), ∀ d ∈ cod b n k, 0 ≤ d ∧ d < b
  | 0, _, d, h => by cases h
  | n + 1, k, d, h => by
    rcases List.mem_append.mp h with h | h
    · exact cod_range hb n _ d h
    · rw [List.mem_singleton] at h
      subst h
      exact wv_range (Int.emod_nonneg _ (by omega)) (Int.emod_lt_of_pos _ hb)
theorem div_lt {b k : Int} {n : Nat} (hb : 0 < b) (h0 : 0 ≤ k) (h : k < b ^ (n + 1)) : 0 ≤ k / b ∧ k / b < b ^ n := by
  refine ⟨Int.ediv_nonneg h0 (by omega), ?_⟩
  rw [Int.pow_succ] at h
  exact Int.ediv_lt_of_lt_mul hb h
theorem num_cod {b : Int} (hb : 0 < b) : ∀ (n : Nat) (k : Int), 0 ≤ k → k < b ^ n → numF b 0 (cod b n k) = k
  | 0, k, h0, h1 => by
    have : k = 0 := by simp at h1; omega
    rw [this]; rfl
  | n + 1, k, h0, h1 => by
    obtain ⟨a, c⟩ := div_lt hb h0 h1
    have ih := num_cod hb n (k / b) a c
    show numF b 0 (cod b n (k / b) ++ [wv b (k / b) (k % b)]) = k
    rw [numF_snoc, ih, wv_wv]
    have := Int.mul_ediv_add_emod k b
    rw [Int.mul_comm] at this
    exact this
theorem cod_num {b : Int} (hb : 0 < b) : ∀ (n : Nat) (ds : List Int), ds.length = n → (∀ d ∈ ds, 0 ≤ d ∧ d < b) → 0 ≤ numF b 0 ds ∧ numF b 0 ds < b ^ n ∧ cod b n (numF b 0 ds) = ds
  | 0, ds, hl, _ => by
    rw [List.eq_nil_of_length_eq_zero hl]
    exact ⟨Int.le_refl 0, by simp [numF], rfl⟩
  | n + 1, ds, hl, hr => by
    obtain ⟨t, d, rfl⟩ : ∃ t d, ds = t ++ [d] := ⟨ds.dropLast, ds.getLast (by intro q; rw [q] at hl; cases hl), by rw [List.dropLast_concat_getLast]⟩
    obtain ⟨a, c, e⟩ := cod_num hb n t (by simpa using hl) fun x hx => hr x (List.mem_append_left _ hx)
    obtain ⟨d0, d1⟩ := hr d (by simp)
    have w := wv_range (h := numF b 0 t) d0 d1
    rw [numF_snoc]
    generalize numF b 0 t = N at *
    have e1 : (N * b + wv b N d) / b = N := by
      rw [Int.add_comm, Int.add_mul_ediv_right _ _ (by omega), Int.ediv_eq_zero_of_lt w.1 w.2]
      omega
    have e2 : (N * b + wv b N d) % b = wv b N d := by
      rw [Int.add_comm, Int.add_mul_emod_self_right, Int.emod_eq_of_lt w.1 w.2]
    refine ⟨by have := Int.mul_nonneg a (show 0 ≤ b by omega); omega, ?_, ?_⟩
    · rw [Int.pow_succ]
      have : (N + 1) * b ≤ b ^ n * b := Int.mul_le_mul_of_nonneg_right (by omega) (by omega)
      rw [Int.add_mul] at this
      omega
    · show cod b n ((N * b + wv b N d) / b) ++ [wv b ((N * b + wv b N d) / b) ((N * b + wv b N d) % b)] = _
      rw [e1, e2, e, wv_wv]
/-- how far apart, wheel by wheel -/
def gapS (xs ys : List Int) : Int := ((xs.zip ys).map fun p => if p.1 - p.2 < 0 then -(p.1 - p.2) else p.1 - p.2).sum
theorem gapS_snoc (xs ys : List Int) (x y : Int) (h : xs.length = ys.length) : gapS (xs ++ [x]) (ys ++ [y]) = gapS xs ys + (if x - y < 0 then -(x - y) else x - y) := by
  unfold gapS
  rw [List.zip_append h]
  simp
theorem gapS_self (xs : List Int) : gapS xs xs = 0 := by
  induction xs with
  | nil => rfl
  | cons x xs ih =>
    unfold gapS at ih ⊢
    simp at ih ⊢
    try exact ih
theorem beside {b : Int} (hb : 2 ≤ b) : ∀ (n : Nat) (k : Int), 0 ≤ k → k + 1 < b ^ n → gapS (cod b n k) (cod b n (k + 1)) = 1
  | 0, k, h0, h1 => by simp at h1; omega
  | n + 1, k, h0, h1 => by
    have hl : (cod b n (k / b)).length = (cod b n ((k + 1) / b)).length := by rw [cod_length, cod_length]
    show gapS (cod b n (k / b) ++ [wv b (k / b) (k % b)]) (cod b n ((k + 1) / b) ++ [wv b ((k + 1) / b) ((k + 1) % b)]) = 1
    rw [gapS_snoc _ _ _ _ hl]
    have m0 := Int.emod_nonneg k (show b ≠ 0 by omega)
    have m1 := Int.emod_lt_of_pos k (show 0 < b by omega)
    have dm := Int.mul_ediv_add_emod k b
    by_cases hc : k % b + 1 < b
    · have e1 : (k + 1) / b = k / b := by
        have : k + 1 = (k % b + 1) + b * (k / b) := by omega
        rw [this, Int.add_mul_ediv_left _ _ (by omega), Int.ediv_eq_zero_of_lt (by omega) hc]
        omega
      have e2 : (k + 1) % b = k % b + 1 := by
        have e : k + 1 = (k % b + 1) + b * (k / b) := by omega
        rw [e, Int.add_mul_emod_self_left, Int.emod_eq_of_lt (by omega) hc]
      rw [e1, e2, gapS_self]
      unfold wv
      split <;> split <;> omega
    · have e1 : (k + 1) / b = k / b + 1 := by
        have : k + 1 = 0 + b * (k / b + 1) := by rw [Int.mul_add]; omega
        rw [this, Int.add_mul_ediv_left _ _ (by omega)]
        simp
      have e2 : (k + 1) % b = 0 := by
        have : k + 1 = 0 + b * (k / b + 1) := by rw [Int.mul_add]; omega
        rw [this, Int.add_mul_emod_self_left]
        simp
      have ih := beside hb n (k / b) (Int.ediv_nonneg h0 (by omega)) (by rw [← e1]; exact (div_lt (by omega) (by omega) h1).2)
      rw [e1, e2, ih]
      unfold wv
      split <;> split <;> omega

/-! ### k43: what its functions compute -/
theorem small_of {b k : Int} {n : Nat} (hb : 0 ≤ b) (hb2 : b ≤ 8) (hn : n ≤ 8) (h : k ≤ b ^ n) (h0 : 0 ≤ k) : k.natAbs ≤ 16777216 := by
  have h1 : b ^ n ≤ 8 ^ n := by
    obtain ⟨c, rfl⟩ : ∃ c : Nat, b = c := ⟨b.toNat, by omega⟩
    have := Nat.pow_le_pow_left (show c ≤ 8 by omega) n
    exact_mod_cast this
  have h2 : (8 : Int) ^ n ≤ 8 ^ 8 := by
    have := Nat.pow_le_pow_right (n := 8) (by decide) hn
    exact_mod_cast this
  omega
theorem wv_e (b h d : Int) : (if h % 2 = 0 then d else b - 1 - d) = wv b h d := rfl
theorem number_in_eq {b : Int} (hb : 2 ≤ b) (hb2 : b ≤ 8) (ds : List Int) (hl : ds.length ≤ 8) (hr : ∀ d ∈ ds, 0 ≤ d ∧ d < b) : ∃ ρ', m_number_in [.va (.int b), .va (.tuple (ds.map .int))] = some (.va (.int (numF b 0 ds)), ρ') := by
  have pre : ∀ i, i ≤ ds.length → 0 ≤ numF b 0 (ds.take i) ∧ numF b 0 (ds.take i) < b ^ i := fun i hi => by
    obtain ⟨a, c, _⟩ := cod_num (show 0 < b by omega) i (ds.take i) (by simp; omega) fun d hd => hr d (List.mem_of_mem_take hd)
    exact ⟨a, c⟩
  obtain ⟨ρ', e, x3, h3, rfl⟩ := for_inv (inj := PyData.int) (g := gNm 3) (fb := (setS 2 (bin2 addD (.ex (bin2 mulD (.nm 2) (nmB 0))) (evD (ifE (cmpT eqC (.ex (bin2 modD (.nm 2) (evD (cst (.int 2))))) (evD (cst (.int 0)))) (nmV 3) (bin2 subD (.ex (bin2 subD (.nm 0) (evD (cst (.int 1))))) (nmB 3))))))) (fi := itS (nmV 1))
    (ρ := [.va (.int b), .va (.tuple (ds.map .int)), .va (.int 0), .un]) (ρ1 := [.va (.int b), .va (.tuple (ds.map .int)), .va (.int 0), .un]) (xs := ds)
    (fun i ρ => ∃ x3, x3.free = true ∧ ρ = [.va (.int b), .va (.tuple (ds.map .int)), .va (.int (numF b 0 (ds.take i))), x3])
    (by simp [itS]) ⟨.un, rfl, rfl⟩ (fun i x hx ρ hI => by
      obtain ⟨x3, h3, rfl⟩ := hI
      have hi := (List.getElem?_eq_some_iff.mp hx).1
      obtain ⟨p0, p1⟩ := pre i (by omega)
      have hs := small_of (by omega) hb2 (show i ≤ 8 by omega) (Int.le_of_lt p1) p0
      have ht : ds.take (i + 1) = ds.take i ++ [x] := by
        rw [List.take_succ, hx]; rfl
      have hm : CMulX (numF b 0 (ds.take i)) b := cmulX_lt (by omega) (by omega)
      refine ⟨[.va (.int b), .va (.tuple (ds.map .int)), .va (.int (numF b 0 (ds.take i))), .va (.int x)], .nx, [.va (.int b), .va (.tuple (ds.map .int)), .va (.int (numF b 0 (ds.take (i + 1)))), .va (.int x)], by simp [h3], ?_, .inl rfl, _, rfl, rfl⟩
      rw [ht, numF_snoc]
      generalize numF b 0 (ds.take i) = N at *
      unfold wv
      by_cases hp : N % 2 = 0 <;> simp [modD_int, mulD_int, hm, hp])
  rw [List.take_length] at e
  refine ⟨_, body_rt (ρ := [.va (.int b), .va (.tuple (ds.map .int)), .va (.int (numF b 0 ds)), x3]) ?_⟩
  show b_number_in [.va (.int b), .va (.tuple (ds.map .int)), .un, .un] = _
  unfold b_number_in
  rw [seq_nx (ρ1 := [.va (.int b), .va (.tuple (ds.map .int)), .va (.int 0), .un]) (by simp), seq_nx e]
  simp
theorem law_number_eq {b : Int} (hb : 2 ≤ b) (hb2 : b ≤ 8) (ds : List Int) (hl : ds.length ≤ 8) (hr : ∀ d ∈ ds, 0 ≤ d ∧ d < b) : ∃ ρ', m__law_number [.va (.int b), .va (.tuple (ds.map .int))] = some (.va (.int (numF b 0 ds)), ρ') := by
  have pre : ∀ i, i ≤ ds.length → 0 ≤ numF b 0 (ds.take i) ∧ numF b 0 (ds.take i) < b ^ i := fun i hi => by
    obtain ⟨a, c, _⟩ := cod_num (show 0 < b by omega) i (ds.take i) (by simp; omega) fun d hd => hr d (List.mem_of_mem_take hd)
    exact ⟨a, c⟩
  obtain ⟨ρ', e, x4, x5, h4, h5, rfl⟩ := for_inv (inj := PyData.int) (g := gNm 4) (fb := (seqS (setS 5 (ifE (cmpT eqC (.ex (bin2 modD (.ex (un1 intD (nmB 3))) (evD (cst (.int 2))))) (evD (cst (.int 0)))) (nmV 4) (bin2 subD (.ex (bin2 subD (.nm 0) (evD (cst (.int 1))))) (nmB 4))))
    (seqS (setS 2 (bin2 addD (.ex (bin2 mulD (.nm 2) (nmB 0))) (nmB 5)))
    (setS 3 (nmV 2))))) (fi := itS (nmV 1))
    (ρ := [.va (.int b), .va (.tuple (ds.map .int)), .va (.int 0), .va (.int 0), .un, .un]) (ρ1 := [.va (.int b), .va (.tuple (ds.map .int)), .va (.int 0), .va (.int 0), .un, .un]) (xs := ds)
    (fun i ρ => ∃ x4 x5, x4.free = true ∧ x5.free = true ∧ ρ = [.va (.int b), .va (.tuple (ds.map .int)), .va (.int (numF b 0 (ds.take i))), .va (.int (numF b 0 (ds.take i))), x4, x5])
    (by simp [itS]) ⟨.un, .un, rfl, rfl, rfl⟩ (fun i x hx ρ hI => by
      obtain ⟨x4, x5, h4, h5, rfl⟩ := hI
      have hi := (List.getElem?_eq_some_iff.mp hx).1
      obtain ⟨p0, p1⟩ := pre i (by omega)
      have hs := small_of (by omega) hb2 (show i ≤ 8 by omega) (Int.le_of_lt p1) p0
      have ht : ds.take (i + 1) = ds.take i ++ [x] := by
        rw [List.take_succ, hx]; rfl
      have hm : CMulX (numF b 0 (ds.take i)) b := cmulX_lt (by omega) (by omega)
      refine ⟨[.va (.int b), .va (.tuple (ds.map .int)), .va (.int (numF b 0 (ds.take i))), .va (.int (numF b 0 (ds.take i))), .va (.int x), x5], .nx, [.va (.int b), .va (.tuple (ds.map .int)), .va (.int (numF b 0 (ds.take (i + 1)))), .va (.int (numF b 0 (ds.take (i + 1)))), .va (.int x), .va (.int (wv b (numF b 0 (ds.take i)) x))], by simp [h4], ?_, .inl rfl, _, _, rfl, rfl, rfl⟩
      rw [ht, numF_snoc]
      generalize numF b 0 (ds.take i) = N at *
      unfold wv
      by_cases hp : N % 2 = 0 <;> simp [modD_int, mulD_int, hm, hp, h5])
  rw [List.take_length] at e
  refine ⟨_, body_rt (ρ := [.va (.int b), .va (.tuple (ds.map .int)), .va (.int (numF b 0 ds)), .va (.int (numF b 0 ds)), x4, x5]) ?_⟩
  show b__law_number [.va (.int b), .va (.tuple (ds.map .int)), .un, .un, .un, .un] = _
  unfold b__law_number
  rw [seq_nx (ρ1 := [.va (.int b), .va (.tuple (ds.map .int)), .va (.int 0), .va (.int 0), .un, .un]) (by simp [gTp, gsCons, gsNil]), seq_nx e]
  simp
theorem code_at_eq {b : Int} (hb : 2 ≤ b) (hb2 : b ≤ 8) (n : Nat) (hn : n ≤ 8) (k : Int) (h0 : 0 ≤ k) (h1 : k ≤ b ^ n) : ∃ ρ', m_code_at [.va (.int b), .va (.int (n : Nat)), .va (.int k)] = some (.va (.tuple ((cod b n k).map .int)), ρ') := by
  have hbl : b.natAbs.log2 < 9000 := log2_lt9 (by omega)
  obtain ⟨ρ', e, q, fs, x4, x5, x6, h4, h5, h6, hq, hc, hfl, rfl⟩ := for_inv (inj := fun i : Nat => PyData.int (0 + (i : Nat))) (g := gNm 4) (fb := (seqS (parS 5 6 (bin2 fdivD (.nm 2) (nmB 0)) (bin2 modD (.nm 2) (nmB 0)))
    (seqS (setS 3 (bin2 addD (.ex (tupM [(ifE (cmpT eqC (.ex (bin2 modD (.nm 5) (evD (cst (.int 2))))) (evD (cst (.int 0)))) (nmV 6) (bin2 subD (.ex (bin2 subD (.nm 0) (evD (cst (.int 1))))) (nmB 6)))])) (nmB 3)))
    (setS 2 (nmV 5))))) (fi := itR1 (nmB 1))
    (ρ := [.va (.int b), .va (.int (n : Nat)), .va (.int k), .va (.tuple []), .un, .un, .un]) (ρ1 := [.va (.int b), .va (.int (n : Nat)), .va (.int k), .va (.tuple []), .un, .un, .un]) (xs := List.range n)
    (fun i ρ => ∃ (q : Int) (fs : List Int) (x4 x5 x6 : Sl), x4.free = true ∧ x5.free = true ∧ x6.free = true ∧ 0 ≤ q ∧ (cod b n k = cod b (n - i) q ++ fs) ∧ fs.length = i ∧ ρ = [.va (.int b), .va (.int (n : Nat)), .va (.int q), .va (.tuple (fs.map .int)), x4, x5, x6])
    (by
      have h1 : n < 16777216 := by omega
      unfold itR1
      simp [h1, rangeI]) ⟨k, [], .un, .un, .un, rfl, rfl, rfl, h0, by simp, rfl, rfl⟩ (fun i x hx ρ hI => by
      obtain ⟨q, fs, x4, x5, x6, h4, h5, h6, hq, hc, hfl, rfl⟩ := hI
      have hi : i < n := by
        have := (List.getElem?_eq_some_iff.mp hx).1
        simpa using this
      refine ⟨[.va (.int b), .va (.int (n : Nat)), .va (.int q), .va (.tuple (fs.map .int)), .va (.int (0 + (x : Nat))), x5, x6], .nx, [.va (.int b), .va (.int (n : Nat)), .va (.int (q / b)), .va (.tuple ((wv b (q / b) (q % b) :: fs).map .int)), .va (.int (0 + (x : Nat))), .va (.int (q / b)), .va (.int (q % b))], by simp [h4], ?_, .inl rfl, q / b, wv b (q / b) (q % b) :: fs, _, _, _, rfl, rfl, rfl, Int.ediv_nonneg hq (by omega), ?_, by simp [hfl], rfl⟩
      · have ad : ∀ d : Int, addD (.tuple [.int d]) (.tuple (fs.map .int)) = some (.va (.tuple ((d :: fs).map .int))) := fun d => by
          rw [addD_tuple (by simp; omega)]
          rfl
        unfold wv
        by_cases hp : (q / b) % 2 = 0 <;> simp [modD_int (show 0 < b by omega), modD_int (show (0 : Int) < 2 by decide), fdivD_int (show 0 < b by omega) hbl, hp, h5, h6, ad]
      · rw [hc, show n - i = (n - (i + 1)) + 1 by omega]
        show (cod b (n - (i + 1)) (q / b) ++ [_]) ++ fs = _
        rw [List.append_assoc]
        rfl)
  rw [List.length_range] at hc hfl
  have hfs : fs = cod b n k := by rw [hc, Nat.sub_self]; rfl
  refine ⟨_, body_rt (ρ := [.va (.int b), .va (.int (n : Nat)), .va (.int q), .va (.tuple (fs.map .int)), x4, x5, x6]) ?_⟩
  show b_code_at [.va (.int b), .va (.int (n : Nat)), .va (.int k), .un, .un, .un, .un] = _
  unfold b_code_at
  rw [seq_nx (ρ1 := [.va (.int b), .va (.int (n : Nat)), .va (.int k), .va (.tuple []), .un, .un, .un]) (by simp), seq_nx e, hfs]
  simp
theorem power_eq' {b : Int} (hb : 2 ≤ b) (hb2 : b ≤ 8) (n : Nat) (hn : n ≤ 8) (m : FM) (hm : m = m__law_power ∨ m = m_power) : ∃ ρ', m [.va (.int b), .va (.int (n : Nat))] = some (.va (.int (b ^ n)), ρ') := by
  obtain ⟨ρ', e, x3, h3, rfl⟩ := for_inv (inj := fun i : Nat => PyData.int (0 + (i : Nat))) (g := gNm 3) (fb := setS 2 (bin2 mulD (.nm 2) (nmB 0))) (fi := itR1 (nmB 1)) (ρ := [.va (.int b), .va (.int (n : Nat)), .va (.int 1), .un]) (ρ1 := [.va (.int b), .va (.int (n : Nat)), .va (.int 1), .un]) (xs := List.range n)
    (fun i ρ => ∃ x3, x3.free = true ∧ ρ = [.va (.int b), .va (.int (n : Nat)), .va (.int (b ^ i)), x3])
    (by
      have h1 : n < 16777216 := by omega
      unfold itR1
      simp [h1, rangeI]) ⟨.un, rfl, by simp⟩ (fun i x hx ρ hI => by
      obtain ⟨x3, h3, rfl⟩ := hI
      have hi : i < n := by
        have := (List.getElem?_eq_some_iff.mp hx).1
        simpa using this
      have hs := small_of (by omega) hb2 (show i ≤ 8 by omega) (Int.le_refl (b ^ i)) (Int.le_of_lt (Int.pow_pos (by omega)))
      have hmm : CMulX (b ^ i) b := cmulX_lt (by omega) (by omega)
      exact ⟨[.va (.int b), .va (.int (n : Nat)), .va (.int (b ^ i)), .va (.int (0 + (x : Nat)))], .nx, _, by simp [h3], by simp [mulD_int, hmm]; rfl, .inl rfl, .va (.int (0 + (x : Nat))), rfl, by rw [Int.pow_succ]; simp⟩)
  rw [List.length_range] at e
  have fin : ∀ fb : SM, fb = (seqS (setS 2 (cst (.int 1))) (seqS (forS (itR1 (nmB 1)) (gNm 3) (setS 2 (bin2 mulD (.nm 2) (nmB 0)))) (retS (nmM 2)))) → ∃ ρ', bodyM 2 fb [.va (.int b), .va (.int (n : Nat))] = some (.va (.int (b ^ n)), ρ') := fun fb hfb => by
    refine ⟨_, body_rt (ρ := [.va (.int b), .va (.int (n : Nat)), .va (.int (b ^ n)), x3]) ?_⟩
    show fb [.va (.int b), .va (.int (n : Nat)), .un, .un] = _
    rw [hfb, seq_nx (ρ1 := [.va (.int b), .va (.int (n : Nat)), .va (.int 1), .un]) (by simp), seq_nx e]
    simp
  rcases hm with rfl | rfl
  · exact fin _ rfl
  · exact fin _ rfl
theorem cod_get {b : Int} (hb : 0 < b) : ∀ (n : Nat) (k : Int) (j : Nat), j < n → (cod b n k)[j]? = some (wv b (k / b ^ (n - j)) (k / b ^ (n - 1 - j) % b))
  | 0, _, j, h => by omega
  | n + 1, k, j, h => by
    have dd : ∀ i : Nat, k / b / b ^ i = k / b ^ (i + 1) := fun i => by
      rw [Int.pow_succ, Int.mul_comm (b ^ i) b]
      exact Int.ediv_ediv_of_nonneg (by omega)
    show (cod b n (k / b) ++ [wv b (k / b) (k % b)])[j]? = _
    by_cases hj : j < n
    · rw [List.getElem?_append_left (by rw [cod_length]; exact hj), cod_get hb n (k / b) j hj, dd, dd, show n - j + 1 = n + 1 - j by omega, show n - 1 - j + 1 = n + 1 - 1 - j by omega]
    · have : j = n := by omega
      subst this
      rw [List.getElem?_append_right (by rw [cod_length]; exact Nat.le_refl _), cod_length, Nat.sub_self]
      rw [show j + 1 - j = 1 by omega, show j + 1 - 1 - j = 0 by omega]
      simp [show b ^ 1 = b by rw [Int.pow_succ]; simp]
theorem law_code_eq {b : Int} (hb : 2 ≤ b) (hb2 : b ≤ 8) (n : Nat) (hn : n ≤ 8) (k : Int) (h0 : 0 ≤ k) (h1 : k ≤ b ^ n) : ∃ ρ', m__law_code [.va (.int b), .va (.int (n : Nat)), .va (.int k)] = some (.va (.tuple ((cod b n k).map .int)), ρ') := by
  have pp : ∀ i : Nat, (0 : Int) < b ^ i := fun i => Int.pow_pos (by omega)
  have lc := lc_map (inj := fun i : Nat => PyData.int (0 + (i : Nat))) (g := gNm 3) (fe := (bin2 fdivD (.nm 2) (evD (callM m__law_power [(nmV 0), (bin2 subD (.nm 1) (nmB 3))])))) (vs := [7, 3]) (fi := (itR1 (evD (bin2 addD (.nm 1) (evD (cst (.int 1))))))) (ρ := [.va (.int b), .va (.int (n : Nat)), .va (.int k), .un, .un, .un, .un, .un]) (ρ1 := [.va (.int b), .va (.int (n : Nat)), .va (.int k), .un, .un, .un, .un, .un]) (ρw := [.va (.int b), .va (.int (n : Nat)), .va (.int k), .un, .un, .un, .un, .un]) (xs := List.range (n + 1)) (fun i => .int (k / b ^ (n - i)))
    (by
      have h1 : ((n : Int) + 1).natAbs < 16777216 := by omega
      have h2 : ((n : Int) + 1).toNat = n + 1 := by omega
      unfold itR1
      simp [h1, h2, rangeI]) (by rfl) (fun i hi => by
      have hi' : i < n + 1 := by simpa using hi
      obtain ⟨_, e⟩ := power_eq' hb hb2 (n - i) (by omega) m__law_power (.inl rfl)
      have en : ((n - i : Nat) : Int) = (n : Int) - i := by omega
      rw [en] at e
      have hs := small_of (by omega) hb2 (show n - i ≤ 8 by omega) (Int.le_refl (b ^ (n - i))) (Int.le_of_lt (pp _))
      have hp := pp (n - i)
      refine ⟨[.va (.int b), .va (.int (n : Nat)), .va (.int k), .va (.int (i : Nat)), .un, .un, .un, .un], [.va (.int b), .va (.int (n : Nat)), .va (.int k), .va (.int (i : Nat)), .un, .un, .un, .un], by simp, ?_, by rfl⟩
      simp [e, fdivD_int hp (log2_lt9 (by omega))]) (by rw [List.length_range]; exact Nat.le_trans (show n + 1 ≤ 9 by omega) (by decide))
  generalize hH : (List.range (n + 1)).map (fun i => PyData.int (k / b ^ (n - i))) = H at lc
  have hHl : H.length = n + 1 := by rw [← hH]; simp
  have hat : ∀ i : Nat, i ≤ n → atD (.list H) (.int (i : Nat)) = some (.va (.int (k / b ^ (n - i)))) := fun i hi => by
    rw [atD_list (by omega) (by omega)]
    subst hH
    simp
  obtain ⟨ρ', e, x3, x6, h3, h6, rfl⟩ := for_inv (inj := fun i : Nat => PyData.int (1 + (i : Nat))) (g := gNm 3) (fb := (seqS (setS 6 (bin2 subD (.ex (bin2 atD (.nm 4) (nmB 3))) (evD (bin2 mulD (.nm 0) (evD (bin2 atD (.nm 4) (evD (bin2 subD (.nm 3) (evD (cst (.int 1)))))))))))
    (exprS (mtM1 appD 5 (ifE (cmpT eqC (.ex (bin2 modD (.ex (un1 intD (evD (bin2 atD (.nm 4) (evD (bin2 subD (.nm 3) (evD (cst (.int 1))))))))) (evD (cst (.int 2))))) (evD (cst (.int 0)))) (nmV 6) (bin2 subD (.ex (bin2 subD (.nm 0) (evD (cst (.int 1))))) (nmB 6))))))) (fi := (itR2 (.ex (cst (.int 1))) (evD (bin2 addD (.nm 1) (evD (cst (.int 1)))))))
    (ρ := [.va (.int b), .va (.int (n : Nat)), .va (.int k), .un, .ow .loc (.lst H), .ow .loc (.lst []), .un, .un]) (ρ1 := [.va (.int b), .va (.int (n : Nat)), .va (.int k), .un, .ow .loc (.lst H), .ow .loc (.lst []), .un, .un]) (xs := List.range n)
    (fun i ρ => ∃ x3 x6, x3.free = true ∧ x6.free = true ∧ ρ = [.va (.int b), .va (.int (n : Nat)), .va (.int k), x3, .ow .loc (.lst H), .ow .loc (.lst (((cod b n k).take i).map .int)), x6, .un])
    (by
      have h1 : ((n : Int) + 1).natAbs < 16777216 := by omega
      have h2 : ((n : Int) + 1 - 1).toNat = n := by omega
      unfold itR2
      simp [h1, rangeI]) ⟨.un, .un, rfl, rfl, rfl⟩ (fun i x hx ρ hI => by
      obtain ⟨x3, x6, h3, h6, rfl⟩ := hI
      have hi : i < n ∧ x = i := by
        obtain ⟨h, e⟩ := List.getElem?_eq_some_iff.mp hx
        simp at h e
        exact ⟨by omega, e.symm⟩
      obtain ⟨hi, rfl⟩ := hi
      have a1 := hat x (by omega)
      have a2 := hat (x + 1) (by omega)
      have dd : k / b ^ (n - x) = k / b ^ (n - (x + 1)) / b := by
        rw [Int.ediv_ediv_of_nonneg (Int.le_of_lt (pp _)), ← Int.pow_succ, show (n - (x + 1)).succ = n - x by omega]
      have dm := Int.mul_ediv_add_emod (k / b ^ (n - (x + 1))) b
      have hg := cod_get (show 0 < b by omega) n k x hi
      rw [show n - 1 - x = n - (x + 1) by omega] at hg
      have ht : (cod b n k).take (x + 1) = (cod b n k).take x ++ [wv b (k / b ^ (n - x)) (k / b ^ (n - (x + 1)) % b)] := by
        rw [List.take_succ, hg]; rfl
      have ks := small_of (by omega) hb2 hn h1 h0
      have q0 : 0 ≤ k / b ^ (n - x) := Int.ediv_nonneg h0 (Int.le_of_lt (pp _))
      have q1 : k / b ^ (n - x) ≤ k := Int.ediv_le_self _ h0
      have hm : CMulX b (k / b ^ (n - x)) := cmulX_lt (by omega) (by omega)
      rw [← dd] at dm
      refine ⟨[.va (.int b), .va (.int (n : Nat)), .va (.int k), .va (.int (1 + (x : Nat))), .ow .loc (.lst H), .ow .loc (.lst (((cod b n k).take x).map .int)), x6, .un], .nx, [.va (.int b), .va (.int (n : Nat)), .va (.int k), .va (.int (1 + (x : Nat))), .ow .loc (.lst H), .ow .loc (.lst (((cod b n k).take (x + 1)).map .int)), .va (.int (k / b ^ (n - (x + 1)) % b)), .un], by simp [h3], ?_, .inl rfl, _, _, rfl, rfl, rfl⟩
      have ex1 : (1 + (x : Int)) = ((x + 1 : Nat) : Int) := by omega
      have ex2 : (((x + 1 : Nat) : Int) - 1) = (x : Nat) := by omega
      have own : k / b ^ (n - (x + 1)) - b * (k / b ^ (n - x)) = k / b ^ (n - (x + 1)) % b := by omega
      have ap : ∀ d : Int, appD (((cod b n k).take x).map .int) (.int d) = some ((((cod b n k).take x ++ [d]).map .int), .none) := fun d => by
        rw [appD_eq (by simp; omega)]
        simp
      rw [ht, ex1]
      unfold wv
      generalize k / b ^ (n - (x + 1)) = A at *
      generalize k / b ^ (n - x) = B at *
      by_cases hp : B % 2 = 0
      · simp only [seqS_e, setS_e, bin2_e, ev2_ex_e, ev2_nm_e, evD_e, nmB_e, nmV_e, cst_e, List.getElem?_cons_zero, List.getElem?_cons_succ, ex2, a1, a2, subD_int, mulD_int hm, own, isFree_e, h6, if_true, List.set_cons_succ, List.set_cons_zero, exprS_e, mtM1_e, ifE_e, cmpT_e, un1_e, intD_int, modD_int (show (0 : Int) < 2 by decide), eqC_int, hp, decide_true, ap, mut_loc]
      · simp only [seqS_e, setS_e, bin2_e, ev2_ex_e, ev2_nm_e, evD_e, nmB_e, nmV_e, cst_e, List.getElem?_cons_zero, List.getElem?_cons_succ, ex2, a1, a2, subD_int, mulD_int hm, own, isFree_e, h6, if_true, List.set_cons_succ, List.set_cons_zero, exprS_e, mtM1_e, ifE_e, cmpT_e, un1_e, intD_int, modD_int (show (0 : Int) < 2 by decide), eqC_int, hp, decide_false, ap, mut_loc, if_false])
  rw [List.length_range] at e
  have htk : (cod b n k).take n = cod b n k := List.take_of_length_le (by rw [cod_length]; exact Nat.le_refl _)
  rw [htk] at e
  refine ⟨_, body_rt (ρ := [.va (.int b), .va (.int (n : Nat)), .va (.int k), x3, .ow .loc (.lst H), .ow .loc (.lst ((cod b n k).map .int)), x6, .un]) ?_⟩
  show b__law_code [.va (.int b), .va (.int (n : Nat)), .va (.int k), .un, .un, .un, .un, .un] = _
  unfold b__law_code
  rw [seq_nx (ρ1 := [.va (.int b), .va (.int (n : Nat)), .va (.int k), .un, .ow .loc (.lst H), .un, .un, .un]) (by rw [setS_e, lc]; simp), seq_nx (ρ1 := [.va (.int b), .va (.int (n : Nat)), .va (.int k), .un, .ow .loc (.lst H), .ow .loc (.lst []), .un, .un]) (by simp), seq_nx e]
  simp
theorem asInts_ints (xs : List Int) : asInts (xs.map .int) = some xs := by
  induction xs with
  | nil => rfl
  | cons x xs ih => simp only [List.map_cons, asInts, ih]
theorem sumD_ints (xs : List Int) : sumD (.list (xs.map .int)) = some (.va (.int xs.sum)) := by
  show (asInts _).map _ = _
  rw [asInts_ints]
  rfl
theorem apart_eq (b x y : Int) : ∃ ρ', m_apart [.va (.int b), .va (.bool false), .va (.int x), .va (.int y)] = some (.va (.int (if x - y < 0 then -(x - y) else x - y)), ρ') := by
  refine ⟨_, body_rt (ρ := [.va (.int b), .va (.bool false), .va (.int x), .va (.int y), .va (.int (if x - y < 0 then -(x - y) else x - y))]) ?_⟩
  show b_apart [.va (.int b), .va (.bool false), .va (.int x), .va (.int y), .un] = _
  unfold b_apart
  simp
theorem zsD_ints (xs ys : List Int) : zsD (xs.map .int) (ys.map .int) = (xs.zip ys).map fun p => PyData.tuple [.int p.1, .int p.2] := by
  unfold zsD
  rw [List.zip_map, List.map_map]
  rfl
theorem turns_eq (b : Int) (xs ys : List Int) (hl : xs.length = ys.length) (hl2 : xs.length ≤ 8) : ∃ ρ', m_turns [.va (.int b), .va (.bool false), .va (.tuple (xs.map .int)), .va (.tuple (ys.map .int))] = some (.va (.int (gapS xs ys)), ρ') := by
  have lc := lc_map (inj := fun p : Int × Int => PyData.tuple [.int p.1, .int p.2]) (g := (gTp (gsCons (gNm 5) (gsCons (gNm 6) gsNil)))) (fe := (callM m_apart [(nmV 0), (nmV 1), (nmV 5), (nmV 6)])) (vs := [4, 5, 6]) (fi := (itZs (nmV 2) (nmV 3)))
    (ρ := [.va (.int b), .va (.bool false), .va (.tuple (xs.map .int)), .va (.tuple (ys.map .int)), .un, .un, .un]) (ρ1 := [.va (.int b), .va (.bool false), .va (.tuple (xs.map .int)), .va (.tuple (ys.map .int)), .un, .un, .un]) (ρw := [.va (.int b), .va (.bool false), .va (.tuple (xs.map .int)), .va (.tuple (ys.map .int)), .un, .un, .un]) (xs := xs.zip ys) (fun p => .int (if p.1 - p.2 < 0 then -(p.1 - p.2) else p.1 - p.2))
    (by
      rw [← zsD_ints]
      simp [itZs, seqOf, hl]) (by rfl) (fun p hp => by
      obtain ⟨_, e⟩ := apart_eq b p.1 p.2
      refine ⟨[.va (.int b), .va (.bool false), .va (.tuple (xs.map .int)), .va (.tuple (ys.map .int)), .un, .va (.int p.1), .va (.int p.2)], [.va (.int b), .va (.bool false), .va (.tuple (xs.map .int)), .va (.tuple (ys.map .int)), .un, .va (.int p.1), .va (.int p.2)], by simp [gTp, gsCons, gsNil], ?_, by rfl⟩
      simp only [evD_e, callM_e, evAgs_cons, evAgs_nil, nmV_e, List.getElem?_cons_zero, List.getElem?_cons_succ, List.map_cons, List.map_nil, e]) (by rw [List.length_zip]; exact Nat.le_trans (show min xs.length ys.length ≤ 8 by omega) (by decide))
  have e : (xs.zip ys).map (fun p => PyData.int (if p.1 - p.2 < 0 then -(p.1 - p.2) else p.1 - p.2)) = ((xs.zip ys).map fun p => if p.1 - p.2 < 0 then -(p.1 - p.2) else p.1 - p.2).map .int := by
    rw [List.map_map]
    rfl
  rw [e] at lc
  refine ⟨_, body_rt (ρ := [.va (.int b), .va (.bool false), .va (.tuple (xs.map .int)), .va (.tuple (ys.map .int)), .un, .un, .un]) ?_⟩
  show b_turns [.va (.int b), .va (.bool false), .va (.tuple (xs.map .int)), .va (.tuple (ys.map .int)), .un, .un, .un] = _
  unfold b_turns
  simp only [retS_e, un1_e, evD_e, lc, sumD_ints]
  rfl
/-- how often each wheel turns -/
def tcs (b : Int) (n : Nat) : List Int := (List.range n).map fun i => b ^ i * (b - 1)
theorem tcs_sum (b : Int) : ∀ n : Nat, (tcs b n).sum = b ^ n - 1
  | 0 => by simp [tcs]
  | n + 1 => by
    have e : tcs b (n + 1) = tcs b n ++ [b ^ n * (b - 1)] := by
      unfold tcs
      rw [List.range_succ, List.map_append]
      rfl
    rw [e, List.sum_append, tcs_sum b n, Int.pow_succ, Int.mul_sub]
    simp
    omega
theorem tc_elem {b : Int} (hb : 2 ≤ b) (hb2 : b ≤ 8) (i : Nat) (hi : i ≤ 8) : mulD (.int (b ^ i)) (.int (b - 1)) = some (.va (.int (b ^ i * (b - 1)))) := by
  have hs := small_of (by omega) hb2 hi (Int.le_refl (b ^ i)) (Int.le_of_lt (Int.pow_pos (by omega)))
  exact mulD_int (cmulX_lt (by omega) (by omega))
theorem turn_counts_eq {b : Int} (hb : 2 ≤ b) (hb2 : b ≤ 8) (n : Nat) (hn : n ≤ 8) : ∃ ρ', m_turn_counts [.va (.int b), .va (.int (n : Nat))] = some (.ow .loc (.lst ((tcs b n).map .int)), ρ') := by
  have lc := lc_map (inj := fun i : Nat => PyData.int (0 + (i : Nat))) (g := gNm 3) (fe := (bin2 mulD (.ex (callM m_power [(nmV 0), (nmV 3)])) (evD (bin2 subD (.nm 0) (evD (cst (.int 1))))))) (vs := [2, 3]) (fi := itR1 (nmB 1)) (ρ := [.va (.int b), .va (.int (n : Nat)), .un, .un]) (ρ1 := [.va (.int b), .va (.int (n : Nat)), .un, .un]) (ρw := [.va (.int b), .va (.int (n : Nat)), .un, .un]) (xs := List.range n) (fun i => .int (b ^ i * (b - 1)))
    (by
      have h1 : n < 16777216 := by omega
      unfold itR1
      simp [h1, rangeI]) (by rfl) (fun i hi => by
      have hi' : i < n := by simpa using hi
      obtain ⟨_, e⟩ := power_eq' hb hb2 i (by omega) m_power (.inr rfl)
      have tm := tc_elem hb hb2 i (by omega)
      exact ⟨[.va (.int b), .va (.int (n : Nat)), .un, .va (.int (i : Nat))], [.va (.int b), .va (.int (n : Nat)), .un, .va (.int (i : Nat))], by simp, by simp [e, tm], by rfl⟩) (by rw [List.length_range]; exact Nat.le_trans hn (by decide))
  have e : (List.range n).map (fun i => PyData.int (b ^ i * (b - 1))) = (tcs b n).map .int := by
    unfold tcs
    rw [List.map_map]
    rfl
  rw [e] at lc
  refine ⟨_, body_rt (ρ := [.va (.int b), .va (.int (n : Nat)), .un, .un]) ?_⟩
  show b_turn_counts [.va (.int b), .va (.int (n : Nat)), .un, .un] = _
  unfold b_turn_counts
  rw [retS_e, lc]

/-! ### k43: the closed tour runs -/
def TL (j N : Nat) (xs : List D) : Prop := xs.length ≤ N ∧ ∀ x ∈ xs, ∃ ds, x = .tuple ds ∧ ds.length ≤ j
def digs (b : Nat) (r : Bool) : List Int := if r then (ofR b).reverse else ofR b
where ofR (b : Nat) : List Int := (List.range b).map fun i : Nat => Int.ofNat i
theorem digs_len (b : Nat) (r : Bool) : (digs b r).length = b := by
  unfold digs digs.ofR
  split <;> simp
abbrev mirIn : SM := (seqS (setS 7 (rgL (itR1 (nmB 0))))
  (exprS (mtM1 extD 4 (lcM [8, 9] (itS (ifE (cmpT eqC (.ex (bin2 modD (.nm 5) (evD (cst (.int 2))))) (evD (cst (.int 0)))) (nmV 7) (un1 revD (evD (nmV 7))))) (gNm 9) yesT (bin2 addD (.nm 6) (evD (tupM [(nmV 9)])))))))
theorem extD_eq {xs ys : List D} (h : xs.length + ys.length ≤ 10000000) : extD xs (.list ys) = some (xs ++ ys, .none) := if_pos (Nat.le_trans h (by decide))
theorem mir_in (b : Nat) (hb : b ≤ 8) (x1 x2 x3 x7 : Sl) (h7 : x7.free = true) (at' : Int) (ys cs : List D) (hy : ys.length ≤ 10000) (hc : cs.length ≤ 100) :
    ∃ zs, zs.length = b ∧ (∀ z ∈ zs, ∃ ds, z = .tuple ds ∧ ds.length ≤ cs.length + 1) ∧ ∃ x7', x7'.free = true ∧ mirIn [.va (.int (b : Nat)), x1, x2, x3, .ow .loc (.lst ys), .va (.int at'), .va (.tuple cs), x7, .un, .un] = some (.nx, [.va (.int (b : Nat)), x1, x2, x3, .ow .loc (.lst (ys ++ zs)), .va (.int at'), .va (.tuple cs), x7', .un, .un]) := by
  have hr : (List.range b).map (fun i : Nat => PyData.int (0 + (i : Nat))) = (digs b false).map .int := by
    unfold digs digs.ofR
    simp
  have hrev : ((digs b false).map PyData.int).reverse = (digs b true).map .int := by
    unfold digs
    simp
  have s1 : setS 7 (rgL (itR1 (nmB 0))) [.va (.int (b : Nat)), x1, x2, x3, .ow .loc (.lst ys), .va (.int at'), .va (.tuple cs), x7, .un, .un] = some (.nx, [.va (.int (b : Nat)), x1, x2, x3, .ow .loc (.lst ys), .va (.int at'), .va (.tuple cs), .ow .loc (.lst ((digs b false).map .int)), .un, .un]) := by
    have h1 : b < 16777216 := by omega
    simp only [setS_e, rgL, itR1, nmB_e, List.getElem?_cons_zero, List.getElem?_cons_succ]
    simp [h1, h7, rangeI, ← hr]
  have lc := lc_map (inj := PyData.int) (g := gNm 9) (fe := (bin2 addD (.nm 6) (evD (tupM [(nmV 9)])))) (vs := [8, 9]) (fi := itS (ifE (cmpT eqC (.ex (bin2 modD (.nm 5) (evD (cst (.int 2))))) (evD (cst (.int 0)))) (nmV 7) (un1 revD (evD (nmV 7)))))
    (ρ := [.va (.int (b : Nat)), x1, x2, x3, .ow .loc (.lst ys), .va (.int at'), .va (.tuple cs), .ow .loc (.lst ((digs b false).map .int)), .un, .un]) (ρ1 := [.va (.int (b : Nat)), x1, x2, x3, .ow .loc (.lst ys), .va (.int at'), .va (.tuple cs), .va (.list ((digs b false).map .int)), .un, .un]) (ρw := [.va (.int (b : Nat)), x1, x2, x3, .ow .loc (.lst ys), .va (.int at'), .va (.tuple cs), .va (.list ((digs b false).map .int)), .un, .un]) (xs := digs b (decide (¬ at' % 2 = 0))) (fun d => .tuple (cs ++ [.int d]))
    (by
      by_cases hp : at' % 2 = 0
      · simp [itS, modD_int, hp]
      · simp [itS, modD_int, hp, hrev]) (by rfl) (fun d hd => by
      refine ⟨[.va (.int (b : Nat)), x1, x2, x3, .ow .loc (.lst ys), .va (.int at'), .va (.tuple cs), .va (.list ((digs b false).map .int)), .un, .va (.int d)], [.va (.int (b : Nat)), x1, x2, x3, .ow .loc (.lst ys), .va (.int at'), .va (.tuple cs), .va (.list ((digs b false).map .int)), .un, .va (.int d)], by simp, ?_, by rfl⟩
      have ad : addD (.tuple cs) (.tuple [.int d]) = some (.va (.tuple (cs ++ [.int d]))) := addD_tuple (by simp; omega)
      simp [ad]) (by rw [digs_len]; exact Nat.le_trans hb (by decide))
  refine ⟨(digs b (decide (¬ at' % 2 = 0))).map fun d => .tuple (cs ++ [.int d]), by rw [List.length_map, digs_len], fun z hz => ?_, .va (.list ((digs b false).map .int)), rfl, ?_⟩
  · obtain ⟨d, _, rfl⟩ := List.mem_map.mp hz
    exact ⟨_, rfl, by simp⟩
  · unfold mirIn
    rw [seq_nx s1]
    simp only [exprS_e, mtM1_e, evD_e, lc, List.getElem?_cons_zero, List.getElem?_cons_succ, mut_loc, if_true]
    rw [extD_eq (by rw [List.length_map, digs_len]; omega)]
    simp
abbrev mirOut : SM := (seqS (setS 4 (lstM []))
  (seqS (forS (itEn (nmV 2)) (gTp (gsCons (gNm 5) (gsCons (gNm 6) gsNil))) mirIn)
  (setS 2 (nmV 4))))
theorem mir_out (b : Nat) (hb : b ≤ 8) (j N : Nat) (hj : j ≤ 90) (hN : N * b ≤ 10000) (xs : List D) (hx : TL j N xs) (x1 x2 x3 x4 x5 x6 x7 : Sl) (h2 : x2 = .va (.list xs) ∨ x2 = .ow .loc (.lst xs)) (h4 : x4.free = true) (h5 : x5.free = true) (h6 : x6.free = true) (h7 : x7.free = true) :
    ∃ zs, TL (j + 1) (N * b) zs ∧ zs.length = xs.length * b ∧ ∃ x5' x6' x7', x5'.free = true ∧ x6'.free = true ∧ x7'.free = true ∧ mirOut [.va (.int (b : Nat)), x1, x2, x3, x4, x5, x6, x7, .un, .un] = some (.nx, [.va (.int (b : Nat)), x1, .va (.list zs), x3, .va (.list zs), x5', x6', x7', .un, .un]) := by
  have hen : enD xs = (xs.zipIdx).map fun p : D × Nat => PyData.tuple [.int (p.2 : Nat), p.1] := by
    apply List.ext_getElem (by simp [enD])
    intro i h1 h2
    simp [enD]
  obtain ⟨ρ', e, ys, x5', x6', x7', g5, g6, g7, hl, hz, rfl⟩ := for_inv (inj := fun p : D × Nat => PyData.tuple [.int (p.2 : Nat), p.1]) (g := (gTp (gsCons (gNm 5) (gsCons (gNm 6) gsNil)))) (fb := mirIn) (fi := itEn (nmV 2))
    (ρ := [.va (.int (b : Nat)), x1, x2, x3, .ow .loc (.lst []), x5, x6, x7, .un, .un]) (ρ1 := [.va (.int (b : Nat)), x1, .va (.list xs), x3, .ow .loc (.lst []), x5, x6, x7, .un, .un]) (xs := xs.zipIdx)
    (fun i ρ => ∃ ys x5 x6 x7, x5.free = true ∧ x6.free = true ∧ x7.free = true ∧ ys.length = i * b ∧ (∀ z ∈ ys, ∃ ds, z = PyData.tuple ds ∧ ds.length ≤ j + 1) ∧ ρ = [.va (.int (b : Nat)), x1, .va (.list xs), x3, .ow .loc (.lst ys), x5, x6, x7, .un, .un])
    (by
      rw [← hen]
      rcases h2 with rfl | rfl <;> simp [itEn]) ⟨[], x5, x6, x7, h5, h6, h7, by simp, (fun z hz => (List.not_mem_nil hz).elim), rfl⟩ (fun i p hp ρ hI => by
      obtain ⟨ys, x5, x6, x7, h5, h6, h7, hl, hz, rfl⟩ := hI
      have hm : p.1 ∈ xs := by
        have q := List.mem_of_getElem? hp
        exact List.fst_mem_of_mem_zipIdx q
      have hi : i < xs.length := by
        have := (List.getElem?_eq_some_iff.mp hp).1
        simpa using this
      obtain ⟨cs, hcs, hcl⟩ := hx.2 _ hm
      have hib : i * b ≤ N * b := Nat.mul_le_mul_right _ (Nat.le_of_lt (Nat.lt_of_lt_of_le hi hx.1))
      obtain ⟨zs, hzl, hzz, x7', g7, em⟩ := mir_in b hb x1 (.va (.list xs)) x3 x7 h7 (p.2 : Nat) ys cs (by omega) (by omega)
      refine ⟨[.va (.int (b : Nat)), x1, .va (.list xs), x3, .ow .loc (.lst ys), .va (.int (p.2 : Nat)), .va (.tuple cs), x7, .un, .un], .nx, _, by rw [hcs]; simp [gTp, gsCons, gsNil, h5, h6], em, .inl rfl, ys ++ zs, _, _, x7', rfl, rfl, g7, by rw [List.length_append, hl, hzl, Nat.succ_mul], fun z h => ?_, rfl⟩
      rcases List.mem_append.mp h with h | h
      · exact hz z h
      · obtain ⟨ds, e1, e2⟩ := hzz z h
        exact ⟨ds, e1, by omega⟩)
  rw [List.length_zipIdx] at hl
  refine ⟨ys, ⟨by rw [hl]; exact Nat.mul_le_mul_right _ hx.1, hz⟩, hl, x5', x6', x7', g5, g6, g7, ?_⟩
  unfold mirOut
  rw [seq_nx (ρ1 := [.va (.int (b : Nat)), x1, x2, x3, .ow .loc (.lst []), x5, x6, x7, .un, .un]) (by simp [h4]), seq_nx e]
  simp
theorem mirrored_eq (b : Nat) (hb : b ≤ 8) (n : Nat) (hn : n ≤ 8) (hbn : b ^ n ≤ 300) (hb1 : 1 ≤ b) : ∃ xs r ρ', (r = Sl.va (.list xs) ∨ r = .ow .loc (.lst xs)) ∧ TL n (b ^ n) xs ∧ xs.length = b ^ n ∧ m_mirrored [.va (.int (b : Nat)), .va (.int (n : Nat))] = some (r, ρ') := by
  have mono : ∀ i, i ≤ n → b ^ i ≤ 300 := fun i hi => Nat.le_trans (Nat.pow_le_pow_right hb1 hi) hbn
  obtain ⟨ρ', e, xs, x2, x3, x4, x5, x6, x7, h3, h4, h5, h6, h7, h2, htl, hlen, rfl⟩ := for_inv (inj := fun i : Nat => PyData.int (0 + (i : Nat))) (g := gNm 3) (fb := mirOut) (fi := itR1 (nmB 1))
    (ρ := [.va (.int (b : Nat)), .va (.int (n : Nat)), .ow .loc (.lst [.tuple []]), .un, .un, .un, .un, .un, .un, .un]) (ρ1 := [.va (.int (b : Nat)), .va (.int (n : Nat)), .ow .loc (.lst [.tuple []]), .un, .un, .un, .un, .un, .un, .un]) (xs := List.range n)
    (fun i ρ => ∃ xs x2 x3 x4 x5 x6 x7, x3.free = true ∧ x4.free = true ∧ x5.free = true ∧ x6.free = true ∧ x7.free = true ∧ (x2 = Sl.va (.list xs) ∨ x2 = .ow .loc (.lst xs)) ∧ TL i (b ^ i) xs ∧ xs.length = b ^ i ∧ ρ = [.va (.int (b : Nat)), .va (.int (n : Nat)), x2, x3, x4, x5, x6, x7, .un, .un])
    (by
      have h1 : n < 16777216 := by omega
      unfold itR1
      simp [h1, rangeI]) ⟨[.tuple []], _, .un, .un, .un, .un, .un, rfl, rfl, rfl, rfl, rfl, .inr rfl, ⟨by simp, fun x hx => by rw [List.mem_singleton] at hx; exact ⟨[], hx, Nat.le_refl _⟩⟩, by simp, rfl⟩ (fun i x hx ρ hI => by
      obtain ⟨xs, x2, x3, x4, x5, x6, x7, h3, h4, h5, h6, h7, h2, htl, hlen, rfl⟩ := hI
      have hi : i < n := by
        have := (List.getElem?_eq_some_iff.mp hx).1
        simpa using this
      have hm := mono (i + 1) hi
      rw [Nat.pow_succ] at hm
      obtain ⟨zs, t1, t2, x5', x6', x7', g5, g6, g7, em⟩ := mir_out b hb i (b ^ i) (by omega) (by omega) xs htl (.va (.int (n : Nat))) x2 (.va (.int (0 + (x : Nat)))) x4 x5 x6 x7 h2 h4 h5 h6 h7
      refine ⟨[.va (.int (b : Nat)), .va (.int (n : Nat)), x2, .va (.int (0 + (x : Nat))), x4, x5, x6, x7, .un, .un], .nx, _, by simp [h3], em, .inl rfl, zs, _, _, _, x5', x6', x7', rfl, rfl, g5, g6, g7, .inl rfl, by rw [Nat.pow_succ]; exact t1, by rw [t2, hlen, Nat.pow_succ], rfl⟩)
  rw [List.length_range] at htl hlen
  refine ⟨xs, x2, _, h2, htl, hlen, body_rt (ρ := [.va (.int (b : Nat)), .va (.int (n : Nat)), (match x2 with | .va d => .va d | _ => .un), x3, x4, x5, x6, x7, .un, .un]) ?_⟩
  show b_mirrored [.va (.int (b : Nat)), .va (.int (n : Nat)), .un, .un, .un, .un, .un, .un, .un, .un] = _
  unfold b_mirrored
  rw [seq_nx (ρ1 := [.va (.int (b : Nat)), .va (.int (n : Nat)), .ow .loc (.lst [.tuple []]), .un, .un, .un, .un, .un, .un, .un]) (by simp), seq_nx e]
  rcases h2 with rfl | rfl <;> simp
theorem pick_mem {α : Type} {xs : List α} {l u o : Option Int} {x : α} (h : x ∈ pickL xs l u o) : x ∈ xs := by
  unfold pickL at h
  obtain ⟨i, _, e⟩ := List.mem_filterMap.mp h
  exact List.mem_of_getElem? e
theorem pick_rev_len {α : Type} (xs : List α) : (pickL xs none (some 0) (some (-1))).length ≤ xs.length := by
  refine Nat.le_trans (List.length_filterMap_le _ _) ?_
  unfold picks
  refine sliceRange_length_le _ _ _ xs.length (fun h => ?_) (fun _ => ?_)
  · exact absurd h (by show ¬ ((-1 : Int) > 0); decide)
  · constructor
    · show (xs.length : Int) - 1 ≤ (xs.length : Int) - 1
      omega
    · show -1 ≤ max (-1) (min 0 ((xs.length : Int) - 1))
      omega
abbrev cloIn : SM := (seqS (setS 5 (ifE (cmpT eqC (.ex (bin2 modD (.nm 4) (evD (cst (.int 2))))) (evD (cst (.int 0)))) (sliN 2 (some (evD (cst (.int 1)))) none) (sl3M (nmV 2) none (some (evD (cst (.int 0)))) (evD (un1 negD (evD (cst (.int 1))))))))
  (exprS (mtM1 extD 3 (lcM [6, 7] (itS (nmV 5)) (gNm 7) yesT (bin2 addD (.nm 7) (evD (tupM [(nmV 4)])))))))
theorem clo_in (b n : Nat) (d : Int) (xs ys : List D) (hx : TL 100 300 xs) (hy : ys.length ≤ 100000) (x2 x5 : Sl) (h2 : x2 = .va (.list xs) ∨ x2 = .ow .loc (.lst xs)) (h5 : x5.free = true) :
    ∃ zs x2' x5', zs.length ≤ 300 ∧ (x2' = Sl.va (.list xs) ∨ x2' = .ow .loc (.lst xs)) ∧ x5'.free = true ∧ cloIn [.va (.int (b : Nat)), .va (.int (n : Nat)), x2, .ow .loc (.lst ys), .va (.int d), x5, .un, .un] = some (.nx, [.va (.int (b : Nat)), .va (.int (n : Nat)), x2', .ow .loc (.lst (ys ++ zs)), .va (.int d), x5', .un, .un]) := by
  have core : ∀ (ts : List D) (x2' : Sl), ts.length ≤ 300 → (∀ t ∈ ts, t ∈ xs) → exprS (mtM1 extD 3 (lcM [6, 7] (itS (nmV 5)) (gNm 7) yesT (bin2 addD (.nm 7) (evD (tupM [(nmV 4)]))))) [.va (.int (b : Nat)), .va (.int (n : Nat)), x2', .ow .loc (.lst ys), .va (.int d), .ow .loc (.lst ts), .un, .un] =
      some (.nx, [.va (.int (b : Nat)), .va (.int (n : Nat)), x2', .ow .loc (.lst (ys ++ ts.map fun t => match t with | .tuple ds => .tuple (ds ++ [.int d]) | t => t)), .va (.int d), .va (.list ts), .un, .un]) := fun ts x2' hl hm => by
    have lc := lc_map (inj := id) (g := gNm 7) (fe := (bin2 addD (.nm 7) (evD (tupM [(nmV 4)])))) (vs := [6, 7]) (fi := itS (nmV 5)) (ρ := [.va (.int (b : Nat)), .va (.int (n : Nat)), x2', .ow .loc (.lst ys), .va (.int d), .ow .loc (.lst ts), .un, .un]) (ρ1 := [.va (.int (b : Nat)), .va (.int (n : Nat)), x2', .ow .loc (.lst ys), .va (.int d), .va (.list ts), .un, .un]) (ρw := [.va (.int (b : Nat)), .va (.int (n : Nat)), x2', .ow .loc (.lst ys), .va (.int d), .va (.list ts), .un, .un]) (xs := ts) (fun t => match t with | .tuple ds => .tuple (ds ++ [.int d]) | t => t)
      (by simp [itS]) (by rfl) (fun t ht => by
        obtain ⟨ds, rfl, hds⟩ := hx.2 t (hm t ht)
        have ad : addD (.tuple ds) (.tuple [.int d]) = some (.va (.tuple (ds ++ [.int d]))) := addD_tuple (by simp; omega)
        exact ⟨[.va (.int (b : Nat)), .va (.int (n : Nat)), x2', .ow .loc (.lst ys), .va (.int d), .va (.list ts), .un, .va (.tuple ds)], [.va (.int (b : Nat)), .va (.int (n : Nat)), x2', .ow .loc (.lst ys), .va (.int d), .va (.list ts), .un, .va (.tuple ds)], by simp, by simp [ad], by rfl⟩) (Nat.le_trans hl (by decide))
    simp only [exprS_e, mtM1_e, evD_e, lc, List.getElem?_cons_zero, List.getElem?_cons_succ, mut_loc, if_true]
    rw [extD_eq (by rw [List.length_map]; omega)]
    simp
  by_cases hp : d % 2 = 0
  · have c2 := cut_drop xs 1
    have s1 : setS 5 (ifE (cmpT eqC (.ex (bin2 modD (.nm 4) (evD (cst (.int 2))))) (evD (cst (.int 0)))) (sliN 2 (some (evD (cst (.int 1)))) none) (sl3M (nmV 2) none (some (evD (cst (.int 0)))) (evD (un1 negD (evD (cst (.int 1))))))) [.va (.int (b : Nat)), .va (.int (n : Nat)), x2, .ow .loc (.lst ys), .va (.int d), x5, .un, .un] = some (.nx, [.va (.int (b : Nat)), .va (.int (n : Nat)), x2, .ow .loc (.lst ys), .va (.int d), .ow .loc (.lst (xs.drop 1)), .un, .un]) := by
      have c3 : cutL xs (some 1) none = xs.drop 1 := c2
      rcases h2 with rfl | rfl <;> simp [modD_int, hp, sliN, c3, h5]
    refine ⟨_, x2, _, ?_, h2, rfl, by unfold cloIn; rw [seq_nx s1, core (xs.drop 1) x2 (by rw [List.length_drop]; have := hx.1; omega) fun t ht => List.mem_of_mem_drop ht]⟩
    rw [List.length_map, List.length_drop]
    have := hx.1
    omega
  · have hl := pick_rev_len xs
    have s1 : setS 5 (ifE (cmpT eqC (.ex (bin2 modD (.nm 4) (evD (cst (.int 2))))) (evD (cst (.int 0)))) (sliN 2 (some (evD (cst (.int 1)))) none) (sl3M (nmV 2) none (some (evD (cst (.int 0)))) (evD (un1 negD (evD (cst (.int 1))))))) [.va (.int (b : Nat)), .va (.int (n : Nat)), x2, .ow .loc (.lst ys), .va (.int d), x5, .un, .un] = some (.nx, [.va (.int (b : Nat)), .va (.int (n : Nat)), .va (.list xs), .ow .loc (.lst ys), .va (.int d), .ow .loc (.lst (pickL xs none (some 0) (some (-1)))), .un, .un]) := by
      have hz : (pickL xs none (some 0) (some (-1))).length ≤ sizeLine := Nat.le_trans hl (Nat.le_trans hx.1 (by decide))
      rcases h2 with rfl | rfl <;> simp [modD_int, hp, sl3M, hz, h5]
    refine ⟨_, .va (.list xs), _, ?_, .inl rfl, rfl, by unfold cloIn; rw [seq_nx s1, core _ (.va (.list xs)) (Nat.le_trans hl hx.1) fun t ht => pick_mem ht]⟩
    rw [List.length_map]
    exact Nat.le_trans hl hx.1
theorem closed_none (b n : Nat) (h : b % 2 = 1 ∨ n < 2) : ∃ ρ', m_closed_tour [.va (.int (b : Nat)), .va (.int (n : Nat))] = some (.va .none, ρ') := by
  refine ⟨_, body_rt (ρ := [.va (.int (b : Nat)), .va (.int (n : Nat)), .un, .un, .un, .un, .un, .un]) ?_⟩
  show b_closed_tour [.va (.int (b : Nat)), .va (.int (n : Nat)), .un, .un, .un, .un, .un, .un] = _
  unfold b_closed_tour
  refine seq_rt ?_
  by_cases h1 : (b : Int) % 2 = 1
  · simp [modD_int, h1]
  · have h2 : (n : Int) < 2 := by omega
    simp [modD_int, h1, h2]
theorem closed_some (b n : Nat) (hb : 2 ≤ b) (hb2 : b ≤ 8) (hn : 2 ≤ n) (hn2 : n ≤ 8) (he : b % 2 = 0) (hbn : b ^ n ≤ 300) : ∃ xs ρ', m_closed_tour [.va (.int (b : Nat)), .va (.int (n : Nat))] = some (.ow .loc (.lst xs), ρ') := by
  have hb1 : b ^ (n - 1) ≤ 300 := Nat.le_trans (Nat.pow_le_pow_right (by omega) (by omega)) hbn
  obtain ⟨xs, r, _, hr, htl, hlen, em⟩ := mirrored_eq b hb2 (n - 1) (by omega) hb1 (by omega)
  have htl' : TL 100 300 xs := ⟨Nat.le_trans htl.1 hb1, fun x hx => by
    obtain ⟨ds, e, h⟩ := htl.2 x hx
    exact ⟨ds, e, by omega⟩⟩
  have en : ((n - 1 : Nat) : Int) = (n : Int) - 1 := by omega
  rw [en] at em
  obtain ⟨ρ', e, ys, x2, x4, x5, h4, h5, h2, hyl, rfl⟩ := for_inv (inj := fun i : Nat => PyData.int (0 + (i : Nat))) (g := gNm 4) (fb := cloIn) (fi := itR1 (nmB 0))
    (ρ := [.va (.int (b : Nat)), .va (.int (n : Nat)), r, .ow .loc (.lst []), .un, .un, .un, .un]) (ρ1 := [.va (.int (b : Nat)), .va (.int (n : Nat)), r, .ow .loc (.lst []), .un, .un, .un, .un]) (xs := List.range b)
    (fun i ρ => ∃ ys x2 x4 x5, (x4 = .un ∨ ∃ d, x4 = .va d) ∧ x5.free = true ∧ (x2 = Sl.va (.list xs) ∨ x2 = .ow .loc (.lst xs)) ∧ ys.length ≤ i * 300 ∧ ρ = [.va (.int (b : Nat)), .va (.int (n : Nat)), x2, .ow .loc (.lst ys), x4, x5, .un, .un])
    (by
      have h1 : b < 16777216 := by omega
      unfold itR1
      simp [h1, rangeI]) ⟨[], r, .un, .un, .inl rfl, rfl, hr, by simp, rfl⟩ (fun i x hx ρ hI => by
      obtain ⟨ys, x2, x4, x5, h4, h5, h2, hyl, rfl⟩ := hI
      have hi : i < b := by
        have := (List.getElem?_eq_some_iff.mp hx).1
        simpa using this
      obtain ⟨zs, x2', x5', hzl, g2, g5, ee⟩ := clo_in b n (0 + (x : Nat)) xs ys htl' (by omega) x2 x5 h2 h5
      exact ⟨[.va (.int (b : Nat)), .va (.int (n : Nat)), x2, .ow .loc (.lst ys), .va (.int (0 + (x : Nat))), x5, .un, .un], .nx, _, by rcases h4 with rfl | ⟨d, rfl⟩ <;> simp, ee, .inl rfl, ys ++ zs, x2', _, x5', .inr ⟨_, rfl⟩, g5, g2, by rw [List.length_append]; omega, rfl⟩)
  rw [List.length_range] at hyl
  obtain ⟨x0, xr, hx0⟩ : ∃ x0 xr, xs = x0 :: xr := by
    cases xs with
    | nil => simp at hlen; have := Nat.pow_pos (n := n - 1) (show 0 < b by omega); omega
    | cons x0 xr => exact ⟨_, _, rfl⟩
  obtain ⟨cs, hcs, hcl⟩ := htl'.2 x0 (by rw [hx0]; simp)
  have at0 : atD (.list xs) (.int 0) = some (.va (.tuple cs)) := by rw [hx0, atD_head, hcs]
  have lc := lc_map (inj := fun i : Nat => PyData.int (((b : Int) - 1) - (i : Nat))) (g := gNm 4) (fe := (bin2 addD (.ex (bin2 atD (.nm 2) (evD (cst (.int 0))))) (evD (tupM [(nmV 4)])))) (vs := [6, 4]) (fi := (itR3 (bin2 subD (.nm 0) (evD (cst (.int 1)))) (un1 negD (evD (cst (.int 1)))) (evD (un1 negD (evD (cst (.int 1)))))))
    (ρ := [.va (.int (b : Nat)), .va (.int (n : Nat)), x2, .ow .loc (.lst ys), x4, x5, .un, .un]) (ρ1 := [.va (.int (b : Nat)), .va (.int (n : Nat)), x2, .ow .loc (.lst ys), x4, x5, .un, .un]) (ρw := [.va (.int (b : Nat)), .va (.int (n : Nat)), x2, .ow .loc (.lst ys), .un, x5, .un, .un]) (xs := List.range b) (fun i => .tuple (cs ++ [.int (((b : Int) - 1) - (i : Nat))]))
    (by
      have h1 : ((b : Int) - 1).natAbs < 16777216 := by omega
      have h3 : ((b : Int) - 1 - -1).toNat = b := by omega
      simp only [itR3, bin2_e, ev2_nm_e, un1_e, evD_e, nmB_e, cst_e, List.getElem?_cons_zero, subD_int, negD_int]
      simp [h1, h3, rangeD])
    (by rcases h4 with rfl | ⟨d, rfl⟩ <;> rfl) (fun i hi => by
      have ad : addD (.tuple cs) (.tuple [.int (((b : Int) - 1) - (i : Nat))]) = some (.va (.tuple (cs ++ [.int (((b : Int) - 1) - (i : Nat))]))) := addD_tuple (by simp; omega)
      refine ⟨[.va (.int (b : Nat)), .va (.int (n : Nat)), x2, .ow .loc (.lst ys), .va (.int (((b : Int) - 1) - (i : Nat))), x5, .un, .un], [.va (.int (b : Nat)), .va (.int (n : Nat)), x2, .ow .loc (.lst ys), .va (.int (((b : Int) - 1) - (i : Nat))), x5, .un, .un], by simp, ?_, by rfl⟩
      rcases h2 with rfl | rfl <;> simp [at0, ad]) (by rw [List.length_range]; exact Nat.le_trans hb2 (by decide))
  generalize hZ : (List.range b).map (fun i => PyData.tuple (cs ++ [.int (((b : Int) - 1) - (i : Nat))])) = Z at lc
  have hZl : Z.length = b := by rw [← hZ]; simp
  refine ⟨ys ++ Z, _, body_rt (ρ := [.va (.int (b : Nat)), .va (.int (n : Nat)), x2, .ow .loc (.lst ys), x4, x5, .un, .un]) ?_⟩
  show b_closed_tour [.va (.int (b : Nat)), .va (.int (n : Nat)), .un, .un, .un, .un, .un, .un] = _
  unfold b_closed_tour
  have a1 : ¬ ((b : Int) % 2 = 1) := by omega
  have a2 : ¬ ((n : Int) < 2) := by omega
  have ad : addD (.list ys) (.list Z) = some (.ow .loc (.lst (ys ++ Z))) := addD_list (by omega)
  rw [seq_nx (ρ1 := [.va (.int (b : Nat)), .va (.int (n : Nat)), .un, .un, .un, .un, .un, .un]) (by simp [modD_int, a1, a2]), seq_nx (ρ1 := [.va (.int (b : Nat)), .va (.int (n : Nat)), r, .un, .un, .un, .un, .un]) (by rcases hr with rfl | rfl <;> simp [em]), seq_nx (ρ1 := [.va (.int (b : Nat)), .va (.int (n : Nat)), r, .ow .loc (.lst []), .un, .un, .un, .un]) (by simp), seq_nx e]
  simp only [retS_e, bin2_e, ev2_nm_e, evD_e, nmB_e, List.getElem?_cons_zero, List.getElem?_cons_succ, lc, ad]

/-! ### k43: the law -/
theorem pick_eq {k : Nat} {o : List D} (h : Pool k o) (hk : k < 2 ^ 80) (xs : List D) (hx : xs ≠ []) (hl : xs.length < 1000000) : ∃ o' d, Pool (k + 1) o' ∧ d ∈ xs ∧ m__law_pick [.ow .par (.lst o), .va (.list xs)] = some (.va d, [.ow .par (.lst o'), .va (.list xs)]) := by
  have hp := List.length_pos_iff.mpr hx
  obtain ⟨o', v, hP, v0, v1, e⟩ := draw_eq h (l := (xs.length : Nat)) (by omega) (by omega) (by omega)
  have hv : v.toNat < xs.length := by omega
  refine ⟨o', xs[v.toNat], hP, List.getElem_mem hv, ?_⟩
  have at1 : atD (.list xs) (.int v) = some (.va xs[v.toNat]) := atD_list v0 v1
  have eb : b__law_pick [.ow .par (.lst o), .va (.list xs)] = some (.rt (.va xs[v.toNat]), [.ow .par (.lst o'), .va (.list xs)]) := by
    unfold b__law_pick
    simp [e, at1]
  exact body_rt (nl := 0) (ρ := [.ow .par (.lst o'), .va (.list xs)]) eb
theorem log2_bits {z : Int} (h : Builtin.Int.intBits z ≤ 1048576) : z.natAbs.log2 ≤ big := by
  rw [big_eq]
  by_cases h0 : z = 0
  · subst h0; decide
  · unfold Builtin.Int.intBits at h
    simp [h0] at h
    omega
abbrev turnB : SM := (seqS (setS 6 (callIO m__law_pick 1 [(lstM [(cst (.int 0)), (bin2 subD (.nm 4) (evD (cst (.int 1)))), (callIO m__law_draw 1 [(nmV 4)])])]))
  (seqS (setS 7 (un1 tupleD (evD (lcM [10, 11] (itR1 (nmB 3)) (gNm 11) yesT (callIO m__law_draw 1 [(nmV 2)])))))
  (seqS (ifS (notT (truT (evD (callM (m__law_same 8) [(lstM [(callM m_code_at [(nmV 2), (nmV 3), (nmV 6)]), (callM m_number_in [(nmV 2), (nmV 7)])]), (lstM [(callM m__law_code [(nmV 2), (nmV 3), (nmV 6)]), (callM m__law_number [(nmV 2), (nmV 7)])])])))) (retS (cst (.bool false))) skipS)
  (seqS (ifS (notT (truT (evD (callM (m__law_same 8) [(lstM [(callM m_number_in [(nmV 2), (callM m__law_code [(nmV 2), (nmV 3), (nmV 6)])]), (callM m_code_at [(nmV 2), (nmV 3), (callM m__law_number [(nmV 2), (nmV 7)])])]), (lstM [(nmV 6), (nmV 7)])])))) (retS (cst (.bool false))) skipS)
  (seqS (ifS (cmpT ltC (.ex (bin2 addD (.nm 6) (evD (cst (.int 1))))) (nmB 4)) (seqS (setS 8 (callM m_code_at [(nmV 2), (nmV 3), (bin2 addD (.nm 6) (evD (cst (.int 1))))]))
  (ifS (cmpT neC (.ex (callM m_turns [(nmV 2), (cst (.bool false)), (callM m_code_at [(nmV 2), (nmV 3), (nmV 6)]), (nmV 8)])) (evD (cst (.int 1)))) (retS (cst (.bool false))) skipS)) skipS)
  (exprS (callIO m__law_next 1 [])))))))
abbrev r43 (S P : Sl) (b : Int) (n : Nat) (w : Int) (x5 x6 x7 x8 : Sl) : Rho := [S, P, .va (.int b), .va (.int (n : Nat)), .va (.int w), x5, x6, x7, x8, .un, .un, .un]
theorem turn_step {b : Int} (hb : 2 ≤ b) (hb2 : b ≤ 8) (n : Nat) (hn1 : 1 ≤ n) (hn : n ≤ 8) (S : Sl) (k : Nat) (o : List D) (hP : Pool k o) (hk : k < 2 ^ 60) (x5 x6 x7 x8 : Sl) (h6 : x6.free = true) (h7 : x7.free = true) (h8 : x8.free = true) :
    ∃ o' x6' x7' x8', Pool (k + 20) o' ∧ x6'.free = true ∧ x7'.free = true ∧ x8'.free = true ∧ turnB (r43 S (.ow .loc (.lst o)) b n (b ^ n) x5 x6 x7 x8) = some (.nx, r43 S (.ow .loc (.lst o')) b n (b ^ n) x5 x6' x7' x8') := by
  have hw : (0 : Int) < b ^ n := Int.pow_pos (by omega)
  have hws := small_of (by omega) hb2 hn (Int.le_refl (b ^ n)) (Int.le_of_lt hw)
  obtain ⟨o1, v, hP1, v0, v1, e1⟩ := draw_eq hP (l := b ^ n) (by omega) hw (by omega)
  obtain ⟨o2, d, hP2, hd, e2⟩ := pick_eq hP1 (by omega) [.int 0, .int (b ^ n - 1), .int v] (by simp) (by simp)
  obtain ⟨q, rfl, q0, q1⟩ : ∃ q : Int, d = .int q ∧ 0 ≤ q ∧ q < b ^ n := by
    simp at hd
    rcases hd with rfl | rfl | rfl
    · exact ⟨_, rfl, by omega, hw⟩
    · exact ⟨_, rfl, by omega, by omega⟩
    · exact ⟨_, rfl, v0, v1⟩
  obtain ⟨ys, ρe, e3, ⟨o3, hP3, rfl⟩, hE⟩ := lc_st (inj := fun i : Nat => PyData.int (0 + (i : Nat))) (g := gNm 11) (fe := callIO m__law_draw 1 [(nmV 2)]) (vs := [10, 11]) (fi := itR1 (nmB 3)) (xs := List.range n)
    (ρ := r43 S (.ow .loc (.lst o2)) b n (b ^ n) x5 (.va (.int q)) x7 x8) (ρ1 := r43 S (.ow .loc (.lst o2)) b n (b ^ n) x5 (.va (.int q)) x7 x8) (ρw := r43 S (.ow .loc (.lst o2)) b n (b ^ n) x5 (.va (.int q)) x7 x8)
    (fun i ρ => ∃ o, Pool (k + 2 + i) o ∧ ρ = r43 S (.ow .loc (.lst o)) b n (b ^ n) x5 (.va (.int q)) x7 x8) (fun _ y => ∃ v : Int, y = .int v ∧ (0 ≤ v ∧ v < b))
    (by
      have h1 : n < 16777216 := by omega
      unfold itR1
      simp [h1, rangeI]) (by rfl) ⟨o2, hP2, rfl⟩ (fun i x hx ρ hI => by
      obtain ⟨o, hPo, rfl⟩ := hI
      have hi : i < n := by
        have := (List.getElem?_eq_some_iff.mp hx).1
        simpa using this
      obtain ⟨o', v, hPo', v0, v1, ed⟩ := draw_eq hPo (l := b) (by omega) (by omega) (by omega)
      refine ⟨[S, .ow .loc (.lst o), .va (.int b), .va (.int (n : Nat)), .va (.int (b ^ n)), x5, .va (.int q), x7, x8, .un, .un, .va (.int (0 + (x : Nat)))], .int v, [S, .ow .loc (.lst o'), .va (.int b), .va (.int (n : Nat)), .va (.int (b ^ n)), x5, .va (.int q), x7, x8, .un, .un, .va (.int (0 + (x : Nat)))], _, by simp, ?_, by rfl, ⟨o', hPo', rfl⟩, v, rfl, v0, v1⟩
      simp [ed]) (by rw [List.length_range]; exact Nat.le_trans hn (by decide))
  obtain ⟨cs, rfl, hcr, hcl⟩ := eachIs_ints hE
  rw [List.length_range] at hP3 hcl
  obtain ⟨c0, c1, c2⟩ := cod_num (show 0 < b by omega) n cs hcl hcr
  obtain ⟨_, f1⟩ := code_at_eq hb hb2 n hn q q0 (by omega)
  obtain ⟨_, f2⟩ := number_in_eq hb hb2 cs (by omega) hcr
  obtain ⟨_, f3⟩ := law_code_eq hb hb2 n hn q q0 (by omega)
  obtain ⟨_, f4⟩ := law_number_eq hb hb2 cs (by omega) hcr
  obtain ⟨_, f5⟩ := number_in_eq hb hb2 (cod b n q) (by rw [cod_length]; omega) (cod_range (by omega) n q)
  rw [num_cod (show 0 < b by omega) n q q0 q1] at f5
  obtain ⟨_, f6⟩ := code_at_eq hb hb2 n hn (numF b 0 cs) c0 (by omega)
  rw [c2] at f6
  have nt : ∀ ds : List Int, ds.length ≤ 100 → nice 1 (.tuple (ds.map .int)) := fun ds h => ⟨by simp; omega, fun x hx => by obtain ⟨y, _, rfl⟩ := List.mem_map.mp hx; trivial⟩
  have up : ∀ ds : List Int, ds.length ≤ 100 → nice 6 (.tuple (ds.map .int)) := fun ds h => ⟨by simp; omega, fun x hx => by obtain ⟨y, _, rfl⟩ := List.mem_map.mp hx; trivial⟩
  obtain ⟨_, m1⟩ := same_eq 7 (.list [.tuple ((cod b n q).map .int), .int (numF b 0 cs)]) (by
    refine ⟨by simp, fun x hx => ?_⟩
    simp only [List.mem_cons, List.not_mem_nil, or_false] at hx
    rcases hx with rfl | rfl
    · exact up _ (by rw [cod_length]; omega)
    · trivial)
  obtain ⟨_, m2⟩ := same_eq 7 (.list [.int q, .tuple (cs.map .int)]) (by
    refine ⟨by simp, fun x hx => ?_⟩
    simp only [List.mem_cons, List.not_mem_nil, or_false] at hx
    rcases hx with rfl | rfl
    · trivial
    · exact up _ (by omega))
  obtain ⟨o4, hP4, e4⟩ := next_eq hP3 (by omega)
  have s1 : setS 6 (callIO m__law_pick 1 [(lstM [(cst (.int 0)), (bin2 subD (.nm 4) (evD (cst (.int 1)))), (callIO m__law_draw 1 [(nmV 4)])])]) (r43 S (.ow .loc (.lst o)) b n (b ^ n) x5 x6 x7 x8) = some (.nx, r43 S (.ow .loc (.lst o2)) b n (b ^ n) x5 (.va (.int q)) x7 x8) := by
    generalize b ^ n = w at *
    simp [e1, e2, h6]
  have s2 : setS 7 (un1 tupleD (evD (lcM [10, 11] (itR1 (nmB 3)) (gNm 11) yesT (callIO m__law_draw 1 [(nmV 2)])))) (r43 S (.ow .loc (.lst o2)) b n (b ^ n) x5 (.va (.int q)) x7 x8) = some (.nx, r43 S (.ow .loc (.lst o3)) b n (b ^ n) x5 (.va (.int q)) (.va (.tuple (cs.map .int))) x8) := by
    rw [setS_e, un1_e, evD_e, e3]
    simp [unwipe, h7]
  have s3 : ifS (notT (truT (evD (callM (m__law_same 8) [(lstM [(callM m_code_at [(nmV 2), (nmV 3), (nmV 6)]), (callM m_number_in [(nmV 2), (nmV 7)])]), (lstM [(callM m__law_code [(nmV 2), (nmV 3), (nmV 6)]), (callM m__law_number [(nmV 2), (nmV 7)])])])))) (retS (cst (.bool false))) skipS (r43 S (.ow .loc (.lst o3)) b n (b ^ n) x5 (.va (.int q)) (.va (.tuple (cs.map .int))) x8) = some (.nx, r43 S (.ow .loc (.lst o3)) b n (b ^ n) x5 (.va (.int q)) (.va (.tuple (cs.map .int))) x8) := by
    simp only [ifS_e, notT_e, truT_e, evD_e, callM_e, evAgs_cons, evAgs_nil, lstM_e, nmV_e, List.getElem?_cons_zero, List.getElem?_cons_succ, List.map_cons, List.map_nil, f1, f2, f3, f4, m1, truD_bool, Bool.not_true, skipS_e]
  have s4 : ifS (notT (truT (evD (callM (m__law_same 8) [(lstM [(callM m_number_in [(nmV 2), (callM m__law_code [(nmV 2), (nmV 3), (nmV 6)])]), (callM m_code_at [(nmV 2), (nmV 3), (callM m__law_number [(nmV 2), (nmV 7)])])]), (lstM [(nmV 6), (nmV 7)])])))) (retS (cst (.bool false))) skipS (r43 S (.ow .loc (.lst o3)) b n (b ^ n) x5 (.va (.int q)) (.va (.tuple (cs.map .int))) x8) = some (.nx, r43 S (.ow .loc (.lst o3)) b n (b ^ n) x5 (.va (.int q)) (.va (.tuple (cs.map .int))) x8) := by
    simp only [ifS_e, notT_e, truT_e, evD_e, callM_e, evAgs_cons, evAgs_nil, lstM_e, nmV_e, List.getElem?_cons_zero, List.getElem?_cons_succ, List.map_cons, List.map_nil, f3, f4, f5, f6, m2, truD_bool, Bool.not_true, skipS_e]
  have s5 : ∃ x8', x8'.free = true ∧ ifS (cmpT ltC (.ex (bin2 addD (.nm 6) (evD (cst (.int 1))))) (nmB 4)) (seqS (setS 8 (callM m_code_at [(nmV 2), (nmV 3), (bin2 addD (.nm 6) (evD (cst (.int 1))))]))
      (ifS (cmpT neC (.ex (callM m_turns [(nmV 2), (cst (.bool false)), (callM m_code_at [(nmV 2), (nmV 3), (nmV 6)]), (nmV 8)])) (evD (cst (.int 1)))) (retS (cst (.bool false))) skipS)) skipS (r43 S (.ow .loc (.lst o3)) b n (b ^ n) x5 (.va (.int q)) (.va (.tuple (cs.map .int))) x8) = some (.nx, r43 S (.ow .loc (.lst o3)) b n (b ^ n) x5 (.va (.int q)) (.va (.tuple (cs.map .int))) x8') := by
    by_cases hc : q + 1 < b ^ n
    · obtain ⟨_, g1⟩ := code_at_eq hb hb2 n hn (q + 1) (by omega) (by omega)
      obtain ⟨_, g2⟩ := turns_eq b (cod b n q) (cod b n (q + 1)) (by rw [cod_length, cod_length]) (by rw [cod_length]; exact hn)
      rw [beside hb n q q0 hc] at g2
      refine ⟨.va (.tuple ((cod b n (q + 1)).map .int)), rfl, ?_⟩
      generalize b ^ n = w at *
      simp [hc, g1, g2, f1, h8]
    · refine ⟨x8, h8, ?_⟩
      generalize b ^ n = w at *
      simp [hc]
  obtain ⟨x8', h8', s5⟩ := s5
  refine ⟨o4, .va (.int q), .va (.tuple (cs.map .int)), x8', ?_, rfl, rfl, h8', ?_⟩
  · obtain ⟨ns, p, nn, a, eo, c1, c2, c3, c4, c5, c6, c7, c8⟩ := hP4
    exact ⟨ns, p, nn, a, eo, c1, c2, c3, by omega, c5, c6, c7, by omega⟩
  · unfold turnB
    rw [seq_nx s1, seq_nx s2, seq_nx s3, seq_nx s4, seq_nx s5]
    simp [e4]
theorem law_plain (ns : List Int) (hns : ns.length ≤ 63) (hbits : ∀ z ∈ ns, Builtin.Int.intBits z ≤ 1048576) : ∃ ρ', m_law [.va (.list (ns.map .int))] = some (.va (.bool true), ρ') := by
  generalize hS : Sl.va (PyData.list (ns.map .int)) = S
  obtain ⟨o0, hP0, _, e0⟩ := pool_eq ns hns fun z hz => log2_bits (hbits z hz)
  rw [hS] at e0
  obtain ⟨o1, v1, hP1, v10, v11, e1⟩ := draw_eq hP0 (l := 7) (by omega) (by omega) (by omega)
  obtain ⟨o2, v2, hP2, v20, v21, e2⟩ := draw_eq hP1 (l := 8) (by omega) (by omega) (by omega)
  obtain ⟨b, hbv⟩ : ∃ b : Int, 2 + v1 = b := ⟨_, rfl⟩
  obtain ⟨n, hnv⟩ : ∃ n : Nat, 1 + v2 = n := ⟨(1 + v2).toNat, by omega⟩
  have hb : 2 ≤ b := by omega
  have hb2 : b ≤ 8 := by omega
  have hn1 : 1 ≤ n := by omega
  have hn : n ≤ 8 := by omega
  obtain ⟨_, pw⟩ := power_eq' hb hb2 n hn m__law_power (.inl rfl)
  obtain ⟨o3, hP3, e3⟩ := next_eq hP2 (by omega)
  obtain ⟨ρ', e5, o4, x5, x6, x7, x8, g5, g6, g7, g8, hP4, rfl⟩ := for_inv (inj := fun i : Nat => PyData.int (0 + (i : Nat))) (g := gNm 5) (fb := turnB) (fi := itR1 (evD (cst (.int 8)))) (ρ := r43 S (.ow .loc (.lst o3)) b n (b ^ n) .un .un .un .un) (ρ1 := r43 S (.ow .loc (.lst o3)) b n (b ^ n) .un .un .un .un) (xs := List.range 8)
    (fun i ρ => ∃ o x5 x6 x7 x8, x5.free = true ∧ x6.free = true ∧ x7.free = true ∧ x8.free = true ∧ Pool (100 + 20 * i) o ∧ ρ = r43 S (.ow .loc (.lst o)) b n (b ^ n) x5 x6 x7 x8)
    (by
      unfold itR1
      simp [rangeI]) ⟨o3, .un, .un, .un, .un, rfl, rfl, rfl, rfl, (by
        obtain ⟨ns, p, nn, a, eo, c1, c2, c3, c4, c5, c6, c7, c8⟩ := hP3
        exact ⟨ns, p, nn, a, eo, c1, c2, c3, by omega, c5, c6, c7, by omega⟩), rfl⟩ (fun i x hx ρ hI => by
      obtain ⟨o, x5, x6, x7, x8, g5, g6, g7, g8, hP, rfl⟩ := hI
      have hi : i < 8 := by
        have := (List.getElem?_eq_some_iff.mp hx).1
        simpa using this
      obtain ⟨o', x6', x7', x8', hP', f6, f7, f8, et⟩ := turn_step hb hb2 n hn1 hn S _ o hP (by omega) (.va (.int (0 + (x : Nat)))) x6 x7 x8 g6 g7 g8
      exact ⟨r43 S (.ow .loc (.lst o)) b n (b ^ n) (.va (.int (0 + (x : Nat)))) x6 x7 x8, .nx, _, by simp [g5], et, .inl rfl, o', _, x6', x7', x8', rfl, f6, f7, f8, by rw [show 100 + 20 * (i + 1) = 100 + 20 * i + 20 by omega]; exact hP', rfl⟩)
  obtain ⟨_, tc⟩ := turn_counts_eq hb hb2 n hn
  have hw : (0 : Int) < b ^ n := Int.pow_pos (by omega)
  obtain ⟨_, sm⟩ := same_eq 7 (.list [.list ((tcs b n).map .int), .int (b ^ n - 1)]) (by
    refine ⟨by simp, fun x hx => ?_⟩
    simp only [List.mem_cons, List.not_mem_nil, or_false] at hx
    rcases hx with rfl | rfl
    · refine ⟨by simp [tcs]; omega, fun x hx => ?_⟩
      obtain ⟨y, _, rfl⟩ := List.mem_map.mp hx
      trivial
    · trivial)
  generalize hX : ([S, .ow .loc (.lst o4), .va (.int b), .va (.int (n : Nat)), .va (.int (b ^ n)), x5, x6, x7, x8, .ow .loc (.lst ((tcs b n).map .int)), .un, .un] : Rho) = X9
  have s6 : setS 9 (callM m_turn_counts [(nmV 2), (nmV 3)]) (r43 S (.ow .loc (.lst o4)) b n (b ^ n) x5 x6 x7 x8) = some (.nx, X9) := by
    rw [← hX]
    generalize b ^ n = w at *
    simp [tc]
  generalize hX2 : ([S, .ow .loc (.lst o4), .va (.int b), .va (.int (n : Nat)), .va (.int (b ^ n)), x5, x6, x7, x8, .va (.list ((tcs b n).map .int)), .un, .un] : Rho) = X10
  have lc := lc_map (inj := fun i : Nat => PyData.int (0 + (i : Nat))) (g := gNm 11) (fe := (bin2 mulD (.ex (callM m__law_power [(nmV 2), (nmV 11)])) (evD (bin2 subD (.nm 2) (evD (cst (.int 1))))))) (vs := [10, 11]) (fi := itR1 (nmB 3)) (ρ := X10) (ρ1 := X10) (ρw := X10) (xs := List.range n) (fun i => .int (b ^ i * (b - 1)))
    (by
      rw [← hX2]
      have h1 : n < 16777216 := by omega
      unfold itR1
      simp [h1, rangeI]) (by rw [← hX2]; rfl) (fun i hi => by
      have hi' : i < n := by simpa using hi
      obtain ⟨_, e⟩ := power_eq' hb hb2 i (by omega) m__law_power (.inl rfl)
      have tm := tc_elem hb hb2 i (by omega)
      rw [← hX2]
      exact ⟨[S, .ow .loc (.lst o4), .va (.int b), .va (.int (n : Nat)), .va (.int (b ^ n)), x5, x6, x7, x8, .va (.list ((tcs b n).map .int)), .un, .va (.int (i : Nat))], [S, .ow .loc (.lst o4), .va (.int b), .va (.int (n : Nat)), .va (.int (b ^ n)), x5, x6, x7, x8, .va (.list ((tcs b n).map .int)), .un, .va (.int (i : Nat))], by simp, by simp [e, tm], by rfl⟩) (by rw [List.length_range]; exact Nat.le_trans hn (by decide))
  have elc : (List.range n).map (fun i => PyData.int (b ^ i * (b - 1))) = (tcs b n).map .int := by
    unfold tcs
    rw [List.map_map]
    rfl
  rw [elc] at lc
  have s7 : ifS (notT (truT (evD (callM (m__law_same 8) [(lstM [(nmV 9), (un1 sumD (nmB 9))]), (lstM [(lcM [10, 11] (itR1 (nmB 3)) (gNm 11) yesT (bin2 mulD (.ex (callM m__law_power [(nmV 2), (nmV 11)])) (evD (bin2 subD (.nm 2) (evD (cst (.int 1))))))), (bin2 subD (.nm 4) (evD (cst (.int 1))))])])))) (retS (cst (.bool false))) skipS X9 = some (.nx, X10) := by
    have e9 : nmV 9 X9 = some (.va (.list ((tcs b n).map .int)), X10) := by rw [← hX, ← hX2]; simp
    have e9b : nmB 9 X10 = some (.list ((tcs b n).map .int), X10) := by rw [← hX2]; simp
    have e4b : nmB 4 X10 = some (.int (b ^ n), X10) := by rw [← hX2]; simp
    simp only [ifS_e, notT_e, truT_e, evD_e, callM_e, evAgs_cons, evAgs_nil, lstM_e, un1_e, bin2_e, ev2_nm_e, cst_e, e9, e9b, e4b, lc, sumD_ints, tcs_sum, subD_int, List.map_cons, List.map_nil, sm, truD_bool, Bool.not_true, skipS_e]
  have e2b : ∀ {x : Sl}, nmV 2 X10 = some (.va (.int b), X10) := by rw [← hX2]; simp
  have s8 : retS (orV (bin2 (cmpB gtC) (.nm 4) (evD (cst (.int 300)))) (bin2 (cmpB eqC) (.ex (bin2 (cmpB isC) (.ex (callM m_closed_tour [(nmV 2), (nmV 3)])) (evD (cst .none)))) (evD (orV (bin2 (cmpB eqC) (.ex (bin2 modD (.ex (un1 intD (nmB 2))) (evD (cst (.int 2))))) (evD (cst (.int 1)))) (bin2 (cmpB eqC) (.nm 3) (evD (cst (.int 1)))))))) X10 = some (.rt (.va (.bool true)), X10) := by
    rw [← hX2]
    by_cases hbig : 300 < b ^ n
    · generalize b ^ n = w at *
      simp [hbig]
    · obtain ⟨c, rfl⟩ : ∃ c : Nat, b = c := ⟨b.toNat, by omega⟩
      have hcn : c ^ n ≤ 300 := by
        have : ((c ^ n : Nat) : Int) ≤ 300 := by rw [Int.natCast_pow]; omega
        exact_mod_cast this
      generalize (c : Int) ^ n = w at *
      by_cases hc : c % 2 = 1 ∨ n < 2
      · obtain ⟨_, ec⟩ := closed_none c n hc
        by_cases hodd : (c : Int) % 2 = 1
        · simp [hbig, ec, isC, modD_int, hodd]
        · have hn1' : (n : Int) = 1 := by omega
          have hn2' : n = 1 := by omega
          subst hn2'
          simp at ec
          simp [hbig, ec, isC, modD_int, hodd]
      · obtain ⟨ys, _, ec⟩ := closed_some c n (by omega) (by omega) (by omega) hn (by omega) hcn
        have hodd : ¬ ((c : Int) % 2 = 1) := by omega
        have hn1' : ¬ ((n : Int) = 1) := by omega
        have hn2' : ¬ (n = 1) := by omega
        simp [hbig, ec, isC, modD_int, hodd, hn1', hn2']
  refine ⟨_, body_rt (ρ := X10) ?_ (by rw [← hS]; rfl)⟩
  show b_law [S, .un, .un, .un, .un, .un, .un, .un, .un, .un, .un, .un] = _
  unfold b_law
  rw [seq_nx (ρ1 := [S, .ow .loc (.lst o0), .un, .un, .un, .un, .un, .un, .un, .un, .un, .un]) (by rw [← hS] at e0 ⊢; simp [e0]), seq_nx (ρ1 := [S, .ow .loc (.lst o2), .va (.int b), .va (.int (n : Nat)), .un, .un, .un, .un, .un, .un, .un, .un]) (by simp [e1, e2, hbv, hnv, gTp, gsCons, gsNil]), seq_nx (ρ1 := r43 S (.ow .loc (.lst o2)) b n (b ^ n) .un .un .un .un) (by
    generalize b ^ n = w at *
    simp [pw]), seq_nx (ρ1 := r43 S (.ow .loc (.lst o3)) b n (b ^ n) .un .un .un .un) (by simp [e3]), seq_nx e5, seq_nx s6, seq_nx s7, s8]
end PL

namespace PL
def LawTrue : Prop := ∀ ns : List Int, ns.length ≤ 63 → (∀ z ∈ ns, PySem.Builtin.Int.intBits z ≤ 1048576) → ∃ ρ', m_law [.va (.list (ns.map .int))] = some (.va (.bool true), ρ')
theorem law_true : LawTrue := fun ns h1 h2 => law_plain ns h1 h2
end PL
namespace PL
open PySem PySem.Spec PyProof.Rows L2
section
variable {P : Program} {w : World} {K : PySem.W.Frag} {mg : Str → Option Value} {base : Heap}
structure Tops (K : PySem.W.Frag) (mg : Str → Option Value) where
  f_power : Addr
  fd_power : FuncData
  F_power : Fun K "power" "power" s_power f_power fd_power
  B_power : Binds K fd_power ["number", "times"] []
  g_power : mg "power" = some (.ref f_power)
  f_apart : Addr
  fd_apart : FuncData
  F_apart : Fun K "apart" "apart" s_apart f_apart fd_apart
  B_apart : Binds K fd_apart ["b", "goes_round", "one", "other"] []
  g_apart : mg "apart" = some (.ref f_apart)
  f_turns : Addr
  fd_turns : FuncData
  F_turns : Fun K "turns" "turns" s_turns f_turns fd_turns
  B_turns : Binds K fd_turns ["b", "goes_round", "one", "other"] []
  g_turns : mg "turns" = some (.ref f_turns)
  f_mirrored : Addr
  fd_mirrored : FuncData
  F_mirrored : Fun K "mirrored" "mirrored" s_mirrored f_mirrored fd_mirrored
  B_mirrored : Binds K fd_mirrored ["b", "n"] []
  g_mirrored : mg "mirrored" = some (.ref f_mirrored)
  f_number_in : Addr
  fd_number_in : FuncData
  F_number_in : Fun K "number_in" "number_in" s_number_in f_number_in fd_number_in
  B_number_in : Binds K fd_number_in ["b", "code"] []
  g_number_in : mg "number_in" = some (.ref f_number_in)
  f_code_at : Addr
  fd_code_at : FuncData
  F_code_at : Fun K "code_at" "code_at" s_code_at f_code_at fd_code_at
  B_code_at : Binds K fd_code_at ["b", "n", "number"] []
  g_code_at : mg "code_at" = some (.ref f_code_at)
  f_closed_tour : Addr
  fd_closed_tour : FuncData
  F_closed_tour : Fun K "closed_tour" "closed_tour" s_closed_tour f_closed_tour fd_closed_tour
  B_closed_tour : Binds K fd_closed_tour ["b", "n"] []
  g_closed_tour : mg "closed_tour" = some (.ref f_closed_tour)
  f_turn_counts : Addr
  fd_turn_counts : FuncData
  F_turn_counts : Fun K "turn_counts" "turn_counts" s_turn_counts f_turn_counts fd_turn_counts
  B_turn_counts : Binds K fd_turn_counts ["b", "n"] []
  g_turn_counts : mg "turn_counts" = some (.ref f_turn_counts)
  f__law_mixed : Addr
  fd__law_mixed : FuncData
  F__law_mixed : Fun K "_law_mixed" "_law_mixed" s__law_mixed f__law_mixed fd__law_mixed
  B__law_mixed : Binds K fd__law_mixed ["number", "place"] []
  g__law_mixed : mg "_law_mixed" = some (.ref f__law_mixed)
  f__law_rest : Addr
  fd__law_rest : FuncData
  F__law_rest : Fun K "_law_rest" "_law_rest" s__law_rest f__law_rest fd__law_rest
  B__law_rest : Binds K fd__law_rest ["script", "place", "again"] []
  g__law_rest : mg "_law_rest" = some (.ref f__law_rest)
  f__law_pool : Addr
  fd__law_pool : FuncData
  F__law_pool : Fun K "_law_pool" "_law_pool" s__law_pool f__law_pool fd__law_pool
  B__law_pool : Binds K fd__law_pool ["script"] []
  g__law_pool : mg "_law_pool" = some (.ref f__law_pool)
  f__law_next : Addr
  fd__law_next : FuncData
  F__law_next : Fun K "_law_next" "_law_next" s__law_next f__law_next fd__law_next
  B__law_next : Binds K fd__law_next ["pool"] []
  g__law_next : mg "_law_next" = some (.ref f__law_next)
  f__law_draw : Addr
  fd__law_draw : FuncData
  F__law_draw : Fun K "_law_draw" "_law_draw" s__law_draw f__law_draw fd__law_draw
  B__law_draw : Binds K fd__law_draw ["pool", "limit"] []
  g__law_draw : mg "_law_draw" = some (.ref f__law_draw)
  f__law_pick : Addr
  fd__law_pick : FuncData
  F__law_pick : Fun K "_law_pick" "_law_pick" s__law_pick f__law_pick fd__law_pick
  B__law_pick : Binds K fd__law_pick ["pool", "options"] []
  g__law_pick : mg "_law_pick" = some (.ref f__law_pick)
  f__law_same : Addr
  fd__law_same : FuncData
  F__law_same : Fun K "_law_same" "_law_same" s__law_same f__law_same fd__law_same
  B__law_same : Binds K fd__law_same ["answer", "due"] []
  g__law_same : mg "_law_same" = some (.ref f__law_same)
  f__law_power : Addr
  fd__law_power : FuncData
  F__law_power : Fun K "_law_power" "_law_power" s__law_power f__law_power fd__law_power
  B__law_power : Binds K fd__law_power ["base", "many"] []
  g__law_power : mg "_law_power" = some (.ref f__law_power)
  f__law_number : Addr
  fd__law_number : FuncData
  F__law_number : Fun K "_law_number" "_law_number" s__law_number f__law_number fd__law_number
  B__law_number : Binds K fd__law_number ["b", "code"] []
  g__law_number : mg "_law_number" = some (.ref f__law_number)
  f__law_code : Addr
  fd__law_code : FuncData
  F__law_code : Fun K "_law_code" "_law_code" s__law_code f__law_code fd__law_code
  B__law_code : Binds K fd__law_code ["b", "n", "number"] []
  g__law_code : mg "_law_code" = some (.ref f__law_code)
  f_law : Addr
  fd_law : FuncData
  F_law : Fun K "law" "law" s_law f_law fd_law
  B_law : Binds K fd_law ["script"] []
  g_law : mg "law" = some (.ref f_law)
  z_abs : mg "abs" = none
  z_all : mg "all" = none
  z_bool : mg "bool" = none
  z_dict : mg "dict" = none
  z_enumerate : mg "enumerate" = none
  z_int : mg "int" = none
  z_isinstance : mg "isinstance" = none
  z_len : mg "len" = none
  z_list : mg "list" = none
  z_min : mg "min" = none
  z_range : mg "range" = none
  z_str : mg "str" = none
  z_sum : mg "sum" = none
  z_tuple : mg "tuple" = none
  z_zip : mg "zip" = none
theorem ok_power (T : Tops K mg) : FnOk P w K mg base CX0 1 T.f_power T.fd_power ["number", "times"] (spG K 2 m_power) :=
  ok_fn (k := 0) 2 T.F_power sc_power rfl fun cdv A outer s H E hr =>
    (pssx_cons (psx_set 2 sc_power.nd px_int)
    (pssx_cons (psx_for PassesOwn.never rfl (pix_range1 (pv_name 1) T.z_range) (pgx_name 3 sc_power.nd) (pssx_one (psx_set 2 sc_power.nd (px_bin opd_mul (pa1_name 2) (pv_name 0)))))
    (pssx_one (psx_ret (px_move 2)))))
theorem ok_apart (T : Tops K mg) : FnOk P w K mg base CX0 1 T.f_apart T.fd_apart ["b", "goes_round", "one", "other"] (spG K 4 m_apart) :=
  ok_fn (k := 0) 1 T.F_apart sc_apart rfl fun cdv A outer s H E hr =>
    (pssx_cons (psx_set 4 sc_apart.nd (px_b1 opu_abs ((px_bin opd_sub (pa1_name 2) (pv_name 3))).v T.z_abs))
    (pssx_one (psx_ret (px_if (PV.q (pv_name 1)) (px_b2 (opb_min rfl) (pa1_name 4) ((px_bin opd_sub (pa1_name 0) (pv_name 4))).v T.z_min) (px_name 4)))))
theorem ok_turns (T : Tops K mg) : FnOk P w K mg base CX0 2 T.f_turns T.fd_turns ["b", "goes_round", "one", "other"] (spG K 4 m_turns) :=
  ok_fn (k := 1) 3 T.F_turns sc_turns rfl fun cdv A outer s H E hr =>
    (pssx_one (psx_ret (px_b1 (opu_sum rfl) ((px_lc (own := [(".0", 4), ("first", 5), ("second", 6)]) rfl sc_turns.nd (pix_zips (px_name 2) (px_name 3) T.z_zip) (blkOk_by (own := [(".0", 4), ("first", 5), ("second", 6)]) (N := n_turns) (sc := defScope s_turns) (scope := ({ kind := .function, names := [(PySem.Str.ofString ".0", .local), (PySem.Str.ofString "first", .local), (PySem.Str.ofString "second", .local), (PySem.Str.ofString "apart", .globalImplicit), (PySem.Str.ofString "b", .free), (PySem.Str.ofString "goes_round", .free)], isGenerator := false, isCoroutine := false, more := [] } : Scope)) (by decide +kernel)) (by decide) (fun _ _ _ _ _ => (pgx_tup rfl (pgsx_cons (pgx_name 5 sc_turns.nd) (pgsx_cons (pgx_name 6 sc_turns.nd) pgsx_nil)) (gsCons_len (gsCons_len gsNil_len)))) (fun _ _ _ _ _ => ptx_nil) (fun _ _ _ _ _ => (px_call (ok_apart T) (hr.mono (by decide)) T.g_apart T.F_apart.kp T.B_apart (pax_cons (px_name 0) (pax_cons (px_name 1) (pax_cons (px_name 5) (pax_cons (px_name 6) pax_nil)))))))).v T.z_sum)))
theorem ok_mirrored (T : Tops K mg) : FnOk P w K mg base CX0 1 T.f_mirrored T.fd_mirrored ["b", "n"] (spG K 2 m_mirrored) :=
  ok_fn (k := 0) 8 T.F_mirrored sc_mirrored rfl fun cdv A outer s H E hr =>
    (pssx_cons (psx_set 2 sc_mirrored.nd (px_lst (pax_cons (px_tup pax_nil) pax_nil)))
    (pssx_cons (psx_for PassesOwn.never rfl (pix_range1 (pv_name 1) T.z_range) (pgx_name 3 sc_mirrored.nd) (pssx_cons (psx_set 4 sc_mirrored.nd (px_lst pax_nil))
    (pssx_cons (psx_for PassesOwn.never rfl (pix_enum (px_name 2) T.z_enumerate) (pgx_tup rfl (pgsx_cons (pgx_name 5 sc_mirrored.nd) (pgsx_cons (pgx_name 6 sc_mirrored.nd) pgsx_nil)) (gsCons_len (gsCons_len gsNil_len))) (pssx_cons (psx_set 7 sc_mirrored.nd (px_rgL (prv_1 (pv_name 0) T.z_range) T.z_list))
    (pssx_one (psx_expr (px_extend 4 (px_lc (own := [(".0", 8), ("digit", 9)]) rfl sc_mirrored.nd (pix_seq (px_if (pq_cmp (opc_eq hr.units) ((px_bin opd_mod (pa1_name 5) (px_int).v)).a (px_int).v) (px_name 7) (px_rev ((px_name 7)).v))) (blkOk_by (own := [(".0", 8), ("digit", 9)]) (N := n_mirrored) (sc := defScope s_mirrored) (scope := ({ kind := .function, names := [(PySem.Str.ofString ".0", .local), (PySem.Str.ofString "digit", .local), (PySem.Str.ofString "code", .free)], isGenerator := false, isCoroutine := false, more := [] } : Scope)) (by decide +kernel)) (by decide) (fun _ _ _ _ _ => (pgx_name 9 sc_mirrored.nd)) (fun _ _ _ _ _ => ptx_nil) (fun _ _ _ _ _ => (px_bin opd_add (pa1_name 6) ((px_tup (pax_cons (px_name 9) pax_nil))).v))))))))
    (pssx_one (psx_set 2 sc_mirrored.nd (px_name 4))))))
    (pssx_one (psx_ret (px_move 2)))))
theorem ok_number_in (T : Tops K mg) : FnOk P w K mg base CX0 1 T.f_number_in T.fd_number_in ["b", "code"] (spG K 2 m_number_in) :=
  ok_fn (k := 0) 2 T.F_number_in sc_number_in rfl fun cdv A outer s H E hr =>
    (pssx_cons (psx_set 2 sc_number_in.nd px_int)
    (pssx_cons (psx_for PassesOwn.never rfl (pix_seq (px_name 1)) (pgx_name 3 sc_number_in.nd) (pssx_one (psx_set 2 sc_number_in.nd (px_bin opd_add ((px_bin opd_mul (pa1_name 2) (pv_name 0))).a ((px_if (pq_cmp (opc_eq hr.units) ((px_bin opd_mod (pa1_name 2) (px_int).v)).a (px_int).v) (px_name 3) (px_bin opd_sub ((px_bin opd_sub (pa1_name 0) (px_int).v)).a (pv_name 3)))).v))))
    (pssx_one (psx_ret (px_move 2)))))
theorem ok_code_at (T : Tops K mg) : FnOk P w K mg base CX0 1 T.f_code_at T.fd_code_at ["b", "n", "number"] (spG K 3 m_code_at) :=
  ok_fn (k := 0) 4 T.F_code_at sc_code_at rfl fun cdv A outer s H E hr =>
    (pssx_cons (psx_set 3 sc_code_at.nd (px_tup pax_nil))
    (pssx_cons (psx_for PassesOwn.never rfl (pix_range1 (pv_name 1) T.z_range) (pgx_name 4 sc_code_at.nd) (pssx_cons (psx_par 5 6 rfl sc_code_at.nd (px_bin opd_fdiv (pa1_name 2) (pv_name 0)) (px_bin opd_mod (pa1_name 2) (pv_name 0)))
    (pssx_cons (psx_set 3 sc_code_at.nd (px_bin opd_add ((px_tup (pax_cons (px_if (pq_cmp (opc_eq hr.units) ((px_bin opd_mod (pa1_name 5) (px_int).v)).a (px_int).v) (px_name 6) (px_bin opd_sub ((px_bin opd_sub (pa1_name 0) (px_int).v)).a (pv_name 6))) pax_nil))).a (pv_name 3)))
    (pssx_one (psx_set 2 sc_code_at.nd (px_name 5))))))
    (pssx_one (psx_ret (px_move 3)))))
theorem ok_closed_tour (T : Tops K mg) : FnOk P w K mg base CX0 2 T.f_closed_tour T.fd_closed_tour ["b", "n"] (spG K 2 m_closed_tour) :=
  ok_fn (k := 1) 6 T.F_closed_tour sc_closed_tour rfl fun cdv A outer s H E hr =>
    (pssx_cons (psx_if ((pqw_or (pq_cmp (opc_eq hr.units) ((px_bin opd_mod (pa1_name 0) (px_int).v)).a (px_int).v) (pqw_or1 (pq_cmp opc_lt (pa1_name 1) (px_int).v)))).q (pssx_one (psx_ret px_non)) pssx_nil)
    (pssx_cons (psx_set 2 sc_closed_tour.nd (px_call (ok_mirrored T) (hr.mono (by decide)) T.g_mirrored T.F_mirrored.kp T.B_mirrored (pax_cons (px_name 0) (pax_cons (px_bin opd_sub (pa1_name 1) (px_int).v) pax_nil))))
    (pssx_cons (psx_set 3 sc_closed_tour.nd (px_lst pax_nil))
    (pssx_cons (psx_for PassesOwn.never rfl (pix_range1 (pv_name 0) T.z_range) (pgx_name 4 sc_closed_tour.nd) (pssx_cons (psx_set 5 sc_closed_tour.nd (px_if (pq_cmp (opc_eq hr.units) ((px_bin opd_mod (pa1_name 4) (px_int).v)).a (px_int).v) (px_sliceN 2 (POx.yes (px_int).v) POx.no) (px_slice3 (px_name 2) POx.no (POx.yes (px_int).v) ((px_neg (px_int).v)).v)))
    (pssx_one (psx_expr (px_extend 3 (px_lc (own := [(".0", 6), ("code", 7)]) rfl sc_closed_tour.nd (pix_seq (px_name 5)) (blkOk_by (own := [(".0", 6), ("code", 7)]) (N := n_closed_tour) (sc := defScope s_closed_tour) (scope := ({ kind := .function, names := [(PySem.Str.ofString ".0", .local), (PySem.Str.ofString "code", .local), (PySem.Str.ofString "digit", .free)], isGenerator := false, isCoroutine := false, more := [] } : Scope)) (by decide +kernel)) (by decide) (fun _ _ _ _ _ => (pgx_name 7 sc_closed_tour.nd)) (fun _ _ _ _ _ => ptx_nil) (fun _ _ _ _ _ => (px_bin opd_add (pa1_name 7) ((px_tup (pax_cons (px_name 4) pax_nil))).v))))))))
    (pssx_one (psx_ret (px_bin opd_add (pa1_name 3) ((px_lc (own := [(".0", 6), ("digit", 4)]) rfl sc_closed_tour.nd (pix_range3 (px_bin opd_sub (pa1_name 0) (px_int).v) (px_neg (px_int).v) ((px_neg (px_int).v)).v T.z_range) (blkOk_by (own := [(".0", 6), ("digit", 4)]) (N := n_closed_tour) (sc := defScope s_closed_tour) (scope := ({ kind := .function, names := [(PySem.Str.ofString ".0", .local), (PySem.Str.ofString "digit", .local), (PySem.Str.ofString "first", .free)], isGenerator := false, isCoroutine := false, more := [] } : Scope)) (by decide +kernel)) (by decide) (fun _ _ _ _ _ => (pgx_name 4 sc_closed_tour.nd)) (fun _ _ _ _ _ => ptx_nil) (fun _ _ _ _ _ => (px_bin opd_add ((px_sub (pa1_name 2) (px_int).v)).a ((px_tup (pax_cons (px_name 4) pax_nil))).v)))).v)))))))
theorem ok_turn_counts (T : Tops K mg) : FnOk P w K mg base CX0 2 T.f_turn_counts T.fd_turn_counts ["b", "n"] (spG K 2 m_turn_counts) :=
  ok_fn (k := 1) 2 T.F_turn_counts sc_turn_counts rfl fun cdv A outer s H E hr =>
    (pssx_one (psx_ret (px_lc (own := [(".0", 2), ("place", 3)]) rfl sc_turn_counts.nd (pix_range1 (pv_name 1) T.z_range) (blkOk_by (own := [(".0", 2), ("place", 3)]) (N := n_turn_counts) (sc := defScope s_turn_counts) (scope := ({ kind := .function, names := [(PySem.Str.ofString ".0", .local), (PySem.Str.ofString "place", .local), (PySem.Str.ofString "power", .globalImplicit), (PySem.Str.ofString "b", .free)], isGenerator := false, isCoroutine := false, more := [] } : Scope)) (by decide +kernel)) (by decide) (fun _ _ _ _ _ => (pgx_name 3 sc_turn_counts.nd)) (fun _ _ _ _ _ => ptx_nil) (fun _ _ _ _ _ => (px_bin opd_mul ((px_call (ok_power T) (hr.mono (by decide)) T.g_power T.F_power.kp T.B_power (pax_cons (px_name 0) (pax_cons (px_name 3) pax_nil)))).a ((px_bin opd_sub (pa1_name 0) (px_int).v)).v)))))
theorem ok__law_mixed (T : Tops K mg) : FnOk P w K mg base CX0 1 T.f__law_mixed T.fd__law_mixed ["number", "place"] (spG K 2 m__law_mixed) :=
  ok_fn (k := 0) 3 T.F__law_mixed sc__law_mixed rfl fun cdv A outer s H E hr =>
    (pssx_cons (psx_set 2 sc__law_mixed.nd (px_bin opd_mod ((px_t1 opu_int ((px_bin opd_add ((px_bin opd_add ((px_bin opd_mul (pa1_name 0) (px_int).v)).a ((px_bin opd_mul (pa1_name 1) (px_int).v)).v)).a (px_int).v)).v T.z_int)).a (px_int).v))
    (pssx_cons (psx_set 3 sc__law_mixed.nd (px_bin opd_mod ((px_t1 opu_int ((px_bin opd_add ((px_bin opd_add ((px_bin opd_mul (pa1_name 2) (pv_name 2))).a ((px_bin opd_mul (px_int).a (pv_name 2))).v)).a (pv_name 1))).v T.z_int)).a (px_int).v))
    (pssx_cons (psx_set 4 sc__law_mixed.nd (px_bin opd_mod ((px_t1 opu_int ((px_bin opd_add ((px_bin opd_mul (pa1_name 3) (pv_name 3))).a (pv_name 2))).v T.z_int)).a (px_int).v))
    (pssx_one (psx_ret (px_bin opd_add ((px_bin opd_mul (pa1_name 3) (px_int).v)).a (pv_name 4)))))))
theorem ok__law_rest (T : Tops K mg) : FnOk P w K mg base CX0 2 T.f__law_rest T.fd__law_rest ["script", "place", "again"] (spG K 3 m__law_rest) :=
  ok_fn (k := 1) 1 T.F__law_rest sc__law_rest rfl fun cdv A outer s H E hr =>
    (pssx_cons (psx_set 3 sc__law_rest.nd px_int)
    (pssx_cons (psx_if (pq_cmp opc_gt ((px_b1 opu_len (pv_name 0) T.z_len)).a (px_int).v) (pssx_one (psx_set 3 sc__law_rest.nd (px_t1 opu_int ((px_sub (pa1_name 0) ((px_bin opd_mod ((px_t1 opu_int (pv_name 1) T.z_int)).a ((px_b1 opu_len (pv_name 0) T.z_len)).v)).v)).v T.z_int))) pssx_nil)
    (pssx_cons (psx_if (pq_cmp opc_lt (pa1_name 3) (px_int).v) (pssx_one (psx_set 3 sc__law_rest.nd (px_bin opd_sub (px_int).a ((px_bin opd_mul (px_int).a (pv_name 3))).v))) pssx_nil)
    (pssx_cons (psx_if ((pqw_and (pq_cmp (opc_eq hr.units) (pa1_name 2) (px_int).v) (pqw_and (pq_cmp opc_lt (pa1_name 1) ((px_b1 opu_len (pv_name 0) T.z_len)).v) (pqw_and1 (pq_cmp opc_ge (pa1_name 3) ((px_bin opd_pow (px_int).a (px_int).v)).v))))).q (pssx_one (psx_ret (px_bin opd_sub (pa1_name 3) ((px_bin opd_pow (px_int).a (px_int).v)).v))) pssx_nil)
    (pssx_one (psx_ret (px_call (ok__law_mixed T) (hr.mono (by decide)) T.g__law_mixed T.F__law_mixed.kp T.B__law_mixed (pax_cons (px_bin opd_add (pa1_name 3) ((px_bin opd_mul (pa1_name 2) (px_int).v)).v) (pax_cons (px_name 1) pax_nil)))))))))
theorem ok__law_pool (T : Tops K mg) : FnOk P w K mg base CX0 3 T.f__law_pool T.fd__law_pool ["script"] (spG K 1 m__law_pool) :=
  ok_fn (k := 2) 0 T.F__law_pool sc__law_pool rfl fun cdv A outer s H E hr =>
    (pssx_one (psx_ret (px_lst (pax_cons (px_name 0) (pax_cons px_int (pax_cons (px_call (ok__law_rest T) (hr.mono (by decide)) T.g__law_rest T.F__law_rest.kp T.B__law_rest (pax_cons (px_name 0) (pax_cons px_int (pax_cons px_int pax_nil)))) (pax_cons px_int pax_nil)))))))
theorem ok__law_next (T : Tops K mg) : FnOk P w K mg base CX0 3 T.f__law_next T.fd__law_next ["pool"] (spG K 1 m__law_next) :=
  ok_fn (k := 2) 0 T.F__law_next sc__law_next rfl fun cdv A outer s H E hr =>
    (pssx_cons (psx_setix 0 (px_bin opd_add ((px_sub (pa1_name 0) (px_int).v)).a (px_int).v) (px_int).v)
    (pssx_cons (psx_setix 0 (px_call (ok__law_rest T) (hr.mono (by decide)) T.g__law_rest T.F__law_rest.kp T.B__law_rest (pax_cons (px_sub (pa1_name 0) (px_int).v) (pax_cons (px_sub (pa1_name 0) (px_int).v) (pax_cons px_int pax_nil)))) (px_int).v)
    (pssx_one (psx_setix 0 px_int (px_int).v))))
theorem ok__law_draw (T : Tops K mg) : FnOk P w K mg base CX0 3 T.f__law_draw T.fd__law_draw ["pool", "limit"] (spG K 2 m__law_draw) :=
  ok_fn (k := 2) 1 T.F__law_draw sc__law_draw rfl fun cdv A outer s H E hr =>
    (pssx_cons (psx_if (pq_cmp opc_le ((px_sub (pa1_name 0) (px_int).v)).a (px_int).v) (pssx_cons (psx_setix 0 (px_bin opd_add ((px_sub (pa1_name 0) (px_int).v)).a (px_int).v) (px_int).v)
    (pssx_one (psx_setix 0 (px_call (ok__law_rest T) (hr.mono (by decide)) T.g__law_rest T.F__law_rest.kp T.B__law_rest (pax_cons (px_sub (pa1_name 0) (px_int).v) (pax_cons (px_sub (pa1_name 0) (px_int).v) (pax_cons (px_sub (pa1_name 0) (px_int).v) pax_nil)))) (px_int).v))) pssx_nil)
    (pssx_cons (psx_set 2 sc__law_draw.nd (px_bin opd_mod ((px_t1 opu_int ((px_sub (pa1_name 0) (px_int).v)).v T.z_int)).a (pv_name 1)))
    (pssx_cons (psx_setix 0 (px_bin opd_fdiv ((px_t1 opu_int ((px_sub (pa1_name 0) (px_int).v)).v T.z_int)).a (pv_name 1)) (px_int).v)
    (pssx_one (psx_ret (px_move 2))))))
theorem ok__law_pick (T : Tops K mg) : FnOk P w K mg base CX0 4 T.f__law_pick T.fd__law_pick ["pool", "options"] (spG K 2 m__law_pick) :=
  ok_fn (k := 3) 0 T.F__law_pick sc__law_pick rfl fun cdv A outer s H E hr =>
    (pssx_one (psx_ret (px_sub (pa1_name 1) ((px_callIO 0 (ok__law_draw T) (hr.mono (by decide)) T.g__law_draw T.F__law_draw.kp T.B__law_draw (pax_cons (px_b1 opu_len (pv_name 1) T.z_len) pax_nil))).v)))
theorem ok__law_same (T : Tops K mg) : ∀ n : Nat, FnOk P w K mg base CX0 (0 + n + 1) T.f__law_same T.fd__law_same ["answer", "due"] (spG K 2 (m__law_same n))
  | 0 => ok_none T.F__law_same sc__law_same
  | n + 1 => by
    have ih := ok__law_same T n
    generalize hm : m__law_same n = mr at ih
    show FnOk P w K mg base CX0 (0 + n + 1 + 1) T.f__law_same T.fd__law_same ["answer", "due"] (spG K 2 (bodyM 3 (b__law_same (m__law_same n))))
    rw [hm]
    refine ok_fn 3 T.F__law_same sc__law_same rfl fun cdv A outer s H E hr => ?_
    exact (pssx_cons (psx_if (PV.q ((px_isi .dict (pv_name 1) T.z_isinstance T.z_dict)).v) (pssx_cons (psx_if ((pqw_or (pq_not (PV.q ((px_isi .dict (pv_name 0) T.z_isinstance T.z_dict)).v)) (pqw_or1 (pq_cmp (opc_ne hr.units) ((px_b1 opu_len (pv_name 0) T.z_len)).a ((px_b1 opu_len (pv_name 1) T.z_len)).v)))).q (pssx_one (psx_ret px_bl)) pssx_nil)
    (pssx_one (psx_ret (px_b1 (opu_all rfl) ((px_lc (own := [(".0", 2), ("key", 3)]) rfl sc__law_same.nd (pix_seq (px_name 1)) (blkOk_by (own := [(".0", 2), ("key", 3)]) (N := n__law_same) (sc := defScope s__law_same) (scope := ({ kind := .function, names := [(PySem.Str.ofString ".0", .local), (PySem.Str.ofString "key", .local), (PySem.Str.ofString "_law_same", .globalImplicit), (PySem.Str.ofString "answer", .free), (PySem.Str.ofString "due", .free)], isGenerator := false, isCoroutine := false, more := [] } : Scope)) (by decide +kernel)) (by decide) (fun _ _ _ _ _ => (pgx_name 3 sc__law_same.nd)) (fun _ _ _ _ _ => ptx_nil) (fun _ _ _ _ _ => (px_and (px_cmp (opc_in hr) (pa1_name 3) (pv_name 0)) (px_one (px_call ih (hr.mono (by omega)) T.g__law_same T.F__law_same.kp T.B__law_same (pax_cons (px_sub (pa1_name 0) (pv_name 3)) (pax_cons (px_sub (pa1_name 1) (pv_name 3)) pax_nil)))))))).v T.z_all)))) pssx_nil)
    (pssx_cons (psx_if ((pqw_or (PV.q ((px_isi .list (pv_name 1) T.z_isinstance T.z_list)).v) (pqw_or1 (PV.q ((px_isi .tuple (pv_name 1) T.z_isinstance T.z_tuple)).v)))).q (pssx_cons (psx_if ((pqw_or (pq_cmp (opc_ne hr.units) ((px_isi .list (pv_name 1) T.z_isinstance T.z_list)).a ((px_isi .list (pv_name 0) T.z_isinstance T.z_list)).v) (pqw_or1 (pq_cmp (opc_ne hr.units) ((px_isi .tuple (pv_name 1) T.z_isinstance T.z_tuple)).a ((px_isi .tuple (pv_name 0) T.z_isinstance T.z_tuple)).v)))).q (pssx_one (psx_ret px_bl)) pssx_nil)
    (pssx_one (psx_ret (px_and (px_cmp (opc_eq hr.units) ((px_b1 opu_len (pv_name 0) T.z_len)).a ((px_b1 opu_len (pv_name 1) T.z_len)).v) (px_one (px_b1 (opu_all rfl) ((px_lc (own := [(".0", 2), ("k", 4)]) rfl sc__law_same.nd (pix_range1 ((px_b1 opu_len (pv_name 1) T.z_len)).v T.z_range) (blkOk_by (own := [(".0", 2), ("k", 4)]) (N := n__law_same) (sc := defScope s__law_same) (scope := ({ kind := .function, names := [(PySem.Str.ofString ".0", .local), (PySem.Str.ofString "k", .local), (PySem.Str.ofString "_law_same", .globalImplicit), (PySem.Str.ofString "answer", .free), (PySem.Str.ofString "due", .free)], isGenerator := false, isCoroutine := false, more := [] } : Scope)) (by decide +kernel)) (by decide) (fun _ _ _ _ _ => (pgx_name 4 sc__law_same.nd)) (fun _ _ _ _ _ => ptx_nil) (fun _ _ _ _ _ => (px_call ih (hr.mono (by omega)) T.g__law_same T.F__law_same.kp T.B__law_same (pax_cons (px_sub (pa1_name 0) (pv_name 4)) (pax_cons (px_sub (pa1_name 1) (pv_name 4)) pax_nil)))))).v T.z_all)))))) pssx_nil)
    (pssx_cons (psx_if (PV.q ((px_isi .str (pv_name 1) T.z_isinstance T.z_str)).v) (pssx_one (psx_ret (px_and (px_isi .str (pv_name 0) T.z_isinstance T.z_str) (px_one (px_cmp (opc_eq hr.units) (pa1_name 0) (pv_name 1)))))) pssx_nil)
    (pssx_cons (psx_if ((pqw_or (pq_cmp opc_is (pa1_name 1) (px_non).v) (pqw_or (pq_cmp opc_is (pa1_name 1) (px_bl).v) (pqw_or1 (pq_cmp opc_is (pa1_name 1) (px_bl).v))))).q (pssx_one (psx_ret (px_or (px_and (px_cmp opc_is (pa1_name 1) (px_non).v) (px_one (px_cmp opc_is (pa1_name 0) (px_non).v))) (px_or (px_and (px_cmp opc_is (pa1_name 1) (px_bl).v) (px_one (px_cmp opc_is (pa1_name 0) (px_bl).v))) (px_one (px_and (px_cmp opc_is (pa1_name 1) (px_bl).v) (px_one (px_cmp opc_is (pa1_name 0) (px_bl).v)))))))) pssx_nil)
    (pssx_one (psx_ret (px_and (px_isi .int (pv_name 0) T.z_isinstance T.z_int) (px_and (px_not (px_isi .bool (pv_name 0) T.z_isinstance T.z_bool)) (px_one (px_cmp (opc_eq hr.units) (pa1_name 0) (pv_name 1)))))))))))
theorem ok__law_power (T : Tops K mg) : FnOk P w K mg base CX0 1 T.f__law_power T.fd__law_power ["base", "many"] (spG K 2 m__law_power) :=
  ok_fn (k := 0) 2 T.F__law_power sc__law_power rfl fun cdv A outer s H E hr =>
    (pssx_cons (psx_set 2 sc__law_power.nd px_int)
    (pssx_cons (psx_for PassesOwn.never rfl (pix_range1 (pv_name 1) T.z_range) (pgx_name 3 sc__law_power.nd) (pssx_one (psx_set 2 sc__law_power.nd (px_bin opd_mul (pa1_name 2) (pv_name 0)))))
    (pssx_one (psx_ret (px_move 2)))))
theorem ok__law_number (T : Tops K mg) : FnOk P w K mg base CX0 1 T.f__law_number T.fd__law_number ["b", "code"] (spG K 2 m__law_number) :=
  ok_fn (k := 0) 4 T.F__law_number sc__law_number rfl fun cdv A outer s H E hr =>
    (pssx_cons (psx_asg (px_tup (pax_cons px_int (pax_cons px_int pax_nil))) (pgx_tup rfl (pgsx_cons (pgx_name 2 sc__law_number.nd) (pgsx_cons (pgx_name 3 sc__law_number.nd) pgsx_nil)) (gsCons_len (gsCons_len gsNil_len))))
    (pssx_cons (psx_for PassesOwn.never rfl (pix_seq (px_name 1)) (pgx_name 4 sc__law_number.nd) (pssx_cons (psx_set 5 sc__law_number.nd (px_if (pq_cmp (opc_eq hr.units) ((px_bin opd_mod ((px_t1 opu_int (pv_name 3) T.z_int)).a (px_int).v)).a (px_int).v) (px_name 4) (px_bin opd_sub ((px_bin opd_sub (pa1_name 0) (px_int).v)).a (pv_name 4))))
    (pssx_cons (psx_set 2 sc__law_number.nd (px_bin opd_add ((px_bin opd_mul (pa1_name 2) (pv_name 0))).a (pv_name 5)))
    (pssx_one (psx_set 3 sc__law_number.nd (px_name 2))))))
    (pssx_one (psx_ret (px_move 2)))))
theorem ok__law_code (T : Tops K mg) : FnOk P w K mg base CX0 2 T.f__law_code T.fd__law_code ["b", "n", "number"] (spG K 3 m__law_code) :=
  ok_fn (k := 1) 5 T.F__law_code sc__law_code rfl fun cdv A outer s H E hr =>
    (pssx_cons (psx_setLc 4 (own := [(".0", 7), ("k", 3)]) rfl sc__law_code.nd (pix_range1 ((px_bin opd_add (pa1_name 1) (px_int).v)).v T.z_range) (blkOk_by (own := [(".0", 7), ("k", 3)]) (N := n__law_code) (sc := defScope s__law_code) (scope := ({ kind := .function, names := [(PySem.Str.ofString ".0", .local), (PySem.Str.ofString "k", .local), (PySem.Str.ofString "_law_power", .globalImplicit), (PySem.Str.ofString "b", .free), (PySem.Str.ofString "n", .free), (PySem.Str.ofString "number", .free)], isGenerator := false, isCoroutine := false, more := [] } : Scope)) (by decide +kernel)) (by decide) (fun _ _ _ _ _ => (pgx_name 3 sc__law_code.nd)) (fun _ _ _ _ _ => ptx_nil) (fun _ _ _ _ _ => (px_bin opd_fdiv (pa1_name 2) ((px_call (ok__law_power T) (hr.mono (by decide)) T.g__law_power T.F__law_power.kp T.B__law_power (pax_cons (px_name 0) (pax_cons (px_bin opd_sub (pa1_name 1) (pv_name 3)) pax_nil)))).v)))
    (pssx_cons (psx_set 5 sc__law_code.nd (px_lst pax_nil))
    (pssx_cons (psx_for PassesOwn.never rfl (pix_range2 (px_int).a ((px_bin opd_add (pa1_name 1) (px_int).v)).v T.z_range) (pgx_name 3 sc__law_code.nd) (pssx_cons (psx_set 6 sc__law_code.nd (px_bin opd_sub ((px_sub (pa1_name 4) (pv_name 3))).a ((px_bin opd_mul (pa1_name 0) ((px_sub (pa1_name 4) ((px_bin opd_sub (pa1_name 3) (px_int).v)).v)).v)).v))
    (pssx_one (psx_expr (px_append 5 (px_if (pq_cmp (opc_eq hr.units) ((px_bin opd_mod ((px_t1 opu_int ((px_sub (pa1_name 4) ((px_bin opd_sub (pa1_name 3) (px_int).v)).v)).v T.z_int)).a (px_int).v)).a (px_int).v) (px_name 6) (px_bin opd_sub ((px_bin opd_sub (pa1_name 0) (px_int).v)).a (pv_name 6))))))))
    (pssx_one (psx_ret (px_t1 opu_tuple (pv_name 5) T.z_tuple))))))
theorem ok_law (T : Tops K mg) : FnOk P w K mg base CX0 10 T.f_law T.fd_law ["script"] (spG K 1 m_law) :=
  ok_fn (k := 9) 11 T.F_law sc_law rfl fun cdv A outer s H E hr =>
    (pssx_cons (psx_set 1 sc_law.nd (px_call (ok__law_pool T) (hr.mono (by decide)) T.g__law_pool T.F__law_pool.kp T.B__law_pool (pax_cons (px_name 0) pax_nil)))
    (pssx_cons (psx_asg (px_tup (pax_cons (px_bin opd_add (px_int).a ((px_callIO 1 (ok__law_draw T) (hr.mono (by decide)) T.g__law_draw T.F__law_draw.kp T.B__law_draw (pax_cons px_int pax_nil))).v) (pax_cons (px_bin opd_add (px_int).a ((px_callIO 1 (ok__law_draw T) (hr.mono (by decide)) T.g__law_draw T.F__law_draw.kp T.B__law_draw (pax_cons px_int pax_nil))).v) pax_nil))) (pgx_tup rfl (pgsx_cons (pgx_name 2 sc_law.nd) (pgsx_cons (pgx_name 3 sc_law.nd) pgsx_nil)) (gsCons_len (gsCons_len gsNil_len))))
    (pssx_cons (psx_set 4 sc_law.nd (px_call (ok__law_power T) (hr.mono (by decide)) T.g__law_power T.F__law_power.kp T.B__law_power (pax_cons (px_name 2) (pax_cons (px_name 3) pax_nil))))
    (pssx_cons (psx_expr (px_callIO 1 (ok__law_next T) (hr.mono (by decide)) T.g__law_next T.F__law_next.kp T.B__law_next pax_nil))
    (pssx_cons (psx_for PassesOwn.never rfl (pix_range1 (px_int).v T.z_range) (pgx_name 5 sc_law.nd) (pssx_cons (psx_set 6 sc_law.nd (px_callIO 1 (ok__law_pick T) (hr.mono (by decide)) T.g__law_pick T.F__law_pick.kp T.B__law_pick (pax_cons (px_lst (pax_cons px_int (pax_cons (px_bin opd_sub (pa1_name 4) (px_int).v) (pax_cons (px_callIO 1 (ok__law_draw T) (hr.mono (by decide)) T.g__law_draw T.F__law_draw.kp T.B__law_draw (pax_cons (px_name 4) pax_nil)) pax_nil)))) pax_nil)))
    (pssx_cons (psx_set 7 sc_law.nd (px_t1 opu_tuple ((px_lc (own := [(".0", 10), ("k", 11)]) rfl sc_law.nd (pix_range1 (pv_name 3) T.z_range) (blkOk_by (own := [(".0", 10), ("k", 11)]) (N := n_law) (sc := defScope s_law) (scope := ({ kind := .function, names := [(PySem.Str.ofString ".0", .local), (PySem.Str.ofString "k", .local), (PySem.Str.ofString "_law_draw", .globalImplicit), (PySem.Str.ofString "b", .free), (PySem.Str.ofString "pool", .free)], isGenerator := false, isCoroutine := false, more := [] } : Scope)) (by decide +kernel)) (by decide) (fun _ _ _ _ _ => (pgx_name 11 sc_law.nd)) (fun _ _ _ _ _ => ptx_nil) (fun _ _ _ _ _ => (px_callIO 1 (ok__law_draw T) (hr.mono (by decide)) T.g__law_draw T.F__law_draw.kp T.B__law_draw (pax_cons (px_name 2) pax_nil))))).v T.z_tuple))
    (pssx_cons (psx_if (pq_not (PV.q ((px_call (ok__law_same T 8) (hr.mono (by decide)) T.g__law_same T.F__law_same.kp T.B__law_same (pax_cons (px_lst (pax_cons (px_call (ok_code_at T) (hr.mono (by decide)) T.g_code_at T.F_code_at.kp T.B_code_at (pax_cons (px_name 2) (pax_cons (px_name 3) (pax_cons (px_name 6) pax_nil)))) (pax_cons (px_call (ok_number_in T) (hr.mono (by decide)) T.g_number_in T.F_number_in.kp T.B_number_in (pax_cons (px_name 2) (pax_cons (px_name 7) pax_nil))) pax_nil))) (pax_cons (px_lst (pax_cons (px_call (ok__law_code T) (hr.mono (by decide)) T.g__law_code T.F__law_code.kp T.B__law_code (pax_cons (px_name 2) (pax_cons (px_name 3) (pax_cons (px_name 6) pax_nil)))) (pax_cons (px_call (ok__law_number T) (hr.mono (by decide)) T.g__law_number T.F__law_number.kp T.B__law_number (pax_cons (px_name 2) (pax_cons (px_name 7) pax_nil))) pax_nil))) pax_nil)))).v)) (pssx_one (psx_ret px_bl)) pssx_nil)
    (pssx_cons (psx_if (pq_not (PV.q ((px_call (ok__law_same T 8) (hr.mono (by decide)) T.g__law_same T.F__law_same.kp T.B__law_same (pax_cons (px_lst (pax_cons (px_call (ok_number_in T) (hr.mono (by decide)) T.g_number_in T.F_number_in.kp T.B_number_in (pax_cons (px_name 2) (pax_cons (px_call (ok__law_code T) (hr.mono (by decide)) T.g__law_code T.F__law_code.kp T.B__law_code (pax_cons (px_name 2) (pax_cons (px_name 3) (pax_cons (px_name 6) pax_nil)))) pax_nil))) (pax_cons (px_call (ok_code_at T) (hr.mono (by decide)) T.g_code_at T.F_code_at.kp T.B_code_at (pax_cons (px_name 2) (pax_cons (px_name 3) (pax_cons (px_call (ok__law_number T) (hr.mono (by decide)) T.g__law_number T.F__law_number.kp T.B__law_number (pax_cons (px_name 2) (pax_cons (px_name 7) pax_nil))) pax_nil)))) pax_nil))) (pax_cons (px_lst (pax_cons (px_name 6) (pax_cons (px_name 7) pax_nil))) pax_nil)))).v)) (pssx_one (psx_ret px_bl)) pssx_nil)
    (pssx_cons (psx_if (pq_cmp opc_lt ((px_bin opd_add (pa1_name 6) (px_int).v)).a (pv_name 4)) (pssx_cons (psx_set 8 sc_law.nd (px_call (ok_code_at T) (hr.mono (by decide)) T.g_code_at T.F_code_at.kp T.B_code_at (pax_cons (px_name 2) (pax_cons (px_name 3) (pax_cons (px_bin opd_add (pa1_name 6) (px_int).v) pax_nil)))))
    (pssx_one (psx_if (pq_cmp (opc_ne hr.units) ((px_call (ok_turns T) (hr.mono (by decide)) T.g_turns T.F_turns.kp T.B_turns (pax_cons (px_name 2) (pax_cons px_bl (pax_cons (px_call (ok_code_at T) (hr.mono (by decide)) T.g_code_at T.F_code_at.kp T.B_code_at (pax_cons (px_name 2) (pax_cons (px_name 3) (pax_cons (px_name 6) pax_nil)))) (pax_cons (px_name 8) pax_nil)))))).a (px_int).v) (pssx_one (psx_ret px_bl)) pssx_nil))) pssx_nil)
    (pssx_one (psx_expr (px_callIO 1 (ok__law_next T) (hr.mono (by decide)) T.g__law_next T.F__law_next.kp T.B__law_next pax_nil)))))))))
    (pssx_cons (psx_set 9 sc_law.nd (px_call (ok_turn_counts T) (hr.mono (by decide)) T.g_turn_counts T.F_turn_counts.kp T.B_turn_counts (pax_cons (px_name 2) (pax_cons (px_name 3) pax_nil))))
    (pssx_cons (psx_if (pq_not (PV.q ((px_call (ok__law_same T 8) (hr.mono (by decide)) T.g__law_same T.F__law_same.kp T.B__law_same (pax_cons (px_lst (pax_cons (px_name 9) (pax_cons (px_b1 (opu_sum rfl) (pv_name 9) T.z_sum) pax_nil))) (pax_cons (px_lst (pax_cons (px_lc (own := [(".0", 10), ("k", 11)]) rfl sc_law.nd (pix_range1 (pv_name 3) T.z_range) (blkOk_by (own := [(".0", 10), ("k", 11)]) (N := n_law) (sc := defScope s_law) (scope := ({ kind := .function, names := [(PySem.Str.ofString ".0", .local), (PySem.Str.ofString "k", .local), (PySem.Str.ofString "_law_power", .globalImplicit), (PySem.Str.ofString "b", .free)], isGenerator := false, isCoroutine := false, more := [] } : Scope)) (by decide +kernel)) (by decide) (fun _ _ _ _ _ => (pgx_name 11 sc_law.nd)) (fun _ _ _ _ _ => ptx_nil) (fun _ _ _ _ _ => (px_bin opd_mul ((px_call (ok__law_power T) (hr.mono (by decide)) T.g__law_power T.F__law_power.kp T.B__law_power (pax_cons (px_name 2) (pax_cons (px_name 11) pax_nil)))).a ((px_bin opd_sub (pa1_name 2) (px_int).v)).v))) (pax_cons (px_bin opd_sub (pa1_name 4) (px_int).v) pax_nil))) pax_nil)))).v)) (pssx_one (psx_ret px_bl)) pssx_nil)
    (pssx_one (psx_ret (px_or (px_cmp opc_gt (pa1_name 4) (px_int).v) (px_one (px_cmp (opc_eq hr.units) ((px_cmp opc_is ((px_call (ok_closed_tour T) (hr.mono (by decide)) T.g_closed_tour T.F_closed_tour.kp T.B_closed_tour (pax_cons (px_name 2) (pax_cons (px_name 3) pax_nil)))).a (px_non).v)).a ((px_or (px_cmp (opc_eq hr.units) ((px_bin opd_mod ((px_t1 opu_int (pv_name 2) T.z_int)).a (px_int).v)).a (px_int).v) (px_one (px_cmp (opc_eq hr.units) (pa1_name 3) (px_int).v)))).v))))))))))))
end
theorem tops_end {w : World} {K : PySem.W.Frag} {h : Heap} {mg : Str → Option Value} {fa : Addr} (X : K.In h) (G : h.Ns mainGlobals mg) (hfa : mg "law" = some (.ref fa))
    {f_power : Addr} {od_power an_power : Option Addr} {sl_power : Array (Option Value)} {oc_power kV_power dc_power pm_power cd_power ct_power : Value}
    {f_apart : Addr} {od_apart an_apart : Option Addr} {sl_apart : Array (Option Value)} {oc_apart kV_apart dc_apart pm_apart cd_apart ct_apart : Value}
    {f_turns : Addr} {od_turns an_turns : Option Addr} {sl_turns : Array (Option Value)} {oc_turns kV_turns dc_turns pm_turns cd_turns ct_turns : Value}
    {f_mirrored : Addr} {od_mirrored an_mirrored : Option Addr} {sl_mirrored : Array (Option Value)} {oc_mirrored kV_mirrored dc_mirrored pm_mirrored cd_mirrored ct_mirrored : Value}
    {f_number_in : Addr} {od_number_in an_number_in : Option Addr} {sl_number_in : Array (Option Value)} {oc_number_in kV_number_in dc_number_in pm_number_in cd_number_in ct_number_in : Value}
    {f_code_at : Addr} {od_code_at an_code_at : Option Addr} {sl_code_at : Array (Option Value)} {oc_code_at kV_code_at dc_code_at pm_code_at cd_code_at ct_code_at : Value}
    {f_closed_tour : Addr} {od_closed_tour an_closed_tour : Option Addr} {sl_closed_tour : Array (Option Value)} {oc_closed_tour kV_closed_tour dc_closed_tour pm_closed_tour cd_closed_tour ct_closed_tour : Value}
    {f_turn_counts : Addr} {od_turn_counts an_turn_counts : Option Addr} {sl_turn_counts : Array (Option Value)} {oc_turn_counts kV_turn_counts dc_turn_counts pm_turn_counts cd_turn_counts ct_turn_counts : Value}
    {f__law_mixed : Addr} {od__law_mixed an__law_mixed : Option Addr} {sl__law_mixed : Array (Option Value)} {oc__law_mixed kV__law_mixed dc__law_mixed pm__law_mixed cd__law_mixed ct__law_mixed : Value}
    {f__law_rest : Addr} {od__law_rest an__law_rest : Option Addr} {sl__law_rest : Array (Option Value)} {oc__law_rest kV__law_rest dc__law_rest pm__law_rest cd__law_rest ct__law_rest : Value}
    {f__law_pool : Addr} {od__law_pool an__law_pool : Option Addr} {sl__law_pool : Array (Option Value)} {oc__law_pool kV__law_pool dc__law_pool pm__law_pool cd__law_pool ct__law_pool : Value}
    {f__law_next : Addr} {od__law_next an__law_next : Option Addr} {sl__law_next : Array (Option Value)} {oc__law_next kV__law_next dc__law_next pm__law_next cd__law_next ct__law_next : Value}
    {f__law_draw : Addr} {od__law_draw an__law_draw : Option Addr} {sl__law_draw : Array (Option Value)} {oc__law_draw kV__law_draw dc__law_draw pm__law_draw cd__law_draw ct__law_draw : Value}
    {f__law_pick : Addr} {od__law_pick an__law_pick : Option Addr} {sl__law_pick : Array (Option Value)} {oc__law_pick kV__law_pick dc__law_pick pm__law_pick cd__law_pick ct__law_pick : Value}
    {f__law_same : Addr} {od__law_same an__law_same : Option Addr} {sl__law_same : Array (Option Value)} {oc__law_same kV__law_same dc__law_same pm__law_same cd__law_same ct__law_same : Value}
    {f__law_power : Addr} {od__law_power an__law_power : Option Addr} {sl__law_power : Array (Option Value)} {oc__law_power kV__law_power dc__law_power pm__law_power cd__law_power ct__law_power : Value}
    {f__law_number : Addr} {od__law_number an__law_number : Option Addr} {sl__law_number : Array (Option Value)} {oc__law_number kV__law_number dc__law_number pm__law_number cd__law_number ct__law_number : Value}
    {f__law_code : Addr} {od__law_code an__law_code : Option Addr} {sl__law_code : Array (Option Value)} {oc__law_code kV__law_code dc__law_code pm__law_code cd__law_code ct__law_code : Value}
    {f_law : Addr} {od_law an_law : Option Addr} {sl_law : Array (Option Value)} {oc_law kV_law dc_law pm_law cd_law ct_law : Value}
    (a_power : PySem.W.nsIn K mainGlobals "power" = some (some (.ref f_power))) (l_power : K.lookup f_power = some ⟨oc_power, od_power, .func (PySem.W.fnOf "power" "power" (defArgs s_power) (defBody s_power) (defScope s_power) .none kV_power dc_power pm_power an_power cd_power ct_power), sl_power⟩) (c_power : PySem.W.codeIn K cd_power "power" = true) (k_power : PySem.W.keepIn K (.ref f_power) = true)
    (a_apart : PySem.W.nsIn K mainGlobals "apart" = some (some (.ref f_apart))) (l_apart : K.lookup f_apart = some ⟨oc_apart, od_apart, .func (PySem.W.fnOf "apart" "apart" (defArgs s_apart) (defBody s_apart) (defScope s_apart) .none kV_apart dc_apart pm_apart an_apart cd_apart ct_apart), sl_apart⟩) (c_apart : PySem.W.codeIn K cd_apart "apart" = true) (k_apart : PySem.W.keepIn K (.ref f_apart) = true)
    (a_turns : PySem.W.nsIn K mainGlobals "turns" = some (some (.ref f_turns))) (l_turns : K.lookup f_turns = some ⟨oc_turns, od_turns, .func (PySem.W.fnOf "turns" "turns" (defArgs s_turns) (defBody s_turns) (defScope s_turns) .none kV_turns dc_turns pm_turns an_turns cd_turns ct_turns), sl_turns⟩) (c_turns : PySem.W.codeIn K cd_turns "turns" = true) (k_turns : PySem.W.keepIn K (.ref f_turns) = true)
    (a_mirrored : PySem.W.nsIn K mainGlobals "mirrored" = some (some (.ref f_mirrored))) (l_mirrored : K.lookup f_mirrored = some ⟨oc_mirrored, od_mirrored, .func (PySem.W.fnOf "mirrored" "mirrored" (defArgs s_mirrored) (defBody s_mirrored) (defScope s_mirrored) .none kV_mirrored dc_mirrored pm_mirrored an_mirrored cd_mirrored ct_mirrored), sl_mirrored⟩) (c_mirrored : PySem.W.codeIn K cd_mirrored "mirrored" = true) (k_mirrored : PySem.W.keepIn K (.ref f_mirrored) = true)
    (a_number_in : PySem.W.nsIn K mainGlobals "number_in" = some (some (.ref f_number_in))) (l_number_in : K.lookup f_number_in = some ⟨oc_number_in, od_number_in, .func (PySem.W.fnOf "number_in" "number_in" (defArgs s_number_in) (defBody s_number_in) (defScope s_number_in) .none kV_number_in dc_number_in pm_number_in an_number_in cd_number_in ct_number_in), sl_number_in⟩) (c_number_in : PySem.W.codeIn K cd_number_in "number_in" = true) (k_number_in : PySem.W.keepIn K (.ref f_number_in) = true)
    (a_code_at : PySem.W.nsIn K mainGlobals "code_at" = some (some (.ref f_code_at))) (l_code_at : K.lookup f_code_at = some ⟨oc_code_at, od_code_at, .func (PySem.W.fnOf "code_at" "code_at" (defArgs s_code_at) (defBody s_code_at) (defScope s_code_at) .none kV_code_at dc_code_at pm_code_at an_code_at cd_code_at ct_code_at), sl_code_at⟩) (c_code_at : PySem.W.codeIn K cd_code_at "code_at" = true) (k_code_at : PySem.W.keepIn K (.ref f_code_at) = true)
    (a_closed_tour : PySem.W.nsIn K mainGlobals "closed_tour" = some (some (.ref f_closed_tour))) (l_closed_tour : K.lookup f_closed_tour = some ⟨oc_closed_tour, od_closed_tour, .func (PySem.W.fnOf "closed_tour" "closed_tour" (defArgs s_closed_tour) (defBody s_closed_tour) (defScope s_closed_tour) .none kV_closed_tour dc_closed_tour pm_closed_tour an_closed_tour cd_closed_tour ct_closed_tour), sl_closed_tour⟩) (c_closed_tour : PySem.W.codeIn K cd_closed_tour "closed_tour" = true) (k_closed_tour : PySem.W.keepIn K (.ref f_closed_tour) = true)
    (a_turn_counts : PySem.W.nsIn K mainGlobals "turn_counts" = some (some (.ref f_turn_counts))) (l_turn_counts : K.lookup f_turn_counts = some ⟨oc_turn_counts, od_turn_counts, .func (PySem.W.fnOf "turn_counts" "turn_counts" (defArgs s_turn_counts) (defBody s_turn_counts) (defScope s_turn_counts) .none kV_turn_counts dc_turn_counts pm_turn_counts an_turn_counts cd_turn_counts ct_turn_counts), sl_turn_counts⟩) (c_turn_counts : PySem.W.codeIn K cd_turn_counts "turn_counts" = true) (k_turn_counts : PySem.W.keepIn K (.ref f_turn_counts) = true)
    (a__law_mixed : PySem.W.nsIn K mainGlobals "_law_mixed" = some (some (.ref f__law_mixed))) (l__law_mixed : K.lookup f__law_mixed = some ⟨oc__law_mixed, od__law_mixed, .func (PySem.W.fnOf "_law_mixed" "_law_mixed" (defArgs s__law_mixed) (defBody s__law_mixed) (defScope s__law_mixed) .none kV__law_mixed dc__law_mixed pm__law_mixed an__law_mixed cd__law_mixed ct__law_mixed), sl__law_mixed⟩) (c__law_mixed : PySem.W.codeIn K cd__law_mixed "_law_mixed" = true) (k__law_mixed : PySem.W.keepIn K (.ref f__law_mixed) = true)
    (a__law_rest : PySem.W.nsIn K mainGlobals "_law_rest" = some (some (.ref f__law_rest))) (l__law_rest : K.lookup f__law_rest = some ⟨oc__law_rest, od__law_rest, .func (PySem.W.fnOf "_law_rest" "_law_rest" (defArgs s__law_rest) (defBody s__law_rest) (defScope s__law_rest) .none kV__law_rest dc__law_rest pm__law_rest an__law_rest cd__law_rest ct__law_rest), sl__law_rest⟩) (c__law_rest : PySem.W.codeIn K cd__law_rest "_law_rest" = true) (k__law_rest : PySem.W.keepIn K (.ref f__law_rest) = true)
    (a__law_pool : PySem.W.nsIn K mainGlobals "_law_pool" = some (some (.ref f__law_pool))) (l__law_pool : K.lookup f__law_pool = some ⟨oc__law_pool, od__law_pool, .func (PySem.W.fnOf "_law_pool" "_law_pool" (defArgs s__law_pool) (defBody s__law_pool) (defScope s__law_pool) .none kV__law_pool dc__law_pool pm__law_pool an__law_pool cd__law_pool ct__law_pool), sl__law_pool⟩) (c__law_pool : PySem.W.codeIn K cd__law_pool "_law_pool" = true) (k__law_pool : PySem.W.keepIn K (.ref f__law_pool) = true)
    (a__law_next : PySem.W.nsIn K mainGlobals "_law_next" = some (some (.ref f__law_next))) (l__law_next : K.lookup f__law_next = some ⟨oc__law_next, od__law_next, .func (PySem.W.fnOf "_law_next" "_law_next" (defArgs s__law_next) (defBody s__law_next) (defScope s__law_next) .none kV__law_next dc__law_next pm__law_next an__law_next cd__law_next ct__law_next), sl__law_next⟩) (c__law_next : PySem.W.codeIn K cd__law_next "_law_next" = true) (k__law_next : PySem.W.keepIn K (.ref f__law_next) = true)
    (a__law_draw : PySem.W.nsIn K mainGlobals "_law_draw" = some (some (.ref f__law_draw))) (l__law_draw : K.lookup f__law_draw = some ⟨oc__law_draw, od__law_draw, .func (PySem.W.fnOf "_law_draw" "_law_draw" (defArgs s__law_draw) (defBody s__law_draw) (defScope s__law_draw) .none kV__law_draw dc__law_draw pm__law_draw an__law_draw cd__law_draw ct__law_draw), sl__law_draw⟩) (c__law_draw : PySem.W.codeIn K cd__law_draw "_law_draw" = true) (k__law_draw : PySem.W.keepIn K (.ref f__law_draw) = true)
    (a__law_pick : PySem.W.nsIn K mainGlobals "_law_pick" = some (some (.ref f__law_pick))) (l__law_pick : K.lookup f__law_pick = some ⟨oc__law_pick, od__law_pick, .func (PySem.W.fnOf "_law_pick" "_law_pick" (defArgs s__law_pick) (defBody s__law_pick) (defScope s__law_pick) .none kV__law_pick dc__law_pick pm__law_pick an__law_pick cd__law_pick ct__law_pick), sl__law_pick⟩) (c__law_pick : PySem.W.codeIn K cd__law_pick "_law_pick" = true) (k__law_pick : PySem.W.keepIn K (.ref f__law_pick) = true)
    (a__law_same : PySem.W.nsIn K mainGlobals "_law_same" = some (some (.ref f__law_same))) (l__law_same : K.lookup f__law_same = some ⟨oc__law_same, od__law_same, .func (PySem.W.fnOf "_law_same" "_law_same" (defArgs s__law_same) (defBody s__law_same) (defScope s__law_same) .none kV__law_same dc__law_same pm__law_same an__law_same cd__law_same ct__law_same), sl__law_same⟩) (c__law_same : PySem.W.codeIn K cd__law_same "_law_same" = true) (k__law_same : PySem.W.keepIn K (.ref f__law_same) = true)
    (a__law_power : PySem.W.nsIn K mainGlobals "_law_power" = some (some (.ref f__law_power))) (l__law_power : K.lookup f__law_power = some ⟨oc__law_power, od__law_power, .func (PySem.W.fnOf "_law_power" "_law_power" (defArgs s__law_power) (defBody s__law_power) (defScope s__law_power) .none kV__law_power dc__law_power pm__law_power an__law_power cd__law_power ct__law_power), sl__law_power⟩) (c__law_power : PySem.W.codeIn K cd__law_power "_law_power" = true) (k__law_power : PySem.W.keepIn K (.ref f__law_power) = true)
    (a__law_number : PySem.W.nsIn K mainGlobals "_law_number" = some (some (.ref f__law_number))) (l__law_number : K.lookup f__law_number = some ⟨oc__law_number, od__law_number, .func (PySem.W.fnOf "_law_number" "_law_number" (defArgs s__law_number) (defBody s__law_number) (defScope s__law_number) .none kV__law_number dc__law_number pm__law_number an__law_number cd__law_number ct__law_number), sl__law_number⟩) (c__law_number : PySem.W.codeIn K cd__law_number "_law_number" = true) (k__law_number : PySem.W.keepIn K (.ref f__law_number) = true)
    (a__law_code : PySem.W.nsIn K mainGlobals "_law_code" = some (some (.ref f__law_code))) (l__law_code : K.lookup f__law_code = some ⟨oc__law_code, od__law_code, .func (PySem.W.fnOf "_law_code" "_law_code" (defArgs s__law_code) (defBody s__law_code) (defScope s__law_code) .none kV__law_code dc__law_code pm__law_code an__law_code cd__law_code ct__law_code), sl__law_code⟩) (c__law_code : PySem.W.codeIn K cd__law_code "_law_code" = true) (k__law_code : PySem.W.keepIn K (.ref f__law_code) = true)
    (a_law : PySem.W.nsIn K mainGlobals "law" = some (some (.ref f_law))) (l_law : K.lookup f_law = some ⟨oc_law, od_law, .func (PySem.W.fnOf "law" "law" (defArgs s_law) (defBody s_law) (defScope s_law) .none kV_law dc_law pm_law an_law cd_law ct_law), sl_law⟩) (c_law : PySem.W.codeIn K cd_law "law" = true) (k_law : PySem.W.keepIn K (.ref f_law) = true)
    (z_abs : PySem.W.nsIn K mainGlobals "abs" = some none)
    (z_all : PySem.W.nsIn K mainGlobals "all" = some none)
    (z_bool : PySem.W.nsIn K mainGlobals "bool" = some none)
    (z_dict : PySem.W.nsIn K mainGlobals "dict" = some none)
    (z_enumerate : PySem.W.nsIn K mainGlobals "enumerate" = some none)
    (z_int : PySem.W.nsIn K mainGlobals "int" = some none)
    (z_isinstance : PySem.W.nsIn K mainGlobals "isinstance" = some none)
    (z_len : PySem.W.nsIn K mainGlobals "len" = some none)
    (z_list : PySem.W.nsIn K mainGlobals "list" = some none)
    (z_min : PySem.W.nsIn K mainGlobals "min" = some none)
    (z_range : PySem.W.nsIn K mainGlobals "range" = some none)
    (z_str : PySem.W.nsIn K mainGlobals "str" = some none)
    (z_sum : PySem.W.nsIn K mainGlobals "sum" = some none)
    (z_tuple : PySem.W.nsIn K mainGlobals "tuple" = some none)
    (z_zip : PySem.W.nsIn K mainGlobals "zip" = some none) :
    ∃ fd : FuncData, (∀ (s : Shared) (u : Value), BindsTo s fd ⟨[u], []⟩ [("script", u)]) ∧ ∀ base : Heap, K.In base → base.Ns mainGlobals mg → FnOk PySem.Challenge.pw_lockwork_k43_whole_mirrored_tours_far_al w K mg base CX0 10 fa fd ["script"] (spG K 1 m_law) := by
  have e := hfa.symm.trans (PySem.W.mg_of X G a_law)
  cases e
  exact ⟨_, fun s v => .of_eq rfl, fun base _ _ => ok_law {
    f_power := _, fd_power := _, F_power := fun_mk (st := s_power) l_power c_power k_power, B_power := (fun_mk (st := s_power) l_power c_power k_power).binds (fun _ _ _ _ _ _ us hl => match us, hl with | [_, _], _ => rfl), g_power := PySem.W.mg_of X G a_power,
    f_apart := _, fd_apart := _, F_apart := fun_mk (st := s_apart) l_apart c_apart k_apart, B_apart := (fun_mk (st := s_apart) l_apart c_apart k_apart).binds (fun _ _ _ _ _ _ us hl => match us, hl with | [_, _, _, _], _ => rfl), g_apart := PySem.W.mg_of X G a_apart,
    f_turns := _, fd_turns := _, F_turns := fun_mk (st := s_turns) l_turns c_turns k_turns, B_turns := (fun_mk (st := s_turns) l_turns c_turns k_turns).binds (fun _ _ _ _ _ _ us hl => match us, hl with | [_, _, _, _], _ => rfl), g_turns := PySem.W.mg_of X G a_turns,
    f_mirrored := _, fd_mirrored := _, F_mirrored := fun_mk (st := s_mirrored) l_mirrored c_mirrored k_mirrored, B_mirrored := (fun_mk (st := s_mirrored) l_mirrored c_mirrored k_mirrored).binds (fun _ _ _ _ _ _ us hl => match us, hl with | [_, _], _ => rfl), g_mirrored := PySem.W.mg_of X G a_mirrored,
    f_number_in := _, fd_number_in := _, F_number_in := fun_mk (st := s_number_in) l_number_in c_number_in k_number_in, B_number_in := (fun_mk (st := s_number_in) l_number_in c_number_in k_number_in).binds (fun _ _ _ _ _ _ us hl => match us, hl with | [_, _], _ => rfl), g_number_in := PySem.W.mg_of X G a_number_in,
    f_code_at := _, fd_code_at := _, F_code_at := fun_mk (st := s_code_at) l_code_at c_code_at k_code_at, B_code_at := (fun_mk (st := s_code_at) l_code_at c_code_at k_code_at).binds (fun _ _ _ _ _ _ us hl => match us, hl with | [_, _, _], _ => rfl), g_code_at := PySem.W.mg_of X G a_code_at,
    f_closed_tour := _, fd_closed_tour := _, F_closed_tour := fun_mk (st := s_closed_tour) l_closed_tour c_closed_tour k_closed_tour, B_closed_tour := (fun_mk (st := s_closed_tour) l_closed_tour c_closed_tour k_closed_tour).binds (fun _ _ _ _ _ _ us hl => match us, hl with | [_, _], _ => rfl), g_closed_tour := PySem.W.mg_of X G a_closed_tour,
    f_turn_counts := _, fd_turn_counts := _, F_turn_counts := fun_mk (st := s_turn_counts) l_turn_counts c_turn_counts k_turn_counts, B_turn_counts := (fun_mk (st := s_turn_counts) l_turn_counts c_turn_counts k_turn_counts).binds (fun _ _ _ _ _ _ us hl => match us, hl with | [_, _], _ => rfl), g_turn_counts := PySem.W.mg_of X G a_turn_counts,
    f__law_mixed := _, fd__law_mixed := _, F__law_mixed := fun_mk (st := s__law_mixed) l__law_mixed c__law_mixed k__law_mixed, B__law_mixed := (fun_mk (st := s__law_mixed) l__law_mixed c__law_mixed k__law_mixed).binds (fun _ _ _ _ _ _ us hl => match us, hl with | [_, _], _ => rfl), g__law_mixed := PySem.W.mg_of X G a__law_mixed,
    f__law_rest := _, fd__law_rest := _, F__law_rest := fun_mk (st := s__law_rest) l__law_rest c__law_rest k__law_rest, B__law_rest := (fun_mk (st := s__law_rest) l__law_rest c__law_rest k__law_rest).binds (fun _ _ _ _ _ _ us hl => match us, hl with | [_, _, _], _ => rfl), g__law_rest := PySem.W.mg_of X G a__law_rest,
    f__law_pool := _, fd__law_pool := _, F__law_pool := fun_mk (st := s__law_pool) l__law_pool c__law_pool k__law_pool, B__law_pool := (fun_mk (st := s__law_pool) l__law_pool c__law_pool k__law_pool).binds (fun _ _ _ _ _ _ us hl => match us, hl with | [_], _ => rfl), g__law_pool := PySem.W.mg_of X G a__law_pool,
    f__law_next := _, fd__law_next := _, F__law_next := fun_mk (st := s__law_next) l__law_next c__law_next k__law_next, B__law_next := (fun_mk (st := s__law_next) l__law_next c__law_next k__law_next).binds (fun _ _ _ _ _ _ us hl => match us, hl with | [_], _ => rfl), g__law_next := PySem.W.mg_of X G a__law_next,
    f__law_draw := _, fd__law_draw := _, F__law_draw := fun_mk (st := s__law_draw) l__law_draw c__law_draw k__law_draw, B__law_draw := (fun_mk (st := s__law_draw) l__law_draw c__law_draw k__law_draw).binds (fun _ _ _ _ _ _ us hl => match us, hl with | [_, _], _ => rfl), g__law_draw := PySem.W.mg_of X G a__law_draw,
    f__law_pick := _, fd__law_pick := _, F__law_pick := fun_mk (st := s__law_pick) l__law_pick c__law_pick k__law_pick, B__law_pick := (fun_mk (st := s__law_pick) l__law_pick c__law_pick k__law_pick).binds (fun _ _ _ _ _ _ us hl => match us, hl with | [_, _], _ => rfl), g__law_pick := PySem.W.mg_of X G a__law_pick,
    f__law_same := _, fd__law_same := _, F__law_same := fun_mk (st := s__law_same) l__law_same c__law_same k__law_same, B__law_same := (fun_mk (st := s__law_same) l__law_same c__law_same k__law_same).binds (fun _ _ _ _ _ _ us hl => match us, hl with | [_, _], _ => rfl), g__law_same := PySem.W.mg_of X G a__law_same,
    f__law_power := _, fd__law_power := _, F__law_power := fun_mk (st := s__law_power) l__law_power c__law_power k__law_power, B__law_power := (fun_mk (st := s__law_power) l__law_power c__law_power k__law_power).binds (fun _ _ _ _ _ _ us hl => match us, hl with | [_, _], _ => rfl), g__law_power := PySem.W.mg_of X G a__law_power,
    f__law_number := _, fd__law_number := _, F__law_number := fun_mk (st := s__law_number) l__law_number c__law_number k__law_number, B__law_number := (fun_mk (st := s__law_number) l__law_number c__law_number k__law_number).binds (fun _ _ _ _ _ _ us hl => match us, hl with | [_, _], _ => rfl), g__law_number := PySem.W.mg_of X G a__law_number,
    f__law_code := _, fd__law_code := _, F__law_code := fun_mk (st := s__law_code) l__law_code c__law_code k__law_code, B__law_code := (fun_mk (st := s__law_code) l__law_code c__law_code k__law_code).binds (fun _ _ _ _ _ _ us hl => match us, hl with | [_, _, _], _ => rfl), g__law_code := PySem.W.mg_of X G a__law_code,
    f_law := _, fd_law := _, F_law := fun_mk (st := s_law) l_law c_law k_law, B_law := (fun_mk (st := s_law) l_law c_law k_law).binds (fun _ _ _ _ _ _ us hl => match us, hl with | [_], _ => rfl), g_law := PySem.W.mg_of X G a_law,
    z_abs := PySem.W.mg_none_of X G z_abs,
    z_all := PySem.W.mg_none_of X G z_all,
    z_bool := PySem.W.mg_none_of X G z_bool,
    z_dict := PySem.W.mg_none_of X G z_dict,
    z_enumerate := PySem.W.mg_none_of X G z_enumerate,
    z_int := PySem.W.mg_none_of X G z_int,
    z_isinstance := PySem.W.mg_none_of X G z_isinstance,
    z_len := PySem.W.mg_none_of X G z_len,
    z_list := PySem.W.mg_none_of X G z_list,
    z_min := PySem.W.mg_none_of X G z_min,
    z_range := PySem.W.mg_none_of X G z_range,
    z_str := PySem.W.mg_none_of X G z_str,
    z_sum := PySem.W.mg_none_of X G z_sum,
    z_tuple := PySem.W.mg_none_of X G z_tuple,
    z_zip := PySem.W.mg_none_of X G z_zip }⟩
theorem law_hsp {K : PySem.W.Frag} (H : Hp) (a : Addr) (ns : List Int) (hl : ns.length ≤ 63) (hb : ∀ z ∈ ns, Builtin.Int.intBits z ≤ 1048576) (hS : SqL K H a (ns.map V.int)) (plain : LawTrue) : spG K 1 m_law [.ref a] H (fun v _ => v = .bl true) fun _ _ _ => False := by
  obtain ⟨ρ', e⟩ := plain ns hl hb
  refine ⟨rfl, H, [.va (.list (ns.map .int))], _, ρ', Rel.args (ds := [.list (ns.map .int)]) (Same.refl _) (.cons (.lst hS (repL_of_ints ns)) .nil), e, fun F' H' v M rv => ?_⟩
  exact rv.bool
end PL
open PySem PySem.W PyProof.Rows
set_option maxHeartbeats 0 in
theorem PySem.Challenge.cw_lockwork_k43_whole_mirrored_tours_far_al_holds : PySem.Challenge.rw_lockwork_k43_whole_mirrored_tours_far_al.Holds := by
  w_on; o_law; k_head; (case hw => w_witness2)
  k_fill
  refine L2.walk_ofB (l := PySem.Challenge.rw_lockwork_k43_whole_mirrored_tours_far_al) (n := 63) (k := 10) (x := "script") (CX := fun _ => L2.CX0) (sp := fun w => PL.spG _ 1 PL.m_law) rfl (by decide) rfl ⟨rfl, by decide, by decide⟩ (fun w h Y => PySem.W.kIn_of Y) ?F (fun w H a ns hl hb _ hS => PL.law_hsp H a ns hl hb hS PL.law_true) (fun _ _ _ _ _ h => h)
  case F =>
    intro w mg fa h KX G hmg
    refine' PL.tops_end KX G hmg ?a_power ?l_power ?c_power ?k_power ?a_apart ?l_apart ?c_apart ?k_apart ?a_turns ?l_turns ?c_turns ?k_turns ?a_mirrored ?l_mirrored ?c_mirrored ?k_mirrored ?a_number_in ?l_number_in ?c_number_in ?k_number_in ?a_code_at ?l_code_at ?c_code_at ?k_code_at ?a_closed_tour ?l_closed_tour ?c_closed_tour ?k_closed_tour ?a_turn_counts ?l_turn_counts ?c_turn_counts ?k_turn_counts ?a__law_mixed ?l__law_mixed ?c__law_mixed ?k__law_mixed ?a__law_rest ?l__law_rest ?c__law_rest ?k__law_rest ?a__law_pool ?l__law_pool ?c__law_pool ?k__law_pool ?a__law_next ?l__law_next ?c__law_next ?k__law_next ?a__law_draw ?l__law_draw ?c__law_draw ?k__law_draw ?a__law_pick ?l__law_pick ?c__law_pick ?k__law_pick ?a__law_same ?l__law_same ?c__law_same ?k__law_same ?a__law_power ?l__law_power ?c__law_power ?k__law_power ?a__law_number ?l__law_number ?c__law_number ?k__law_number ?a__law_code ?l__law_code ?c__law_code ?k__law_code ?a_law ?l_law ?c_law ?k_law ?z_abs ?z_all ?z_bool ?z_dict ?z_enumerate ?z_int ?z_isinstance ?z_len ?z_list ?z_min ?z_range ?z_str ?z_sum ?z_tuple ?z_zip
    (case a_power => k_is); (case l_power => k_is); (case c_power => k_is); (case k_power => k_is); (case a_apart => k_is); (case l_apart => k_is); (case c_apart => k_is); (case k_apart => k_is); (case a_turns => k_is); (case l_turns => k_is); (case c_turns => k_is); (case k_turns => k_is); (case a_mirrored => k_is); (case l_mirrored => k_is); (case c_mirrored => k_is); (case k_mirrored => k_is); (case a_number_in => k_is); (case l_number_in => k_is); (case c_number_in => k_is); (case k_number_in => k_is); (case a_code_at => k_is); (case l_code_at => k_is); (case c_code_at => k_is); (case k_code_at => k_is); (case a_closed_tour => k_is); (case l_closed_tour => k_is); (case c_closed_tour => k_is); (case k_closed_tour => k_is); (case a_turn_counts => k_is); (case l_turn_counts => k_is); (case c_turn_counts => k_is); (case k_turn_counts => k_is); (case a__law_mixed => k_is); (case l__law_mixed => k_is); (case c__law_mixed => k_is); (case k__law_mixed => k_is); (case a__law_rest => k_is); (case l__law_rest => k_is); (case c__law_rest => k_is); (case k__law_rest => k_is); (case a__law_pool => k_is); (case l__law_pool => k_is); (case c__law_pool => k_is); (case k__law_pool => k_is); (case a__law_next => k_is); (case l__law_next => k_is); (case c__law_next => k_is); (case k__law_next => k_is); (case a__law_draw => k_is); (case l__law_draw => k_is); (case c__law_draw => k_is); (case k__law_draw => k_is); (case a__law_pick => k_is); (case l__law_pick => k_is); (case c__law_pick => k_is); (case k__law_pick => k_is); (case a__law_same => k_is); (case l__law_same => k_is); (case c__law_same => k_is); (case k__law_same => k_is); (case a__law_power => k_is); (case l__law_power => k_is); (case c__law_power => k_is); (case k__law_power => k_is); (case a__law_number => k_is); (case l__law_number => k_is); (case c__law_number => k_is); (case k__law_number => k_is); (case a__law_code => k_is); (case l__law_code => k_is); (case c__law_code => k_is); (case k__law_code => k_is); (case a_law => k_is); (case l_law => k_is); (case c_law => k_is); (case k_law => k_is); (case z_abs => k_is); (case z_all => k_is); (case z_bool => k_is); (case z_dict => k_is); (case z_enumerate => k_is); (case z_int => k_is); (case z_isinstance => k_is); (case z_len => k_is); (case z_list => k_is); (case z_min => k_is); (case z_range => k_is); (case z_str => k_is); (case z_sum => k_is); (case z_tuple => k_is); (case z_zip => k_is)
