import PyProof.Rows.All
import Wide.All
import OpenK.AllK
import Wide.FinOn
import PySem.Challenge.RW_fewplaymany_k29_all_rows_of_views_counte
import HandS.ForMost
import HandS.Star
import HandS.IsInst
import HandS.Property
import HandS.Wide
import HandS.WideBits
import HandS.TupAny
import HandS.TupMul
import HandS.Style
import HandS.Deep
import HandS.RaiseMore
import HandS.Conv
import PyProof.ReprRoads
import HandS.Walk
import HandS.Zip
import HandS.Small
import KE.SortData
import HandS.Strs
import HandS.Iter
import HandS.More
import HandS.Replace
import HandS.SetFor
import HandS.TupSets
import HandS.DictComp
import PyProof.AutoSeq1
import PyProof.TupleOfSeq
import HandS.MapObj
import HandS.DictTup
import KE.KDictZip
import KE.KDictList
import HandS.Dict
import PyProof.InstNe
import PyProof.ListMulRoad
import PyProof.FactsAll.tuple_2
set_option Elab.async false
set_option linter.all false
set_option maxRecDepth 100000
set_option autoImplicit false
/-! Ev1: a small functional reading of the text: values as trees, a store of lists and instances; how it lies within the layer's heap. -/
namespace Ev
open PySem L2

/-- a value: a tree; what can be changed stands in the store, by its place -/
inductive D where
  | non | bl (b : Bool) | int (i : Int) | str (s : Str) | tup (xs : List D) | loc (l : Nat)
/-- what stands in the store: the script, a list, an instance (its class's number, its fields by their numbers), a dict with text or int keys -/
inductive O where
  | ro (ns : List Int) | lst (xs : List D) | ins (c : Nat) (fs : List (Nat × D)) | dic (kvs : List (Key × D)) | opq
abbrev Store := List O
inductive R (A : Type) where
  | ok (a : A) (s : Store) | bad
def R.bind {A B : Type} (r : R A) (f : A → Store → R B) : R B := match r with | .ok a s => f a s | .bad => .bad
@[simp] theorem R.bind_ok {A B : Type} (a : A) (s : Store) (f : A → Store → R B) : (R.ok a s).bind f = f a s := rfl
@[simp] theorem R.bind_bad {A B : Type} (f : A → Store → R B) : (R.bad : R A).bind f = .bad := rfl
theorem R.bind_eq {A B : Type} {r : R A} {f : A → Store → R B} {b : B} {s' : Store} (h : r.bind f = .ok b s') : ∃ a s, r = .ok a s ∧ f a s = .ok b s' := by
  cases r with
  | ok a s => exact ⟨a, s, rfl, h⟩
  | bad => cases h

/-- the numbers' meaning: K the written part, the class at a number, the field's name at a number -/
structure Gh where
  K : PySem.W.Frag
  cl : Nat → Addr
  fld : Nat → Str
  nc : Nat
  nf : Nat

def O.mut : O → Bool
  | .ro _ => false
  | _ => true
def mutAt (st : Store) (l : Nat) : Prop := ∃ o, st[l]? = some o ∧ o.mut = true

mutual
def VR (K : PySem.W.Frag) (ρ : Nat → Addr) (n : Nat) (H : Hp) : D → V → Prop
  | .non, v => v = .non
  | .bl b, v => v = .bl b
  | .int i, v => v = .int i
  | .str s, v => v = .str s
  | .tup xs, v => ∃ a ys, v = .ref a ∧ SqT K H a ys ∧ VRs K ρ n H xs ys
  | .loc l, v => l < n ∧ v = .ref (ρ l)
def VRs (K : PySem.W.Frag) (ρ : Nat → Addr) (n : Nat) (H : Hp) : List D → List V → Prop
  | [], ys => ys = []
  | x :: xs, ys => ∃ y zs, ys = y :: zs ∧ VR K ρ n H x y ∧ VRs K ρ n H xs zs
end

def RoL (K : PySem.W.Frag) (H : Hp) (a : Addr) (xs : List V) : Prop :=
  (∃ o, H a = some (.frz o (.lst xs))) ∨
    ∃ (o : Obj) (its : Array Value) (n : Nat), K.lookup a = some o ∧ o.cls = .type "list" ∧ o.dict = none ∧ o.data = .seq its n ∧ its.size ≤ sizeLine ∧ Vals xs its.toList
theorem RoL.sq {K : PySem.W.Frag} {H : Hp} {a : Addr} {xs : List V} (h : RoL K H a xs) : SqL K H a xs := by
  rcases h with ⟨o, h⟩ | h
  · exact .inl (.inr ⟨o, h⟩)
  · exact .inr h

/-- the fields, one by one -/
def FR (g : Gh) (ρ : Nat → Addr) (n : Nat) (H : Hp) : List (Nat × D) → List (Str × V) → Prop
  | [], gs => gs = []
  | (i, d) :: fs, gs => i < g.nf ∧ ∃ v hs, gs = (g.fld i, v) :: hs ∧ VR g.K ρ n H d v ∧ FR g ρ n H fs hs
def KR (K : PySem.W.Frag) (ρ : Nat → Addr) (n : Nat) (H : Hp) : List (Key × D) → List (Key × V) → Prop
  | [], gs => gs = []
  | (k, d) :: fs, gs => ∃ v hs, gs = (k, v) :: hs ∧ VR K ρ n H d v ∧ KR K ρ n H fs hs

def OR (g : Gh) (ρ : Nat → Addr) (n : Nat) (H : Hp) (a : Addr) : O → Prop
  | .ro ns => RoL g.K H a (ns.map V.int)
  | .lst xs => ∃ ys, H a = some (.lst ys) ∧ VRs g.K ρ n H xs ys
  | .ins c fs => c < g.nc ∧ ∃ dx gs, H a = some (.ins (g.cl c) dx gs) ∧ FR g ρ n H fs gs
  | .dic kvs => ∃ gs, H a = some (.dK gs) ∧ KR g.K ρ n H kvs gs
  | .opq => ∃ φ, H a = some (.ext φ)

structure Rel (g : Gh) (ρ : Nat → Addr) (st : Store) (H : Hp) : Prop where
  obj : ∀ (l : Nat) (o : O), st[l]? = some o → OR g ρ st.length H (ρ l) o
  inj : ∀ l l', mutAt st l → mutAt st l' → ρ l = ρ l' → l = l'

/-- what stays -/
structure Post (g : Gh) (ρ : Nat → Addr) (st : Store) (H : Hp) (ρ' : Nat → Addr) (st' : Store) (H' : Hp) : Prop where
  rel : Rel g ρ' st' H'
  len : st.length ≤ st'.length
  old : ∀ l, l < st.length → ρ' l = ρ l
  keep : ∀ b o, H b = some o → (∀ l, mutAt st l → ρ l ≠ b) → H' b = some o
  fresh : ∀ l, st.length ≤ l → l < st'.length → H (ρ' l) = none
  kind : ∀ (l : Nat) (o o' : O), st[l]? = some o → st'[l]? = some o' → o.mut = o'.mut

section
variable {g : Gh} {K : PySem.W.Frag} {ρ ρ' ρ1 ρ2 : Nat → Addr} {st st' st1 st2 : Store} {H H' H1 H2 : Hp} {n n' : Nat}

theorem OR.tracked {a : Addr} {o : O} (h : OR g ρ n H a o) (m : o.mut = true) : ∃ u, H a = some u ∧ Mut (some u) := by
  cases o with
  | ro ns => cases m
  | lst xs => obtain ⟨ys, e, _⟩ := h; exact ⟨_, e, trivial⟩
  | ins c fs => obtain ⟨_, dx, gs, e, _⟩ := h; exact ⟨_, e, trivial⟩
  | dic kvs => obtain ⟨gs, e, _⟩ := h; exact ⟨_, e, trivial⟩
  | opq => obtain ⟨φ, e⟩ := h; exact ⟨_, e, trivial⟩
theorem Rel.mutSome (R : Rel g ρ st H) {l : Nat} (m : mutAt st l) : ∃ u, H (ρ l) = some u ∧ Mut (some u) := by
  obtain ⟨o, e, m⟩ := m
  exact OR.tracked (R.obj l o e) m

/-- what is no list, instance, dict stays -/
theorem Post.keepN (P : Post g ρ st H ρ' st' H') (R : Rel g ρ st H) {b : Addr} {o : HO} (e : H b = some o) (m : ¬ Mut (some o)) : H' b = some o :=
  P.keep b o e fun l ml q => by
    obtain ⟨u, e', m'⟩ := R.mutSome ml
    rw [q, e] at e'
    cases e'
    exact m m'
def TK (K : PySem.W.Frag) (H H' : Hp) : Prop := ∀ a ys, SqT K H a ys → SqT K H' a ys
theorem TK.of (h : ∀ b o, H b = some o → ¬ Mut (some o) → H' b = some o) : TK K H H' := fun a ys q => by
  rcases q with (q | ⟨o, q⟩) | q
  · exact .inl (.inl (h _ _ q fun z => z))
  · exact .inl (.inr ⟨o, h _ _ q fun z => z⟩)
  · exact .inr q
theorem RoL.of (h : ∀ b o, H b = some o → ¬ Mut (some o) → H' b = some o) {a : Addr} {xs : List V} (q : RoL K H a xs) : RoL K H' a xs := by
  rcases q with ⟨o, q⟩ | q
  · exact .inl ⟨o, h _ _ q fun z => z⟩
  · exact .inr q
theorem Post.tk (P : Post g ρ st H ρ' st' H') (R : Rel g ρ st H) : TK g.K H H' := TK.of fun b o e m => P.keepN R e m

mutual
theorem VR.mono (ho : ∀ l, l < n → ρ' l = ρ l) (hn : n ≤ n') (t : TK K H H') : ∀ {d : D} {v : V}, VR K ρ n H d v → VR K ρ' n' H' d v
  | .non, _, h => h
  | .bl _, _, h => h
  | .int _, _, h => h
  | .str _, _, h => h
  | .tup xs, _, h => by
    obtain ⟨a, ys, e, q, r⟩ := h
    exact ⟨a, ys, e, t _ _ q, VRs.mono ho hn t r⟩
  | .loc l, _, h => by
    obtain ⟨h1, h2⟩ := h
    exact ⟨Nat.lt_of_lt_of_le h1 hn, by rw [ho l h1]; exact h2⟩
theorem VRs.mono (ho : ∀ l, l < n → ρ' l = ρ l) (hn : n ≤ n') (t : TK K H H') : ∀ {ds : List D} {vs : List V}, VRs K ρ n H ds vs → VRs K ρ' n' H' ds vs
  | [], _, h => h
  | x :: xs, _, h => by
    obtain ⟨y, zs, e, r, rs⟩ := h
    exact ⟨y, zs, e, VR.mono ho hn t r, VRs.mono ho hn t rs⟩
end
theorem FR.mono (ho : ∀ l, l < n → ρ' l = ρ l) (hn : n ≤ n') (t : TK g.K H H') : ∀ {fs : List (Nat × D)} {gs : List (Str × V)}, FR g ρ n H fs gs → FR g ρ' n' H' fs gs
  | [], _, h => h
  | (i, d) :: fs, _, h => by
    obtain ⟨hi, v, hs, e, r, rs⟩ := h
    exact ⟨hi, v, hs, e, r.mono ho hn t, FR.mono ho hn t rs⟩
theorem KR.mono (ho : ∀ l, l < n → ρ' l = ρ l) (hn : n ≤ n') (t : TK K H H') : ∀ {fs : List (Key × D)} {gs : List (Key × V)}, KR K ρ n H fs gs → KR K ρ' n' H' fs gs
  | [], _, h => h
  | (i, d) :: fs, _, h => by
    obtain ⟨v, hs, e, r, rs⟩ := h
    exact ⟨v, hs, e, r.mono ho hn t, KR.mono ho hn t rs⟩
theorem Post.vr (P : Post g ρ st H ρ' st' H') (R : Rel g ρ st H) {d : D} {v : V} (h : VR g.K ρ st.length H d v) : VR g.K ρ' st'.length H' d v := h.mono P.old P.len (P.tk R)
theorem Post.vrs (P : Post g ρ st H ρ' st' H') (R : Rel g ρ st H) {d : List D} {v : List V} (h : VRs g.K ρ st.length H d v) : VRs g.K ρ' st'.length H' d v := h.mono P.old P.len (P.tk R)

theorem Post.refl (R : Rel g ρ st H) : Post g ρ st H ρ st H :=
  ⟨R, Nat.le_refl _, fun _ _ => rfl, fun _ _ e _ => e, fun l h1 h2 => absurd h2 (Nat.not_lt.mpr h1), fun l o o' e e' => by rw [e] at e'; cases e'; rfl⟩
theorem get_of_lt {A : Type} {st : List A} {l : Nat} (h : l < st.length) : ∃ o, st[l]? = some o := ⟨st[l], List.getElem?_eq_getElem h⟩
theorem lt_of_get {A : Type} {st : List A} {l : Nat} {o : A} (h : st[l]? = some o) : l < st.length := (List.getElem?_eq_some_iff.mp h).1
theorem Post.mutB (P : Post g ρ st H ρ' st' H') {l : Nat} (m : mutAt st' l) (h : l < st.length) : mutAt st l := by
  obtain ⟨o', e', m⟩ := m
  obtain ⟨o, e⟩ := get_of_lt h
  exact ⟨o, e, by rw [P.kind l o o' e e']; exact m⟩
theorem Post.mutF (P : Post g ρ st H ρ' st' H') {l : Nat} (m : mutAt st l) : mutAt st' l := by
  obtain ⟨o, e, m⟩ := m
  obtain ⟨o', e'⟩ := get_of_lt (Nat.lt_of_lt_of_le (lt_of_get e) P.len)
  exact ⟨o', e', by rw [← P.kind l o o' e e']; exact m⟩
/-- tracked stays tracked -/
theorem Post.there (P : Post g ρ st H ρ' st' H') {b : Addr} {o : HO} (e : H b = some o) : ∃ o', H' b = some o' := by
  by_cases h : ∃ l, mutAt st l ∧ ρ l = b
  · obtain ⟨l, m, rfl⟩ := h
    have hl : l < st.length := by obtain ⟨_, e, _⟩ := m; exact lt_of_get e
    obtain ⟨u, e', _⟩ := P.rel.mutSome (P.mutF m)
    rw [P.old l hl] at e'
    exact ⟨u, e'⟩
  · exact ⟨o, P.keep b o e fun l m q => h ⟨l, m, q⟩⟩
theorem Post.freeB (P : Post g ρ st H ρ' st' H') {b : Addr} (e : H' b = none) : H b = none := by
  cases q : H b with
  | none => rfl
  | some o =>
    obtain ⟨o', e'⟩ := P.there q
    rw [e] at e'
    cases e'
theorem Post.trans (P : Post g ρ st H ρ1 st1 H1) (Q : Post g ρ1 st1 H1 ρ2 st2 H2) : Post g ρ st H ρ2 st2 H2 where
  rel := Q.rel
  len := Nat.le_trans P.len Q.len
  old := fun l h => (Q.old l (Nat.lt_of_lt_of_le h P.len)).trans (P.old l h)
  keep := fun b o e h => Q.keep b o (P.keep b o e h) fun l m q => by
    by_cases hl : l < st.length
    · exact h l (P.mutB m hl) ((P.old l hl).symm.trans q)
    · have hl1 : l < st1.length := by obtain ⟨_, e, _⟩ := m; exact lt_of_get e
      have := P.fresh l (Nat.le_of_not_lt hl) hl1
      rw [q, e] at this
      cases this
  fresh := fun l h1 h2 => by
    by_cases hl : l < st1.length
    · rw [Q.old l hl]; exact P.fresh l h1 hl
    · exact P.freeB (Q.fresh l (Nat.le_of_not_lt hl) h2)
  kind := fun l o o' e e' => by
    obtain ⟨o1, e1⟩ := get_of_lt (Nat.lt_of_lt_of_le (lt_of_get e) P.len)
    exact (P.kind l o o1 e e1).trans (Q.kind l o1 o' e1 e')

/-! ### one step of the heap -/
theorem upd_keepN {p : Addr} {u : HO} (hp : H p = none) : ∀ b o, H b = some o → upd H p u b = some o := fun b o e => by
  rw [upd_ne (ne_of_none e hp)]
  exact e
/-- every object is kept: so is what is told of them -/
theorem OR.kept (h : ∀ b o, H b = some o → H' b = some o) (ho : ∀ l, l < n → ρ' l = ρ l) (hn : n ≤ n') {a : Addr} {o : O} (q : OR g ρ n H a o) : OR g ρ' n' H' a o := by
  have t : TK g.K H H' := TK.of fun b o e _ => h b o e
  cases o with
  | ro ns => exact RoL.of (fun b o e _ => h b o e) q
  | lst xs => obtain ⟨ys, e, r⟩ := q; exact ⟨ys, h _ _ e, r.mono ho hn t⟩
  | ins c fs => obtain ⟨hc, dx, gs, e, r⟩ := q; exact ⟨hc, dx, gs, h _ _ e, r.mono ho hn t⟩
  | dic kvs => obtain ⟨gs, e, r⟩ := q; exact ⟨gs, h _ _ e, r.mono ho hn t⟩
  | opq => obtain ⟨φ, e⟩ := q; exact ⟨φ, h _ _ e⟩
/-- new objects that nothing of ours tells of -/
theorem Rel.more (R : Rel g ρ st H) (h : ∀ b o, H b = some o → H' b = some o) : Post g ρ st H ρ st H' where
  rel := ⟨fun l o e => OR.kept h (fun _ _ => rfl) (Nat.le_refl _) (R.obj l o e), R.inj⟩
  len := Nat.le_refl _
  old := fun _ _ => rfl
  keep := fun b o e _ => h b o e
  fresh := fun l h1 h2 => absurd h2 (Nat.not_lt.mpr h1)
  kind := fun l o o' e e' => by rw [e] at e'; cases e'; rfl
theorem Rel.tup (R : Rel g ρ st H) {p : Addr} {u : HO} (hp : H p = none) : Post g ρ st H ρ st (upd H p u) := R.more (upd_keepN hp)

/-- the next place -/
def nxt (ρ : Nat → Addr) (n : Nat) (p : Addr) : Nat → Addr := fun l => if l = n then p else ρ l
theorem nxt_same {p : Addr} : nxt ρ n p n = p := if_pos rfl
theorem nxt_old {p : Addr} : ∀ l, l < n → nxt ρ n p l = ρ l := fun l h => if_neg (Nat.ne_of_lt h)
theorem mutAt_lt {l : Nat} (m : mutAt st l) : l < st.length := by obtain ⟨_, e, _⟩ := m; exact lt_of_get e
/-- a place is given to an object that is there and has none -/
theorem Rel.name (R : Rel g ρ st H) {p : Addr} {o : O} (hn : ∀ l, mutAt st l → ρ l ≠ p) (new : OR g ρ st.length H p o) : Rel g (nxt ρ st.length p) (st ++ [o]) H where
  obj := fun l u e => by
    have hl : st.length ≤ (st ++ [o]).length := by simp
    by_cases h : l < st.length
    · rw [List.getElem?_append_left h] at e
      rw [nxt_old l h]
      exact OR.kept (fun _ _ e => e) nxt_old hl (R.obj l u e)
    · have hlt := lt_of_get e
      have e2 : l = st.length := by simp at hlt; omega
      subst e2
      rw [List.getElem?_append_right (Nat.le_refl _)] at e
      simp at e
      subst e
      rw [nxt_same]
      exact OR.kept (fun _ _ e => e) nxt_old hl new
  inj := fun l l' m m' q => by
    have lo : ∀ l, mutAt (st ++ [o]) l → l < st.length ∧ mutAt st l ∨ l = st.length := fun l m => by
      obtain ⟨u, e, mu⟩ := m
      by_cases h : l < st.length
      · rw [List.getElem?_append_left h] at e
        exact .inl ⟨h, u, e, mu⟩
      · have hlt := lt_of_get e
        simp at hlt
        exact .inr (by omega)
    rcases lo l m with ⟨h1, m1⟩ | h1 <;> rcases lo l' m' with ⟨h2, m2⟩ | h2
    · rw [nxt_old l h1, nxt_old l' h2] at q
      exact R.inj l l' m1 m2 q
    · subst h2
      rw [nxt_old l h1, nxt_same] at q
      exact absurd q (hn l m1)
    · subst h1
      rw [nxt_old l' h2, nxt_same] at q
      exact absurd q.symm (hn l' m2)
    · rw [h1, h2]
/-- a new object with a place -/
theorem Rel.push (R : Rel g ρ st H) {p : Addr} {u : HO} {o : O} (hp : H p = none) (new : OR g ρ st.length (upd H p u) p o) : Post g ρ st H (nxt ρ st.length p) (st ++ [o]) (upd H p u) where
  rel := (R.tup hp).rel.name (fun l m q => by
    obtain ⟨v, e, _⟩ := R.mutSome m
    rw [q, hp] at e
    cases e) new
  len := by simp
  old := nxt_old
  keep := fun b o e _ => upd_keepN hp b o e
  fresh := fun l h1 h2 => by
    have e2 : l = st.length := by simp at h2; omega
    subst e2
    rw [nxt_same]
    exact hp
  kind := fun l o o' e e' => by
    rw [List.getElem?_append_left (lt_of_get e), e] at e'
    cases e'
    rfl
/-- an object changed -/
theorem Rel.set (R : Rel g ρ st H) {l : Nat} {o o' : O} {u : HO} (hl : st[l]? = some o) (m : o.mut = true) (m' : o'.mut = true) (new : OR g ρ st.length (upd H (ρ l) u) (ρ l) o') :
    Post g ρ st H ρ (st.set l o') (upd H (ρ l) u) := by
  have ml : mutAt st l := ⟨o, hl, m⟩
  obtain ⟨u0, e0, mu0⟩ := R.mutSome ml
  have hlt := lt_of_get hl
  have kn : ∀ b v, H b = some v → ¬ Mut (some v) → upd H (ρ l) u b = some v := fun b v e nm => by
    rw [upd_ne]
    · exact e
    · intro q
      subst q
      rw [e0] at e
      cases e
      exact nm mu0
  have t : TK g.K H (upd H (ρ l) u) := TK.of kn
  have mm : ∀ j, mutAt (st.set l o') j → mutAt st j := fun j mj => by
    obtain ⟨v, e, mv⟩ := mj
    by_cases hj : j = l
    · subst hj; exact ml
    · rw [List.getElem?_set_ne (Ne.symm hj)] at e
      exact ⟨v, e, mv⟩
  refine ⟨⟨fun j v e => ?_, fun j j' a b q => R.inj j j' (mm j a) (mm j' b) q⟩, by simp, fun _ _ => rfl, fun b v e h => ?_, fun j h1 h2 => ?_, fun j v v' e e' => ?_⟩
  · rw [List.length_set]
    by_cases hj : j = l
    · subst hj
      rw [List.getElem?_set_self hlt] at e
      cases e
      exact new
    · rw [List.getElem?_set_ne (Ne.symm hj)] at e
      have q := R.obj j v e
      have ne : v.mut = true → ρ j ≠ ρ l := fun mv z => hj (R.inj j l ⟨v, e, mv⟩ ml z)
      cases v with
      | ro ns => exact RoL.of kn q
      | lst xs => obtain ⟨ys, e1, r⟩ := q; exact ⟨ys, by rw [upd_ne (ne rfl)]; exact e1, r.mono (fun _ _ => rfl) (Nat.le_refl _) t⟩
      | ins c fs => obtain ⟨hc, dx, gs, e1, r⟩ := q; exact ⟨hc, dx, gs, by rw [upd_ne (ne rfl)]; exact e1, r.mono (fun _ _ => rfl) (Nat.le_refl _) t⟩
      | dic kvs => obtain ⟨gs, e1, r⟩ := q; exact ⟨gs, by rw [upd_ne (ne rfl)]; exact e1, r.mono (fun _ _ => rfl) (Nat.le_refl _) t⟩
      | opq => obtain ⟨φ, e1⟩ := q; exact ⟨φ, by rw [upd_ne (ne rfl)]; exact e1⟩
  · rw [upd_ne (Ne.symm (h l ml))]
    exact e
  · rw [List.length_set] at h2
    exact absurd h2 (Nat.not_lt.mpr h1)
  · by_cases hj : j = l
    · subst hj
      rw [List.getElem?_set_self hlt] at e'
      cases e'
      rw [hl] at e
      cases e
      rw [m, m']
    · rw [List.getElem?_set_ne (Ne.symm hj), e] at e'
      cases e'
      rfl
end

/-! ### lists of values -/
section
variable {K : PySem.W.Frag} {ρ : Nat → Addr} {n : Nat} {H : Hp}
theorem VRs.nil : VRs K ρ n H [] [] := by unfold VRs; rfl
theorem VRs.cons {d : D} {v : V} {ds : List D} {vs : List V} (h : VR K ρ n H d v) (t : VRs K ρ n H ds vs) : VRs K ρ n H (d :: ds) (v :: vs) := by
  unfold VRs
  exact ⟨v, vs, rfl, h, t⟩
theorem VRs.length : ∀ {ds : List D} {vs : List V}, VRs K ρ n H ds vs → ds.length = vs.length
  | [], _, h => by unfold VRs at h; subst h; rfl
  | d :: ds, _, h => by
    unfold VRs at h
    obtain ⟨y, zs, rfl, _, t⟩ := h
    rw [List.length_cons, List.length_cons, VRs.length t]
theorem VRs.append : ∀ {ds es : List D} {vs ws : List V}, VRs K ρ n H ds vs → VRs K ρ n H es ws → VRs K ρ n H (ds ++ es) (vs ++ ws)
  | [], _, _, _, h, t => by unfold VRs at h; subst h; exact t
  | d :: ds, _, _, _, h, t => by
    unfold VRs at h
    obtain ⟨y, zs, rfl, r, h⟩ := h
    exact .cons r (VRs.append h t)
theorem VRs.get : ∀ {ds : List D} {vs : List V} {i : Nat} {d : D}, VRs K ρ n H ds vs → ds[i]? = some d → ∃ v, vs[i]? = some v ∧ VR K ρ n H d v
  | [], _, _, _, _, e => by simp at e
  | x :: ds, _, 0, d, h, e => by
    unfold VRs at h
    obtain ⟨y, zs, rfl, r, h⟩ := h
    simp at e
    subst e
    exact ⟨y, by simp, r⟩
  | x :: ds, _, i + 1, d, h, e => by
    unfold VRs at h
    obtain ⟨y, zs, rfl, r, h⟩ := h
    obtain ⟨v, e1, e2⟩ := VRs.get (i := i) h (by simpa using e)
    exact ⟨v, by simpa using e1, e2⟩
theorem VRs.getB : ∀ {ds : List D} {vs : List V} {i : Nat} {v : V}, VRs K ρ n H ds vs → vs[i]? = some v → ∃ d, ds[i]? = some d ∧ VR K ρ n H d v
  | [], _, _, _, h, e => by unfold VRs at h; subst h; simp at e
  | x :: ds, _, 0, d, h, e => by
    unfold VRs at h
    obtain ⟨y, zs, rfl, r, h⟩ := h
    simp at e
    subst e
    exact ⟨x, by simp, r⟩
  | x :: ds, _, i + 1, d, h, e => by
    unfold VRs at h
    obtain ⟨y, zs, rfl, r, h⟩ := h
    obtain ⟨v, e1, e2⟩ := VRs.getB (i := i) h (by simpa using e)
    exact ⟨v, by simpa using e1, e2⟩
theorem VRs.set {d : D} {v : V} (r : VR K ρ n H d v) : ∀ {ds : List D} {vs : List V} (i : Nat), VRs K ρ n H ds vs → VRs K ρ n H (ds.set i d) (vs.set i v)
  | [], _, _, h => by unfold VRs at h; subst h; exact .nil
  | x :: ds, _, 0, h => by
    unfold VRs at h
    obtain ⟨y, zs, rfl, _, h⟩ := h
    exact .cons r h
  | x :: ds, _, i + 1, h => by
    unfold VRs at h
    obtain ⟨y, zs, rfl, q, h⟩ := h
    exact .cons q (VRs.set r i h)
theorem VRs.take : ∀ {ds : List D} {vs : List V} (i : Nat), VRs K ρ n H ds vs → VRs K ρ n H (ds.take i) (vs.take i)
  | [], _, _, h => by unfold VRs at h; subst h; simp [VRs]
  | x :: ds, _, 0, h => by simp [VRs]
  | x :: ds, _, i + 1, h => by
    unfold VRs at h
    obtain ⟨y, zs, rfl, q, h⟩ := h
    exact .cons q (VRs.take i h)
theorem VRs.drop : ∀ {ds : List D} {vs : List V} (i : Nat), VRs K ρ n H ds vs → VRs K ρ n H (ds.drop i) (vs.drop i)
  | [], _, _, h => by unfold VRs at h; subst h; simp [VRs]
  | x :: ds, _, 0, h => h
  | x :: ds, _, i + 1, h => by
    unfold VRs at h
    obtain ⟨y, zs, rfl, q, h⟩ := h
    exact VRs.drop i h
theorem VRs.ints : ∀ {ns : List Int}, VRs K ρ n H (ns.map D.int) (ns.map V.int)
  | [] => .nil
  | k :: ns => .cons (by simp [VR]) VRs.ints
theorem VRs.rep : ∀ {ds : List D} {vs : List V} (k : Nat), VRs K ρ n H ds vs → VRs K ρ n H (List.replicate k ds).flatten (List.replicate k vs).flatten
  | _, _, 0, _ => .nil
  | _, _, k + 1, h => by
    rw [List.replicate_succ, List.replicate_succ, List.flatten_cons, List.flatten_cons]
    exact h.append (VRs.rep k h)
end

/-! ### fields -/
def fget : List (Nat × D) → Nat → Option D
  | [], _ => none
  | (j, d) :: fs, i => if j = i then some d else fget fs i
def fput (i : Nat) (d : D) : List (Nat × D) → List (Nat × D)
  | [] => [(i, d)]
  | (j, e) :: fs => if j = i then (j, d) :: fs else (j, e) :: fput i d fs
section
variable {g : Gh} {ρ : Nat → Addr} {n : Nat} {H : Hp}
theorem FR.get (inj : ∀ i j, i < g.nf → j < g.nf → g.fld i = g.fld j → i = j) {i : Nat} {d : D} (hi : i < g.nf) : ∀ {fs : List (Nat × D)} {gs : List (Str × V)}, FR g ρ n H fs gs → fget fs i = some d → ∃ v, gs.lookup (g.fld i) = some v ∧ VR g.K ρ n H d v
  | [], _, _, e => by cases e
  | (j, e) :: fs, _, h, q => by
    obtain ⟨hj, v, hs, rfl, r, rs⟩ := h
    unfold fget at q
    by_cases hij : j = i
    · subst hij
      rw [if_pos rfl] at q
      cases q
      exact ⟨v, by simp, r⟩
    · rw [if_neg hij] at q
      obtain ⟨w, e1, e2⟩ := FR.get inj hi rs q
      refine ⟨w, ?_, e2⟩
      have ne : (g.fld i == g.fld j) = false := beq_eq_false_iff_ne.mpr fun z => hij (inj _ _ hj hi z.symm)
      rw [List.lookup_cons, ne]
      exact e1
theorem FR.none_of {x : Str} : ∀ {fs : List (Nat × D)} {gs : List (Str × V)}, FR g ρ n H fs gs → (∀ i, i < g.nf → g.fld i ≠ x) → gs.lookup x = none
  | [], _, h, _ => by
    have h : _ = [] := h
    subst h
    rfl
  | (j, e) :: fs, _, h, q => by
    obtain ⟨hj, v, hs, rfl, r, rs⟩ := h
    have ne : (x == g.fld j) = false := beq_eq_false_iff_ne.mpr fun z => q j hj z.symm
    rw [List.lookup_cons, ne]
    exact FR.none_of rs q
theorem FR.put (inj : ∀ i j, i < g.nf → j < g.nf → g.fld i = g.fld j → i = j) {i : Nat} {d : D} {v : V} (hi : i < g.nf) (r : VR g.K ρ n H d v) : ∀ {fs : List (Nat × D)} {gs : List (Str × V)}, FR g ρ n H fs gs → FR g ρ n H (fput i d fs) (putF (g.fld i) v gs)
  | [], _, h => by
    have h : _ = [] := h
    subst h
    exact ⟨hi, v, [], rfl, r, rfl⟩
  | (j, e) :: fs, _, h => by
    obtain ⟨hj, w, hs, rfl, r1, rs⟩ := h
    unfold fput putF
    by_cases hij : j = i
    · subst hij
      rw [if_pos rfl, if_pos rfl]
      exact ⟨hj, v, hs, rfl, r, rs⟩
    · rw [if_neg hij, if_neg fun z => hij (inj _ _ hj hi z)]
      exact ⟨hj, w, _, rfl, r1, FR.put inj hi r rs⟩
theorem FR.length : ∀ {fs : List (Nat × D)} {gs : List (Str × V)}, FR g ρ n H fs gs → gs.length = fs.length
  | [], _, h => by
    have h : _ = [] := h
    subst h
    rfl
  | (j, e) :: fs, _, h => by
    obtain ⟨hj, w, hs, rfl, r1, rs⟩ := h
    simp [FR.length rs]
end

/-! ### the frame's names -/
abbrev EEnv := List (Option D)
structure EnvR (K : PySem.W.Frag) (ρ : Nat → Addr) (n : Nat) (H : Hp) (env : EEnv) (σ : St) : Prop where
  len : env.length = σ.length
  get : ∀ (i : Nat) (d : D), env[i]? = some (some d) → ∃ v, σ[i]? = some (some v) ∧ VR K ρ n H d v
section
variable {g : Gh} {K : PySem.W.Frag} {ρ ρ' : Nat → Addr} {st st' : Store} {H H' : Hp} {n n' : Nat} {env : EEnv} {σ : St}
theorem EnvR.mono (ho : ∀ l, l < n → ρ' l = ρ l) (hn : n ≤ n') (t : TK K H H') (h : EnvR K ρ n H env σ) : EnvR K ρ' n' H' env σ :=
  ⟨h.len, fun i d e => by
    obtain ⟨v, e', r⟩ := h.get i d e
    exact ⟨v, e', r.mono ho hn t⟩⟩
theorem Post.envr (P : Post g ρ st H ρ' st' H') (R : Rel g ρ st H) (h : EnvR g.K ρ st.length H env σ) : EnvR g.K ρ' st'.length H' env σ := h.mono P.old P.len (P.tk R)
theorem EnvR.set (h : EnvR K ρ n H env σ) {d : D} {v : V} (r : VR K ρ n H d v) (i : Nat) : EnvR K ρ n H (env.set i (some d)) (σ.set i (some v)) := by
  refine ⟨by simp [h.len], fun j e q => ?_⟩
  by_cases hj : i = j
  · subst hj
    have hl : i < env.length := by
      have := lt_of_get q
      simpa using this
    rw [List.getElem?_set_self hl] at q
    cases q
    exact ⟨v, List.getElem?_set_self (by rw [← h.len]; exact hl), r⟩
  · rw [List.getElem?_set_ne hj] at q
    obtain ⟨w, e', r'⟩ := h.get j e q
    exact ⟨w, by rw [List.getElem?_set_ne hj]; exact e', r'⟩
theorem EnvR.wipeAt (h : EnvR K ρ n H env σ) (i : Nat) : EnvR K ρ n H (env.set i none) (σ.set i none) := by
  refine ⟨by simp [h.len], fun j e q => ?_⟩
  by_cases hj : i = j
  · subst hj
    have hl : i < env.length := by
      have := lt_of_get q
      simpa using this
    rw [List.getElem?_set_self hl] at q
    cases q
  · rw [List.getElem?_set_ne hj] at q
    obtain ⟨w, e', r'⟩ := h.get j e q
    exact ⟨w, by rw [List.getElem?_set_ne hj]; exact e', r'⟩
def wipeE (env : EEnv) : List Nat → EEnv
  | [] => env
  | v :: vs => (wipeE env vs).set v none
theorem EnvR.wipe (h : EnvR K ρ n H env σ) : ∀ vs : List Nat, EnvR K ρ n H (wipeE env vs) (wipe σ vs)
  | [] => h
  | v :: vs => by
    unfold wipeE L2.wipe
    exact (EnvR.wipe h vs).wipeAt v
end
end Ev

/-! Ev2: the judgements by functions; values, operators, displays, calls of built-ins. -/
namespace Ev
open PySem L2

theorem pe_imp {X : Cx} {e : Expr} {t t' : TE} (h : PE X e t) (k : ∀ σ H Q, t' σ H Q → t σ H Q) : PE X e t' := ⟨fun pins s σ H Q I q => h.run pins s σ H Q I (k σ H Q q)⟩
theorem pt_imp {X : Cx} {e : Expr} {t t' : TT} (h : PT X e t) (k : ∀ σ H Q, t' σ H Q → t σ H Q) : PT X e t' := ⟨fun pins s σ H Q I q => h.run pins s σ H Q I (k σ H Q q)⟩
theorem pw_imp {X : Cx} {e : Expr} {t t' : TT} (h : PW X e t) (k : ∀ σ H Q, t' σ H Q → t σ H Q) : PW X e t' := ⟨fun wh pins s σ H Q I q => h.run wh pins s σ H Q I (k σ H Q q)⟩
theorem pa_imp {X : Cx} {e : List Expr} {t t' : TA} (h : PA X e t) (k : ∀ σ H Q, t' σ H Q → t σ H Q) : PA X e t' := ⟨fun pos pins s σ H Q I q => h.run pos pins s σ H Q I (k σ H Q q)⟩
theorem ps_imp {X : Cx} {e : Stmt} {t t' : TS} (h : PS X e t) (k : ∀ D σ H, t' D σ H → t D σ H) : PS X e t' := ⟨fun pins s σ H D I q => h.run pins s σ H D I (k D σ H q)⟩
theorem pss_imp {X : Cx} {e : List Stmt} {t t' : TS} (h : PSs X e t) (k : ∀ D σ H, t' D σ H → t D σ H) : PSs X e t' := ⟨fun pins s σ H D I q => h.run pins s σ H D I (k D σ H q)⟩
theorem pe_both {X : Cx} {e : Expr} {t t' : TE} (h : PE X e t) (h' : PE X e t') : PE X e (fun σ H Q => t σ H Q ∨ t' σ H Q) := ⟨fun pins s σ H Q I q => q.elim (h.run pins s σ H Q I) (h'.run pins s σ H Q I)⟩

/-! ### judgements -/
abbrev Ef := EEnv → Store → R D
abbrev Tf := EEnv → Store → R Bool
abbrev Af := EEnv → Store → R (List D)
def tE (g : Gh) (f : Ef) : TE := fun σ H Q => ∃ ρ st env v st', Rel g ρ st H ∧ EnvR g.K ρ st.length H env σ ∧ f env st = .ok v st' ∧ ∀ ρ' H' x, Post g ρ st H ρ' st' H' → VR g.K ρ' st'.length H' v x → Q x H'
def tT (g : Gh) (f : Tf) : TT := fun σ H Q => ∃ ρ st env v st', Rel g ρ st H ∧ EnvR g.K ρ st.length H env σ ∧ f env st = .ok v st' ∧ ∀ ρ' H', Post g ρ st H ρ' st' H' → Q v H'
def tA (g : Gh) (f : Af) : TA := fun σ H Q => ∃ ρ st env v st', Rel g ρ st H ∧ EnvR g.K ρ st.length H env σ ∧ f env st = .ok v st' ∧ ∀ ρ' H' x, Post g ρ st H ρ' st' H' → VRs g.K ρ' st'.length H' v x → Q x H'
/-- a sequence: a list or a tuple of these items, that nobody changes (a list without a place, or a tuple) -/
def Seq (K : PySem.W.Frag) (H : Hp) (p : Addr) (ys : List V) : Prop := SqL K H p ys ∨ SqT K H p ys
def tQ (g : Gh) (f : Af) : TE := fun σ H Q => ∃ ρ st env v st', Rel g ρ st H ∧ EnvR g.K ρ st.length H env σ ∧ f env st = .ok v st' ∧
  ∀ ρ' H' p ys, Post g ρ st H ρ' st' H' → Seq g.K H' p ys → VRs g.K ρ' st'.length H' v ys → Q (.ref p) H'
/-- a list just made, without a place -/
def tN (g : Gh) (f : Af) : TE := fun σ H Q => ∃ ρ st env v st', Rel g ρ st H ∧ EnvR g.K ρ st.length H env σ ∧ f env st = .ok v st' ∧
  ∀ ρ' H' p ys, Post g ρ st H ρ' st' H' → H' p = some (.lst ys) → (∀ l, mutAt st' l → ρ' l ≠ p) → H p = none → VRs g.K ρ' st'.length H' v ys → Q (.ref p) H'
abbrev EV (g : Gh) (X : Cx) (e : Expr) (f : Ef) : Prop := PE X e (tE g f)
abbrev TV (g : Gh) (X : Cx) (e : Expr) (f : Tf) : Prop := PT X e (tT g f)
abbrev AV (g : Gh) (X : Cx) (e : List Expr) (f : Af) : Prop := PA X e (tA g f)
abbrev QV (g : Gh) (X : Cx) (e : Expr) (f : Af) : Prop := PE X e (tQ g f)
abbrev NV (g : Gh) (X : Cx) (e : Expr) (f : Af) : Prop := PE X e (tN g f)

/-- the built-ins' names that no module's name hides -/
def blts : List Str := ["len", "tuple", "list", "range", "max", "min", "sum", "all", "any", "sorted", "abs", "int", "repr", "enumerate", "zip", "isinstance", "set", "str", "dict", "bool", "reversed", "type"]
structure XG (g : Gh) (X : Cx) : Prop where
  K : X.K = g.K
  calm : X.calm = true
  hu : X.A.units + 200 < cLine
  hg : X.A.guards = some []
  nd : X.N.Nodup
  bl : ∀ x ∈ blts, X.mg x = none
  cls : ∀ c, c < g.nc → Cls g.K (g.cl c)
  na : ∀ c, c < g.nc → ∀ i, i < g.nf → NoAttr g.K (g.cl c) (g.fld i)
  inj : ∀ i j, i < g.nf → j < g.nf → g.fld i = g.fld j → i = j
theorem XG.blk {g : Gh} {X : Cx} (x : XG g X) (s : Shared) (H : Hp) (sc : Scope) (e : PySem.Env) (fp : List Addr) : XG g (X.blk s H sc e fp) := ⟨x.K, x.calm, x.hu, x.hg, x.nd, x.bl, x.cls, x.na, x.inj⟩
theorem XG.mg {g : Gh} {X : Cx} (x : XG g X) (n : Str) (h : n ∈ blts := by decide) : X.mg n = none := x.bl n h

section
variable {g : Gh} {X : Cx} {e a b : Expr} {pos : Pos} {f fa fb : Ef}

/-! ### names, constants -/
def eVar (i : Nat) : Ef := fun env st => match env[i]? with | some (some d) => .ok d st | _ => .bad
def eC (d : D) : Ef := fun _ st => .ok d st
theorem e_var (i : Nat) {x : Str} (hN : X.N[i]? = some x := by rfl) (hv : Vis X.env.scope x := by first | exact Or.inl rfl | exact Or.inr (Or.inl rfl) | exact Or.inr (Or.inr rfl)) (hd : (x == ("__debug__" : Str)) = false := by decide)
    (hcd : (x == ("__classdict__" : Str)) = false := by decide) : EV g X (.Name x pos) (eVar i) :=
  pe_imp (pe_var hN hv hd hcd) fun σ H Q ⟨ρ, st, env, v, st', Rl, E, h, k⟩ => by
    unfold eVar at h
    split at h
    · rename_i d q
      cases h
      obtain ⟨w, e1, r⟩ := E.get i v q
      exact ⟨w, e1, k ρ H w (Post.refl Rl) r⟩
    · cases h
theorem c_of {v : V} {d : D} {e : Expr} (h : PE X e (tC v)) (hd : ∀ (K : PySem.W.Frag) (ρ : Nat → Addr) (n : Nat) (H : Hp), VR K ρ n H d v) : EV g X e (eC d) :=
  pe_imp h fun σ H Q ⟨ρ, st, env, v, st', Rl, E, h, k⟩ => by
    cases h
    exact k ρ H _ (Post.refl Rl) (hd _ _ _ _)
theorem e_int {i : Int} {j : Nat} : EV g X (.Constant (.int i) j pos) (eC (.int i)) := c_of pe_int fun _ _ _ _ => by simp [VR]
theorem e_bl {i : Bool} {j : Nat} : EV g X (.Constant (.bool i) j pos) (eC (.bl i)) := c_of pe_bl fun _ _ _ _ => by simp [VR]
theorem e_non {j : Nat} : EV g X (.Constant .none j pos) (eC .non) := c_of pe_non fun _ _ _ _ => by simp [VR]
theorem e_str {i : Str} {j : Nat} : EV g X (.Constant (.str i) j pos) (eC (.str i)) := c_of pe_str fun _ _ _ _ => by simp [VR]
theorem e_globI {x : Str} {i : Int} {t : Tok} (hm : X.mg x = some (.int i t)) (hg : Gl X x := by rfl) (hd : (x == ("__debug__" : Str)) = false := by decide) : EV g X (.Name x pos) (eC (.int i)) :=
  c_of (v := .int i) (pe_glob hg hm ⟨t, rfl⟩ hd) fun _ _ _ _ => by simp [VR]
theorem e_globS {x : Str} {i : Str} {t : Tok} (hm : X.mg x = some (.str i t)) (hg : Gl X x := by rfl) (hd : (x == ("__debug__" : Str)) = false := by decide) : EV g X (.Name x pos) (eC (.str i)) :=
  c_of (v := .str i) (pe_glob hg hm ⟨t, rfl⟩ hd) fun _ _ _ _ => by simp [VR]

/-! ### operators -/
abbrev F2 := D → D → Store → R D
def Op2 (g : Gh) (r : R2) (F : F2) : Prop := ∀ (ρ : Nat → Addr) (st : Store) (H : Hp) (d1 d2 : D) (x y : V) (v : D) (st' : Store) (Q : VK), Rel g ρ st H → VR g.K ρ st.length H d1 x → VR g.K ρ st.length H d2 y →
  F d1 d2 st = .ok v st' → (∀ ρ' H' z, Post g ρ st H ρ' st' H' → VR g.K ρ' st'.length H' v z → Q z H') → r x y H Q
def eBin (F : F2) (fa fb : Ef) : Ef := fun env st => (fa env st).bind fun x s1 => (fb env s1).bind fun y s2 => F x y s2
theorem two_of {r : R2} {F : F2} {ta tb : TE} (hF : Op2 g r F) : ∀ σ H Q, tE g (eBin F fa fb) σ H Q → tOp r (tE g fa) (tE g fb) σ H Q := fun σ H Q ⟨ρ, st, env, v, st', Rl, E, h, k⟩ => by
  obtain ⟨x1, s1, e1, h⟩ := R.bind_eq h
  obtain ⟨x2, s2, e2, h⟩ := R.bind_eq h
  refine ⟨ρ, st, env, x1, s1, Rl, E, e1, fun ρ1 H1 y1 P1 r1 => ?_⟩
  refine ⟨ρ1, s1, env, x2, s2, P1.rel, P1.envr Rl E, e2, fun ρ2 H2 y2 P2 r2 => ?_⟩
  exact hF ρ2 s2 H2 x1 x2 y1 y2 v st' Q P2.rel (P2.vr P1.rel r1) r2 h fun ρ' H' z P r => k ρ' H' z ((P1.trans P2).trans P) r
theorem e_op {op : Operator} {r : R2} {F : F2} (ho : OpR X (binaryOp op) r) (hF : Op2 g r F) (ha : EV g X a fa) (hb : EV g X b fb) : EV g X (.BinOp a op b pos) (eBin F fa fb) :=
  pe_imp (pe_op ho ha hb) (two_of (ta := tE g fa) (tb := tE g fb) hF)
theorem e_cmp {op : CmpOp} {r : R2} {F : F2} (ho : OpR X (compareOp op) r) (hF : Op2 g r F) (ha : EV g X a fa) (hb : EV g X b fb) (hm : behindInMarks op b = false) : EV g X (.Compare a [op] [b] pos) (eBin F fa fb) :=
  pe_imp (pe_cmpR ho ha hb hm) (two_of (ta := tE g fa) (tb := tE g fb) hF)
/-- a value that is a bool, as a test -/
def toB (r : R D) : R Bool := r.bind fun d s => match d with | .bl b => .ok b s | _ => .bad
theorem toB_eq {r : R D} {b : Bool} {s : Store} (h : toB r = .ok b s) : r = .ok (.bl b) s := by
  obtain ⟨d, s1, e, h⟩ := R.bind_eq h
  cases d with
  | bl c => cases h; exact e
  | _ => cases h
def tfB (f : Ef) : Tf := fun env st => toB (f env st)
theorem tB_of {f : Ef} : ∀ σ H Q, tT g (tfB f) σ H Q → tB (tE g f) σ H Q := fun σ H Q ⟨ρ, st, env, v, st', Rl, E, h, k⟩ => by
  refine ⟨ρ, st, env, .bl v, st', Rl, E, toB_eq h, fun ρ1 H1 y1 P1 r1 => ?_⟩
  simp only [VR] at r1
  exact ⟨v, r1, k ρ1 H1 P1⟩
theorem t_cmp {op : CmpOp} {r : R2} {F : F2} (ho : OpR X (compareOp op) r) (hF : Op2 g r F) (ha : EV g X a fa) (hb : EV g X b fb) (hm : behindInMarks op b = false) : TV g X (.Compare a [op] [b] pos) (tfB (eBin F fa fb)) :=
  pt_imp (pt_cmpR ho ha hb hm) fun σ H Q h => by
    obtain ⟨ρ, st, env, v, st', Rl, E, h, k⟩ := h
    refine two_of (ta := tE g fa) (tb := tE g fb) hF σ H _ ⟨ρ, st, env, .bl v, st', Rl, E, toB_eq h, fun ρ1 H1 y1 P1 r1 => ?_⟩
    simp only [VR] at r1
    exact ⟨v, r1, k ρ1 H1 P1⟩
theorem t_val (h : EV g X e f) (he : ∀ whole, isTrue e X.env whole = (do let v ← whole; standAt e.pos; holding [v] (truthy v)) := by intro _; rfl) : TV g X e (tfB f) := pt_imp (pt_val h he) tB_of

/-! ### and, or, not, if -/
def tfAnd (p q : Tf) : Tf := fun env st => (p env st).bind fun b s => if b = true then q env s else .ok false s
def tfOr (p q : Tf) : Tf := fun env st => (p env st).bind fun b s => if b = true then .ok true s else q env s
def tfNot (p : Tf) : Tf := fun env st => (p env st).bind fun b s => .ok (!b) s
variable {p q : Tf} {rest : List Expr}
theorem t_not (h : TV g X a p) : TV g X (.UnaryOp .Not a pos) (tfNot p) := pt_imp (pt_not h) fun σ H Q ⟨ρ, st, env, v, st', Rl, E, h, k⟩ => by
  obtain ⟨x1, s1, e1, h⟩ := R.bind_eq h
  cases h
  exact ⟨ρ, st, env, x1, _, Rl, E, e1, fun ρ1 H1 P1 => k ρ1 H1 P1⟩
theorem w_and1 (h : TV g X a p) : PW X (.BoolOp .And [a] pos) (tT g p) := pw_and1 h
theorem w_or1 (h : TV g X a p) : PW X (.BoolOp .Or [a] pos) (tT g p) := pw_or1 h
theorem w_and (h : TV g X a p) (h' : PW X (.BoolOp .And (b :: rest) pos) (tT g q)) : PW X (.BoolOp .And (a :: b :: rest) pos) (tT g (tfAnd p q)) :=
  pw_imp (pw_and h h') fun σ H Q ⟨ρ, st, env, v, st', Rl, E, h, k⟩ => by
    obtain ⟨x1, s1, e1, h⟩ := R.bind_eq h
    refine ⟨ρ, st, env, x1, s1, Rl, E, e1, fun ρ1 H1 P1 => ?_⟩
    cases x1 with
    | true => exact iteT ⟨ρ1, s1, env, v, st', P1.rel, P1.envr Rl E, h, fun ρ2 H2 P2 => k ρ2 H2 (P1.trans P2)⟩
    | false =>
      cases h
      exact iteF (k ρ1 H1 P1)
theorem w_or (h : TV g X a p) (h' : PW X (.BoolOp .Or (b :: rest) pos) (tT g q)) : PW X (.BoolOp .Or (a :: b :: rest) pos) (tT g (tfOr p q)) :=
  pw_imp (pw_or h h') fun σ H Q ⟨ρ, st, env, v, st', Rl, E, h, k⟩ => by
    obtain ⟨x1, s1, e1, h⟩ := R.bind_eq h
    refine ⟨ρ, st, env, x1, s1, Rl, E, e1, fun ρ1 H1 P1 => ?_⟩
    cases x1 with
    | false => exact iteF ⟨ρ1, s1, env, v, st', P1.rel, P1.envr Rl E, h, fun ρ2 H2 P2 => k ρ2 H2 (P1.trans P2)⟩
    | true =>
      cases h
      exact iteT (k ρ1 H1 P1)
theorem t_w (h : PW X e (tT g p)) : TV g X e p := h.pt
/-- .. as values: all but the last are bools -/
def eAnd (f h : Ef) : Ef := fun env st => (toB (f env st)).bind fun b s => if b = true then h env s else .ok (.bl false) s
def eOr (f h : Ef) : Ef := fun env st => (toB (f env st)).bind fun b s => if b = true then .ok (.bl true) s else h env s
def eNot (f : Ef) : Ef := fun env st => (toB (f env st)).bind fun b s => .ok (.bl (!b)) s
theorem e_one {op : BoolOp} (h : EV g X a fa) : EV g X (.BoolOp op [a] pos) fa := pe_one h
theorem e_and (h : EV g X a fa) (h' : EV g X (.BoolOp .And (b :: rest) pos) fb) : EV g X (.BoolOp .And (a :: b :: rest) pos) (eAnd fa fb) :=
  pe_imp (pe_and h h') fun σ H Q ⟨ρ, st, env, v, st', Rl, E, h, k⟩ => by
    obtain ⟨x1, s1, e1, h⟩ := R.bind_eq h
    refine ⟨ρ, st, env, .bl x1, s1, Rl, E, toB_eq e1, fun ρ1 H1 y1 P1 r1 => ?_⟩
    simp only [VR] at r1
    refine ⟨x1, r1, ?_⟩
    cases x1 with
    | true => exact iteT ⟨ρ1, s1, env, v, st', P1.rel, P1.envr Rl E, h, fun ρ2 H2 y2 P2 r2 => k ρ2 H2 y2 (P1.trans P2) r2⟩
    | false =>
      cases h
      exact iteF (k ρ1 H1 _ P1 (by simp [VR]))
theorem e_or (h : EV g X a fa) (h' : EV g X (.BoolOp .Or (b :: rest) pos) fb) : EV g X (.BoolOp .Or (a :: b :: rest) pos) (eOr fa fb) :=
  pe_imp (pe_or h h') fun σ H Q ⟨ρ, st, env, v, st', Rl, E, h, k⟩ => by
    obtain ⟨x1, s1, e1, h⟩ := R.bind_eq h
    refine ⟨ρ, st, env, .bl x1, s1, Rl, E, toB_eq e1, fun ρ1 H1 y1 P1 r1 => ?_⟩
    simp only [VR] at r1
    refine ⟨x1, r1, ?_⟩
    cases x1 with
    | false => exact iteF ⟨ρ1, s1, env, v, st', P1.rel, P1.envr Rl E, h, fun ρ2 H2 y2 P2 r2 => k ρ2 H2 y2 (P1.trans P2) r2⟩
    | true =>
      cases h
      exact iteT (k ρ1 H1 _ P1 (by simp [VR]))
theorem e_not (h : EV g X a fa) : EV g X (.UnaryOp .Not a pos) (eNot fa) :=
  pe_imp (pe_not h) fun σ H Q ⟨ρ, st, env, v, st', Rl, E, h, k⟩ => by
    obtain ⟨x1, s1, e1, h⟩ := R.bind_eq h
    cases h
    refine ⟨ρ, st, env, .bl x1, _, Rl, E, toB_eq e1, fun ρ1 H1 y1 P1 r1 => ?_⟩
    simp only [VR] at r1
    exact ⟨x1, r1, k ρ1 H1 _ P1 (by simp [VR])⟩
def eIf (p : Tf) (f h : Ef) : Ef := fun env st => (p env st).bind fun b s => if b = true then f env s else h env s
theorem e_if {c : Expr} (hc : TV g X c p) (ha : EV g X a fa) (hb : EV g X b fb) : EV g X (.IfExp c a b pos) (eIf p fa fb) :=
  pe_imp (pe_ifExp hc ha hb) fun σ H Q ⟨ρ, st, env, v, st', Rl, E, h, k⟩ => by
    obtain ⟨x1, s1, e1, h⟩ := R.bind_eq h
    refine ⟨ρ, st, env, x1, s1, Rl, E, e1, fun ρ1 H1 P1 => ?_⟩
    have go : ∀ {f : Ef}, f env s1 = .ok v st' → tE g f σ H1 Q := fun h => ⟨ρ1, s1, env, v, st', P1.rel, P1.envr Rl E, h, fun ρ2 H2 y2 P2 r2 => k ρ2 H2 y2 (P1.trans P2) r2⟩
    cases x1 with
    | true => exact iteT (go h)
    | false => exact iteF (go h)

/-! ### argument lists, displays -/
def aNil : Af := fun _ st => .ok [] st
def aCons (f : Ef) (t : Af) : Af := fun env st => (f env st).bind fun x s1 => (t env s1).bind fun xs s2 => .ok (x :: xs) s2
def aStar (f t : Af) : Af := fun env st => (f env st).bind fun x s1 => (t env s1).bind fun xs s2 => .ok (x ++ xs) s2
variable {es : List Expr} {t : Af} {h : Af}
theorem a_nil : AV g X [] aNil := pa_imp pa_nil fun σ H Q ⟨ρ, st, env, v, st', Rl, E, h, k⟩ => by
  cases h
  exact k ρ H [] (Post.refl Rl) .nil
theorem a_cons (ha : EV g X e f) (hr : AV g X es t) (hs : starEach (e :: es) X.env = (false, eval e X.env) :: starEach es X.env := by rfl) : AV g X (e :: es) (aCons f t) :=
  pa_imp (pa_cons ha hr hs) fun σ H Q ⟨ρ, st, env, v, st', Rl, E, h, k⟩ => by
    obtain ⟨x1, s1, e1, h⟩ := R.bind_eq h
    obtain ⟨x2, s2, e2, h⟩ := R.bind_eq h
    cases h
    refine ⟨ρ, st, env, x1, s1, Rl, E, e1, fun ρ1 H1 y1 P1 r1 => ?_⟩
    refine ⟨ρ1, s1, env, x2, _, P1.rel, P1.envr Rl E, e2, fun ρ2 H2 y2 P2 r2 => ?_⟩
    exact k ρ2 H2 _ (P1.trans P2) (.cons (P2.vr P1.rel r1) r2)
theorem a_star (x : XG g X) {p : Pos} (ha : QV g X e h) (hr : AV g X es t) (hs : starEach (.Starred e p :: es) X.env = (true, eval e X.env) :: starEach es X.env := by rfl) : AV g X (.Starred e p :: es) (aStar h t) :=
  pa_imp (StX.pa_star ha hr hs) fun σ H Q ⟨ρ, st, env, v, st', Rl, E, h, k⟩ => by
    obtain ⟨x1, s1, e1, h⟩ := R.bind_eq h
    obtain ⟨x2, s2, e2, h⟩ := R.bind_eq h
    cases h
    refine ⟨ρ, st, env, x1, s1, Rl, E, e1, fun ρ1 H1 p y1 P1 sq r1 => ?_⟩
    refine ⟨p, y1, rfl, by rw [x.K]; exact sq.symm, ?_⟩
    refine ⟨ρ1, s1, env, x2, _, P1.rel, P1.envr Rl E, e2, fun ρ2 H2 y2 P2 r2 => ?_⟩
    exact k ρ2 H2 _ (P1.trans P2) ((P2.vrs P1.rel r1).append r2)
def eTup (t : Af) : Ef := fun env st => (t env st).bind fun xs s => if xs.length ≤ sizeLine then .ok (.tup xs) s else .bad
theorem e_tup {k1 : Nat} (ha : AV g X es t) : EV g X (.Tuple es k1 pos) (eTup t) := pe_imp (pe_tup ha) fun σ H Q ⟨ρ, st, env, v, st', Rl, E, h, k⟩ => by
  obtain ⟨x1, s1, e1, h⟩ := R.bind_eq h
  split at h
  · rename_i hz
    cases h
    refine ⟨ρ, st, env, x1, _, Rl, E, e1, fun ρ1 H1 ys P1 r1 => ⟨by rw [← r1.length]; exact hz, fun p hp => ?_⟩⟩
    have P2 := P1.rel.tup (u := HO.tup ys) hp
    refine k ρ1 _ _ (P1.trans P2) ?_
    unfold VR
    exact ⟨p, ys, rfl, SqT.of upd_same, P2.vrs P1.rel r1⟩
  · cases h
/-- a list display, without a place -/
def nLst (t : Af) : Af := fun env st => (t env st).bind fun xs s => if xs.length ≤ sizeLine then .ok xs s else .bad
theorem n_lst (ha : AV g X es t) : NV g X (.List es pos) (nLst t) := pe_imp (pe_lst ha) fun σ H Q ⟨ρ, st, env, v, st', Rl, E, h, k⟩ => by
  obtain ⟨x1, s1, e1, h⟩ := R.bind_eq h
  split at h
  · rename_i hz
    cases h
    refine ⟨ρ, st, env, _, _, Rl, E, e1, fun ρ1 H1 ys P1 r1 => ⟨by rw [← r1.length]; exact hz, fun p hp => ?_⟩⟩
    have P2 := P1.rel.tup (u := HO.lst ys) hp
    refine k ρ1 _ p ys (P1.trans P2) upd_same (fun l m q => ?_) (P1.freeB hp) (P2.vrs P1.rel r1)
    obtain ⟨u, e2, _⟩ := P1.rel.mutSome m
    rw [q, hp] at e2
    cases e2
  · cases h
/-- a list with a place -/
def eNew (h : Af) : Ef := fun env st => (h env st).bind fun xs s => .ok (.loc s.length) (s ++ [.lst xs])
theorem Post.named {g : Gh} {ρ ρ1 : Nat → Addr} {st s1 : Store} {H H1 : Hp} {p : Addr} {o : O} (P : Post g ρ st H ρ1 s1 H1) (hn : ∀ l, mutAt s1 l → ρ1 l ≠ p) (hp : H p = none) (new : OR g ρ1 s1.length H1 p o) :
    Post g ρ st H (nxt ρ1 s1.length p) (s1 ++ [o]) H1 where
  rel := P.rel.name hn new
  len := by simp; exact Nat.le_succ_of_le P.len
  old := fun l hl => by rw [nxt_old l (Nat.lt_of_lt_of_le hl P.len)]; exact P.old l hl
  keep := P.keep
  fresh := fun l h1 h2 => by
    by_cases hl : l < s1.length
    · rw [nxt_old l hl]; exact P.fresh l h1 hl
    · have e2 : l = s1.length := by simp at h2; omega
      subst e2
      rw [nxt_same]
      exact hp
  kind := fun l o o' e e' => by
    rw [List.getElem?_append_left (Nat.lt_of_lt_of_le (lt_of_get e) P.len)] at e'
    exact P.kind l o o' e e'
theorem e_new (hn : NV g X e h) : EV g X e (eNew h) := pe_imp hn fun σ H Q ⟨ρ, st, env, v, st', Rl, E, h, k⟩ => by
  obtain ⟨x1, s1, e1, h⟩ := R.bind_eq h
  cases h
  refine ⟨ρ, st, env, x1, s1, Rl, E, e1, fun ρ1 H1 p ys P1 hl hn hp r1 => ?_⟩
  refine k _ H1 _ (P1.named (o := .lst x1) hn hp ⟨ys, hl, r1⟩) ?_
  unfold VR
  exact ⟨by simp, by rw [nxt_same]⟩
theorem q_new (hn : NV g X e h) : QV g X e h := pe_imp hn fun σ H Q ⟨ρ, st, env, v, st', Rl, E, h, k⟩ =>
  ⟨ρ, st, env, v, st', Rl, E, h, fun ρ1 H1 p ys P1 hl hn hp r1 => k ρ1 H1 p ys P1 (.inl (SqL.of hl)) r1⟩
/-- a value that is a sequence -/
def toQ (r : R D) : R (List D) := r.bind fun d s => match d with
  | .tup xs => .ok xs s
  | .loc l => match s[l]? with
    | some (.lst xs) => .ok xs s
    | some (.ro ns) => .ok (ns.map .int) s
    | _ => .bad
  | _ => .bad
def qOf (f : Ef) : Af := fun env st => toQ (f env st)
theorem seq_of {g : Gh} {ρ : Nat → Addr} {s : Store} {H : Hp} {d : D} {x : V} {xs : List D} {s' : Store} (Rl : Rel g ρ s H) (r : VR g.K ρ s.length H d x) (h : toQ (.ok d s) = .ok xs s') :
    s' = s ∧ ∃ p ys, x = .ref p ∧ Seq g.K H p ys ∧ VRs g.K ρ s.length H xs ys := by
  unfold toQ at h
  simp only [R.bind_ok] at h
  cases d with
  | tup zs =>
    cases h
    unfold VR at r
    obtain ⟨a, ys, e, q, rs⟩ := r
    exact ⟨rfl, a, ys, e, .inr q, rs⟩
  | loc l =>
    unfold VR at r
    obtain ⟨hl, e⟩ := r
    simp only at h
    split at h
    · rename_i zs q
      cases h
      obtain ⟨ys, e1, rs⟩ := Rl.obj l _ q
      exact ⟨rfl, ρ l, ys, e, .inl (SqL.of e1), rs⟩
    · rename_i ns q
      cases h
      exact ⟨rfl, ρ l, _, e, .inl (RoL.sq (Rl.obj l _ q)), VRs.ints⟩
    · cases h
  | _ => cases h
theorem q_of (ha : EV g X e f) : QV g X e (qOf f) := pe_imp ha fun σ H Q ⟨ρ, st, env, v, st', Rl, E, h, k⟩ => by
  obtain ⟨d, s1, e1, h'⟩ := R.bind_eq h
  refine ⟨ρ, st, env, d, s1, Rl, E, e1, fun ρ1 H1 x P1 r1 => ?_⟩
  obtain ⟨es, p, ys, ex, sq, rs⟩ := seq_of (s' := st') P1.rel r1 h'
  subst es
  subst ex
  exact k ρ1 H1 p ys P1 sq rs
end
end Ev

/-! Ev3: operators and built-ins by functions. -/
namespace Ev
open PySem L2 PyProof.Rows

theorem R.no {A : Type} {a : A} {s : Store} (h : (R.bad : R A) = .ok a s) : False := by cases h

/-! ### a value, or a list just made -/
inductive Mv where
  | v (d : D) | l (xs : List D)
abbrev Mf := EEnv → Store → R Mv
def MR (g : Gh) (ρ : Nat → Addr) (st0 st : Store) (H0 H : Hp) (x : V) : Mv → Prop
  | .v d => VR g.K ρ st.length H d x
  | .l xs => ∃ p ys, x = .ref p ∧ H p = some (.lst ys) ∧ (∀ l, mutAt st l → ρ l ≠ p) ∧ H0 p = none ∧ VRs g.K ρ st.length H xs ys
def tM (g : Gh) (f : Mf) : TE := fun σ H Q => ∃ ρ st env v st', Rel g ρ st H ∧ EnvR g.K ρ st.length H env σ ∧ f env st = .ok v st' ∧ ∀ ρ' H' x, Post g ρ st H ρ' st' H' → MR g ρ' st st' H H' x v → Q x H'
abbrev MV (g : Gh) (X : Cx) (e : Expr) (f : Mf) : Prop := PE X e (tM g f)
def eM (f : Mf) : Ef := fun env st => (f env st).bind fun m s => match m with
  | .v d => .ok d s
  | .l xs => .ok (.loc s.length) (s ++ [.lst xs])
def qM (f : Mf) : Af := fun env st => (f env st).bind fun m s => match m with
  | .v d => toQ (.ok d s)
  | .l xs => .ok xs s

section
variable {g : Gh} {X : Cx} {e a b : Expr} {pos : Pos} {f fa fb : Ef}
theorem e_m {f : Mf} (h : MV g X e f) : EV g X e (eM f) := pe_imp h fun σ H Q ⟨ρ, st, env, v, st', Rl, E, h, k⟩ => by
  obtain ⟨m, s1, e1, h⟩ := R.bind_eq h
  refine ⟨ρ, st, env, m, s1, Rl, E, e1, fun ρ1 H1 x P1 r1 => ?_⟩
  cases m with
  | v d =>
    cases h
    exact k ρ1 H1 x P1 r1
  | l xs =>
    cases h
    obtain ⟨p, ys, ex, hl, hn, hp, r2⟩ := r1
    refine k _ H1 _ (P1.named (o := .lst xs) hn hp ⟨ys, hl, r2⟩) ?_
    unfold VR
    exact ⟨by simp, by rw [nxt_same]; exact ex⟩
theorem q_m {f : Mf} (h : MV g X e f) : QV g X e (qM f) := pe_imp h fun σ H Q ⟨ρ, st, env, v, st', Rl, E, h, k⟩ => by
  obtain ⟨m, s1, e1, h⟩ := R.bind_eq h
  refine ⟨ρ, st, env, m, s1, Rl, E, e1, fun ρ1 H1 x P1 r1 => ?_⟩
  cases m with
  | v d =>
    obtain ⟨es, p, ys, ex, sq, rs⟩ := seq_of (s' := st') P1.rel r1 h
    subst es
    subst ex
    exact k ρ1 H1 p ys P1 sq rs
  | l xs =>
    cases h
    obtain ⟨p, ys, ex, hl, hn, hp, r2⟩ := r1
    subst ex
    exact k ρ1 H1 p ys P1 (.inl (SqL.of hl)) r2

/-! ### operators that may make a list -/
abbrev F2M := D → D → Store → R Mv
def Op2M (g : Gh) (r : R2) (F : F2M) : Prop := ∀ (ρ : Nat → Addr) (st : Store) (H : Hp) (d1 d2 : D) (x y : V) (v : Mv) (st' : Store) (Q : VK), Rel g ρ st H → VR g.K ρ st.length H d1 x → VR g.K ρ st.length H d2 y →
  F d1 d2 st = .ok v st' → (∀ ρ' H' z, Post g ρ st H ρ' st' H' → MR g ρ' st st' H H' z v → Q z H') → r x y H Q
def mBin (F : F2M) (fa fb : Ef) : Mf := fun env st => (fa env st).bind fun x s1 => (fb env s1).bind fun y s2 => F x y s2
theorem MR.back {ρ ρ1 : Nat → Addr} {st st1 st' : Store} {H H1 H' : Hp} {ρ' : Nat → Addr} {x : V} {m : Mv} (P : Post g ρ st H ρ1 st1 H1) (h : MR g ρ' st1 st' H1 H' x m) : MR g ρ' st st' H H' x m := by
  cases m with
  | v d => exact h
  | l xs =>
    obtain ⟨p, ys, ex, hl, hn, hp, r2⟩ := h
    exact ⟨p, ys, ex, hl, hn, P.freeB hp, r2⟩
theorem m_op {op : Operator} {r : R2} {F : F2M} (ho : OpR X (binaryOp op) r) (hF : Op2M g r F) (ha : EV g X a fa) (hb : EV g X b fb) : MV g X (.BinOp a op b pos) (mBin F fa fb) :=
  pe_imp (pe_op ho ha hb) fun σ H Q ⟨ρ, st, env, v, st', Rl, E, h, k⟩ => by
    obtain ⟨x1, s1, e1, h⟩ := R.bind_eq h
    obtain ⟨x2, s2, e2, h⟩ := R.bind_eq h
    refine ⟨ρ, st, env, x1, s1, Rl, E, e1, fun ρ1 H1 y1 P1 r1 => ?_⟩
    refine ⟨ρ1, s1, env, x2, s2, P1.rel, P1.envr Rl E, e2, fun ρ2 H2 y2 P2 r2 => ?_⟩
    exact hF ρ2 s2 H2 x1 x2 y1 y2 v st' Q P2.rel (P2.vr P1.rel r1) r2 h fun ρ' H' z P r => k ρ' H' z ((P1.trans P2).trans P) (r.back (P1.trans P2))
/-- a list just made, told -/
theorem MR.made {ρ : Nat → Addr} {st : Store} {H : Hp} {p : Addr} {xs : List D} {ys : List V} (Rl : Rel g ρ st H) (hp : H p = none) (r : VRs g.K ρ st.length H xs ys) :
    Post g ρ st H ρ st (upd H p (.lst ys)) ∧ MR g ρ st st H (upd H p (.lst ys)) (.ref p) (.l xs) := by
  have P := Rl.tup (u := HO.lst ys) hp
  refine ⟨P, p, ys, rfl, upd_same, fun l m q => ?_, hp, P.vrs Rl r⟩
  obtain ⟨u, e2, _⟩ := Rl.mutSome m
  rw [q, hp] at e2
  cases e2
theorem VR.tupMade {ρ : Nat → Addr} {st : Store} {H : Hp} {p : Addr} {xs : List D} {ys : List V} (Rl : Rel g ρ st H) (hp : H p = none) (r : VRs g.K ρ st.length H xs ys) :
    Post g ρ st H ρ st (upd H p (.tup ys)) ∧ VR g.K ρ st.length (upd H p (.tup ys)) (.tup xs) (.ref p) := by
  have P := Rl.tup (u := HO.tup ys) hp
  refine ⟨P, ?_⟩
  unfold VR
  exact ⟨p, ys, rfl, SqT.of upd_same, P.vrs Rl r⟩

/-! ### arithmetic -/
def addM : F2M := fun x y st => match x, y with
  | .int i, .int j => .ok (.v (.int (i + j))) st
  | .str s, .str z => if s.length + z.length ≤ sizeLine then .ok (.v (.str (s ++ z))) st else .bad
  | .tup xs, .tup ys => if xs.length + ys.length ≤ sizeLine then .ok (.v (.tup (xs ++ ys))) st else .bad
  | .loc k, .loc l => match st[k]?, st[l]? with
    | some (.lst xs), some (.lst ys) => if xs.length + ys.length ≤ sizeLine then .ok (.l (xs ++ ys)) st else .bad
    | _, _ => .bad
  | _, _ => .bad
theorem op_addM (x : XG g X) : ∃ r, OpR X (binaryOp .Add) r ∧ Op2M g r addM := by
  refine ⟨_, op_add.or (op_add_str.or (op_catA.or op_cat)), fun ρ st H d1 d2 x1 y1 v st' Q Rl r1 r2 h k => ?_⟩
  rw [x.K]
  cases d1 <;> cases d2 <;> simp only [addM] at h <;> (try exact (R.no h).elim)
  · cases h
    simp only [VR] at r1 r2
    subst r1; subst r2
    exact .inl ⟨_, _, rfl, rfl, k ρ H _ (Post.refl Rl) (by simp [MR, VR])⟩
  · simp only [VR] at r1 r2
    subst r1; subst r2
    split at h
    · rename_i hz
      cases h
      exact .inr (.inl ⟨_, _, rfl, rfl, hz, k ρ H _ (Post.refl Rl) (by simp [MR, VR])⟩)
    · cases h
  · rename_i xs ys
    split at h
    · rename_i hz
      cases h
      unfold VR at r1 r2
      obtain ⟨p, us, rfl, q1, s1⟩ := r1
      obtain ⟨q, ws, rfl, q2, s2⟩ := r2
      refine .inr (.inr (.inl ⟨p, q, us, ws, rfl, rfl, q1, q2, by rw [← s1.length, ← s2.length]; exact hz, fun e => ?_, fun e1 e2 => ?_, fun _ _ t ht => ?_⟩))
      · subst e
        have e0 := s1.length
        obtain rfl : xs = [] := List.length_eq_zero_iff.mp (by simpa using e0)
        refine k ρ H _ (Post.refl Rl) ?_
        unfold MR VR
        exact ⟨q, ws, rfl, q2, s2⟩
      · subst e2
        have e0 := s2.length
        obtain rfl : ys = [] := List.length_eq_zero_iff.mp (by simpa using e0)
        refine k ρ H _ (Post.refl Rl) ?_
        unfold MR VR
        exact ⟨p, us, rfl, q1, by simpa using s1⟩
      · obtain ⟨P, r⟩ := VR.tupMade Rl ht (s1.append s2)
        exact k ρ _ _ P r
    · cases h
  · rename_i l1 l2
    split at h
    · rename_i xs ys o1 o2
      split at h
      · rename_i hz
        cases h
        unfold VR at r1 r2
        obtain ⟨_, rfl⟩ := r1
        obtain ⟨_, rfl⟩ := r2
        obtain ⟨us, e1, s1⟩ := Rl.obj l1 _ o1
        obtain ⟨ws, e2, s2⟩ := Rl.obj l2 _ o2
        refine .inr (.inr (.inr ⟨_, _, us, ws, rfl, rfl, e1, e2, by rw [← s1.length, ← s2.length]; exact hz, fun t ht => ?_⟩))
        obtain ⟨P, r⟩ := MR.made Rl ht (s1.append s2)
        exact k ρ _ _ P r
      · cases h
    · cases h
/-- may this product be reckoned -/
def mulOk (i j : Int) : Bool := decide (i.natAbs < 18446744073709551616) || decide (j.natAbs < 18446744073709551616) || decide (i.natAbs.log2 + j.natAbs.log2 < 1000000)
theorem op_mulA : OpR X (binaryOp .Mult) (rI (fun i j => mulOk i j = true) fun i j => .int (i * j)) := opI fun i j _ _ _ _ _ hc q => by
  refine mul_int q ?_
  unfold mulOk at hc
  rw [Bool.or_eq_true, Bool.or_eq_true, decide_eq_true_eq, decide_eq_true_eq, decide_eq_true_eq] at hc
  rcases hc with (h | h) | h
  · exact CMul.ok (.inl ⟨by omega, by omega⟩)
  · exact CMul.ok (.inr ⟨by omega, by omega⟩)
  · exact CMulW.ok h
def mulM : F2M := fun x y st => match x, y with
  | .int i, .int j => if mulOk i j = true then .ok (.v (.int (i * j))) st else .bad
  | .loc l, .int k => match st[l]? with
    | some (.lst xs) => if -(2 ^ 63) ≤ k ∧ k < 2 ^ 63 ∧ xs.length * k.toNat ≤ sizeLine then .ok (.l (List.replicate k.toNat xs).flatten) st else .bad
    | _ => .bad
  | .tup xs, .int k => if xs ≠ [] ∧ 2 ≤ k ∧ k ≤ 1000 ∧ xs.length ≤ 1000 then .ok (.v (.tup (List.replicate k.toNat xs).flatten)) st else .bad
  | _, _ => .bad
theorem op_mulM (x : XG g X) : ∃ r, OpR X (binaryOp .Mult) r ∧ Op2M g r mulM := by
  refine ⟨_, op_mulA.or (op_rep.or op_repT), fun ρ st H d1 d2 x1 y1 v st' Q Rl r1 r2 h k => ?_⟩
  rw [x.K]
  cases d1 <;> cases d2 <;> simp only [mulM] at h <;> (try exact (R.no h).elim)
  · simp only [VR] at r1 r2
    subst r1; subst r2
    split at h
    · rename_i hz
      cases h
      exact .inl ⟨_, _, rfl, rfl, hz, k ρ H _ (Post.refl Rl) (by simp [MR, VR])⟩
    · cases h
  · rename_i xs n
    split at h
    · rename_i hz
      cases h
      unfold VR at r1 r2
      obtain ⟨p, us, rfl, q1, s1⟩ := r1
      subst r2
      refine .inr (.inr ⟨p, n, us, rfl, rfl, q1, fun e => hz.1 ?_, hz.2.1, hz.2.2.1, by rw [← s1.length]; exact hz.2.2.2, fun t ht => ?_⟩)
      · subst e
        exact List.length_eq_zero_iff.mp (by simpa using s1.length)
      · obtain ⟨P, r⟩ := VR.tupMade Rl ht (s1.rep n.toNat)
        exact k ρ _ _ P r
    · cases h
  · rename_i l n
    split at h
    · rename_i xs o1
      split at h
      · rename_i hz
        cases h
        unfold VR at r1 r2
        obtain ⟨_, rfl⟩ := r1
        subst r2
        obtain ⟨us, e1, s1⟩ := Rl.obj l _ o1
        refine .inr (.inl ⟨_, n, us, rfl, rfl, e1, hz.1, hz.2.1, by rw [← s1.length]; exact hz.2.2, fun t ht => ?_⟩)
        obtain ⟨P, r⟩ := MR.made Rl ht (s1.rep n.toNat)
        exact k ρ _ _ P r
      · cases h
    · cases h

/-- two ints -/
def iF (c : Int → Int → Bool) (h : Int → Int → D) : F2 := fun x y st => match x, y with
  | .int i, .int j => if c i j = true then .ok (h i j) st else .bad
  | _, _ => .bad
theorem op_iF {C : Int → Int → Prop} {gV : Int → Int → V} {c : Int → Int → Bool} {h : Int → Int → D} (hc : ∀ i j, c i j = true → C i j) (hh : ∀ i j (K : PySem.W.Frag) (ρ : Nat → Addr) (n : Nat) (H : Hp), VR K ρ n H (h i j) (gV i j)) :
    Op2 g (rI C gV) (iF c h) := fun ρ st H d1 d2 x1 y1 v st' Q Rl r1 r2 q k => by
  cases d1 <;> cases d2 <;> simp only [iF] at q <;> (try exact (R.no q).elim)
  simp only [VR] at r1 r2
  subst r1; subst r2
  split at q
  · rename_i hz
    cases q
    exact ⟨_, _, rfl, rfl, hc _ _ hz, k ρ H _ (Post.refl Rl) (hh _ _ _ _ _ _)⟩
  · cases q
theorem op_subA : OpR X (binaryOp .Sub) (rI (fun _ _ => True) fun i j => .int (i - j)) := opI fun _ _ _ _ _ _ _ _ q => sub_int q
def subF : F2 := iF (fun _ _ => true) fun i j => .int (i - j)
theorem o_sub : Op2 g (rI (fun _ _ => True) fun i j => .int (i - j)) subF := op_iF (fun _ _ _ => trivial) (by simp [VR])
def modF : F2 := iF (fun _ j => decide (0 < j)) fun i j => .int (i % j)
theorem o_mod : Op2 g (rI (fun _ j => 0 < j) fun i j => .int (i % j)) modF := op_iF (fun _ _ h => of_decide_eq_true h) (by simp [VR])
def fdivF : F2 := iF (fun _ j => decide (0 < j) && decide (j < 1073741824)) fun i j => .int (i / j)
theorem o_fdiv : Op2 g (rI CDiv fun i j => .int (i / j)) fdivF := op_iF (fun _ _ h => by simpa [CDiv] using h) (by simp [VR])
def powOk (i j : Int) : Bool := decide (0 ≤ j) && (decide (j ≤ 1000000 ∧ i.natAbs < 2 ^ 64) || decide ((Builtin.Int.intBits i : Int) * j ≤ 2 ^ 27))
theorem op_powA : OpR X (binaryOp .Pow) (rI (fun i j => powOk i j = true) fun i j => .int (i ^ j.toNat)) := opI fun i j _ _ _ _ _ hc q => by
  unfold powOk at hc
  rw [Bool.and_eq_true, Bool.or_eq_true, decide_eq_true_eq, decide_eq_true_eq, decide_eq_true_eq] at hc
  rcases hc.2 with h | h
  · exact PyProof.Rows.pow_int_small hc.1 h.1 h.2 q
  · exact PyProof.Rows.pow_int hc.1 h q
def powF : F2 := iF powOk fun i j => .int (i ^ j.toNat)
theorem o_pow : Op2 g (rI (fun i j => powOk i j = true) fun i j => .int (i ^ j.toNat)) powF := op_iF (fun _ _ h => h) (by simp [VR])
def shlF : F2 := iF (fun i j => decide (0 ≤ j) && decide (j ≤ 1000000) && decide (i.natAbs < 2 ^ 64)) fun i j => .int (i * 2 ^ j.toNat)
theorem o_shl : Op2 g (rI CPow fun i j => .int (i * 2 ^ j.toNat)) shlF := op_iF (fun _ _ h => by
  rw [Bool.and_eq_true, Bool.and_eq_true, decide_eq_true_eq, decide_eq_true_eq, decide_eq_true_eq] at h
  exact ⟨h.1.1, h.1.2, h.2⟩) (by simp [VR])
def shrF : F2 := iF (fun _ j => decide (0 ≤ j)) fun i j => .int (i / 2 ^ j.toNat)
theorem o_shr : Op2 g (rI (fun _ j => 0 ≤ j) fun i j => .int (i / 2 ^ j.toNat)) shrF := op_iF (fun _ _ h => of_decide_eq_true h) (by simp [VR])

theorem e_sub (ha : EV g X a fa) (hb : EV g X b fb) : EV g X (.BinOp a .Sub b pos) (eBin subF fa fb) := e_op op_subA o_sub ha hb
theorem e_mod (ha : EV g X a fa) (hb : EV g X b fb) : EV g X (.BinOp a .Mod b pos) (eBin modF fa fb) := e_op op_mod o_mod ha hb
theorem e_fdiv (ha : EV g X a fa) (hb : EV g X b fb) : EV g X (.BinOp a .FloorDiv b pos) (eBin fdivF fa fb) := e_op op_fdiv o_fdiv ha hb
theorem e_pow (ha : EV g X a fa) (hb : EV g X b fb) : EV g X (.BinOp a .Pow b pos) (eBin powF fa fb) := e_op op_powA o_pow ha hb
theorem e_shl (ha : EV g X a fa) (hb : EV g X b fb) : EV g X (.BinOp a .LShift b pos) (eBin shlF fa fb) := e_op op_shl o_shl ha hb
theorem e_shr (ha : EV g X a fa) (hb : EV g X b fb) : EV g X (.BinOp a .RShift b pos) (eBin shrF fa fb) := e_op op_shr o_shr ha hb
theorem m_add (x : XG g X) (ha : EV g X a fa) (hb : EV g X b fb) : MV g X (.BinOp a .Add b pos) (mBin addM fa fb) := let ⟨_, h1, h2⟩ := op_addM x; m_op h1 h2 ha hb
theorem m_mul (x : XG g X) (ha : EV g X a fa) (hb : EV g X b fb) : MV g X (.BinOp a .Mult b pos) (mBin mulM fa fb) := let ⟨_, h1, h2⟩ := op_mulM x; m_op h1 h2 ha hb
def eNeg (f : Ef) : Ef := fun env st => (f env st).bind fun d s => match d with | .int i => .ok (.int (-i)) s | _ => .bad
theorem e_neg (ha : EV g X a fa) : EV g X (.UnaryOp .USub a pos) (eNeg fa) := pe_imp (pe_un un_neg ha) fun σ H Q ⟨ρ, st, env, v, st', Rl, E, h, k⟩ => by
  obtain ⟨d, s1, e1, h⟩ := R.bind_eq h
  refine ⟨ρ, st, env, d, s1, Rl, E, e1, fun ρ1 H1 x P1 r1 => ?_⟩
  cases d <;> simp only at h <;> (try exact (R.no h).elim)
  cases h
  simp only [VR] at r1
  exact ⟨_, r1, k ρ1 H1 _ P1 (by simp [VR])⟩

/-! ### comparisons of ints -/
def cmpF (c : Int → Int → Bool) : F2 := iF (fun _ _ => true) fun i j => .bl (c i j)
theorem op_ltA : OpR X (compareOp .Lt) (rI (fun _ _ => True) fun i j => .bl (decide (i < j))) := fun pins s σ H x y v u Q I rx ry ⟨i, j, h1, h2, _, q⟩ => op_lt pins s σ H x y v u Q I rx ry ⟨i, j, h1, h2, q⟩
theorem op_leA : OpR X (compareOp .LtE) (rI (fun _ _ => True) fun i j => .bl (decide (i ≤ j))) := fun pins s σ H x y v u Q I rx ry ⟨i, j, h1, h2, _, q⟩ => op_le pins s σ H x y v u Q I rx ry ⟨i, j, h1, h2, q⟩
theorem op_gtA : OpR X (compareOp .Gt) (rI (fun _ _ => True) fun i j => .bl (decide (j < i))) := fun pins s σ H x y v u Q I rx ry ⟨i, j, h1, h2, _, q⟩ => op_gt pins s σ H x y v u Q I rx ry ⟨i, j, h1, h2, q⟩
theorem op_geA : OpR X (compareOp .GtE) (rI (fun _ _ => True) fun i j => .bl (decide (j ≤ i))) := fun pins s σ H x y v u Q I rx ry ⟨i, j, h1, h2, _, q⟩ => op_ge pins s σ H x y v u Q I rx ry ⟨i, j, h1, h2, q⟩
def ltF : F2 := cmpF fun i j => decide (i < j)
def leF : F2 := cmpF fun i j => decide (i ≤ j)
def gtF : F2 := cmpF fun i j => decide (j < i)
def geF : F2 := cmpF fun i j => decide (j ≤ i)
theorem o_lt : Op2 g (rI (fun _ _ => True) fun i j => .bl (decide (i < j))) ltF := op_iF (fun _ _ _ => trivial) (by simp [VR])
theorem o_le : Op2 g (rI (fun _ _ => True) fun i j => .bl (decide (i ≤ j))) leF := op_iF (fun _ _ _ => trivial) (by simp [VR])
theorem o_gt : Op2 g (rI (fun _ _ => True) fun i j => .bl (decide (j < i))) gtF := op_iF (fun _ _ _ => trivial) (by simp [VR])
theorem o_ge : Op2 g (rI (fun _ _ => True) fun i j => .bl (decide (j ≤ i))) geF := op_iF (fun _ _ _ => trivial) (by simp [VR])
theorem e_lt (ha : EV g X a fa) (hb : EV g X b fb) : EV g X (.Compare a [.Lt] [b] pos) (eBin ltF fa fb) := e_cmp op_ltA o_lt ha hb (nomark _)
theorem e_le (ha : EV g X a fa) (hb : EV g X b fb) : EV g X (.Compare a [.LtE] [b] pos) (eBin leF fa fb) := e_cmp op_leA o_le ha hb (nomark _)
theorem e_gt (ha : EV g X a fa) (hb : EV g X b fb) : EV g X (.Compare a [.Gt] [b] pos) (eBin gtF fa fb) := e_cmp op_gtA o_gt ha hb (nomark _)
theorem e_ge (ha : EV g X a fa) (hb : EV g X b fb) : EV g X (.Compare a [.GtE] [b] pos) (eBin geF fa fb) := e_cmp op_geA o_ge ha hb (nomark _)
theorem t_lt (ha : EV g X a fa) (hb : EV g X b fb) : TV g X (.Compare a [.Lt] [b] pos) (tfB (eBin ltF fa fb)) := t_cmp op_ltA o_lt ha hb (nomark _)
theorem t_le (ha : EV g X a fa) (hb : EV g X b fb) : TV g X (.Compare a [.LtE] [b] pos) (tfB (eBin leF fa fb)) := t_cmp op_leA o_le ha hb (nomark _)
theorem t_gt (ha : EV g X a fa) (hb : EV g X b fb) : TV g X (.Compare a [.Gt] [b] pos) (tfB (eBin gtF fa fb)) := t_cmp op_gtA o_gt ha hb (nomark _)
theorem t_ge (ha : EV g X a fa) (hb : EV g X b fb) : TV g X (.Compare a [.GtE] [b] pos) (tfB (eBin geF fa fb)) := t_cmp op_geA o_ge ha hb (nomark _)
/-- low <= x <= high -/
def eChain (F G : F2) (fa fb fc : Ef) : Ef := fun env st => (fa env st).bind fun x s1 => (fb env s1).bind fun y s2 => (toB (F x y s2)).bind fun k s3 => if k = true then (fc env s3).bind fun z s4 => G y z s4 else .ok (.bl false) s3
theorem ch_of {c : Expr} {fc : Ef} {r r' : R2} {F G : F2} (hF : Op2 g r F) (hG : Op2 g r' G) : ∀ σ H Q, tE g (eChain F G fa fb fc) σ H Q → tChain r r' (tE g fa) (tE g fb) (tE g fc) σ H Q :=
  fun σ H Q ⟨ρ, st, env, v, st', Rl, E, h, k⟩ => by
    obtain ⟨x1, s1, e1, h⟩ := R.bind_eq h
    obtain ⟨x2, s2, e2, h⟩ := R.bind_eq h
    obtain ⟨x3, s3, e3, h⟩ := R.bind_eq h
    refine ⟨ρ, st, env, x1, s1, Rl, E, e1, fun ρ1 H1 y1 P1 r1 => ?_⟩
    refine ⟨ρ1, s1, env, x2, s2, P1.rel, P1.envr Rl E, e2, fun ρ2 H2 y2 P2 r2 => ?_⟩
    refine hF ρ2 s2 H2 x1 x2 y1 y2 (.bl x3) s3 _ P2.rel (P2.vr P1.rel r1) r2 (toB_eq e3) fun ρ3 H3 z P3 r3 => ?_
    simp only [VR] at r3
    subst r3
    refine ⟨x3, rfl, ?_⟩
    have P13 := (P1.trans P2).trans P3
    cases x3 with
    | false =>
      cases h
      exact iteF (k ρ3 H3 _ P13 (by simp [VR]))
    | true =>
      obtain ⟨x4, s4, e4, h⟩ := R.bind_eq h
      refine iteT ⟨ρ3, s3, env, x4, s4, P3.rel, P13.envr Rl E, e4, fun ρ4 H4 y4 P4 r4 => ?_⟩
      exact hG ρ4 s4 H4 x2 x4 y2 y4 v st' Q P4.rel (P4.vr P3.rel (P3.vr P2.rel r2)) r4 h fun ρ' H' w P r => k ρ' H' w ((P13.trans P4).trans P) r
theorem e_lele {c : Expr} {fc : Ef} (ha : EV g X a fa) (hb : EV g X b fb) (hc : EV g X c fc) (hm : lastMarks [.LtE, .LtE] [b, c] = false := by with_unfolding_all rfl) : EV g X (.Compare a [.LtE, .LtE] [b, c] pos) (eChain leF leF fa fb fc) :=
  pe_imp (pe_chain op_leA op_leA ha hb hc hm) (ch_of (c := c) o_le o_le)

/-! ### is, is not: None, bools -/
def isNF : D → Bool := fun d => match d with | .non => true | _ => false
theorem VR.isN {K : PySem.W.Frag} {ρ : Nat → Addr} {n : Nat} {H : Hp} {d : D} {x : V} (r : VR K ρ n H d x) : decide (x = .non) = isNF d := by
  cases d with
  | non => simp only [VR] at r; subst r; rfl
  | bl b => simp only [VR] at r; subst r; rfl
  | int b => simp only [VR] at r; subst r; rfl
  | str b => simp only [VR] at r; subst r; rfl
  | tup b => unfold VR at r; obtain ⟨p, ys, rfl, _⟩ := r; rfl
  | loc b => unfold VR at r; obtain ⟨_, rfl⟩ := r; rfl
def eIsN (f : Ef) : Ef := fun env st => (f env st).bind fun d s => .ok (.bl (isNF d)) s
def eNotN (f : Ef) : Ef := fun env st => (f env st).bind fun d s => .ok (.bl (!isNF d)) s
variable {j : Nat} {pos' : Pos}
theorem isN_of {f : Ef} : ∀ σ H Q, tE g (eIsN f) σ H Q → tIsN (tE g f) σ H Q := fun σ H Q ⟨ρ, st, env, v, st', Rl, E, h, k⟩ => by
  obtain ⟨d, s1, e1, h⟩ := R.bind_eq h
  cases h
  refine ⟨ρ, st, env, d, _, Rl, E, e1, fun ρ1 H1 x P1 r1 => ?_⟩
  show Q (V.bl (decide (x = V.non))) H1
  rw [r1.isN]
  exact k ρ1 H1 _ P1 (by simp [VR])
theorem notN_of {f : Ef} : ∀ σ H Q, tE g (eNotN f) σ H Q → tNotN (tE g f) σ H Q := fun σ H Q ⟨ρ, st, env, v, st', Rl, E, h, k⟩ => by
  obtain ⟨d, s1, e1, h⟩ := R.bind_eq h
  cases h
  refine ⟨ρ, st, env, d, _, Rl, E, e1, fun ρ1 H1 x P1 r1 => ?_⟩
  show Q (V.bl (!decide (x = V.non))) H1
  rw [r1.isN]
  exact k ρ1 H1 _ P1 (by simp [VR])
theorem pc_impE {op : CmpOp} {t t' : TE} (h : PC X op a b t) (k : ∀ σ H Q, t' σ H Q → t σ H Q) : PC X op a b t' := ⟨fun pins s σ H Q I q => h.run pins s σ H Q I (k σ H Q q)⟩
theorem e_isN (ha : EV g X a fa) : EV g X (.Compare a [.Is] [.Constant .none j pos'] pos) (eIsN fa) := pe_cmp (pc_impE (pc_isN ha) isN_of) rfl
theorem e_notN (ha : EV g X a fa) : EV g X (.Compare a [.IsNot] [.Constant .none j pos'] pos) (eNotN fa) := pe_cmp (pc_impE (pc_notN ha) notN_of) rfl
theorem t_isN (ha : EV g X a fa) : TV g X (.Compare a [.Is] [.Constant .none j pos'] pos) (tfB (eIsN fa)) := pt_imp (pt_cmp (pc_impE (pc_isN ha) isN_of) rfl) tB_of
theorem t_notN (ha : EV g X a fa) : TV g X (.Compare a [.IsNot] [.Constant .none j pos'] pos) (tfB (eNotN fa)) := pt_imp (pt_cmp (pc_impE (pc_notN ha) notN_of) rfl) tB_of
def isBF (neg : Bool) : F2 := fun x y st => match x, y with
  | .bl i, .bl j => .ok (.bl (if neg then !decide (i = j) else decide (i = j))) st
  | _, _ => .bad
theorem o_isB : Op2 g rIsB (isBF false) := fun ρ st H d1 d2 x1 y1 v st' Q Rl r1 r2 q k => by
  cases d1 <;> cases d2 <;> simp only [isBF] at q <;> (try exact (R.no q).elim)
  simp only [VR] at r1 r2
  subst r1; subst r2
  cases q
  exact ⟨_, _, rfl, rfl, k ρ H _ (Post.refl Rl) (by simp [VR])⟩
theorem o_notB : Op2 g rNotB (isBF true) := fun ρ st H d1 d2 x1 y1 v st' Q Rl r1 r2 q k => by
  cases d1 <;> cases d2 <;> simp only [isBF] at q <;> (try exact (R.no q).elim)
  simp only [VR] at r1 r2
  subst r1; subst r2
  cases q
  exact ⟨_, _, rfl, rfl, k ρ H _ (Post.refl Rl) (by simp [VR])⟩
theorem e_isB (ha : EV g X a fa) (hb : EV g X b fb) : EV g X (.Compare a [.Is] [b] pos) (eBin (isBF false) fa fb) := e_cmp op_isBl o_isB ha hb (nomark _)
theorem e_notB (ha : EV g X a fa) (hb : EV g X b fb) : EV g X (.Compare a [.IsNot] [b] pos) (eBin (isBF true) fa fb) := e_cmp op_notBl o_notB ha hb (nomark _)
theorem t_isB (ha : EV g X a fa) (hb : EV g X b fb) : TV g X (.Compare a [.Is] [b] pos) (tfB (eBin (isBF false) fa fb)) := t_cmp op_isBl o_isB ha hb (nomark _)
theorem t_notB (ha : EV g X a fa) (hb : EV g X b fb) : TV g X (.Compare a [.IsNot] [b] pos) (tfB (eBin (isBF true) fa fb)) := t_cmp op_notBl o_notB ha hb (nomark _)
end

/-! ### data at any depth: ==, repr -/
mutual
def pdW (f : Nat → Option (List PyData)) : D → Option PyData
  | .non => some .none
  | .bl b => some (.bool b)
  | .int i => some (.int i)
  | .str s => some (.str s)
  | .tup xs => (pdWs f xs).map .tuple
  | .loc l => (f l).map .list
def pdWs (f : Nat → Option (List PyData)) : List D → Option (List PyData)
  | [] => some []
  | x :: xs => (pdW f x).bind fun a => (pdWs f xs).map fun b => a :: b
end
def pdN (st : Store) : Nat → Nat → Option (List PyData)
  | 0, _ => none
  | k + 1, l => match st[l]? with
    | some (.lst xs) => pdWs (pdN st k) xs
    | some (.ro ns) => some (ns.map .int)
    | _ => none
def pd (st : Store) (d : D) : Option PyData := pdW (pdN st 3) d
section
variable {g : Gh} {ρ : Nat → Addr} {st : Store} {H : Hp}
theorem dpAll_ints {K : PySem.W.Frag} : ∀ ns : List Int, DpAll K H (ns.map V.int) (ns.map PyData.int)
  | [] => .nil
  | n :: ns => .cons (.int n) (dpAll_ints ns)
mutual
theorem pdW_dp {f : Nat → Option (List PyData)} (hf : ∀ l ds, f l = some ds → l < st.length → ∃ xs, SqL g.K H (ρ l) xs ∧ DpAll g.K H xs ds) : ∀ {d : D} {v : V} {p : PyData}, VR g.K ρ st.length H d v → pdW f d = some p → Dp g.K H v p
  | .non, v, p, r, h => by simp only [VR] at r; subst r; simp only [pdW] at h; cases h; exact .non
  | .bl b, v, p, r, h => by simp only [VR] at r; subst r; simp only [pdW] at h; cases h; exact .bl b
  | .int b, v, p, r, h => by simp only [VR] at r; subst r; simp only [pdW] at h; cases h; exact .int b
  | .str b, v, p, r, h => by simp only [VR] at r; subst r; simp only [pdW] at h; cases h; exact .str b
  | .tup xs, v, p, r, h => by
    unfold VR at r
    obtain ⟨a, ys, rfl, q, rs⟩ := r
    simp only [pdW, Option.map_eq_some_iff] at h
    obtain ⟨ds, e, rfl⟩ := h
    exact .tup q (pdWs_dp hf rs e)
  | .loc l, v, p, r, h => by
    unfold VR at r
    obtain ⟨hl, rfl⟩ := r
    simp only [pdW, Option.map_eq_some_iff] at h
    obtain ⟨ds, e, rfl⟩ := h
    obtain ⟨xs, q, a⟩ := hf l ds e hl
    exact .lst q a
theorem pdWs_dp {f : Nat → Option (List PyData)} (hf : ∀ l ds, f l = some ds → l < st.length → ∃ xs, SqL g.K H (ρ l) xs ∧ DpAll g.K H xs ds) : ∀ {ds : List D} {vs : List V} {ps : List PyData}, VRs g.K ρ st.length H ds vs → pdWs f ds = some ps → DpAll g.K H vs ps
  | [], vs, ps, r, h => by
    unfold VRs at r
    subst r
    simp only [pdWs] at h
    cases h
    exact .nil
  | x :: xs, vs, ps, r, h => by
    unfold VRs at r
    obtain ⟨y, zs, rfl, r1, rs⟩ := r
    simp only [pdWs, Option.bind_eq_some_iff, Option.map_eq_some_iff] at h
    obtain ⟨a, e1, b, e2, rfl⟩ := h
    exact .cons (pdW_dp hf r1 e1) (pdWs_dp hf rs e2)
end
theorem pdN_dp (Rl : Rel g ρ st H) : ∀ (k l : Nat) (ds : List PyData), pdN st k l = some ds → l < st.length → ∃ xs, SqL g.K H (ρ l) xs ∧ DpAll g.K H xs ds
  | 0, _, _, h, _ => by cases h
  | k + 1, l, ds, h, hl => by
    unfold pdN at h
    split at h
    · rename_i xs e
      obtain ⟨ys, e1, rs⟩ := Rl.obj l _ e
      exact ⟨ys, SqL.of e1, pdWs_dp (pdN_dp Rl k) rs h⟩
    · rename_i ns e
      cases h
      exact ⟨_, RoL.sq (Rl.obj l _ e), dpAll_ints ns⟩
    · cases h
theorem pd_dp (Rl : Rel g ρ st H) {d : D} {v : V} {p : PyData} (r : VR g.K ρ st.length H d v) (h : pd st d = some p) : Dp g.K H v p := pdW_dp (pdN_dp Rl 3) r h
end
section
variable {g : Gh} {X : Cx} {e a b : Expr} {pos : Pos} {f fa fb : Ef}
def eqG (neg : Bool) : F2 := fun x y st => match pd st x, pd st y with
  | some d, some e => if SeqAt.shaped d = true ∧ SeqAt.shaped e = true then .ok (.bl (if neg then !PyData.eqv d e else PyData.eqv d e)) st else .bad
  | _, _ => .bad
theorem o_eqG (x : XG g X) : Op2 g (rEqD X.K) (eqG false) := fun ρ st H d1 d2 x1 y1 v st' Q Rl r1 r2 q k => by
  unfold eqG at q
  split at q
  · rename_i d e e1 e2
    split at q
    · rename_i hz
      cases q
      rw [x.K]
      exact ⟨d, e, pd_dp Rl r1 e1, pd_dp Rl r2 e2, hz.1, hz.2, k ρ H _ (Post.refl Rl) (by simp [VR])⟩
    · cases q
  · cases q
theorem o_neG (x : XG g X) : Op2 g (rNeD X.K) (eqG true) := fun ρ st H d1 d2 x1 y1 v st' Q Rl r1 r2 q k => by
  unfold eqG at q
  split at q
  · rename_i d e e1 e2
    split at q
    · rename_i hz
      cases q
      rw [x.K]
      exact ⟨d, e, pd_dp Rl r1 e1, pd_dp Rl r2 e2, hz.1, hz.2, k ρ H _ (Post.refl Rl) (by simp [VR])⟩
    · cases q
  · cases q
def eqF (neg : Bool) : F2 := fun x y st => match x, y with
  | .str a, .str b => .ok (.bl (if neg then !decide (a = b) else decide (a = b))) st
  | x, y => eqG neg x y st
theorem opR_or {op : Value → Value → Sem Value} {r1 r2 : R2} (h1 : OpR X op r1) (h2 : OpR X op r2) : OpR X op (fun x y H Q => r1 x y H Q ∨ r2 x y H Q) := fun pins s σ H x y v u Q I rx ry h => h.elim (h1 pins s σ H x y v u Q I rx ry) (h2 pins s σ H x y v u Q I rx ry)
theorem o_eq (x : XG g X) : Op2 g (fun x y H Q => rEqD X.K x y H Q ∨ rEq x y H Q) (eqF false) := fun ρ st H d1 d2 x1 y1 v st' Q Rl r1 r2 q k => by
  unfold eqF at q
  split at q
  · rename_i a b
    cases q
    simp only [VR] at r1 r2
    subst r1
    subst r2
    refine .inr ⟨rfl, ?_⟩
    refine k ρ H _ (Post.refl Rl) ?_
    simp [VR]
  · exact .inl (o_eqG x ρ st H d1 d2 x1 y1 v st' Q Rl r1 r2 q k)
theorem o_ne (x : XG g X) : Op2 g (fun x y H Q => rNeD X.K x y H Q ∨ rNe x y H Q) (eqF true) := fun ρ st H d1 d2 x1 y1 v st' Q Rl r1 r2 q k => by
  unfold eqF at q
  split at q
  · rename_i a b
    cases q
    simp only [VR] at r1 r2
    subst r1
    subst r2
    refine .inr ⟨rfl, ?_⟩
    refine k ρ H _ (Post.refl Rl) ?_
    simp [VR]
  · exact .inl (o_neG x ρ st H d1 d2 x1 y1 v st' Q Rl r1 r2 q k)
theorem XG.hu64 (x : XG g X) : X.A.units + 64 < cLine := by have := x.hu; omega
theorem e_eq (x : XG g X) (ha : EV g X a fa) (hb : EV g X b fb) : EV g X (.Compare a [.Eq] [b] pos) (eBin (eqF false) fa fb) := e_cmp (opR_or (op_eqD x.hu64) op_eq) (o_eq x) ha hb (nomark _)
theorem e_ne (x : XG g X) (ha : EV g X a fa) (hb : EV g X b fb) : EV g X (.Compare a [.NotEq] [b] pos) (eBin (eqF true) fa fb) := e_cmp (opR_or (op_neD x.hu64) op_ne) (o_ne x) ha hb (nomark _)
theorem t_eq (x : XG g X) (ha : EV g X a fa) (hb : EV g X b fb) : TV g X (.Compare a [.Eq] [b] pos) (tfB (eBin (eqF false) fa fb)) := t_cmp (opR_or (op_eqD x.hu64) op_eq) (o_eq x) ha hb (nomark _)
theorem t_ne (x : XG g X) (ha : EV g X a fa) (hb : EV g X b fb) : TV g X (.Compare a [.NotEq] [b] pos) (tfB (eBin (eqF true) fa fb)) := t_cmp (opR_or (op_neD x.hu64) op_ne) (o_ne x) ha hb (nomark _)

/-- repr -/
def rRepr (K : PySem.W.Frag) : List V → Hp → VK → Prop := fun xs H Q => ∃ x d, xs = [x] ∧ Dp K H x d ∧ d.showable = true ∧ SeqAt.shaped d = true ∧ d.shown.length ≤ sizeLine ∧ Q (.str d.shown) H
theorem call_repr (x : XG g X) : CallR X (.builtin "repr") (rRepr X.K) := by
  intro pins s σ H xs us Q I r h
  obtain ⟨y, d, rfl, hd, hs, hh, hz, q⟩ := h
  obtain ⟨u, rfl, ru⟩ := vals1 r
  have fin : ∀ t, EP X pins σ Q (.str d.shown t) { s with toks := s.toks + 1 } := fun t => ⟨.str d.shown, H, I.tok _, ⟨_, rfl⟩, q⟩
  cases hd with
  | non => cases ru; exact PySem.P.repr_of_none (fin _)
  | bl b => cases ru; exact PySem.P.repr_of_bool (fin _)
  | int i =>
    obtain ⟨t, rfl⟩ := ru
    exact PySem.P.repr_of_int (of_decide_eq_true (by simpa [PyData.showable] using hs)) (fin _)
  | str z =>
    obtain ⟨t, rfl⟩ := ru
    exact PySem.P.repr_of_str (fin _) (by simpa [PyData.shown] using hz)
  | @lst p zs ds sq al =>
    cases ru
    obtain ⟨as, rd⟩ := Dp.reads I _ _ (.ref p) (.lst sq al) rfl
    exact repr_of_reads' rd hs (PyData.noDict_hsm (PyData.hasDict_of_canLay _ (SeqAt.canLay_of_shaped hh))) x.hg (by have := SeqAt.depth_of_shaped hh; have := x.hu; omega) (fun _ _ e => e)
      (fun h' u tk hk => ⟨.str _, H, I.kept hk, ⟨_, rfl⟩, q⟩) hz
  | @tup p zs ds sq al =>
    cases ru
    obtain ⟨as, rd⟩ := Dp.reads I _ _ (.ref p) (.tup sq al) rfl
    exact repr_of_reads' rd hs (PyData.noDict_hsm (PyData.hasDict_of_canLay _ (SeqAt.canLay_of_shaped hh))) x.hg (by have := SeqAt.depth_of_shaped hh; have := x.hu; omega) (fun _ _ e => e)
      (fun h' u tk hk => ⟨.str _, H, I.kept hk, ⟨_, rfl⟩, q⟩) hz

/-! ### calls of built-ins by their arguments -/
abbrev FA := List D → Store → R D
def OpA (g : Gh) (r : List V → Hp → VK → Prop) (F : FA) : Prop := ∀ (ρ : Nat → Addr) (st : Store) (H : Hp) (ds : List D) (vs : List V) (v : D) (st' : Store) (Q : VK), Rel g ρ st H → VRs g.K ρ st.length H ds vs →
  F ds st = .ok v st' → (∀ ρ' H' z, Post g ρ st H ρ' st' H' → VR g.K ρ' st'.length H' v z → Q z H') → r vs H Q
def eCall (F : FA) (t : Af) : Ef := fun env st => (t env st).bind F
theorem cb_of {r : List V → Hp → VK → Prop} {F : FA} {t : Af} (hF : OpA g r F) : ∀ σ H Q, tE g (eCall F t) σ H Q → tCB r (tA g t) σ H Q := fun σ H Q ⟨ρ, st, env, v, st', Rl, E, h, k⟩ => by
  obtain ⟨ds, s1, e1, h⟩ := R.bind_eq h
  refine ⟨ρ, st, env, ds, s1, Rl, E, e1, fun ρ1 H1 vs P1 r1 => ?_⟩
  exact hF ρ1 s1 H1 ds vs v st' Q P1.rel r1 h fun ρ' H' z P r => k ρ' H' z (P1.trans P) r
variable {es : List Expr} {t : Af} {x : Str} {p : Pos} {id T : String} {r : List V → Hp → VK → Prop} {F : FA}
theorem e_callB (hc : CallR X (.builtin id) r) (hF : OpA g r F) (hm : X.mg x = none) (ha : AV g X (e :: es) t) (hg : Gl X x := by rfl) (hv : bootBuiltins x = some (.builtin id) := by decide +kernel) (hn : x ≠ "__name__" := by decide) (hdb : (x == ("__debug__" : Str)) = false := by decide)
    (he : starEach (e :: es) X.env = (false, eval e X.env) :: starEach es X.env := by rfl) (hpl : (backTo pos (starEach es X.env)).any (·.1) = false := by rfl) : EV g X (.Call (.Name x p) (e :: es) [] pos) (eCall F t) :=
  pe_imp (pe_callB hc hg hm hv ha hn hdb he hpl) (cb_of hF)
theorem e_callT (hc : CallR X (.type T) r) (hF : OpA g r F) (hm : X.mg x = none) (ha : AV g X (e :: es) t) (hg : Gl X x := by rfl) (hv : bootBuiltins x = some (.type T) := by decide +kernel) (hn : x ≠ "__name__" := by decide) (hdb : (x == ("__debug__" : Str)) = false := by decide)
    (he : starEach (e :: es) X.env = (false, eval e X.env) :: starEach es X.env := by rfl) (hpl : (backTo pos (starEach es X.env)).any (·.1) = false := by rfl) : EV g X (.Call (.Name x p) (e :: es) [] pos) (eCall F t) :=
  pe_imp (pe_callTy hc hg hm hv ha hn hdb he hpl) (cb_of hF)
/-- .. of one sequence -/
abbrev FQ := List D → Store → R D
def OpQ (g : Gh) (r : List V → Hp → VK → Prop) (F : FQ) : Prop := ∀ (ρ : Nat → Addr) (st : Store) (H : Hp) (p : Addr) (ys : List V) (xs : List D) (v : D) (st' : Store) (Q : VK), Rel g ρ st H → Seq g.K H p ys → VRs g.K ρ st.length H xs ys →
  F xs st = .ok v st' → (∀ ρ' H' z, Post g ρ st H ρ' st' H' → VR g.K ρ' st'.length H' v z → Q z H') → r [.ref p] H Q
theorem cq_of {r : List V → Hp → VK → Prop} {F : FQ} {t : Af} (hF : OpQ g r F) : ∀ σ H Q, tE g (eCall F t) σ H Q → tCB r (tCons (tQ g t) tNil) σ H Q := fun σ H Q ⟨ρ, st, env, v, st', Rl, E, h, k⟩ => by
  obtain ⟨xs, s1, e1, h⟩ := R.bind_eq h
  refine ⟨ρ, st, env, xs, s1, Rl, E, e1, fun ρ1 H1 p ys P1 sq r1 => ?_⟩
  exact hF ρ1 s1 H1 p ys xs v st' Q P1.rel sq r1 h fun ρ' H' z P r => k ρ' H' z (P1.trans P) r
theorem e_callQ {F : FQ} (hc : CallR X (.builtin id) r) (hF : OpQ g r F) (hm : X.mg x = none) (ha : QV g X e t) (hg : Gl X x := by rfl) (hv : bootBuiltins x = some (.builtin id) := by decide +kernel) (hn : x ≠ "__name__" := by decide) (hdb : (x == ("__debug__" : Str)) = false := by decide)
    (he : starEach [e] X.env = (false, eval e X.env) :: starEach [] X.env := by rfl) : EV g X (.Call (.Name x p) [e] [] pos) (eCall F t) :=
  pe_imp (pe_callB hc hg hm hv (pa_cons ha pa_nil he) hn hdb he rfl) (cq_of hF)
theorem e_callTQ {F : FQ} (hc : CallR X (.type T) r) (hF : OpQ g r F) (hm : X.mg x = none) (ha : QV g X e t) (hg : Gl X x := by rfl) (hv : bootBuiltins x = some (.type T) := by decide +kernel) (hn : x ≠ "__name__" := by decide) (hdb : (x == ("__debug__" : Str)) = false := by decide)
    (he : starEach [e] X.env = (false, eval e X.env) :: starEach [] X.env := by rfl) : EV g X (.Call (.Name x p) [e] [] pos) (eCall F t) :=
  pe_imp (pe_callTy hc hg hm hv (pa_cons ha pa_nil he) hn hdb he rfl) (cq_of hF)
/-- .. of one list -/
def tQL (g : Gh) (f : Af) : TE := fun σ H Q => ∃ ρ st env v st', Rel g ρ st H ∧ EnvR g.K ρ st.length H env σ ∧ f env st = .ok v st' ∧
  ∀ ρ' H' p ys, Post g ρ st H ρ' st' H' → SqL g.K H' p ys → VRs g.K ρ' st'.length H' v ys → Q (.ref p) H'
abbrev LV (g : Gh) (X : Cx) (e : Expr) (f : Af) : Prop := PE X e (tQL g f)
theorem l_new {t : Af} (hn : NV g X e t) : LV g X e t := pe_imp hn fun σ H Q ⟨ρ, st, env, v, st', Rl, E, h, k⟩ =>
  ⟨ρ, st, env, v, st', Rl, E, h, fun ρ1 H1 p ys P1 hl hn hp r1 => k ρ1 H1 p ys P1 (SqL.of hl) r1⟩
def toL (r : R D) : R (List D) := r.bind fun d s => match d with
  | .loc l => match s[l]? with
    | some (.lst xs) => .ok xs s
    | some (.ro ns) => .ok (ns.map .int) s
    | _ => .bad
  | _ => .bad
def lOf (f : Ef) : Af := fun env st => toL (f env st)
theorem lst_of {ρ : Nat → Addr} {s : Store} {H : Hp} {d : D} {x : V} {xs : List D} {s' : Store} (Rl : Rel g ρ s H) (r : VR g.K ρ s.length H d x) (h : toL (.ok d s) = .ok xs s') :
    s' = s ∧ ∃ p ys, x = .ref p ∧ SqL g.K H p ys ∧ VRs g.K ρ s.length H xs ys := by
  unfold toL at h
  simp only [R.bind_ok] at h
  cases d with
  | loc l =>
    unfold VR at r
    obtain ⟨hl, e⟩ := r
    simp only at h
    split at h
    · rename_i zs q
      cases h
      obtain ⟨ys, e1, rs⟩ := Rl.obj l _ q
      exact ⟨rfl, ρ l, ys, e, SqL.of e1, rs⟩
    · rename_i ns q
      cases h
      exact ⟨rfl, ρ l, _, e, RoL.sq (Rl.obj l _ q), VRs.ints⟩
    · cases h
  | _ => cases h
theorem l_of (ha : EV g X e f) : LV g X e (lOf f) := pe_imp ha fun σ H Q ⟨ρ, st, env, v, st', Rl, E, h, k⟩ => by
  obtain ⟨d, s1, e1, h'⟩ := R.bind_eq h
  refine ⟨ρ, st, env, d, s1, Rl, E, e1, fun ρ1 H1 x P1 r1 => ?_⟩
  obtain ⟨es, p, ys, ex, sq, rs⟩ := lst_of (s' := st') P1.rel r1 h'
  subst es
  subst ex
  exact k ρ1 H1 p ys P1 sq rs
def lM (f : Mf) : Af := fun env st => (f env st).bind fun m s => match m with
  | .v d => toL (.ok d s)
  | .l xs => .ok xs s
theorem l_m {f : Mf} (h : MV g X e f) : LV g X e (lM f) := pe_imp h fun σ H Q ⟨ρ, st, env, v, st', Rl, E, h, k⟩ => by
  obtain ⟨m, s1, e1, h⟩ := R.bind_eq h
  refine ⟨ρ, st, env, m, s1, Rl, E, e1, fun ρ1 H1 x P1 r1 => ?_⟩
  cases m with
  | v d =>
    obtain ⟨es, p, ys, ex, sq, rs⟩ := lst_of (s' := st') P1.rel r1 h
    subst es
    subst ex
    exact k ρ1 H1 p ys P1 sq rs
  | l xs =>
    cases h
    obtain ⟨p, ys, ex, hl, hn, hp, r2⟩ := r1
    subst ex
    exact k ρ1 H1 p ys P1 (SqL.of hl) r2
def OpL (g : Gh) (r : List V → Hp → VK → Prop) (F : FQ) : Prop := ∀ (ρ : Nat → Addr) (st : Store) (H : Hp) (p : Addr) (ys : List V) (xs : List D) (v : D) (st' : Store) (Q : VK), Rel g ρ st H → SqL g.K H p ys → VRs g.K ρ st.length H xs ys →
  F xs st = .ok v st' → (∀ ρ' H' z, Post g ρ st H ρ' st' H' → VR g.K ρ' st'.length H' v z → Q z H') → r [.ref p] H Q
theorem cl_of {r : List V → Hp → VK → Prop} {F : FQ} {t : Af} (hF : OpL g r F) : ∀ σ H Q, tE g (eCall F t) σ H Q → tCB r (tCons (tQL g t) tNil) σ H Q := fun σ H Q ⟨ρ, st, env, v, st', Rl, E, h, k⟩ => by
  obtain ⟨xs, s1, e1, h⟩ := R.bind_eq h
  refine ⟨ρ, st, env, xs, s1, Rl, E, e1, fun ρ1 H1 p ys P1 sq r1 => ?_⟩
  exact hF ρ1 s1 H1 p ys xs v st' Q P1.rel sq r1 h fun ρ' H' z P r => k ρ' H' z (P1.trans P) r
theorem e_callL {F : FQ} (hc : CallR X (.builtin id) r) (hF : OpL g r F) (hm : X.mg x = none) (ha : LV g X e t) (hg : Gl X x := by rfl) (hv : bootBuiltins x = some (.builtin id) := by decide +kernel) (hn : x ≠ "__name__" := by decide) (hdb : (x == ("__debug__" : Str)) = false := by decide)
    (he : starEach [e] X.env = (false, eval e X.env) :: starEach [] X.env := by rfl) : EV g X (.Call (.Name x p) [e] [] pos) (eCall F t) :=
  pe_imp (pe_callB hc hg hm hv (pa_cons ha pa_nil he) hn hdb he rfl) (cl_of hF)
end
end Ev

/-! Ev4: what is walked, targets, statements, loops, comprehensions by functions. -/
namespace Ev
open PySem L2 PyProof.Rows

/-! ### equal values, by a reckoned test -/
mutual
def D.eqb : D → D → Bool
  | .non, .non => true
  | .bl a, .bl b => a == b
  | .int a, .int b => decide (a = b)
  | .str a, .str b => decide (a = b)
  | .tup a, .tup b => D.eqbs a b
  | .loc a, .loc b => a == b
  | _, _ => false
def D.eqbs : List D → List D → Bool
  | [], [] => true
  | x :: xs, y :: ys => D.eqb x y && D.eqbs xs ys
  | _, _ => false
end
mutual
theorem D.eqb_eq : ∀ {a b : D}, D.eqb a b = true → a = b
  | .non, b, h => by cases b <;> simp [D.eqb] at h <;> rfl
  | .bl x, b, h => by cases b <;> simp [D.eqb] at h; subst h; rfl
  | .int x, b, h => by cases b <;> simp [D.eqb] at h; subst h; rfl
  | .str x, b, h => by cases b <;> simp [D.eqb] at h; subst h; rfl
  | .tup x, b, h => by cases b <;> simp [D.eqb] at h; rw [D.eqbs_eq h]
  | .loc x, b, h => by cases b <;> simp [D.eqb] at h; subst h; rfl
theorem D.eqbs_eq : ∀ {a b : List D}, D.eqbs a b = true → a = b
  | [], b, h => by cases b <;> simp [D.eqbs] at h; rfl
  | x :: xs, b, h => by cases b <;> simp [D.eqbs] at h; rw [D.eqb_eq h.1, D.eqbs_eq h.2]
end
mutual
theorem D.eqb_self : ∀ a : D, D.eqb a a = true
  | .non => rfl
  | .bl x => by simp [D.eqb]
  | .int x => by simp [D.eqb]
  | .str x => by simp [D.eqb]
  | .tup x => by simp only [D.eqb]; exact D.eqbs_self x
  | .loc x => by simp [D.eqb]
theorem D.eqbs_self : ∀ a : List D, D.eqbs a a = true
  | [] => rfl
  | x :: xs => by simp only [D.eqbs, Bool.and_eq_true]; exact ⟨D.eqb_self x, D.eqbs_self xs⟩
end
/-- a list that is looked at while it is walked: its place, its items -/
abbrev Wt := List (Nat × List D)
def wOk (st : Store) : Wt → Bool
  | [] => true
  | (l, xs) :: ws => (match st[l]? with | some (.lst ys) => D.eqbs ys xs | some (.ro _) => true | _ => false) && wOk st ws
theorem wOk_nil (st : Store) : wOk st [] = true := rfl
theorem wOk_lst {st : Store} {l : Nat} {xs : List D} {ws : Wt} (h : st[l]? = some (.lst xs)) (h' : wOk st ws = true) : wOk st ((l, xs) :: ws) = true := by
  simp only [wOk, h, D.eqbs_self, h', Bool.and_self]
theorem wOk_ro {st : Store} {l : Nat} {xs : List D} {ns : List Int} {ws : Wt} (h : st[l]? = some (.ro ns)) (h' : wOk st ws = true) : wOk st ((l, xs) :: ws) = true := by
  simp only [wOk, h, h', Bool.and_self]
/-- what is walked: the items, the lists that are looked at -/
structure Src where
  items : List D
  ws : Wt

/-- the walk J gives the items, as long as the lists looked at are as they were -/
structure WalkD (g : Gh) (ρ : Nat → Addr) (st : Store) (H : Hp) (J : It) (s : Src) (G : Hp → Prop) (Y : Nat → Hp → V → Hp → Prop) : Prop where
  walk : Walk J s.items.length G Y
  stay : ∀ ρ2 st2 H2, Post g ρ st H ρ2 st2 H2 → wOk st2 s.ws = true → G H2
  gives : ∀ i H2 x H3 ρ2 st2, Post g ρ st H ρ2 st2 H2 → wOk st2 s.ws = true → i < s.items.length → Y i H2 x H3 → ∃ d, s.items[i]? = some d ∧ Post g ρ2 st2 H2 ρ2 st2 H3 ∧ VR g.K ρ2 st2.length H3 d x
abbrev If := EEnv → Store → R Src
def tI (g : Gh) (f : If) : TI := fun σ H R => ∃ ρ st env s st', Rel g ρ st H ∧ EnvR g.K ρ st.length H env σ ∧ f env st = .ok s st' ∧ ∀ ρ' H' J G Y, Post g ρ st H ρ' st' H' → WalkD g ρ' st' H' J s G Y → R J H'
abbrev IV (g : Gh) (X : Cx) (tg e : Expr) (f : If) : Prop := PI X tg e (tI g f)
theorem pi_imp {X : Cx} {tg e : Expr} {t t' : TI} (h : PI X tg e t) (k : ∀ σ H R, t' σ H R → t σ H R) : PI X tg e t' := ⟨fun pins s σ H R I q => h.run pins s σ H R I (k σ H R q)⟩
theorem pi_both {X : Cx} {tg e : Expr} {t t' : TI} (h : PI X tg e t) (h' : PI X tg e t') : PI X tg e (fun σ H R => t σ H R ∨ t' σ H R) := ⟨fun pins s σ H R I q => q.elim (h.run pins s σ H R I) (h'.run pins s σ H R I)⟩

/-- a list (a tuple) at p that keeps these items -/
def StL (g : Gh) (ρ : Nat → Addr) (st : Store) (H : Hp) (p : Addr) (xs : List D) (ws : Wt) : Prop :=
  ∀ ρ2 st2 H2, Post g ρ st H ρ2 st2 H2 → wOk st2 ws = true → ∃ us, SqL g.K H2 p us ∧ VRs g.K ρ2 st2.length H2 xs us
def StT (g : Gh) (ρ : Nat → Addr) (st : Store) (H : Hp) (p : Addr) (xs : List D) : Prop :=
  ∃ us, ∀ ρ2 st2 H2, Post g ρ st H ρ2 st2 H2 → SqT g.K H2 p us ∧ VRs g.K ρ2 st2.length H2 xs us

section
variable {g : Gh} {X : Cx} {tg e a b : Expr} {pos : Pos} {f : Ef}
theorem StL.place {ρ : Nat → Addr} {st : Store} {H : Hp} {l : Nat} {xs : List D} (Rl : Rel g ρ st H) (hl : l < st.length)
    (h : st[l]? = some (.lst xs) ∨ ∃ ns, st[l]? = some (.ro ns) ∧ xs = ns.map .int) : StL g ρ st H (ρ l) xs [(l, xs)] := fun ρ2 st2 H2 P w => by
  rcases h with e | ⟨ns, e, rfl⟩
  · obtain ⟨o2, e2⟩ := get_of_lt (Nat.lt_of_lt_of_le hl P.len)
    simp only [wOk, e2, Bool.and_true] at w
    cases o2 with
    | lst zs =>
      simp only at w
      obtain rfl := D.eqbs_eq w
      obtain ⟨us, e3, rs3⟩ := P.rel.obj l _ e2
      rw [P.old l hl] at e3
      exact ⟨us, SqL.of e3, rs3⟩
    | ro ns => exact absurd (P.kind l _ _ e e2) (by simp [O.mut])
    | ins c fs => simp at w
    | dic kvs => simp at w
    | opq => simp at w
  · have ro := Rl.obj l _ e
    exact ⟨_, RoL.sq (RoL.of (fun b o eb m => P.keepN Rl eb m) ro), VRs.ints⟩
theorem StL.temp {ρ : Nat → Addr} {st : Store} {H : Hp} {p : Addr} {xs : List D} {ys : List V} (Rl : Rel g ρ st H) (hl : H p = some (.lst ys)) (hn : ∀ l, mutAt st l → ρ l ≠ p) (r : VRs g.K ρ st.length H xs ys) : StL g ρ st H p xs [] :=
  fun ρ2 st2 H2 P w => ⟨ys, SqL.of (P.keep p _ hl hn), P.vrs Rl r⟩
theorem StT.of {ρ : Nat → Addr} {st : Store} {H : Hp} {p : Addr} {xs : List D} {ys : List V} (Rl : Rel g ρ st H) (hq : SqT g.K H p ys) (r : VRs g.K ρ st.length H xs ys) : StT g ρ st H p xs :=
  ⟨ys, fun ρ2 st2 H2 P => ⟨P.tk Rl _ _ hq, P.vrs Rl r⟩⟩
theorem walkL {ρ : Nat → Addr} {st : Store} {H : Hp} {p : Addr} {xs : List D} {ws : Wt} (S : StL g ρ st H p xs ws) :
    WalkD g ρ st H (Itl g.K p) ⟨xs, ws⟩ (fun H => ∃ us, SqL g.K H p us ∧ us.length = xs.length) (fun i H x H' => H' = H ∧ ∀ us, SqL g.K H p us → us[i]? = some x) where
  walk := ⟨fun i H hi ⟨us, q, hl⟩ => by
      have hi' : i < us.length := by rw [hl]; exact hi
      exact ⟨us, us[i], q, List.getElem?_eq_getElem hi'⟩,
    fun H ⟨us, q, hl⟩ => ⟨us, q, Nat.le_of_eq hl⟩, fun i H x H' hi _ y => y⟩
  stay := fun ρ2 st2 H2 P w => by
    obtain ⟨us, q, r⟩ := S ρ2 st2 H2 P w
    exact ⟨us, q, r.length.symm⟩
  gives := fun i H2 x H3 ρ2 st2 P w hi ⟨eH, y⟩ => by
    subst eH
    obtain ⟨us, q, r⟩ := S ρ2 st2 H3 P w
    obtain ⟨d, e1, e2⟩ := r.getB (y us q)
    exact ⟨d, e1, Post.refl P.rel, e2⟩
theorem walkT {ρ : Nat → Addr} {st : Store} {H : Hp} {p : Addr} {xs : List D} {us : List V} (S : ∀ ρ2 st2 H2, Post g ρ st H ρ2 st2 H2 → SqT g.K H2 p us ∧ VRs g.K ρ2 st2.length H2 xs us) (hl : us.length = xs.length) :
    WalkD g ρ st H (Itt g.K p) ⟨xs, []⟩ (fun H => SqT g.K H p us) (YAt us) where
  walk := by
    have w := walk_tup (K := g.K) (a := p) (xs := us)
    rw [hl] at w
    exact w
  stay := fun ρ2 st2 H2 P w => (S ρ2 st2 H2 P).1
  gives := fun i H2 x H3 ρ2 st2 P w hi ⟨eH, y⟩ => by
    subst eH
    obtain ⟨q, r⟩ := S ρ2 st2 H3 P
    obtain ⟨d, e1, e2⟩ := r.getB y
    exact ⟨d, e1, Post.refl P.rel, e2⟩

/-- a walked value: a tuple, or a list with a place -/
def srcV (d : D) (s : Store) : R Src := match d with
  | .tup xs => .ok ⟨xs, []⟩ s
  | .loc l => match s[l]? with
    | some (.lst xs) => .ok ⟨xs, [(l, xs)]⟩ s
    | some (.ro ns) => .ok ⟨ns.map .int, [(l, ns.map .int)]⟩ s
    | _ => .bad
  | _ => .bad
def iVal (f : Ef) : If := fun env st => (f env st).bind srcV
theorem i_val (x : XG g X) (h : EV g X e f) : IV g X tg e (iVal f) := pi_imp (pi_both (pi_list h) (pi_tup h)) fun σ H Rw ⟨ρ, st, env, s, st', Rl, E, h, k⟩ => by
  obtain ⟨d, s1, e1, h⟩ := R.bind_eq h
  cases d with
  | tup xs =>
    cases h
    refine .inr ⟨ρ, st, env, _, _, Rl, E, e1, fun ρ1 H1 v P1 r1 => ?_⟩
    unfold VR at r1
    obtain ⟨p, ys, rfl, q, r⟩ := r1
    obtain ⟨us, S⟩ := StT.of P1.rel q r
    rw [x.K]
    refine ⟨p, rfl, ⟨ys, q⟩, k ρ1 H1 _ _ _ P1 (walkT S ?_)⟩
    exact ((S _ _ _ (Post.refl P1.rel)).2.length).symm
  | loc l =>
    refine .inl ⟨ρ, st, env, _, _, Rl, E, e1, fun ρ1 H1 v P1 r1 => ?_⟩
    unfold VR at r1
    obtain ⟨hl, rfl⟩ := r1
    simp only [srcV] at h
    rw [x.K]
    split at h
    · rename_i xs q
      cases h
      have S := StL.place P1.rel hl (.inl q)
      obtain ⟨us, q1, _⟩ := S _ _ _ (Post.refl P1.rel) (wOk_lst q rfl)
      exact ⟨ρ1 l, rfl, ⟨us, q1⟩, k ρ1 H1 _ _ _ P1 (walkL S)⟩
    · rename_i ns q
      cases h
      have S := StL.place P1.rel hl (.inr ⟨ns, q, rfl⟩)
      obtain ⟨us, q1, _⟩ := S _ _ _ (Post.refl P1.rel) (wOk_ro q rfl)
      exact ⟨ρ1 l, rfl, ⟨us, q1⟩, k ρ1 H1 _ _ _ P1 (walkL S)⟩
    · cases h
  | _ => cases h
def iNew (t : Af) : If := fun env st => (t env st).bind fun xs s => .ok ⟨xs, []⟩ s
theorem i_new {t : Af} (x : XG g X) (h : NV g X e t) : IV g X tg e (iNew t) := pi_imp (pi_list h) fun σ H Rw ⟨ρ, st, env, s, st', Rl, E, h, k⟩ => by
  obtain ⟨xs, s1, e1, h⟩ := R.bind_eq h
  cases h
  refine ⟨ρ, st, env, _, _, Rl, E, e1, fun ρ1 H1 p ys P1 hl hn hp r => ?_⟩
  rw [x.K]
  exact ⟨p, rfl, ⟨ys, SqL.of hl⟩, k ρ1 H1 _ _ _ P1 (walkL (StL.temp P1.rel hl hn r))⟩
def iM (f : Mf) : If := fun env st => (f env st).bind fun m s => match m with
  | .v d => srcV d s
  | .l xs => .ok ⟨xs, []⟩ s
theorem i_m {f : Mf} (x : XG g X) (h : MV g X e f) : IV g X tg e (iM f) := pi_imp (pi_both (pi_list h) (pi_tup h)) fun σ H Rw ⟨ρ, st, env, s, st', Rl, E, h, k⟩ => by
  obtain ⟨m, s1, e1, h⟩ := R.bind_eq h
  cases m with
  | l xs =>
    cases h
    refine .inl ⟨ρ, st, env, _, _, Rl, E, e1, fun ρ1 H1 v P1 r1 => ?_⟩
    obtain ⟨p, ys, rfl, hl, hn, hp, r⟩ := r1
    rw [x.K]
    exact ⟨p, rfl, ⟨ys, SqL.of hl⟩, k ρ1 H1 _ _ _ P1 (walkL (StL.temp P1.rel hl hn r))⟩
  | v d =>
    cases d with
    | tup xs =>
      cases h
      refine .inr ⟨ρ, st, env, _, _, Rl, E, e1, fun ρ1 H1 v P1 r1 => ?_⟩
      unfold MR VR at r1
      obtain ⟨p, ys, rfl, q, r⟩ := r1
      obtain ⟨us, S⟩ := StT.of P1.rel q r
      rw [x.K]
      refine ⟨p, rfl, ⟨ys, q⟩, k ρ1 H1 _ _ _ P1 (walkT S ?_)⟩
      exact ((S _ _ _ (Post.refl P1.rel)).2.length).symm
    | loc l =>
      refine .inl ⟨ρ, st, env, _, _, Rl, E, e1, fun ρ1 H1 v P1 r1 => ?_⟩
      unfold MR VR at r1
      obtain ⟨hl, rfl⟩ := r1
      simp only [srcV] at h
      rw [x.K]
      split at h
      · rename_i xs q
        cases h
        have S := StL.place P1.rel hl (.inl q)
        obtain ⟨us, q1, _⟩ := S _ _ _ (Post.refl P1.rel) (wOk_lst q rfl)
        exact ⟨ρ1 l, rfl, ⟨us, q1⟩, k ρ1 H1 _ _ _ P1 (walkL S)⟩
      · rename_i ns q
        cases h
        have S := StL.place P1.rel hl (.inr ⟨ns, q, rfl⟩)
        obtain ⟨us, q1, _⟩ := S _ _ _ (Post.refl P1.rel) (wOk_ro q rfl)
        exact ⟨ρ1 l, rfl, ⟨us, q1⟩, k ρ1 H1 _ _ _ P1 (walkL S)⟩
      · cases h
    | _ => cases h

/-! ### ranges -/
def intD (lo : Int) (n : Nat) : List D := (List.range n).map fun i => .int (lo + (i : Nat))
theorem intD_length (lo : Int) (n : Nat) : (intD lo n).length = n := by unfold intD; simp
theorem intD_get {lo : Int} {n i : Nat} (h : i < n) : (intD lo n)[i]? = some (.int (lo + (i : Nat))) := by
  unfold intD
  rw [List.getElem?_map, List.getElem?_range h]
  rfl
def rgOk (j : Int) : Bool := decide (-(2 ^ 62) ≤ j) && decide (j < 2 ^ 62)
theorem rgOk_eq {j : Int} (h : rgOk j = true) : -(2 ^ 62) ≤ j ∧ j < 2 ^ 62 := by
  unfold rgOk at h
  rw [Bool.and_eq_true, decide_eq_true_eq, decide_eq_true_eq] at h
  exact h
theorem walkR {ρ : Nat → Addr} {st : Store} {H : Hp} {lo : Int} {n : Nat} : WalkD g ρ st H (Itr lo n) ⟨intD lo n, []⟩ (fun _ => True) (YFn fun i => .int (lo + (i : Nat))) where
  walk := by
    show Walk _ (intD lo n).length _ _
    rw [intD_length]
    exact walk_range
  stay := fun _ _ _ _ _ => trivial
  gives := fun i H2 x H3 ρ2 st2 P w hi ⟨eH, ex⟩ => by
    subst eH
    subst ex
    have hi' : i < n := by
      have h : i < (intD lo n).length := hi
      rw [intD_length] at h
      exact h
    exact ⟨_, intD_get hi', Post.refl P.rel, by simp [VR]⟩
def iRange1 (f : Ef) : If := fun env st => (f env st).bind fun d s => match d with
  | .int j => if rgOk j = true then .ok ⟨intD 0 j.toNat, []⟩ s else .bad
  | _ => .bad
theorem i_range1 {p : Pos} (x : XG g X) (h : EV g X a f) (hg : Gl X "range" := by rfl) (hs : starEach [a] X.env = [(false, eval a X.env)] := by rfl) : IV g X tg (.Call (.Name "range" p) [a] [] pos) (iRange1 f) :=
  pi_imp (pi_range1 hg (x.mg "range") (pa_cons h pa_nil hs) hs) fun σ H Rw ⟨ρ, st, env, s, st', Rl, E, h, k⟩ => by
    obtain ⟨d, s1, e1, h⟩ := R.bind_eq h
    cases d with
    | int j =>
      simp only at h
      split at h
      · rename_i hz
        cases h
        refine ⟨ρ, st, env, _, _, Rl, E, e1, fun ρ1 H1 v P1 r1 => ?_⟩
        simp only [VR] at r1
        subst r1
        exact ⟨j, rfl, (rgOk_eq hz).1, (rgOk_eq hz).2, k ρ1 H1 _ _ _ P1 walkR⟩
      · cases h
    | _ => cases h
def iRange2 (f h : Ef) : If := fun env st => (f env st).bind fun d s => (h env s).bind fun d2 s2 => match d, d2 with
  | .int i, .int j => if rgOk i = true ∧ rgOk j = true then .ok ⟨intD i (j - i).toNat, []⟩ s2 else .bad
  | _, _ => .bad
theorem i_range2 {p : Pos} {f2 : Ef} (x : XG g X) (h : EV g X a f) (h2 : EV g X b f2) (hg : Gl X "range" := by rfl) (hs : starEach [a, b] X.env = [(false, eval a X.env), (false, eval b X.env)] := by rfl) (hs2 : starEach [b] X.env = [(false, eval b X.env)] := by rfl) :
    IV g X tg (.Call (.Name "range" p) [a, b] [] pos) (iRange2 f f2) :=
  pi_imp (pi_range2 hg (x.mg "range") (pa_cons h (pa_cons h2 pa_nil hs2) (by rw [hs, hs2])) hs hs2) fun σ H Rw ⟨ρ, st, env, s, st', Rl, E, h, k⟩ => by
    obtain ⟨d, s1, e1, h⟩ := R.bind_eq h
    obtain ⟨d2, s2, e2, h⟩ := R.bind_eq h
    cases d <;> cases d2 <;> simp only at h <;> (try exact (R.no h).elim)
    split at h
    · rename_i hz
      cases h
      refine ⟨ρ, st, env, _, _, Rl, E, e1, fun ρ1 H1 v P1 r1 => ?_⟩
      refine ⟨ρ1, s1, env, _, _, P1.rel, P1.envr Rl E, e2, fun ρ2 H2 v2 P2 r2 => ?_⟩
      simp only [VR] at r1 r2
      subst r1
      subst r2
      exact ⟨_, _, rfl, ⟨(rgOk_eq hz.1).1, (rgOk_eq hz.1).2, (rgOk_eq hz.2).1, (rgOk_eq hz.2).2⟩, k ρ2 H2 _ _ _ (P1.trans P2) walkR⟩
    · cases h

/-! ### enumerate, zip: pairs -/
def enumD (k : Nat) : List D → List D
  | [] => []
  | x :: xs => .tup [.int (k : Nat), x] :: enumD (k + 1) xs
theorem enumD_length : ∀ (k : Nat) (xs : List D), (enumD k xs).length = xs.length
  | _, [] => rfl
  | k, x :: xs => by simp [enumD, enumD_length (k + 1) xs]
theorem enumD_get : ∀ (k : Nat) (xs : List D) (i : Nat) (d : D), xs[i]? = some d → (enumD k xs)[i]? = some (.tup [.int ((k + i : Nat) : Int), d])
  | _, [], i, d, h => by simp at h
  | k, x :: xs, 0, d, h => by simp at h; subst h; simp [enumD]
  | k, x :: xs, i + 1, d, h => by
    have := enumD_get (k + 1) xs i d (by simpa using h)
    simp only [enumD, List.getElem?_cons_succ]
    rw [this]
    have e : k + 1 + i = k + (i + 1) := by omega
    rw [e]
def zipD : List D → List D → List D
  | x :: xs, y :: ys => .tup [x, y] :: zipD xs ys
  | _, _ => []
theorem zipD_length : ∀ (xs ys : List D), (zipD xs ys).length = min xs.length ys.length
  | [], _ => by simp [zipD]
  | x :: xs, [] => by simp [zipD]
  | x :: xs, y :: ys => by simp [zipD, zipD_length xs ys]
theorem zipD_get : ∀ (xs ys : List D) (i : Nat) (d e : D), xs[i]? = some d → ys[i]? = some e → (zipD xs ys)[i]? = some (.tup [d, e])
  | [], _, i, d, e, h, _ => by simp at h
  | x :: xs, [], i, d, e, _, h => by simp at h
  | x :: xs, y :: ys, 0, d, e, h, h' => by simp at h h'; subst h; subst h'; simp [zipD]
  | x :: xs, y :: ys, i + 1, d, e, h, h' => by
    simp only [zipD, List.getElem?_cons_succ]
    exact zipD_get xs ys i d e (by simpa using h) (by simpa using h')
/-- a new pair -/
theorem pair_new {ρ : Nat → Addr} {st : Store} {H : Hp} {T : Addr} {x y : V} {d e : D} (Rl : Rel g ρ st H) (hT : H T = none) (r1 : VR g.K ρ st.length H d x) (r2 : VR g.K ρ st.length H e y) :
    Post g ρ st H ρ st (upd H T (.tup [x, y])) ∧ VR g.K ρ st.length (upd H T (.tup [x, y])) (.tup [d, e]) (.ref T) := VR.tupMade Rl hT (.cons r1 (.cons r2 .nil))
theorem walkE {ρ : Nat → Addr} {st : Store} {H : Hp} {p : Addr} {xs : List D} {ws : Wt} (S : StL g ρ st H p xs ws) :
    WalkD g ρ st H (Ite g.K p) ⟨enumD 0 xs, ws⟩ (fun H => ∃ us, SqL g.K H p us ∧ us.length = xs.length)
      (fun i H v H' => ∃ T x, v = .ref T ∧ H T = none ∧ H' = upd H T (.tup [.int (i : Nat), x]) ∧ ∀ us, SqL g.K H p us → us[i]? = some x) where
  walk := ⟨fun i H hi ⟨us, q, hl⟩ => by
      have hi' : i < us.length := by
        rw [hl]
        have h : i < (enumD 0 xs).length := hi
        rw [enumD_length] at h
        exact h
      exact ⟨us, us[i], q, List.getElem?_eq_getElem hi'⟩,
    fun H ⟨us, q, hl⟩ => ⟨us, q, by show us.length ≤ (enumD 0 xs).length; rw [enumD_length, hl]; exact Nat.le_refl _⟩, fun i H x H' hi _ y => y⟩
  stay := fun ρ2 st2 H2 P w => by
    obtain ⟨us, q, r⟩ := S ρ2 st2 H2 P w
    exact ⟨us, q, r.length.symm⟩
  gives := fun i H2 v H3 ρ2 st2 P w hi ⟨T, x, ev, hT, eH, y⟩ => by
    subst ev
    subst eH
    obtain ⟨us, q, r⟩ := S ρ2 st2 H2 P w
    obtain ⟨d, e1, e2⟩ := r.getB (y us q)
    obtain ⟨Pn, rn⟩ := pair_new (d := .int (i : Nat)) (x := V.int (i : Nat)) P.rel hT (by simp [VR]) e2
    refine ⟨_, ?_, Pn, rn⟩
    have e3 := enumD_get 0 xs i d e1
    rw [Nat.zero_add] at e3
    exact e3
def srcEnum (s : Src) : Src := ⟨enumD 0 s.items, s.ws⟩
/-- a list that is walked as an argument: with a place, or just made -/
def tW (g : Gh) (f : If) : TE := fun σ H Q => ∃ ρ st env s st', Rel g ρ st H ∧ EnvR g.K ρ st.length H env σ ∧ f env st = .ok s st' ∧ ∀ ρ' H' p, Post g ρ st H ρ' st' H' → StL g ρ' st' H' p s.items s.ws → (∃ us, SqL g.K H' p us) → Q (.ref p) H'
abbrev WV (g : Gh) (X : Cx) (e : Expr) (f : If) : Prop := PE X e (tW g f)
def srcL (d : D) (s : Store) : R Src := match d with
  | .loc l => match s[l]? with
    | some (.lst xs) => .ok ⟨xs, [(l, xs)]⟩ s
    | some (.ro ns) => .ok ⟨ns.map .int, [(l, ns.map .int)]⟩ s
    | _ => .bad
  | _ => .bad
theorem srcL_ok {ρ : Nat → Addr} {s : Store} {H : Hp} {d : D} {x : V} {w : Src} {s' : Store} (Rl : Rel g ρ s H) (r : VR g.K ρ s.length H d x) (h : srcL d s = .ok w s') :
    s' = s ∧ ∃ p, x = .ref p ∧ StL g ρ s H p w.items w.ws ∧ ∃ us, SqL g.K H p us := by
  cases d with
  | loc l =>
    unfold VR at r
    obtain ⟨hl, rfl⟩ := r
    simp only [srcL] at h
    split at h
    · rename_i xs q
      cases h
      have S := StL.place Rl hl (.inl q)
      obtain ⟨us, q1, _⟩ := S _ _ _ (Post.refl Rl) (wOk_lst q rfl)
      exact ⟨rfl, ρ l, rfl, S, us, q1⟩
    · rename_i ns q
      cases h
      have S := StL.place Rl hl (.inr ⟨ns, q, rfl⟩)
      obtain ⟨us, q1, _⟩ := S _ _ _ (Post.refl Rl) (wOk_ro q rfl)
      exact ⟨rfl, ρ l, rfl, S, us, q1⟩
    · cases h
  | _ => cases h
def wVal (f : Ef) : If := fun env st => (f env st).bind srcL
theorem w_val (h : EV g X e f) : WV g X e (wVal f) := pe_imp h fun σ H Q ⟨ρ, st, env, s, st', Rl, E, h, k⟩ => by
  obtain ⟨d, s1, e1, h⟩ := R.bind_eq h
  refine ⟨ρ, st, env, d, s1, Rl, E, e1, fun ρ1 H1 x P1 r1 => ?_⟩
  obtain ⟨es, p, ex, S, us, q⟩ := srcL_ok P1.rel r1 h
  subst es
  subst ex
  exact k ρ1 H1 p P1 S ⟨us, q⟩
theorem w_new {t : Af} (h : NV g X e t) : WV g X e (iNew t) := pe_imp h fun σ H Q ⟨ρ, st, env, s, st', Rl, E, h, k⟩ => by
  obtain ⟨xs, s1, e1, h⟩ := R.bind_eq h
  cases h
  exact ⟨ρ, st, env, _, _, Rl, E, e1, fun ρ1 H1 p ys P1 hl hn hp r => k ρ1 H1 p P1 (StL.temp P1.rel hl hn r) ⟨ys, SqL.of hl⟩⟩
def wM (f : Mf) : If := fun env st => (f env st).bind fun m s => match m with
  | .v d => srcL d s
  | .l xs => .ok ⟨xs, []⟩ s
theorem w_m {f : Mf} (h : MV g X e f) : WV g X e (wM f) := pe_imp h fun σ H Q ⟨ρ, st, env, s, st', Rl, E, h, k⟩ => by
  obtain ⟨m, s1, e1, h⟩ := R.bind_eq h
  refine ⟨ρ, st, env, m, s1, Rl, E, e1, fun ρ1 H1 x P1 r1 => ?_⟩
  cases m with
  | v d =>
    obtain ⟨es, p, ex, S, us, q⟩ := srcL_ok P1.rel r1 h
    subst es
    subst ex
    exact k ρ1 H1 p P1 S ⟨us, q⟩
  | l xs =>
    cases h
    obtain ⟨p, ys, ex, hl, hn, hp, r2⟩ := r1
    subst ex
    exact k ρ1 H1 p P1 (StL.temp P1.rel hl hn r2) ⟨ys, SqL.of hl⟩
variable {elts : List Expr} {kk : Nat} {tpos p : Pos}
def iEnum (f : If) : If := fun env st => (f env st).bind fun s s1 => .ok (srcEnum s) s1
theorem i_enum {f : If} (x : XG g X) (h : WV g X a f) (hg : Gl X "enumerate" := by rfl) (hs : starEach [a] X.env = [(false, eval a X.env)] := by rfl) :
    IV g X (.Tuple elts kk tpos) (.Call (.Name "enumerate" p) [a] [] pos) (iEnum f) :=
  pi_imp (pi_enum hg (x.mg "enumerate") (pa_cons h pa_nil hs) hs) fun σ H Rw ⟨ρ, st, env, s, st', Rl, E, h, k⟩ => by
    obtain ⟨w, s1, e1, h⟩ := R.bind_eq h
    cases h
    refine ⟨ρ, st, env, w, _, Rl, E, e1, fun ρ1 H1 p P1 S ⟨us, q⟩ => ?_⟩
    rw [x.K]
    exact ⟨p, us, rfl, q, k ρ1 H1 _ _ _ P1 (walkE S)⟩
/-- a tuple that is walked as an argument -/
def tWT (g : Gh) (f : If) : TE := fun σ H Q => ∃ ρ st env s st', Rel g ρ st H ∧ EnvR g.K ρ st.length H env σ ∧ f env st = .ok s st' ∧ ∀ ρ' H' p, Post g ρ st H ρ' st' H' → StT g ρ' st' H' p s.items → Q (.ref p) H'
def srcT (d : D) (s : Store) : R Src := match d with
  | .tup xs => .ok ⟨xs, []⟩ s
  | _ => .bad
theorem srcT_ok {ρ : Nat → Addr} {s : Store} {H : Hp} {d : D} {x : V} {w : Src} {s' : Store} (Rl : Rel g ρ s H) (r : VR g.K ρ s.length H d x) (h : srcT d s = .ok w s') :
    s' = s ∧ w.ws = [] ∧ ∃ p, x = .ref p ∧ StT g ρ s H p w.items := by
  cases d with
  | tup xs =>
    unfold VR at r
    obtain ⟨p, ys, rfl, q, r⟩ := r
    cases h
    exact ⟨rfl, rfl, p, rfl, StT.of Rl q r⟩
  | _ => cases h
theorem StL.len {ρ : Nat → Addr} {st : Store} {H : Hp} {p : Addr} {xs : List D} {ws : Wt} (S : StL g ρ st H p xs ws) {ρ2 : Nat → Addr} {st2 : Store} {H2 : Hp} (P : Post g ρ st H ρ2 st2 H2) (w : wOk st2 ws = true) : ∃ us, SqL g.K H2 p us ∧ us.length = xs.length := by
  obtain ⟨us, q, r⟩ := S ρ2 st2 H2 P w
  exact ⟨us, q, r.length.symm⟩
theorem StL.later {ρ ρ1 : Nat → Addr} {st st1 : Store} {H H1 : Hp} {p : Addr} {xs : List D} {ws : Wt} (S : StL g ρ st H p xs ws) (P : Post g ρ st H ρ1 st1 H1) : StL g ρ1 st1 H1 p xs ws := fun ρ2 st2 H2 P2 w => S ρ2 st2 H2 (P.trans P2) w
theorem StT.later {ρ ρ1 : Nat → Addr} {st st1 : Store} {H H1 : Hp} {p : Addr} {xs : List D} (S : StT g ρ st H p xs) (P : Post g ρ st H ρ1 st1 H1) : StT g ρ1 st1 H1 p xs := let ⟨us, h⟩ := S; ⟨us, fun ρ2 st2 H2 P2 => h ρ2 st2 H2 (P.trans P2)⟩
theorem wOk_append {st : Store} : ∀ {a b : Wt}, wOk st (a ++ b) = true → wOk st a = true ∧ wOk st b = true
  | [], b, h => ⟨rfl, h⟩
  | (l, xs) :: a, b, h => by
    simp only [List.cons_append, wOk, Bool.and_eq_true] at h ⊢
    exact ⟨⟨h.1, (wOk_append h.2).1⟩, (wOk_append h.2).2⟩
def srcZip (s t : Src) : Src := ⟨zipD s.items t.items, s.ws ++ t.ws⟩
theorem walkZ {ρ : Nat → Addr} {st : Store} {H : Hp} {p q : Addr} {xs ys : List D} {ws vs : Wt} (S : StL g ρ st H p xs ws) (T : StL g ρ st H q ys vs) :
    WalkD g ρ st H (Itz g.K p q) ⟨zipD xs ys, ws ++ vs⟩ (fun H => (∃ us, SqL g.K H p us ∧ us.length = xs.length) ∧ ∃ us, SqL g.K H q us ∧ us.length = ys.length)
      (fun i H v H' => ∃ T x y, v = .ref T ∧ H T = none ∧ H' = upd H T (.tup [x, y]) ∧ (∀ us, SqL g.K H p us → us[i]? = some x) ∧ ∀ us, SqL g.K H q us → us[i]? = some y) where
  walk := ⟨fun i H hi ⟨⟨us, q1, l1⟩, vs, q2, l2⟩ => by
      have h : i < (zipD xs ys).length := hi
      rw [zipD_length] at h
      have h1 : i < us.length := by omega
      have h2 : i < vs.length := by omega
      exact ⟨us, vs, us[i], vs[i], q1, q2, List.getElem?_eq_getElem h1, List.getElem?_eq_getElem h2⟩,
    fun H ⟨⟨us, q1, l1⟩, vs, q2, l2⟩ => ⟨us, vs, q1, q2, by
      show us.length ≤ (zipD xs ys).length ∨ vs.length ≤ (zipD xs ys).length
      rw [zipD_length]
      omega⟩, fun i H x H' hi _ y => y⟩
  stay := fun ρ2 st2 H2 P w => ⟨S.len P (wOk_append w).1, T.len P (wOk_append w).2⟩
  gives := fun i H2 v H3 ρ2 st2 P w hi ⟨T', x, y, ev, hT, eH, y1, y2⟩ => by
    subst ev
    subst eH
    obtain ⟨us, q1, r1⟩ := S ρ2 st2 H2 P (wOk_append w).1
    obtain ⟨vs, q2, r2⟩ := T ρ2 st2 H2 P (wOk_append w).2
    obtain ⟨d, e1, e2⟩ := r1.getB (y1 us q1)
    obtain ⟨d', e1', e2'⟩ := r2.getB (y2 vs q2)
    obtain ⟨Pn, rn⟩ := pair_new P.rel hT e2 e2'
    exact ⟨_, zipD_get xs ys i d d' e1 e1', Pn, rn⟩
theorem walkZT {ρ : Nat → Addr} {st : Store} {H : Hp} {p q : Addr} {xs ys : List D} (S : StT g ρ st H p xs) (T : StT g ρ st H q ys) :
    WalkD g ρ st H (RZ.ItzT g.K p q) ⟨zipD xs ys, []⟩ (fun H => (∃ us, SqT g.K H p us ∧ us.length = xs.length) ∧ ∃ us, SqT g.K H q us ∧ us.length = ys.length)
      (fun i H v H' => ∃ T x y, v = .ref T ∧ H T = none ∧ H' = upd H T (.tup [x, y]) ∧ (∀ us, SqT g.K H p us → us[i]? = some x) ∧ ∀ us, SqT g.K H q us → us[i]? = some y) where
  walk := ⟨fun i H hi ⟨⟨us, q1, l1⟩, vs, q2, l2⟩ => by
      have h : i < (zipD xs ys).length := hi
      rw [zipD_length] at h
      have h1 : i < us.length := by omega
      have h2 : i < vs.length := by omega
      exact ⟨us, vs, us[i], vs[i], q1, q2, List.getElem?_eq_getElem h1, List.getElem?_eq_getElem h2⟩,
    fun H ⟨⟨us, q1, l1⟩, vs, q2, l2⟩ => ⟨us, vs, q1, q2, by
      show us.length ≤ (zipD xs ys).length ∨ vs.length ≤ (zipD xs ys).length
      rw [zipD_length]
      omega⟩, fun i H x H' hi _ y => y⟩
  stay := fun ρ2 st2 H2 P w => by
    obtain ⟨us, h⟩ := S
    obtain ⟨vs, h'⟩ := T
    obtain ⟨q1, r1⟩ := h ρ2 st2 H2 P
    obtain ⟨q2, r2⟩ := h' ρ2 st2 H2 P
    exact ⟨⟨us, q1, r1.length.symm⟩, vs, q2, r2.length.symm⟩
  gives := fun i H2 v H3 ρ2 st2 P w hi ⟨T', x, y, ev, hT, eH, y1, y2⟩ => by
    subst ev
    subst eH
    obtain ⟨us, h⟩ := S
    obtain ⟨vs, h'⟩ := T
    obtain ⟨q1, r1⟩ := h ρ2 st2 H2 P
    obtain ⟨q2, r2⟩ := h' ρ2 st2 H2 P
    obtain ⟨d, e1, e2⟩ := r1.getB (y1 us q1)
    obtain ⟨d', e1', e2'⟩ := r2.getB (y2 vs q2)
    obtain ⟨Pn, rn⟩ := pair_new P.rel hT e2 e2'
    exact ⟨_, zipD_get xs ys i d d' e1 e1', Pn, rn⟩
/-- a list or a tuple as an argument of zip -/
def tW2 (g : Gh) (f : If) : TE := fun σ H Q => ∃ ρ st env s st', Rel g ρ st H ∧ EnvR g.K ρ st.length H env σ ∧ f env st = .ok s st' ∧
  ∀ ρ' H' p, Post g ρ st H ρ' st' H' → (StL g ρ' st' H' p s.items s.ws ∧ (∃ us, SqL g.K H' p us)) ∨ (StT g ρ' st' H' p s.items ∧ s.ws = []) → Q (.ref p) H'
end
end Ev

/-! Ev5: fields, items, slices, built-ins, targets, statements. -/
namespace Ev
open PySem L2 PyProof.Rows

section
variable {g : Gh} {X : Cx} {e a b o : Expr} {pos : Pos} {f fa fb : Ef}
/-! ### fields -/
def fldF (i : Nat) (d : D) (s : Store) : R D := match d with
  | .loc l => match s[l]? with
    | some (.ins _ fs) => match fget fs i with
      | some v => .ok v s
      | none => .bad
    | _ => .bad
  | _ => .bad
def eFld (i : Nat) (f : Ef) : Ef := fun env st => (f env st).bind (fldF i)
theorem e_fld (x : XG g X) (i : Nat) {n : Str} (h : EV g X e f) (hn : g.fld i = n) (hi : i < g.nf) (hb : attributeBase e n X.env (eval e X.env) = eval e X.env := by rfl) : EV g X (.Attribute e n pos) (eFld i f) := by
  subst hn
  refine pe_imp (pe_fld h hb) fun σ H Q ⟨ρ, st, env, v, st', Rl, E, h, k⟩ => ?_
  obtain ⟨d, s1, e1, h⟩ := R.bind_eq h
  refine ⟨ρ, st, env, d, s1, Rl, E, e1, fun ρ1 H1 y P1 r1 => ?_⟩
  cases d with
  | loc l =>
    unfold VR at r1
    obtain ⟨hl, rfl⟩ := r1
    simp only [fldF] at h
    split at h
    · rename_i c fs q
      split at h
      · rename_i w q2
        cases h
        obtain ⟨hc, dx, gs, e2, r2⟩ := P1.rel.obj l _ q
        obtain ⟨u, e3, r3⟩ := r2.get x.inj hi q2
        rw [x.K]
        exact ⟨ρ1 l, _, dx, gs, u, rfl, e2, x.cls c hc, x.na c hc i hi, e3, k ρ1 H1 u P1 r3⟩
      · cases h
    · cases h
  | _ => cases h

/-! ### items -/
theorem atI_vrs {ρ : Nat → Addr} {n : Nat} {H : Hp} {ds : List D} {vs : List V} {i : Int} {d : D} (r : VRs g.K ρ n H ds vs) (h : atI ds i = some d) : ∃ v, atI vs i = some v ∧ VR g.K ρ n H d v := by
  unfold atI at h ⊢
  rw [← r.length]
  rw [Option.bind_eq_some_iff] at h
  obtain ⟨j, e1, e2⟩ := h
  obtain ⟨v, e3, e4⟩ := r.get e2
  exact ⟨v, by rw [e1]; exact e3, e4⟩
def okO (r : Option D) (s : Store) : R D := match r with | some d => .ok d s | none => .bad
def ixF : F2 := fun x y st => match x, y with
  | .tup xs, .int i => okO (atI xs i) st
  | .loc l, .int i => match st[l]? with
    | some (.lst xs) => okO (atI xs i) st
    | some (.ro ns) => okO (atI (ns.map D.int) i) st
    | _ => .bad
  | .str z, .int i => if z.length ≤ sizeLine then okO ((atI z.cps.toList i).map fun c => .str ⟨#[c]⟩) st else .bad
  | _, _ => .bad
theorem okO_eq {r : Option D} {s s' : Store} {d : D} (h : okO r s = .ok d s') : r = some d ∧ s' = s := by
  cases r with
  | none => cases h
  | some e => cases h; exact ⟨rfl, rfl⟩
theorem o_ix (x : XG g X) : Op2 g (rIx X.K) ixF := fun ρ st H d1 d2 x1 y1 v st' Q Rl r1 r2 h k => by
  rw [x.K]
  cases d1 <;> cases d2 <;> simp only [ixF] at h <;> (try exact (R.no h).elim)
  · rename_i z i
    simp only [VR] at r1 r2
    subst r1; subst r2
    split at h
    · rename_i hz
      obtain ⟨e, rfl⟩ := okO_eq h
      rw [Option.map_eq_some_iff] at e
      obtain ⟨c, e, rfl⟩ := e
      exact .inr (.inr ⟨z, i, c, rfl, rfl, hz, e, k ρ H _ (Post.refl Rl) (by simp [VR])⟩)
    · cases h
  · unfold VR at r1 r2
    obtain ⟨p, ys, rfl, q, r⟩ := r1
    subst r2
    obtain ⟨e, rfl⟩ := okO_eq h
    obtain ⟨w, e1, e2⟩ := atI_vrs r e
    exact .inr (.inl ⟨p, ys, _, w, rfl, rfl, q, e1, k ρ H w (Post.refl Rl) e2⟩)
  · rename_i l i
    unfold VR at r1 r2
    obtain ⟨hl, rfl⟩ := r1
    subst r2
    split at h
    · rename_i xs q
      obtain ⟨ys, q1, r⟩ := Rl.obj l _ q
      obtain ⟨e, rfl⟩ := okO_eq h
      obtain ⟨w, e1, e2⟩ := atI_vrs r e
      exact .inl ⟨ρ l, ys, i, w, rfl, rfl, SqL.of q1, e1, k ρ H w (Post.refl Rl) e2⟩
    · rename_i ns q
      have ro := Rl.obj l _ q
      obtain ⟨e, rfl⟩ := okO_eq h
      obtain ⟨w, e1, e2⟩ := atI_vrs (VRs.ints (ns := ns)) e
      exact .inl ⟨ρ l, _, i, w, rfl, rfl, RoL.sq ro, e1, k ρ H w (Post.refl Rl) e2⟩
    · cases h
theorem e_ix (x : XG g X) (ha : EV g X a fa) (hb : EV g X b fb) (hs : PlainIx b := by exact fun _ _ => rfl) : EV g X (.Subscript a b pos) (eBin ixF fa fb) :=
  pe_imp (pe_ix ix_seq ha hb hs) (two_of (ta := tE g fa) (tb := tE g fb) (o_ix x))

/-! ### slices -/
abbrev Of := EEnv → Store → R (Option Int)
def tO (g : Gh) (f : Of) : TO := fun σ H Q => ∃ ρ st env v st', Rel g ρ st H ∧ EnvR g.K ρ st.length H env σ ∧ f env st = .ok v st' ∧ ∀ ρ' H', Post g ρ st H ρ' st' H' → Q v H'
def oNo : Of := fun _ st => .ok none st
def oSo (f : Ef) : Of := fun env st => (f env st).bind fun d s => match d with | .int i => .ok (some i) s | _ => .bad
theorem po_imp {X : Cx} {e : Option Expr} {t t' : TO} (h : PO X e t) (k : ∀ σ H Q, t' σ H Q → t σ H Q) : PO X e t' := ⟨fun pins s σ H Q I q => h.run pins s σ H Q I (k σ H Q q)⟩
theorem o_no : PO X none (tO g oNo) := po_imp po_none fun σ H Q ⟨ρ, st, env, v, st', Rl, E, h, k⟩ => by
  cases h
  exact k ρ H (Post.refl Rl)
theorem o_so (h : EV g X e f) : PO X (some e) (tO g (oSo f)) := po_imp (po_some h) fun σ H Q ⟨ρ, st, env, v, st', Rl, E, h, k⟩ => by
  obtain ⟨d, s1, e1, h⟩ := R.bind_eq h
  refine ⟨ρ, st, env, d, s1, Rl, E, e1, fun ρ1 H1 y P1 r1 => ?_⟩
  cases d with
  | int i =>
    cases h
    simp only [VR] at r1
    exact ⟨i, r1, k ρ1 H1 P1⟩
  | _ => cases h
def cutD {A : Type} (xs : List A) (lo hi : Option Int) : List A := (xs.drop (HT.sIx xs.length 0 lo)).take (HT.sIx xs.length xs.length hi - HT.sIx xs.length 0 lo)
theorem cut_vrs {ρ : Nat → Addr} {n : Nat} {H : Hp} {ds : List D} {vs : List V} (r : VRs g.K ρ n H ds vs) (lo hi : Option Int) : VRs g.K ρ n H (cutD ds lo hi) (cutV vs lo hi) := by
  unfold cutD cutV
  rw [← r.length]
  exact (r.drop _).take _
def slF (d : D) (lo hi : Option Int) (st : Store) : R Mv := match d with
  | .tup xs => .ok (.v (.tup (cutD xs lo hi))) st
  | .loc l => match st[l]? with
    | some (.lst xs) => .ok (.l (cutD xs lo hi)) st
    | some (.ro ns) => .ok (.l (cutD (ns.map D.int) lo hi)) st
    | _ => .bad
  | .str z => if z.length ≤ sizeLine then .ok (.v (.str (cutS z lo hi))) st else .bad
  | _ => .bad
def mSl (f : Ef) (fl fh : Of) : Mf := fun env st => (f env st).bind fun d s1 => (fl env s1).bind fun lo s2 => (fh env s2).bind fun hi s3 => slF d lo hi s3
theorem cutV_whole {A : Type} (xs : List A) (lo hi : Option Int) (h : HT.sIx xs.length 0 lo = 0 ∧ HT.sIx xs.length xs.length hi = xs.length) : cutD xs lo hi = xs := by
  unfold cutD
  rw [h.1, h.2]
  simp
theorem m_slice (x : XG g X) {lo hi : Option Expr} {fl fh : Of} {p2 : Pos} (he : EV g X e f) (hl : PO X lo (tO g fl)) (hu : PO X hi (tO g fh)) : MV g X (.Subscript e (.Slice lo hi none p2) pos) (mSl f fl fh) :=
  pe_imp (pe_slice (sl_list.or (sl_tupA.or sl_str)) he hl hu) fun σ H Q ⟨ρ, st, env, v, st', Rl, E, h, k⟩ => by
    obtain ⟨d, s1, e1, h⟩ := R.bind_eq h
    obtain ⟨lo, s2, e2, h⟩ := R.bind_eq h
    obtain ⟨hi, s3, e3, h⟩ := R.bind_eq h
    refine ⟨ρ, st, env, d, s1, Rl, E, e1, fun ρ1 H1 y P1 r1 => ?_⟩
    refine ⟨ρ1, s1, env, lo, s2, P1.rel, P1.envr Rl E, e2, fun ρ2 H2 P2 => ?_⟩
    refine ⟨ρ2, s2, env, hi, s3, P2.rel, (P1.trans P2).envr Rl E, e3, fun ρ3 H3 P3 => ?_⟩
    have P13 := (P1.trans P2).trans P3
    have r3 := P3.vr P2.rel (P2.vr P1.rel r1)
    rw [x.K]
    cases d with
    | tup xs =>
      cases h
      unfold VR at r3
      obtain ⟨p, ys, rfl, q, r⟩ := r3
      refine .inr (.inl ⟨p, ys, rfl, q, fun w => ?_, fun _ t ht => ?_⟩)
      · refine k ρ3 H3 _ P13 ?_
        unfold MR VR
        refine ⟨p, ys, rfl, q, ?_⟩
        rw [cutV_whole xs lo hi (by rw [r.length]; exact w)]
        exact r
      · obtain ⟨P, rn⟩ := VR.tupMade P3.rel ht (cut_vrs r lo hi)
        exact k ρ3 _ _ (P13.trans P) rn
    | loc l =>
      unfold VR at r3
      obtain ⟨hl, rfl⟩ := r3
      simp only [slF] at h
      split at h
      · rename_i xs q
        cases h
        obtain ⟨ys, q1, r⟩ := P3.rel.obj l _ q
        refine .inl ⟨ρ3 l, ys, rfl, SqL.of q1, fun t ht => ?_⟩
        obtain ⟨P, rn⟩ := MR.made P3.rel ht (cut_vrs r lo hi)
        exact k ρ3 _ _ (P13.trans P) (rn.back P13)
      · rename_i ns q
        cases h
        have ro := P3.rel.obj l _ q
        refine .inl ⟨ρ3 l, _, rfl, RoL.sq ro, fun t ht => ?_⟩
        obtain ⟨P, rn⟩ := MR.made P3.rel ht (cut_vrs (VRs.ints (ns := ns)) lo hi)
        exact k ρ3 _ _ (P13.trans P) (rn.back P13)
      · cases h
    | str z =>
      simp only [slF] at h
      split at h
      · rename_i hz
        cases h
        simp only [VR] at r3
        subst r3
        exact .inr (.inr ⟨z, rfl, hz, k ρ3 H3 _ P13 (by simp [MR, VR])⟩)
      · cases h
    | _ => cases h

/-! ### in, not in: flat things -/
def flatD : D → Bool
  | .non => true
  | .bl _ => true
  | .int _ => true
  | .str _ => true
  | _ => false
def eqD : D → D → Bool
  | .non, .non => true
  | .bl a, .bl b => a == b
  | .bl a, .int b => (if a then 1 else 0) == b
  | .int a, .bl b => a == (if b then 1 else 0)
  | .int a, .int b => a == b
  | .str a, .str b => a == b
  | _, _ => false
theorem flat_vr {ρ : Nat → Addr} {n : Nat} {H : Hp} {d : D} {v : V} (r : VR g.K ρ n H d v) (f : flatD d = true) : flatV v = true := by
  cases d <;> simp [flatD] at f <;> simp only [VR] at r <;> subst r <;> rfl
theorem eq_vr {ρ : Nat → Addr} {n : Nat} {H : Hp} {d e : D} {v w : V} (r : VR g.K ρ n H d v) (r' : VR g.K ρ n H e w) (f : flatD d = true) (f' : flatD e = true) : eqV v w = eqD d e := by
  cases d <;> simp [flatD] at f <;> cases e <;> simp [flatD] at f' <;> simp only [VR] at r r' <;> subst r <;> subst r' <;> rfl
theorem flats_vr {ρ : Nat → Addr} {n : Nat} {H : Hp} : ∀ {ds : List D} {vs : List V}, VRs g.K ρ n H ds vs → ds.all flatD = true → vs.all flatV = true
  | [], _, r, _ => by unfold VRs at r; subst r; rfl
  | d :: ds, _, r, f => by
    unfold VRs at r
    obtain ⟨v, vs, rfl, r1, rs⟩ := r
    rw [List.all_cons, Bool.and_eq_true] at f ⊢
    exact ⟨flat_vr r1 f.1, flats_vr rs f.2⟩
theorem in_vr {ρ : Nat → Addr} {n : Nat} {H : Hp} {x : D} {y : V} (r : VR g.K ρ n H x y) (fx : flatD x = true) : ∀ {ds : List D} {vs : List V}, VRs g.K ρ n H ds vs → ds.all flatD = true → inV y vs = ds.any fun d => eqD d x
  | [], _, r, _ => by unfold VRs at r; subst r; rfl
  | d :: ds, _, rr, f => by
    unfold VRs at rr
    obtain ⟨v, vs, rfl, r1, rs⟩ := rr
    rw [List.all_cons, Bool.and_eq_true] at f
    have ih := in_vr r fx rs f.2
    unfold inV at ih ⊢
    rw [List.any_cons, List.any_cons, ih, eq_vr r1 r f.1 fx]
def inQ (neg : Bool) (x : D) (xs : List D) (st : Store) : R D :=
  if flatD x = true ∧ xs.all flatD = true then .ok (.bl (if neg then !xs.any fun d => eqD d x else xs.any fun d => eqD d x)) st else .bad
def eIn (neg : Bool) (f : Ef) (t : Af) : Ef := fun env st => (f env st).bind fun x s1 => (t env s1).bind fun xs s2 => inQ neg x xs s2
theorem in_of {t : Af} {neg : Bool} (x : XG g X) : ∀ σ H Q, tE g (eIn neg f t) σ H Q → tOp (rIn X.K neg) (tE g f) (tQ g t) σ H Q := fun σ H Q ⟨ρ, st, env, v, st', Rl, E, h, k⟩ => by
  obtain ⟨d, s1, e1, h⟩ := R.bind_eq h
  obtain ⟨ds, s2, e2, h⟩ := R.bind_eq h
  unfold inQ at h
  split at h
  · rename_i hz
    cases h
    refine ⟨ρ, st, env, d, s1, Rl, E, e1, fun ρ1 H1 y P1 r1 => ?_⟩
    refine ⟨ρ1, s1, env, ds, _, P1.rel, P1.envr Rl E, e2, fun ρ2 H2 p ys P2 sq r2 => ?_⟩
    have r1' := P2.vr P1.rel r1
    rw [x.K]
    refine ⟨p, ys, rfl, sq, flat_vr r1' hz.1, flats_vr r2 hz.2, ?_⟩
    rw [in_vr r1' hz.1 r2 hz.2]
    exact k ρ2 H2 _ (P1.trans P2) (by simp [VR])
  · cases h
theorem e_in {t : Af} (x : XG g X) (ha : EV g X a f) (hb : QV g X b t) (hm : behindInMarks .In b = false := by rfl) : EV g X (.Compare a [.In] [b] pos) (eIn false f t) := pe_imp (pe_cmpR op_in_seq ha hb hm) (in_of (neg := false) x)
theorem e_notIn {t : Af} (x : XG g X) (ha : EV g X a f) (hb : QV g X b t) (hm : behindInMarks .NotIn b = false := by rfl) : EV g X (.Compare a [.NotIn] [b] pos) (eIn true f t) := pe_imp (pe_cmpR op_notIn_seq ha hb hm) (in_of (neg := true) x)
theorem tt_of {r : R2} {F : Ef} {ta tb : TE} (h : ∀ σ H Q, tE g F σ H Q → tOp r ta tb σ H Q) : ∀ σ H Q, tT g (tfB F) σ H Q → tTest (tOp r ta tb) σ H Q := fun σ H Q ⟨ρ, st, env, v, st', Rl, E, q, k⟩ => by
  refine h σ H _ ⟨ρ, st, env, .bl v, st', Rl, E, toB_eq q, fun ρ1 H1 y1 P1 r1 => ?_⟩
  simp only [VR] at r1
  exact ⟨v, r1, k ρ1 H1 P1⟩
theorem t_in {t : Af} (x : XG g X) (ha : EV g X a f) (hb : QV g X b t) (hm : behindInMarks .In b = false := by rfl) : TV g X (.Compare a [.In] [b] pos) (tfB (eIn false f t)) := pt_imp (pt_cmpR op_in_seq ha hb hm) (tt_of (in_of (neg := false) x))
theorem t_notIn {t : Af} (x : XG g X) (ha : EV g X a f) (hb : QV g X b t) (hm : behindInMarks .NotIn b = false := by rfl) : TV g X (.Compare a [.NotIn] [b] pos) (tfB (eIn true f t)) := pt_imp (pt_cmpR op_notIn_seq ha hb hm) (tt_of (in_of (neg := true) x))

/-! ### built-ins -/
variable {es : List Expr} {t : Af} {p : Pos}
def lenQ : FQ := fun xs st => .ok (.int xs.length) st
theorem o_lenQ (x : XG g X) : OpQ g (fun xs H Q => ∃ p ys, xs = [V.ref p] ∧ (SqL X.K H p ys ∨ SqT X.K H p ys) ∧ Q (.int ys.length) H) lenQ := fun ρ st H p ys xs v st' Q Rl sq r h k => by
  cases h
  rw [x.K]
  exact ⟨p, ys, rfl, sq, k ρ H _ (Post.refl Rl) (by simp [VR, r.length])⟩
theorem e_lenQ (x : XG g X) (h : QV g X e t) (hg : Gl X "len" := by rfl) (he : starEach [e] X.env = (false, eval e X.env) :: starEach [] X.env := by rfl) : EV g X (.Call (.Name "len" p) [e] [] pos) (eCall lenQ t) := e_callQ call_len_seq (o_lenQ x) (x.mg "len") h hg (by decide +kernel) (by decide) (by decide) he
def lenF : FA := fun ds st => match ds with
  | [.str z] => if z.length ≤ sizeLine then .ok (.int z.length) st else .bad
  | [d] => (toQ (.ok d st)).bind lenQ
  | _ => .bad
theorem o_len (x : XG g X) : OpA g (fun xs H Q => (∃ p ys, xs = [V.ref p] ∧ (SqL X.K H p ys ∨ SqT X.K H p ys) ∧ Q (.int ys.length) H) ∨ ∃ z, xs = [.str z] ∧ z.length ≤ sizeLine ∧ Q (.int z.length) H) lenF := fun ρ st H ds vs v st' Q Rl r h k => by
  have one : ∀ d, ds = [d] → ∃ y, vs = [y] ∧ VR g.K ρ st.length H d y := fun d e => by
    subst e
    unfold VRs at r
    obtain ⟨y, zs, rfl, r1, rs⟩ := r
    unfold VRs at rs
    subst rs
    exact ⟨y, rfl, r1⟩
  unfold lenF at h
  split at h
  · obtain ⟨y, rfl, r1⟩ := one _ rfl
    split at h
    · rename_i hz
      cases h
      simp only [VR] at r1
      subst r1
      exact .inr ⟨_, rfl, hz, k ρ H _ (Post.refl Rl) (by simp [VR])⟩
    · cases h
  · obtain ⟨y, rfl, r1⟩ := one _ rfl
    obtain ⟨xs, s1, e1, h2⟩ := R.bind_eq h
    obtain ⟨es, p, ys, rfl, sq, rs⟩ := seq_of Rl r1 e1
    subst es
    exact .inl (o_lenQ x ρ _ H p ys xs v st' Q Rl sq rs h2 k)
  · cases h
theorem e_len (x : XG g X) (h : EV g X e f) (hg : Gl X "len" := by rfl) (he : starEach [e] X.env = (false, eval e X.env) :: starEach [] X.env := by rfl) : EV g X (.Call (.Name "len" p) [e] [] pos) (eCall lenF (aCons f aNil)) :=
  e_callB (call_len_seq.or call_len_str) (o_len x) (x.mg "len") (a_cons h a_nil he) hg (by decide +kernel) (by decide) (by decide) he rfl
def tupQ : FQ := fun xs st => .ok (.tup xs) st
theorem o_tupQ (x : XG g X) : OpQ g (fun xs H Q => ∃ p ys, xs = [V.ref p] ∧ ((SqL X.K H p ys ∧ ∀ l, H l = none → Q (.ref l) (upd H l (.tup ys))) ∨ (SqT X.K H p ys ∧ Q (.ref p) H))) tupQ := fun ρ st H p ys xs v st' Q Rl sq r h k => by
  cases h
  rw [x.K]
  rcases sq with q | q
  · refine ⟨p, ys, rfl, .inl ⟨q, fun l hl => ?_⟩⟩
    obtain ⟨P, rn⟩ := VR.tupMade Rl hl r
    exact k ρ _ _ P rn
  · refine ⟨p, ys, rfl, .inr ⟨q, k ρ H _ (Post.refl Rl) ?_⟩⟩
    unfold VR
    exact ⟨p, ys, rfl, q, r⟩
theorem e_tuple (x : XG g X) (h : QV g X e t) (hg : Gl X "tuple" := by rfl) (he : starEach [e] X.env = (false, eval e X.env) :: starEach [] X.env := by rfl) : EV g X (.Call (.Name "tuple" p) [e] [] pos) (eCall tupQ t) := e_callTQ call_tuple_of (o_tupQ x) (x.mg "tuple") h hg (by decide +kernel) (by decide) (by decide) he
/-- list(..) of a sequence -/
theorem n_list (x : XG g X) (h : QV g X e t) (hg : Gl X "list" := by rfl) (he : starEach [e] X.env = (false, eval e X.env) :: starEach [] X.env := by rfl) : NV g X (.Call (.Name "list" p) [e] [] pos) t :=
  pe_imp (pe_callTy call_list_of hg (x.mg "list") (by decide +kernel) (pa_cons h pa_nil he) (by decide) (by decide) he rfl) fun σ H Q ⟨ρ, st, env, v, st', Rl, E, h, k⟩ => by
    refine ⟨ρ, st, env, v, st', Rl, E, h, fun ρ1 H1 p ys P1 sq r => ?_⟩
    rw [x.K]
    refine ⟨p, ys, rfl, sq, fun l hl => ?_⟩
    have P2 := P1.rel.tup (u := HO.lst ys) hl
    refine k ρ1 _ l ys (P1.trans P2) upd_same (fun j m q => ?_) (P1.freeB hl) (P2.vrs P1.rel r)
    obtain ⟨u, e2, _⟩ := P1.rel.mutSome m
    rw [q, hl] at e2
    cases e2
def rgF (lo hi : Int) (s : Store) : R (List D) := if rgOk lo = true ∧ rgOk hi = true ∧ (hi - lo).toNat ≤ 16777216 then .ok (intD lo (hi - lo).toNat) s else .bad
theorem rg_vrs {ρ : Nat → Addr} {n : Nat} {H : Hp} (lo hi : Int) : VRs g.K ρ n H (intD lo (hi - lo).toNat) (rgV lo hi) := by
  unfold intD rgV
  have go : ∀ l : List Nat, VRs g.K ρ n H (l.map fun i => D.int (lo + (i : Nat))) (l.map fun i => V.int (lo + (i : Nat))) := fun l => by
    induction l with
    | nil => exact .nil
    | cons a l ih => exact .cons (by simp [VR]) ih
  exact go _
def nRange1 (f : Ef) : Af := fun env st => (f env st).bind fun d s => match d with | .int j => rgF 0 j s | _ => .bad
theorem rgF_ok {lo hi : Int} {s s' : Store} {xs : List D} (h : rgF lo hi s = .ok xs s') : RgOk lo hi ∧ xs = intD lo (hi - lo).toNat ∧ s' = s := by
  unfold rgF at h
  split at h
  · rename_i hz
    cases h
    have h1 := rgOk_eq hz.1
    have h2 := rgOk_eq hz.2.1
    exact ⟨⟨h1.1, h1.2, h2.1, h2.2, by have := hz.2.2; omega⟩, rfl, rfl⟩
  · cases h
variable {p2 pos2 : Pos}
theorem n_listRange1 (x : XG g X) (h : EV g X a f) (hg : Gl X "list" := by rfl) (hg2 : Gl X "range" := by rfl) (na : starEach [a] X.env = (false, eval a X.env) :: starEach [] X.env := by rfl)
    (ne : starEach [Expr.Call (.Name "range" p2) [a] [] pos2] X.env = (false, eval (Expr.Call (.Name "range" p2) [a] [] pos2) X.env) :: starEach [] X.env := by rfl) :
    NV g X (.Call (.Name "list" p) [.Call (.Name "range" p2) [a] [] pos2] [] pos) (nRange1 f) :=
  pe_imp (pe_listRg x.calm hg (x.mg "list") (prg_1 hg2 (x.mg "range") h na) ne) fun σ H Q ⟨ρ, st, env, v, st', Rl, E, h, k⟩ => by
    obtain ⟨d, s1, e1, h⟩ := R.bind_eq h
    cases d with
    | int j =>
      obtain ⟨ok, rfl, rfl⟩ := rgF_ok h
      refine ⟨ρ, st, env, _, _, Rl, E, e1, fun ρ1 H1 y P1 r => ?_⟩
      simp only [VR] at r
      subst r
      refine ⟨j, rfl, ok, fun l hl => ?_⟩
      have P2 := P1.rel.tup (u := HO.lst (rgV 0 j)) hl
      refine k ρ1 _ l _ (P1.trans P2) upd_same (fun j m q => ?_) (P1.freeB hl) (rg_vrs 0 j)
      obtain ⟨u, e2, _⟩ := P1.rel.mutSome m
      rw [q, hl] at e2
      cases e2
    | _ => cases h
/-- ints, bools of a list -/
def intsD : List D → Option (List Int)
  | [] => some []
  | .int i :: xs => (intsD xs).map fun r => i :: r
  | _ => none
def blsD : List D → Option (List Bool)
  | [] => some []
  | .bl i :: xs => (blsD xs).map fun r => i :: r
  | _ => none
theorem intsD_vrs {ρ : Nat → Addr} {n : Nat} {H : Hp} : ∀ {ds : List D} {vs : List V} {ns : List Int}, VRs g.K ρ n H ds vs → intsD ds = some ns → vs = ns.map V.int
  | [], _, ns, r, h => by
    unfold VRs at r
    subst r
    simp only [intsD] at h
    cases h
    rfl
  | .int i :: xs, _, ns, r, h => by
    unfold VRs at r
    obtain ⟨v, vs, rfl, r1, rs⟩ := r
    simp only [intsD, Option.map_eq_some_iff] at h
    obtain ⟨ms, e, rfl⟩ := h
    simp only [VR] at r1
    subst r1
    rw [intsD_vrs rs e]
    rfl
  | .non :: xs, _, ns, r, h => by simp [intsD] at h
  | .bl _ :: xs, _, ns, r, h => by simp [intsD] at h
  | .str _ :: xs, _, ns, r, h => by simp [intsD] at h
  | .tup _ :: xs, _, ns, r, h => by simp [intsD] at h
  | .loc _ :: xs, _, ns, r, h => by simp [intsD] at h
theorem blsD_vrs {ρ : Nat → Addr} {n : Nat} {H : Hp} : ∀ {ds : List D} {vs : List V} {ns : List Bool}, VRs g.K ρ n H ds vs → blsD ds = some ns → vs = ns.map V.bl
  | [], _, ns, r, h => by
    unfold VRs at r
    subst r
    simp only [blsD] at h
    cases h
    rfl
  | .bl i :: xs, _, ns, r, h => by
    unfold VRs at r
    obtain ⟨v, vs, rfl, r1, rs⟩ := r
    simp only [blsD, Option.map_eq_some_iff] at h
    obtain ⟨ms, e, rfl⟩ := h
    simp only [VR] at r1
    subst r1
    rw [blsD_vrs rs e]
    rfl
  | .non :: xs, _, ns, r, h => by simp [blsD] at h
  | .int _ :: xs, _, ns, r, h => by simp [blsD] at h
  | .str _ :: xs, _, ns, r, h => by simp [blsD] at h
  | .tup _ :: xs, _, ns, r, h => by simp [blsD] at h
  | .loc _ :: xs, _, ns, r, h => by simp [blsD] at h
theorem intsD_map : ∀ ns : List Int, intsD (ns.map D.int) = some ns
  | [] => rfl
  | n :: ns => by simp [intsD, intsD_map ns]
theorem blsD_map : ∀ ns : List Bool, blsD (ns.map D.bl) = some ns
  | [] => rfl
  | n :: ns => by simp [blsD, blsD_map ns]
def sumQ : FQ := fun xs st => match intsD xs with | some ns => .ok (.int ns.sum) st | none => .bad
theorem o_sum (x : XG g X) : OpL g (rSum X.K) sumQ := fun ρ st H p ys xs v st' Q Rl sq r h k => by
  unfold sumQ at h
  split at h
  · rename_i ns e
    cases h
    obtain rfl := intsD_vrs r e
    rw [x.K]
    exact ⟨p, ns, rfl, sq, k ρ H _ (Post.refl Rl) (by simp [VR])⟩
  · cases h
theorem e_sum (x : XG g X) (h : LV g X e t) (hg : Gl X "sum" := by rfl) (he : starEach [e] X.env = (false, eval e X.env) :: starEach [] X.env := by rfl) : EV g X (.Call (.Name "sum" p) [e] [] pos) (eCall sumQ t) := e_callL (cr_sum x.calm) (o_sum x) (x.mg "sum") h hg (by decide +kernel) (by decide) (by decide) he
def allQ : FQ := fun xs st => match blsD xs with | some ns => .ok (.bl (ns.all id)) st | none => .bad
def anyQ : FQ := fun xs st => match blsD xs with | some ns => .ok (.bl (ns.any id)) st | none => .bad
theorem o_all (x : XG g X) : OpL g (rAll X.K) allQ := fun ρ st H p ys xs v st' Q Rl sq r h k => by
  unfold allQ at h
  split at h
  · rename_i ns e
    cases h
    obtain rfl := blsD_vrs r e
    rw [x.K]
    exact ⟨p, ns, rfl, sq, k ρ H _ (Post.refl Rl) (by simp [VR])⟩
  · cases h
theorem o_any (x : XG g X) : OpL g (rAny X.K) anyQ := fun ρ st H p ys xs v st' Q Rl sq r h k => by
  unfold anyQ at h
  split at h
  · rename_i ns e
    cases h
    obtain rfl := blsD_vrs r e
    rw [x.K]
    exact ⟨p, ns, rfl, sq, k ρ H _ (Post.refl Rl) (by simp [VR])⟩
  · cases h
theorem e_all (x : XG g X) (h : LV g X e t) (hg : Gl X "all" := by rfl) (he : starEach [e] X.env = (false, eval e X.env) :: starEach [] X.env := by rfl) : EV g X (.Call (.Name "all" p) [e] [] pos) (eCall allQ t) := e_callL (cr_all x.calm) (o_all x) (x.mg "all") h hg (by decide +kernel) (by decide) (by decide) he
theorem e_any (x : XG g X) (h : LV g X e t) (hg : Gl X "any" := by rfl) (he : starEach [e] X.env = (false, eval e X.env) :: starEach [] X.env := by rfl) : EV g X (.Call (.Name "any" p) [e] [] pos) (eCall anyQ t) := e_callL (cr_any x.calm) (o_any x) (x.mg "any") h hg (by decide +kernel) (by decide) (by decide) he
def maxI : Int → List Int → Int
  | m, [] => m
  | m, n :: ns => maxI (if n > m then n else m) ns
def minI : Int → List Int → Int
  | m, [] => m
  | m, n :: ns => minI (if n < m then n else m) ns
theorem minI_le : ∀ (ns : List Int) (m : Int), minI m ns ≤ m ∧ ∀ y ∈ ns, minI m ns ≤ y
  | [], m => ⟨Int.le_refl _, by simp⟩
  | n :: ns, m => by
    have ih := minI_le ns (if n < m then n else m)
    unfold minI
    refine ⟨?_, fun y hy => ?_⟩
    · have := ih.1; split at this <;> split <;> omega
    · rcases List.mem_cons.mp hy with rfl | hy
      · have := ih.1; split at this <;> split <;> omega
      · exact ih.2 y hy
theorem minI_mem : ∀ (ns : List Int) (m : Int), minI m ns = m ∨ minI m ns ∈ ns
  | [], m => .inl rfl
  | n :: ns, m => by
    unfold minI
    rcases minI_mem ns (if n < m then n else m) with h | h
    · rw [h]
      split
      · exact .inr List.mem_cons_self
      · exact .inl rfl
    · exact .inr (List.mem_cons_of_mem _ h)
def minQ : FQ := fun xs st => match intsD xs with | some (n :: ns) => .ok (.int (minI n ns)) st | _ => .bad
theorem o_min (x : XG g X) : OpL g (rMin X.K) minQ := fun ρ st H p ys xs v st' Q Rl sq r h k => by
  unfold minQ at h
  split at h
  · rename_i n ns e
    cases h
    obtain rfl := intsD_vrs r e
    rw [x.K]
    refine ⟨p, n :: ns, rfl, sq, by simp, fun m hm hle => ?_⟩
    have e2 : m = minI n ns := by
      have h1 := hle (minI n ns) (by rcases minI_mem ns n with h | h; rw [h]; exact List.mem_cons_self; exact List.mem_cons_of_mem _ h)
      have h2 : minI n ns ≤ m := by
        rcases List.mem_cons.mp hm with rfl | h
        · exact (minI_le ns m).1
        · exact (minI_le ns n).2 m h
      omega
    subst e2
    exact k ρ H _ (Post.refl Rl) (by simp [VR])
  · cases h
theorem e_minL (x : XG g X) (h : LV g X e t) (hg : Gl X "min" := by rfl) (he : starEach [e] X.env = (false, eval e X.env) :: starEach [] X.env := by rfl) : EV g X (.Call (.Name "min" p) [e] [] pos) (eCall minQ t) := e_callL (cr_min x.calm) (o_min x) (x.mg "min") h hg (by decide +kernel) (by decide) (by decide) he
/-- one flat argument, two -/
theorem vrs1 {ρ : Nat → Addr} {n : Nat} {H : Hp} {d : D} {vs : List V} (r : VRs g.K ρ n H [d] vs) : ∃ y, vs = [y] ∧ VR g.K ρ n H d y := by
  unfold VRs at r
  obtain ⟨y, zs, rfl, r1, rs⟩ := r
  unfold VRs at rs
  subst rs
  exact ⟨y, rfl, r1⟩
theorem vrs2 {ρ : Nat → Addr} {n : Nat} {H : Hp} {d e : D} {vs : List V} (r : VRs g.K ρ n H [d, e] vs) : ∃ y z, vs = [y, z] ∧ VR g.K ρ n H d y ∧ VR g.K ρ n H e z := by
  unfold VRs at r
  obtain ⟨y, zs, rfl, r1, rs⟩ := r
  obtain ⟨z, rfl, r2⟩ := vrs1 rs
  exact ⟨y, z, rfl, r1, r2⟩
def absF : FA := fun ds st => match ds with | [.int i] => .ok (.int (if i < 0 then -i else i)) st | _ => .bad
theorem o_abs : OpA g (fun xs H Q => ∃ i, xs = [.int i] ∧ Q (.int (if i < 0 then -i else i)) H) absF := fun ρ st H ds vs v st' Q Rl r h k => by
  unfold absF at h
  split at h
  · cases h
    obtain ⟨y, rfl, r1⟩ := vrs1 r
    simp only [VR] at r1
    subst r1
    exact ⟨_, rfl, k ρ H _ (Post.refl Rl) (by simp [VR])⟩
  · cases h
theorem e_abs (x : XG g X) (h : EV g X e f) (hg : Gl X "abs" := by rfl) (he : starEach [e] X.env = (false, eval e X.env) :: starEach [] X.env := by rfl) : EV g X (.Call (.Name "abs" p) [e] [] pos) (eCall absF (aCons f aNil)) :=
  e_callB call_abs o_abs (x.mg "abs") (a_cons h a_nil he) hg (by decide +kernel) (by decide) (by decide) he rfl
def intF : FA := fun ds st => match ds with | [.int i] => .ok (.int i) st | [.bl b] => .ok (.int (if b then 1 else 0)) st | _ => .bad
theorem o_int : OpA g (fun xs H Q => (∃ i, xs = [.int i] ∧ Q (.int i) H) ∨ ∃ k, xs = [.bl k] ∧ Q (.int (if k then 1 else 0)) H) intF := fun ρ st H ds vs v st' Q Rl r h k => by
  unfold intF at h
  split at h
  · cases h
    obtain ⟨y, rfl, r1⟩ := vrs1 r
    simp only [VR] at r1
    subst r1
    exact .inl ⟨_, rfl, k ρ H _ (Post.refl Rl) (by simp [VR])⟩
  · cases h
    obtain ⟨y, rfl, r1⟩ := vrs1 r
    simp only [VR] at r1
    subst r1
    exact .inr ⟨_, rfl, k ρ H _ (Post.refl Rl) (by simp [VR])⟩
  · cases h
theorem e_intC (x : XG g X) (h : EV g X e f) (hg : Gl X "int" := by rfl) (he : starEach [e] X.env = (false, eval e X.env) :: starEach [] X.env := by rfl) : EV g X (.Call (.Name "int" p) [e] [] pos) (eCall intF (aCons f aNil)) :=
  e_callT call_int1 o_int (x.mg "int") (a_cons h a_nil he) hg (by decide +kernel) (by decide) (by decide) he rfl
def max2F : FA := fun ds st => match ds with | [.int i, .int j] => .ok (.int (if j > i then j else i)) st | _ => .bad
def min2F : FA := fun ds st => match ds with | [.int i, .int j] => .ok (.int (if j < i then j else i)) st | _ => .bad
theorem o_max2 : OpA g (fun xs H Q => ∃ i j, xs = [.int i, .int j] ∧ Q (.int (if j > i then j else i)) H) max2F := fun ρ st H ds vs v st' Q Rl r h k => by
  unfold max2F at h
  split at h
  · cases h
    obtain ⟨y, z, rfl, r1, r2⟩ := vrs2 r
    simp only [VR] at r1 r2
    subst r1; subst r2
    exact ⟨_, _, rfl, k ρ H _ (Post.refl Rl) (by simp [VR])⟩
  · cases h
theorem o_min2 : OpA g (fun xs H Q => ∃ i j, xs = [.int i, .int j] ∧ Q (.int (if j < i then j else i)) H) min2F := fun ρ st H ds vs v st' Q Rl r h k => by
  unfold min2F at h
  split at h
  · cases h
    obtain ⟨y, z, rfl, r1, r2⟩ := vrs2 r
    simp only [VR] at r1 r2
    subst r1; subst r2
    exact ⟨_, _, rfl, k ρ H _ (Post.refl Rl) (by simp [VR])⟩
  · cases h
theorem e_max2 (x : XG g X) (ha : AV g X [a, b] t) (hg : Gl X "max" := by rfl) (he : starEach [a, b] X.env = (false, eval a X.env) :: starEach [b] X.env := by rfl) (hp : (backTo pos (starEach [b] X.env)).any (·.1) = false := by rfl) : EV g X (.Call (.Name "max" p) [a, b] [] pos) (eCall max2F t) :=
  e_callB (call_max2 x.calm) o_max2 (x.mg "max") ha hg (by decide +kernel) (by decide) (by decide) he hp
theorem e_min2 (x : XG g X) (ha : AV g X [a, b] t) (hg : Gl X "min" := by rfl) (he : starEach [a, b] X.env = (false, eval a X.env) :: starEach [b] X.env := by rfl) (hp : (backTo pos (starEach [b] X.env)).any (·.1) = false := by rfl) : EV g X (.Call (.Name "min" p) [a, b] [] pos) (eCall min2F t) :=
  e_callB (call_min2 x.calm) o_min2 (x.mg "min") ha hg (by decide +kernel) (by decide) (by decide) he hp
/-- repr of a value, of a list just made -/
def reprP (p : Option PyData) (st : Store) : R D := match p with
  | some d => if d.showable = true ∧ SeqAt.shaped d = true ∧ d.shown.length ≤ sizeLine then .ok (.str d.shown) st else .bad
  | none => .bad
def reprF : FA := fun ds st => match ds with | [d] => reprP (pd st d) st | _ => .bad
theorem o_repr (x : XG g X) : OpA g (rRepr X.K) reprF := fun ρ st H ds vs v st' Q Rl r h k => by
  unfold reprF at h
  split at h
  · rename_i d
    obtain ⟨y, rfl, r1⟩ := vrs1 r
    unfold reprP at h
    split at h
    · rename_i q e
      split at h
      · rename_i hz
        cases h
        rw [x.K]
        exact ⟨y, q, rfl, pd_dp Rl r1 e, hz.1, hz.2.1, hz.2.2, k ρ H _ (Post.refl Rl) (by simp [VR])⟩
      · cases h
    · cases h
  · cases h
theorem e_repr (x : XG g X) (h : EV g X e f) (hg : Gl X "repr" := by rfl) (he : starEach [e] X.env = (false, eval e X.env) :: starEach [] X.env := by rfl) : EV g X (.Call (.Name "repr" p) [e] [] pos) (eCall reprF (aCons f aNil)) :=
  e_callB (call_repr x) (o_repr x) (x.mg "repr") (a_cons h a_nil he) hg (by decide +kernel) (by decide) (by decide) he rfl
def reprQ : FQ := fun xs st => reprP ((pdWs (pdN st 3) xs).map .list) st
theorem o_reprQ (x : XG g X) : OpL g (rRepr X.K) reprQ := fun ρ st H p ys xs v st' Q Rl sq r h k => by
  unfold reprQ reprP at h
  split at h
  · rename_i q e
    rw [Option.map_eq_some_iff] at e
    obtain ⟨ds, e, rfl⟩ := e
    split at h
    · rename_i hz
      cases h
      rw [x.K]
      exact ⟨_, _, rfl, .lst sq (pdWs_dp (pdN_dp Rl 3) r e), hz.1, hz.2.1, hz.2.2, k ρ H _ (Post.refl Rl) (by simp [VR])⟩
    · cases h
  · cases h
theorem e_reprL (x : XG g X) (h : LV g X e t) (hg : Gl X "repr" := by rfl) (he : starEach [e] X.env = (false, eval e X.env) :: starEach [] X.env := by rfl) : EV g X (.Call (.Name "repr" p) [e] [] pos) (eCall reprQ t) := e_callL (call_repr x) (o_reprQ x) (x.mg "repr") h hg (by decide +kernel) (by decide) (by decide) he
/-- isinstance of a built-in class -/
def tyN (st : Store) : D → Option String
  | .non => some "NoneType"
  | .bl _ => some "bool"
  | .int _ => some "int"
  | .str _ => some "str"
  | .tup _ => some "tuple"
  | .loc l => match st[l]? with
    | some (.lst _) => some "list"
    | some (.ro _) => some "list"
    | some (.dic _) => some "dict"
    | _ => none
def isiF (T : String) (d : D) (st : Store) : R D := match (tyN st d).bind fun n => kitB n T with | some b => .ok (.bl b) st | none => .bad
theorem tyN_ok {ρ : Nat → Addr} {st : Store} {H : Hp} {d : D} {v : V} {n : String} (Rl : Rel g ρ st H) (r : VR g.K ρ st.length H d v) (h : tyN st d = some n) : TyX g.K H v (.type n) := by
  cases d with
  | non => simp only [VR] at r; subst r; cases h; exact .base .non
  | bl b => simp only [VR] at r; subst r; cases h; exact .base (.bl b)
  | int b => simp only [VR] at r; subst r; cases h; exact .base (.int b)
  | str b => simp only [VR] at r; subst r; cases h; exact .base (.str b)
  | tup xs =>
    unfold VR at r
    obtain ⟨p, ys, rfl, q, _⟩ := r
    cases h
    rcases q with (q | ⟨o, q⟩) | ⟨o, its, n, q, hc, _⟩
    · exact .base (.tup q)
    · exact .fTuple q
    · exact .kTuple q hc
  | loc l =>
    unfold VR at r
    obtain ⟨hl, rfl⟩ := r
    simp only [tyN] at h
    split at h
    · rename_i xs q
      cases h
      obtain ⟨ys, q1, _⟩ := Rl.obj l _ q
      exact .base (.lst q1)
    · rename_i ns q
      cases h
      rcases Rl.obj l _ q with ⟨o, q⟩ | ⟨o, its, n, q, hc, _⟩
      · exact .base (.frz q)
      · exact .kList q hc
    · rename_i kvs q
      cases h
      obtain ⟨ys, q1, _⟩ := Rl.obj l _ q
      exact .base (.dK q1)
    · cases h
def eIsi (T : String) (f : Ef) : Ef := fun env st => (f env st).bind (isiF T)
theorem e_isi (x : XG g X) (T : String) {n : Str} (h : EV g X e f) (hn : n ∈ blts := by decide) (hv : bootBuiltins n = some (.type T) := by decide +kernel) (hg : Gl X "isinstance" := by rfl) (hg2 : Gl X n := by rfl)
    (hs : starEach [e, .Name n p2] X.env = (false, eval e X.env) :: starEach [.Name n p2] X.env := by rfl) (hs2 : starEach [.Name n p2] X.env = (false, eval (.Name n p2) X.env) :: starEach [] X.env := by rfl) (hp : (backTo pos (starEach [.Name n p2] X.env)).any (·.1) = false := by rfl)
    (h1 : n ≠ "__name__" := by decide) (h2 : (n == ("__debug__" : Str)) = false := by decide) :
    EV g X (.Call (.Name "isinstance" p) [e, .Name n p2] [] pos) (eIsi T f) :=
  pe_imp (pe_callB call_isi hg (x.mg "isinstance") (by decide +kernel) (pa_cons h (pa_cons (pe_bltn (v := .ty T) hg2 (x.bl n hn) hv rfl h1 h2) pa_nil hs2) hs) (by decide) (by decide) hs hp) fun σ H Q ⟨ρ, st, env, v, st', Rl, E, h, k⟩ => by
    obtain ⟨d, s1, e1, h⟩ := R.bind_eq h
    unfold isiF at h
    split at h
    · rename_i b q
      cases h
      rw [Option.bind_eq_some_iff] at q
      obtain ⟨n, q1, q2⟩ := q
      refine ⟨ρ, st, env, d, _, Rl, E, e1, fun ρ1 H1 y P1 r1 => ?_⟩
      rw [x.K]
      exact ⟨y, .ty T, _, _, b, rfl, .ty T, tyN_ok P1.rel r1 q1, kit_ty q2, k ρ1 H1 _ P1 (by simp [VR])⟩
    · cases h
end
end Ev

/-! Ev6: targets, statements, loops, comprehensions. -/
namespace Ev
open PySem L2
open PyProof.Rows hiding St

/-! ### targets -/
def Off (ws : List Nat) (σ σ' : St) : Prop := σ'.length = σ.length ∧ ∀ j : Nat, j ∉ ws → σ'[j]? = σ[j]?
theorem Off.refl (σ : St) (ws : List Nat) : Off ws σ σ := ⟨rfl, fun _ _ => rfl⟩
theorem Off.set (σ : St) (i : Nat) (v : Option V) : Off [i] σ (σ.set i v) := ⟨by simp, fun j hj => by rw [List.getElem?_set_ne]; simp at hj; exact fun e => hj e.symm⟩
theorem Off.trans {ws vs : List Nat} {σ σ1 σ2 : St} (a : Off ws σ σ1) (b : Off vs σ1 σ2) : Off (ws ++ vs) σ σ2 := ⟨b.1.trans a.1, fun j hj => by
  rw [List.mem_append, not_or] at hj
  rw [b.2 j hj.2, a.2 j hj.1]⟩
theorem wipe_in {σ : St} {i : Nat} : ∀ {vs : List Nat}, i ∈ vs → (wipe σ vs)[i]? = if i < σ.length then some none else none
  | [], h => by simp at h
  | v :: vs, h => by
    unfold L2.wipe
    by_cases hi : v = i
    · subst hi
      rw [List.getElem?_set]
      simp [wipe_length]
    · rw [List.getElem?_set_ne hi]
      exact wipe_in (by rcases List.mem_cons.mp h with e | h; exact absurd e.symm hi; exact h)
theorem Off.wipe {ws vs : List Nat} {σ σ' : St} (h : Off ws σ σ') (hs : ∀ j ∈ ws, j ∈ vs) : wipe σ' vs = wipe σ vs := by
  refine List.ext_getElem? fun j => ?_
  by_cases hj : j ∈ vs
  · rw [wipe_in hj, wipe_in hj, h.1]
  · rw [wipe_out hj, wipe_out hj]
    exact h.2 j fun z => hj (hs j z)
abbrev Gf := D → EEnv → Store → R EEnv
abbrev Gfs := List D → EEnv → Store → R EEnv
def tG (g : Gh) (ws : List Nat) (f : Gf) : TG := fun v σ H Q => ∃ ρ st env d env' st', Rel g ρ st H ∧ EnvR g.K ρ st.length H env σ ∧ VR g.K ρ st.length H d v ∧ f d env st = .ok env' st' ∧
  ∀ ρ' H' σ', Post g ρ st H ρ' st' H' → EnvR g.K ρ' st'.length H' env' σ' → Off ws σ σ' → Q σ' H'
def tGs (g : Gh) (ws : List Nat) (f : Gfs) : TGs := fun vs σ H Q => ∃ ρ st env ds env' st', Rel g ρ st H ∧ EnvR g.K ρ st.length H env σ ∧ VRs g.K ρ st.length H ds vs ∧ f ds env st = .ok env' st' ∧
  ∀ ρ' H' σ', Post g ρ st H ρ' st' H' → EnvR g.K ρ' st'.length H' env' σ' → Off ws σ σ' → Q σ' H'
abbrev GV (g : Gh) (X : Cx) (e : Expr) (ws : List Nat) (f : Gf) : Prop := PG X e (tG g ws f)
abbrev GVs (g : Gh) (X : Cx) (e : List Expr) (ws : List Nat) (f : Gfs) : Prop := PGs X e (tGs g ws f)
theorem pg_imp {X : Cx} {e : Expr} {t t' : TG} (h : PG X e t) (k : ∀ v σ H Q, t' v σ H Q → t v σ H Q) : PG X e t' := ⟨fun pins s σ H v u Q I r q => h.run pins s σ H v u Q I r (k v σ H Q q)⟩
theorem pgs_imp {X : Cx} {e : List Expr} {t t' : TGs} (h : PGs X e t) (k : ∀ v σ H Q, t' v σ H Q → t v σ H Q) : PGs X e t' := ⟨fun pins s σ H v u Q I r q => h.run pins s σ H v u Q I r (k v σ H Q q)⟩
section
variable {g : Gh} {X : Cx} {e a b o : Expr} {es : List Expr} {pos : Pos} {f fa fb : Ef}
def gN (i : Nat) : Gf := fun d env st => .ok (env.set i (some d)) st
theorem g_name (x : XG g X) (i : Nat) {n : Str} (hi : X.N[i]? = some n := by rfl) (hx : Loc X.env.scope n := by first | exact Or.inl rfl | exact Or.inr rfl)
    (hf : X.fn n = true ∨ X.env.scope.names.lookup n = some .local := by first | exact .inl rfl | exact .inr rfl) : GV g X (.Name n pos) [i] (gN i) :=
  pg_imp (pg_name x.nd hi hx hf) fun v σ H Q ⟨ρ, st, env, d, env', st', Rl, E, r, h, k⟩ => by
    cases h
    exact k ρ H _ (Post.refl Rl) (E.set r i) (Off.set σ i _)
def gsNil : Gfs := fun ds env st => match ds with | [] => .ok env st | _ => .bad
def gsCons (f : Gf) (h : Gfs) : Gfs := fun ds env st => match ds with | d :: ds => (f d env st).bind fun e s => h ds e s | [] => .bad
theorem gs_nil : GVs g X [] [] gsNil := pgs_imp pgs_nil fun vs σ H Q ⟨ρ, st, env, ds, env', st', Rl, E, r, h, k⟩ => by
  cases ds with
  | nil =>
    cases h
    unfold VRs at r
    exact ⟨r, k ρ H σ (Post.refl Rl) E (Off.refl σ _)⟩
  | cons d ds => cases h
theorem gs_cons {ws vs : List Nat} {f : Gf} {h : Gfs} (h1 : GV g X e ws f) (h2 : GVs g X es vs h) (hs : (assignEach (e :: es) X.env).map (·.2) = assign e X.env :: (assignEach es X.env).map (·.2) := by rfl) : GVs g X (e :: es) (ws ++ vs) (gsCons f h) :=
  pgs_imp (pgs_cons h1 h2 hs) fun us σ H Q ⟨ρ, st, env, ds, env', st', Rl, E, r, h, k⟩ => by
    cases ds with
    | nil => cases h
    | cons d ds =>
      obtain ⟨e1, s1, h1, h⟩ := R.bind_eq h
      unfold VRs at r
      obtain ⟨y, zs, rfl, r1, rs⟩ := r
      refine ⟨y, zs, rfl, ρ, st, env, d, e1, s1, Rl, E, r1, h1, fun ρ1 H1 σ1 P1 E1 o1 => ?_⟩
      exact ⟨ρ1, s1, e1, ds, env', st', P1.rel, E1, P1.vrs Rl rs, h, fun ρ2 H2 σ2 P2 E2 o2 => k ρ2 H2 σ2 (P1.trans P2) E2 (o1.trans o2)⟩
def gT (n : Nat) (h : Gfs) : Gf := fun d env st => match d with | .tup ds => if ds.length = n then h ds env st else .bad | _ => .bad
theorem g_tup (x : XG g X) {k0 n : Nat} {ws : List Nat} {h : Gfs} (hh : GVs g X es ws h) (hn : (assignEach es X.env).length = n := by rfl) (hst : (assignEach es X.env).findIdx? (·.1) = none := by rfl) : GV g X (.Tuple es k0 pos) ws (gT n h) :=
  pg_imp (pg_tup x.calm hh hn hst) fun v σ H Q ⟨ρ, st, env, d, env', st', Rl, E, r, h, k⟩ => by
    cases d with
    | tup ds =>
      simp only [gT] at h
      split at h
      · rename_i hl
        unfold VR at r
        obtain ⟨p, ys, rfl, q, rs⟩ := r
        rw [x.K]
        exact ⟨p, ys, rfl, q, by rw [← rs.length]; exact hl, ρ, st, env, ds, env', st', Rl, E, rs, h, k⟩
      · cases h
    | _ => cases h
/-- o[i] = v on a list -/
def setL (o i v : D) (s : Store) : R Unit := match o, i with
  | .loc l, .int k => match s[l]? with
    | some (.lst xs) => match ixN xs.length k with
      | some j => .ok () (s.set l (.lst (xs.set j v)))
      | none => .bad
    | _ => .bad
  | _, _ => .bad
theorem setL_ok {ρ : Nat → Addr} {s s' : Store} {H : Hp} {o i v : D} {x y z : V} {Q : Hp → Prop} (Rl : Rel g ρ s H) (r1 : VR g.K ρ s.length H o x) (r2 : VR g.K ρ s.length H i y) (r3 : VR g.K ρ s.length H v z)
    (h : setL o i v s = .ok () s') (k : ∀ H', Post g ρ s H ρ s' H' → Q H') : rSetL x y z H Q := by
  cases o <;> cases i <;> simp only [setL] at h <;> (try exact (R.no h).elim)
  split at h
  · rename_i l kk _ xs q
    split at h
    · rename_i j hj
      cases h
      unfold VR at r1 r2
      obtain ⟨hl, rfl⟩ := r1
      subst r2
      obtain ⟨ys, q1, rs⟩ := Rl.obj l _ q
      refine ⟨ρ l, ys, kk, j, rfl, rfl, q1, by rw [← rs.length]; exact hj, k _ ?_⟩
      refine Rl.set q rfl rfl ⟨ys.set j z, upd_same, ?_⟩
      have t : TK g.K H (upd H (ρ l) (.lst (ys.set j z))) := TK.of fun b o e nm => by
        rw [upd_ne]
        · exact e
        · intro w
          subst w
          rw [q1] at e
          cases e
          exact nm trivial
      exact VRs.mono (fun _ _ => rfl) (Nat.le_refl _) t (rs.set r3 j)
    · cases h
  · cases h
def gS (fo fi : Ef) : Gf := fun d env st => (fo env st).bind fun o s1 => (fi env s1).bind fun i s2 => (setL o i d s2).bind fun _ s3 => .ok env s3
theorem g_sub (ho : EV g X o fa) (hi : EV g X a fb)
    (ha : ∀ v, assign (.Subscript o a pos) X.env v = (do
      let ov ← holding [v] (eval o X.env)
      let iv ← holding [v, ov] (eval a X.env)
      standAt pos
      holding [v, ov, iv] (setItem ov iv v)
      release [v, ov, iv] []) := by intro _; rfl) : GV g X (.Subscript o a pos) [] (gS fa fb) :=
  pg_imp (pg_sub ho hi set_list ha) fun v σ H Q ⟨ρ, st, env, d, env', st', Rl, E, r, h, k⟩ => by
    obtain ⟨d1, s1, e1, h⟩ := R.bind_eq h
    obtain ⟨d2, s2, e2, h⟩ := R.bind_eq h
    obtain ⟨_, s3, e3, h⟩ := R.bind_eq h
    cases h
    refine ⟨ρ, st, env, d1, s1, Rl, E, e1, fun ρ1 H1 y1 P1 r1 => ?_⟩
    refine ⟨ρ1, s1, env, d2, s2, P1.rel, P1.envr Rl E, e2, fun ρ2 H2 y2 P2 r2 => ?_⟩
    have P12 := P1.trans P2
    exact setL_ok P2.rel (P2.vr P1.rel r1) r2 (P12.vr Rl r) e3 fun H' P => k ρ2 H' σ (P12.trans P) ((P12.trans P).envr Rl E) (Off.refl σ _)

/-! ### statements -/
inductive RS where
  | nx (env : EEnv) (s : Store) | rt (d : D) (s : Store) | bk (env : EEnv) (s : Store) | ct (env : EEnv) (s : Store) | bad
abbrev Sf := EEnv → Store → RS
def SRes (g : Gh) (ρ : Nat → Addr) (st : Store) (H : Hp) (Dd : Ends) : RS → Prop
  | .nx env' st' => ∀ ρ' H' σ', Post g ρ st H ρ' st' H' → EnvR g.K ρ' st'.length H' env' σ' → Dd.nx σ' H'
  | .rt d st' => ∀ ρ' H' x, Post g ρ st H ρ' st' H' → VR g.K ρ' st'.length H' d x → Dd.rt x H'
  | .bk env' st' => ∀ ρ' H' σ', Post g ρ st H ρ' st' H' → EnvR g.K ρ' st'.length H' env' σ' → Dd.bk σ' H'
  | .ct env' st' => ∀ ρ' H' σ', Post g ρ st H ρ' st' H' → EnvR g.K ρ' st'.length H' env' σ' → Dd.ct σ' H'
  | .bad => False
theorem SRes.later {ρ ρ1 : Nat → Addr} {st st1 : Store} {H H1 : Hp} {Dd : Ends} {r : RS} (P : Post g ρ st H ρ1 st1 H1) (h : SRes g ρ st H Dd r) : SRes g ρ1 st1 H1 Dd r := by
  cases r with
  | nx env' st' => exact fun ρ' H' σ' P' E' => h ρ' H' σ' (P.trans P') E'
  | rt d st' => exact fun ρ' H' x P' r' => h ρ' H' x (P.trans P') r'
  | bk env' st' => exact fun ρ' H' σ' P' E' => h ρ' H' σ' (P.trans P') E'
  | ct env' st' => exact fun ρ' H' σ' P' E' => h ρ' H' σ' (P.trans P') E'
  | bad => exact h
def tS (g : Gh) (f : Sf) : TS := fun Dd σ H => ∃ ρ st env, Rel g ρ st H ∧ EnvR g.K ρ st.length H env σ ∧ SRes g ρ st H Dd (f env st)
abbrev SV (g : Gh) (X : Cx) (st : Stmt) (f : Sf) : Prop := PS X st (tS g f)
abbrev SVs (g : Gh) (X : Cx) (st : List Stmt) (f : Sf) : Prop := PSs X st (tS g f)
def sR {A : Type} (r : R A) (k : A → Store → RS) : RS := match r with | .ok a s => k a s | .bad => .bad
@[simp] theorem sR_ok {A : Type} (a : A) (s : Store) (k : A → Store → RS) : sR (.ok a s) k = k a s := rfl
@[simp] theorem sR_bad {A : Type} (k : A → Store → RS) : sR (.bad : R A) k = .bad := rfl
theorem sR_of {A : Type} {r : R A} {k : A → Store → RS} {ρ : Nat → Addr} {st : Store} {H : Hp} {Dd : Ends} (h : SRes g ρ st H Dd (sR r k)) : ∃ a s, r = .ok a s ∧ SRes g ρ st H Dd (k a s) := by
  cases r with
  | ok a s => exact ⟨a, s, rfl, h⟩
  | bad => exact h.elim
variable {st : Stmt} {rest : List Stmt} {sf sh : Sf}
def sNil : Sf := fun env st => .nx env st
def RS.then (r : RS) (h : Sf) : RS := match r with | .nx e s => h e s | r => r
def sSeq (f h : Sf) : Sf := fun env st => (f env st).then h
theorem ss_nil : SVs g X [] sNil := pss_imp pss_nil fun Dd σ H ⟨ρ, st, env, Rl, E, h⟩ => h ρ H σ (Post.refl Rl) E
theorem ss_cons (h1 : SV g X st sf) (h2 : SVs g X rest sh) : SVs g X (st :: rest) (sSeq sf sh) := pss_imp (pss_cons h1 h2) fun Dd σ H ⟨ρ, st, env, Rl, E, h⟩ => by
  refine ⟨ρ, st, env, Rl, E, ?_⟩
  unfold sSeq at h
  cases e : sf env st with
  | nx e1 s1 =>
    rw [e] at h
    exact fun ρ1 H1 σ1 P1 E1 => ⟨ρ1, s1, e1, P1.rel, E1, h.later P1⟩
  | rt d s1 => rw [e] at h; exact h
  | bk e1 s1 => rw [e] at h; exact h
  | ct e1 s1 => rw [e] at h; exact h
  | bad => rw [e] at h; exact h
theorem ss_one (h : SV g X st sf) : SVs g X [st] sf := pss_one h
def sPass : Sf := fun env st => .nx env st
def sBrk : Sf := fun env st => .bk env st
def sCt : Sf := fun env st => .ct env st
def sBad : Sf := fun _ _ => .bad
theorem s_pass : SV g X (.Pass pos) sPass := ps_imp ps_pass fun Dd σ H ⟨ρ, st, env, Rl, E, h⟩ => h ρ H σ (Post.refl Rl) E
theorem s_brk : SV g X (.Break pos) sBrk := ps_imp ps_break fun Dd σ H ⟨ρ, st, env, Rl, E, h⟩ => h ρ H σ (Post.refl Rl) E
theorem s_ct : SV g X (.Continue pos) sCt := ps_imp ps_continue fun Dd σ H ⟨ρ, st, env, Rl, E, h⟩ => h ρ H σ (Post.refl Rl) E
theorem s_never : SV g X st sBad := ps_imp ps_never fun Dd σ H ⟨ρ, st, env, Rl, E, h⟩ => h
theorem ss_never : SVs g X rest sBad := pss_imp pss_never fun Dd σ H ⟨ρ, st, env, Rl, E, h⟩ => h
def sExpr (f : Ef) : Sf := fun env st => sR (f env st) fun _ s => .nx env s
theorem s_expr (he : EV g X e f) (hs : swapsWith e none pos.line X.env = pure false := by rfl) : SV g X (.Expr e pos) (sExpr f) := ps_imp (ps_expr he hs) fun Dd σ H ⟨ρ, st, env, Rl, E, h⟩ => by
  obtain ⟨d, s1, e1, h⟩ := sR_of h
  exact ⟨ρ, st, env, d, s1, Rl, E, e1, fun ρ1 H1 x P1 r1 => h ρ1 H1 σ P1 (P1.envr Rl E)⟩
def sRet (f : Ef) : Sf := fun env st => sR (f env st) fun d s => .rt d s
theorem s_ret (he : EV g X e f) : SV g X (.Return (some e) pos) (sRet f) := ps_imp (ps_ret he) fun Dd σ H ⟨ρ, st, env, Rl, E, h⟩ => by
  obtain ⟨d, s1, e1, h⟩ := sR_of h
  exact ⟨ρ, st, env, d, s1, Rl, E, e1, fun ρ1 H1 x P1 r1 => h ρ1 H1 x P1 r1⟩
def sRetN : Sf := fun _ st => .rt .non st
theorem s_retN : SV g X (.Return none pos) sRetN := ps_imp ps_retN fun Dd σ H ⟨ρ, st, env, Rl, E, h⟩ => h ρ H .non (Post.refl Rl) (by simp [VR])
def sIf (p : Tf) (f h : Sf) : Sf := fun env st => sR (p env st) fun b s => if b = true then f env s else h env s
theorem s_if {c : Expr} {p : Tf} {sa sb : List Stmt} (hc : TV g X c p) (ha : SVs g X sa sf) (hb : SVs g X sb sh) : SV g X (.If c sa sb pos) (sIf p sf sh) := ps_imp (ps_if hc ha hb) fun Dd σ H ⟨ρ, st, env, Rl, E, h⟩ => by
  obtain ⟨b, s1, e1, h⟩ := sR_of h
  refine ⟨ρ, st, env, b, s1, Rl, E, e1, fun ρ1 H1 P1 => ?_⟩
  cases b with
  | true => exact iteT ⟨ρ1, s1, env, P1.rel, P1.envr Rl E, h.later P1⟩
  | false => exact iteF ⟨ρ1, s1, env, P1.rel, P1.envr Rl E, h.later P1⟩
def sSet (i : Nat) (f : Ef) : Sf := fun env st => sR (f env st) fun d s => .nx (env.set i (some d)) s
theorem s_set (x : XG g X) (i : Nat) {n : Str} {pos' : Pos} (he : EV g X e f) (hi : X.N[i]? = some n := by rfl) (hx : Loc X.env.scope n := by first | exact Or.inl rfl | exact Or.inr rfl) (hs : swapsWith e (some (.Name n pos')) pos.line X.env = pure false := by rfl)
    (hf : X.fn n = true ∨ X.env.scope.names.lookup n = some .local := by first | exact .inl rfl | exact .inr rfl) : SV g X (.Assign [.Name n pos'] e pos) (sSet i f) :=
  ps_imp (ps_set x.nd hi hx he hs hf) fun Dd σ H ⟨ρ, st, env, Rl, E, h⟩ => by
    obtain ⟨d, s1, e1, h⟩ := sR_of h
    exact ⟨ρ, st, env, d, s1, Rl, E, e1, fun ρ1 H1 y P1 r1 => h ρ1 H1 _ P1 ((P1.envr Rl E).set r1 i)⟩
def sAsg (f : Ef) (gf : Gf) : Sf := fun env st => sR (f env st) fun d s => sR (gf d env s) fun e s => .nx e s
theorem s_asg {tg : Expr} {ws : List Nat} {gf : Gf} (he : EV g X e f) (hg : GV g X tg ws gf) (hs : swapsWithSole [tg] e pos.line X.env = pure false := by rfl) (hw : swappedStores [tg] e X.env = pure none := by rfl)
    (h1 : (assignEach [tg] X.env).map (·.2) = [assign tg X.env] := by rfl) : SV g X (.Assign [tg] e pos) (sAsg f gf) :=
  ps_imp (ps_asg he hg hs hw h1) fun Dd σ H ⟨ρ, st, env, Rl, E, h⟩ => by
    obtain ⟨d, s1, e1, h⟩ := sR_of h
    obtain ⟨e2, s2, e3, h⟩ := sR_of h
    refine ⟨ρ, st, env, d, s1, Rl, E, e1, fun ρ1 H1 y P1 r1 => ?_⟩
    exact ⟨ρ1, s1, env, d, e2, s2, P1.rel, P1.envr Rl E, r1, e3, fun ρ2 H2 σ2 P2 E2 _ => h ρ2 H2 σ2 (P1.trans P2) E2⟩
/-- a, b = x, y of local names -/
def sPar (is : List Nat) (t : Af) : Sf := fun env st => sR (t env st) fun ds s => if ds.length = is.length then .nx ((is.zip ds).foldl (fun e p => e.set p.1 (some p.2)) env) s else .bad
theorem s_par2 (x : XG g X) (i j : Nat) {n m : Str} {px py pt : Pos} {kt k2 : Nat} {pt2 : Pos} {t : Af} (ha : AV g X [a, b] t) (hi : X.N[i]? = some n := by rfl) (hj : X.N[j]? = some m := by rfl) (hij : i ≠ j := by decide)
    (hx : X.env.scope.names.lookup n = some .local := by rfl) (hy : X.env.scope.names.lookup m = some .local := by rfl)
    (hw : swappedStores [.Tuple [.Name n px, .Name m py] kt pt] (.Tuple [a, b] k2 pt2) X.env = pure (some [n, m]) := by rfl)
    (hs : swapsWithSole [.Tuple [.Name n px, .Name m py] kt pt] (.Tuple [a, b] k2 pt2) pos.line X.env = pure false := by rfl) :
    SV g X (.Assign [.Tuple [.Name n px, .Name m py] kt pt] (.Tuple [a, b] k2 pt2) pos) (sPar [i, j] t) :=
  ps_imp (ps_par x.calm x.nd hi hj hij hx hy ha hw hs) fun Dd σ H ⟨ρ, st, env, Rl, E, h⟩ => by
    obtain ⟨ds, s1, e1, h⟩ := sR_of h
    refine ⟨ρ, st, env, ds, s1, Rl, E, e1, fun ρ1 H1 vs P1 r1 => ?_⟩
    split at h
    · rename_i hl
      match ds, hl with
      | [d1, d2], _ =>
        obtain ⟨y, z, rfl, r1, r2⟩ := vrs2 r1
        exact ⟨y, z, rfl, h ρ1 H1 _ P1 (((P1.envr Rl E).set r1 i).set r2 j)⟩
    · exact h.elim
theorem s_par3 (x : XG g X) (i j l : Nat) {c : Expr} {n m q : Str} {px py pz pt : Pos} {kt k2 : Nat} {pt2 : Pos} {t : Af} (ha : AV g X [a, b, c] t) (hi : X.N[i]? = some n := by rfl) (hj : X.N[j]? = some m := by rfl) (hl : X.N[l]? = some q := by rfl) (hij : i ≠ j := by decide) (hil : i ≠ l := by decide) (hjl : j ≠ l := by decide)
    (hx : X.env.scope.names.lookup n = some .local := by rfl) (hy : X.env.scope.names.lookup m = some .local := by rfl) (hz : X.env.scope.names.lookup q = some .local := by rfl)
    (hw : swappedStores [.Tuple [.Name n px, .Name m py, .Name q pz] kt pt] (.Tuple [a, b, c] k2 pt2) X.env = pure (some [n, m, q]) := by rfl)
    (hs : swapsWithSole [.Tuple [.Name n px, .Name m py, .Name q pz] kt pt] (.Tuple [a, b, c] k2 pt2) pos.line X.env = pure false := by rfl) :
    SV g X (.Assign [.Tuple [.Name n px, .Name m py, .Name q pz] kt pt] (.Tuple [a, b, c] k2 pt2) pos) (sPar [i, j, l] t) :=
  ps_imp (ps_par3 x.calm x.nd hi hj hl hij hil hjl hx hy hz ha hw hs) fun Dd σ H ⟨ρ, st, env, Rl, E, h⟩ => by
    obtain ⟨ds, s1, e1, h⟩ := sR_of h
    refine ⟨ρ, st, env, ds, s1, Rl, E, e1, fun ρ1 H1 vs P1 r1 => ?_⟩
    split at h
    · rename_i hl
      match ds, hl with
      | [d1, d2, d3], _ =>
        unfold VRs at r1
        obtain ⟨y, zs, rfl, r1, rs⟩ := r1
        obtain ⟨z, w, rfl, r2, r3⟩ := vrs2 rs
        exact ⟨y, z, w, rfl, h ρ1 H1 _ P1 ((((P1.envr Rl E).set r1 i).set r2 j).set r3 l)⟩
    · exact h.elim
/-- o.f = v -/
def putO (i : Nat) (o v : D) (s : Store) : R Unit := match o with
  | .loc l => match s[l]? with
    | some (.ins c fs) => if fs.length < 1000 then .ok () (s.set l (.ins c (fput i v fs))) else .bad
    | _ => .bad
  | _ => .bad
def sFldE (i : Nat) (fo fv : Ef) : Sf := fun env st => sR (fv env st) fun v s1 => sR (fo env s1) fun o s2 => sR (putO i o v s2) fun _ s3 => .nx env s3
theorem s_fld (x : XG g X) (i : Nat) {n : Str} {pos' : Pos} (ho : EV g X o fa) (hv : EV g X e f) (hn : g.fld i = n) (hi : i < g.nf) (hs : swapsWith e (some (.Attribute o n pos')) pos.line X.env = pure false := by rfl) :
    SV g X (.Assign [.Attribute o n pos'] e pos) (sFldE i fa f) := by
  subst hn
  refine ps_imp (ps_fld ho hv hs) fun Dd σ H ⟨ρ, st, env, Rl, E, h⟩ => ?_
  obtain ⟨v, s1, e1, h⟩ := sR_of h
  obtain ⟨d, s2, e2, h⟩ := sR_of h
  obtain ⟨_, s3, e3, h⟩ := sR_of h
  refine ⟨ρ, st, env, v, s1, Rl, E, e1, fun ρ1 H1 y P1 r1 => ?_⟩
  refine ⟨ρ1, s1, env, d, s2, P1.rel, P1.envr Rl E, e2, fun ρ2 H2 z P2 r2 => ?_⟩
  cases d with
  | loc l =>
    simp only [putO] at e3
    split at e3
    · rename_i c fs q
      split at e3
      · rename_i hz
        cases e3
        unfold VR at r2
        obtain ⟨hl, rfl⟩ := r2
        obtain ⟨hc, dx, gs, q1, rf⟩ := P2.rel.obj l _ q
        rw [x.K]
        refine ⟨ρ2 l, _, dx, gs, rfl, q1, x.cls c hc, x.na c hc i hi, by rw [rf.length]; exact hz, ?_⟩
        have P12 := P1.trans P2
        have r1' := P2.vr P1.rel r1
        have t : TK g.K H2 (upd H2 (ρ2 l) (.ins (g.cl c) dx (putF (g.fld i) y gs))) := TK.of fun b o e nm => by
          rw [upd_ne]
          · exact e
          · intro w
            subst w
            rw [q1] at e
            cases e
            exact nm trivial
        have P3 : Post g ρ2 s2 H2 ρ2 (s2.set l (.ins c (fput i v fs))) (upd H2 (ρ2 l) (.ins (g.cl c) dx (putF (g.fld i) y gs))) :=
          P2.rel.set q rfl rfl ⟨hc, dx, _, upd_same, FR.mono (fun _ _ => rfl) (Nat.le_refl _) t (rf.put x.inj hi r1')⟩
        exact h ρ2 _ σ (P12.trans P3) ((P12.trans P3).envr Rl E)
      · cases e3
    · cases e3
  | _ => cases e3

/-! ### loops -/
def RS.loop (r : RS) (k : Sf) : RS := match r with
  | .nx e s => k e s
  | .ct e s => k e s
  | .bk e s => .nx e s
  | .rt v s => .rt v s
  | .bad => .bad
def loopF (ws : Wt) (gf : Gf) (bf : Sf) : List D → Sf
  | [], env, st => if wOk st ws = true then .nx env st else .bad
  | d :: ds, env, st => if wOk st ws = true then sR (gf d env st) fun e s => (bf e s).loop (loopF ws gf bf ds) else .bad
theorem loop_res {ρ : Nat → Addr} {st : Store} {H : Hp} {Dd : Ends} {r : RS} {k : Sf} {N : St → Hp → Prop} (h : SRes g ρ st H Dd (r.loop k))
    (hN : ∀ e s ρ' H' σ', SRes g ρ st H Dd (k e s) → Post g ρ st H ρ' s H' → EnvR g.K ρ' s.length H' e σ' → N σ' H') : SRes g ρ st H { Dd with nx := N, ct := N, bk := Dd.nx } r := by
  cases r with
  | nx e s => exact fun ρ' H' σ' P E => hN e s ρ' H' σ' h P E
  | ct e s => exact fun ρ' H' σ' P E => hN e s ρ' H' σ' h P E
  | bk e s => exact h
  | rt v s => exact h
  | bad => exact h
def sFor (f : If) (gf : Gf) (bf : Sf) : Sf := fun env st => sR (f env st) fun s s1 => loopF s.ws gf bf s.items env s1
theorem s_for {tg iter : Expr} {body : List Stmt} {fi : If} {ws : List Nat} {gf : Gf} {bf : Sf} (x : XG g X) (hi : IV g X tg iter fi) (hg : GV g X tg ws gf) (hb : SVs g X body bf)
    (hp : PassesOwn (model X.prog X.w) X.A X.env X.xe := by exact PassesOwn.never) (hs : ∀ x, foldedSetIterable iter X.env x = pure x := by intro _; rfl) : SV g X (.For tg iter body [] pos) (sFor fi gf bf) :=
  ps_imp (ps_for hp x.calm hi hg hb hs) fun Dd σ H ⟨ρ, st, env, Rl, E, h⟩ => by
    obtain ⟨s, s1, e1, h⟩ := sR_of h
    refine ⟨ρ, st, env, s, s1, Rl, E, e1, fun ρ1 H1 J G Y P1 W => ?_⟩
    have h1 := h.later P1
    refine for_it W.walk (fun i σ' H' => ∃ ρ2 st2 env2, Post g ρ1 s1 H1 ρ2 st2 H' ∧ EnvR g.K ρ2 st2.length H' env2 σ' ∧ SRes g ρ2 st2 H' Dd (loopF s.ws gf bf (s.items.drop i) env2 st2))
      ⟨ρ1, s1, env, Post.refl P1.rel, P1.envr Rl E, by rw [List.drop_zero]; exact h1⟩ (fun i σ' H' hi ⟨ρ2, st2, env2, P2, E2, h2⟩ => ?_) (fun i v σ' H' H'' hi ⟨ρ2, st2, env2, P2, E2, h2⟩ y => ?_) (fun σ' H' ⟨ρ2, st2, env2, P2, E2, h2⟩ => ?_)
    · refine W.stay ρ2 st2 H' P2 ?_
      cases hd : s.items.drop i with
      | nil =>
        rw [hd] at h2
        unfold loopF at h2
        by_cases w : wOk st2 s.ws = true
        · exact w
        · rw [if_neg w] at h2; exact h2.elim
      | cons d ds =>
        rw [hd] at h2
        unfold loopF at h2
        by_cases w : wOk st2 s.ws = true
        · exact w
        · rw [if_neg w] at h2; exact h2.elim
    · have hdr : s.items.drop i = s.items[i] :: s.items.drop (i + 1) := List.drop_eq_getElem_cons hi
      rw [hdr] at h2
      unfold loopF at h2
      by_cases w : wOk st2 s.ws = true
      · rw [if_pos w] at h2
        obtain ⟨d, ed, P3, r3⟩ := W.gives i H' v H'' ρ2 st2 P2 w hi y
        rw [List.getElem?_eq_getElem hi] at ed
        cases ed
        obtain ⟨e4, s4, q4, h4⟩ := sR_of h2
        refine ⟨ρ2, st2, env2, _, e4, s4, P3.rel, P3.envr P2.rel E2, r3, q4, fun ρ5 H5 σ5 P5 E5 _ => ?_⟩
        have P35 := P3.trans P5
        refine ⟨ρ5, s4, e4, P5.rel, E5, loop_res (h4.later P35) fun e s ρ' H6 σ6 hk P6 E6 => ?_⟩
        exact ⟨ρ', s, e, (P2.trans P35).trans P6, E6, hk.later P6⟩
      · rw [if_neg w] at h2; exact h2.elim
    · rw [List.drop_of_length_le (Nat.le_refl _)] at h2
      unfold loopF at h2
      by_cases w : wOk st2 s.ws = true
      · rw [if_pos w] at h2
        exact h2 ρ2 H' σ' (Post.refl P2.rel) E2
      · rw [if_neg w] at h2; exact h2.elim
def whileF (p : Tf) (bf : Sf) : Nat → Sf
  | 0, _, _ => .bad
  | n + 1, env, st => sR (p env st) fun b s => if b = true then (bf env s).loop (whileF p bf n) else .nx env s
theorem s_while (n : Nat) {c : Expr} {body : List Stmt} {p : Tf} {bf : Sf} (hc : TV g X c p) (hb : SVs g X body bf) (hp : PassesOwn (model X.prog X.w) X.A X.env X.xe := by exact PassesOwn.never) : SV g X (.While c body [] pos) (whileF p bf n) :=
  ps_imp (ps_while hp hc hb) fun Dd σ H ⟨ρ, st, env, Rl, E, h⟩ => by
    refine ⟨fun m σ' H' => ∃ ρ2 st2 env2, Rel g ρ2 st2 H' ∧ EnvR g.K ρ2 st2.length H' env2 σ' ∧ SRes g ρ2 st2 H' Dd (whileF p bf m env2 st2), ⟨n, ρ, st, env, Rl, E, h⟩, fun m σ' H' ⟨ρ2, st2, env2, R2, E2, h2⟩ => ?_⟩
    cases m with
    | zero => exact h2.elim
    | succ m =>
      unfold whileF at h2
      obtain ⟨b, s1, e1, h2⟩ := sR_of h2
      refine ⟨ρ2, st2, env2, b, s1, R2, E2, e1, fun ρ3 H3 P3 => ?_⟩
      have h3 := h2.later P3
      have E3 := P3.envr R2 E2
      cases b with
      | true =>
        rw [if_pos rfl] at h3
        refine iteT ⟨fun σ' H' => ∃ ρ2 st2 env2, Rel g ρ2 st2 H' ∧ EnvR g.K ρ2 st2.length H' env2 σ' ∧ SRes g ρ2 st2 H' Dd (whileF p bf m env2 st2), fun σ4 H4 q => ⟨m, Nat.lt_succ_self m, q⟩, ?_⟩
        exact ⟨ρ3, s1, env2, P3.rel, E3, loop_res h3 fun e s ρ' H6 σ6 hk P6 E6 => ⟨ρ', s, e, P6.rel, E6, hk.later P6⟩⟩
      | false =>
        rw [if_neg Bool.false_ne_true] at h3
        exact iteF (h3 ρ3 H3 σ' (Post.refl P3.rel) E3)

/-! ### comprehensions -/
def compF (ws : Wt) (gf : Gf) (tf : Tf) (ef : Ef) (env : EEnv) : List D → Store → R (List D)
  | [], st => if wOk st ws = true then .ok [] st else .bad
  | d :: ds, st => if wOk st ws = true then (gf d env st).bind fun e s => (tf e s).bind fun b s2 => if b = true then (ef e s2).bind fun v s3 => (compF ws gf tf ef env ds s3).bind fun vs s4 => .ok (v :: vs) s4 else compF ws gf tf ef env ds s2 else .bad
def nComp (vs : List Nat) (f : If) (gf : Gf) (tf : Tf) (ef : Ef) : Af := fun env st => (f env st).bind fun s s1 => if s.items.length ≤ sizeLine then compF s.ws gf tf ef (wipeE env vs) s.items s1 else .bad
/-- a list without a place, changed -/
theorem Post.temp {ρ ρ' : Nat → Addr} {st st' : Store} {H H' : Hp} {p : Addr} {ys zs : List V} (P : Post g ρ st H ρ' st' H') (hp : H p = none) (hn : ∀ l, mutAt st' l → ρ' l ≠ p) (hl : H' p = some (.lst ys)) :
    Post g ρ st H ρ' st' (upd H' p (.lst zs)) ∧ TK g.K H' (upd H' p (.lst zs)) := by
  have kn : ∀ b o, H' b = some o → ¬ Mut (some o) → upd H' p (.lst zs) b = some o := fun b o e nm => by
    rw [upd_ne]
    · exact e
    · intro w
      subst w
      rw [hl] at e
      cases e
      exact nm trivial
  have t : TK g.K H' (upd H' p (.lst zs)) := TK.of kn
  refine ⟨⟨⟨fun l o e => ?_, P.rel.inj⟩, P.len, P.old, fun b o e h => ?_, P.fresh, P.kind⟩, t⟩
  · have q := P.rel.obj l o e
    have ne : o.mut = true → ρ' l ≠ p := fun m => hn l ⟨o, e, m⟩
    cases o with
    | ro ns => exact RoL.of kn q
    | lst xs => obtain ⟨us, e1, r⟩ := q; exact ⟨us, by rw [upd_ne (ne rfl)]; exact e1, r.mono (fun _ _ => rfl) (Nat.le_refl _) t⟩
    | ins c fs => obtain ⟨hc, dx, gs, e1, r⟩ := q; exact ⟨hc, dx, gs, by rw [upd_ne (ne rfl)]; exact e1, r.mono (fun _ _ => rfl) (Nat.le_refl _) t⟩
    | dic kvs => obtain ⟨gs, e1, r⟩ := q; exact ⟨gs, by rw [upd_ne (ne rfl)]; exact e1, r.mono (fun _ _ => rfl) (Nat.le_refl _) t⟩
    | opq => obtain ⟨φ, e1⟩ := q; exact ⟨φ, by rw [upd_ne (ne rfl)]; exact e1⟩
  · rw [upd_ne (ne_of_none e hp)]
    exact P.keep b o e h
theorem lc_of {fi : If} {ws : List Nat} {gf : Gf} {tf : Tf} {ef : Ef} {vs : List Nat} (hws : ∀ j ∈ ws, j ∈ vs) : ∀ σ H Q, tN g (nComp vs fi gf tf ef) σ H Q → tLc (tI g fi) (tG g ws gf) (tT g tf) (tE g ef) vs σ H Q :=
  fun σ H Q ⟨ρ, st, env, fin, stF, Rl, E, h, k⟩ => by
    obtain ⟨s, s1, e1, h⟩ := R.bind_eq h
    split at h
    · rename_i hz
      refine ⟨ρ, st, env, s, s1, Rl, E, e1, fun ρ1 H1 J G Y P1 W => fun Da hD => ?_⟩
      refine lc_it W.walk (fun i H' => ∃ ρ2 st2 acc ys, Post g ρ1 s1 H1 ρ2 st2 H' ∧ H' Da = some (.lst ys) ∧ (∀ l, mutAt st2 l → ρ2 l ≠ Da) ∧ VRs g.K ρ2 st2.length H' acc ys ∧ acc.length ≤ i ∧
          ∃ r, compF s.ws gf tf ef (wipeE env vs) (s.items.drop i) st2 = .ok r stF ∧ acc ++ r = fin)
        ⟨ρ1, s1, [], [], P1.rel.tup hD, upd_same, fun l m q => ?_, .nil, Nat.le_refl _, fin, by rw [List.drop_zero]; exact h, rfl⟩
        (fun i H' hi ⟨ρ2, st2, acc, ys, P2, hl, hn, ra, la, r, hc, er⟩ => ?_) (fun i v H' H'' hi ⟨ρ2, st2, acc, ys, P2, hl, hn, ra, la, r, hc, er⟩ y => ?_) (fun H' ⟨ρ2, st2, acc, ys, P2, hl, hn, ra, la, r, hc, er⟩ => ?_)
      · obtain ⟨u, e2, _⟩ := P1.rel.mutSome m
        rw [q, hD] at e2
        cases e2
      · refine W.stay ρ2 st2 H' P2 ?_
        cases hd : s.items.drop i with
        | nil =>
          rw [hd] at hc
          unfold compF at hc
          by_cases w : wOk st2 s.ws = true
          · exact w
          · rw [if_neg w] at hc; cases hc
        | cons d ds =>
          rw [hd] at hc
          unfold compF at hc
          by_cases w : wOk st2 s.ws = true
          · exact w
          · rw [if_neg w] at hc; cases hc
      · have hdr : s.items.drop i = s.items[i] :: s.items.drop (i + 1) := List.drop_eq_getElem_cons hi
        rw [hdr] at hc
        unfold compF at hc
        by_cases w : wOk st2 s.ws = true
        · rw [if_pos w] at hc
          obtain ⟨d, ed, P3, r3⟩ := W.gives i H' v H'' ρ2 st2 P2 w hi y
          rw [List.getElem?_eq_getElem hi] at ed
          cases ed
          obtain ⟨e4, s4, q4, hc⟩ := R.bind_eq hc
          obtain ⟨b5, s5, q5, hc⟩ := R.bind_eq hc
          have E2 : EnvR g.K ρ2 st2.length H'' env σ := P3.envr P2.rel (P2.envr P1.rel (P1.envr Rl E))
          refine ⟨ρ2, st2, wipeE env vs, _, e4, s4, P3.rel, E2.wipe vs, r3, q4, fun ρ4 H4 σ4 P4 E4 o4 => ?_⟩
          have ew : wipe σ4 vs = wipe σ vs := by
            have q := o4.wipe hws
            rw [q]
            exact (Off.wipe (ws := vs) ⟨wipe_length σ vs, fun j hj => wipe_out hj⟩ (fun _ h => h))
          refine ⟨ew, ρ4, s4, e4, b5, s5, P4.rel, E4, q5, fun ρ5 H5 P5 => ?_⟩
          have P35 := (P3.trans P4).trans P5
          have P25 := P2.trans P35
          have nn : ∀ {ρ' : Nat → Addr} {st' : Store} {H' : Hp}, Post g ρ1 s1 H1 ρ' st' H' → Post g ρ2 st2 H'' ρ' st' H' → H'' Da = some (.lst ys) → ∀ l, mutAt st' l → ρ' l ≠ Da := fun {ρ' st' H'} Pa Pb hd l m q => by
            by_cases hl' : l < st2.length
            · rw [Pb.old l hl'] at q
              exact hn l (Pb.mutB m hl') q
            · have := Pb.fresh l (Nat.le_of_not_lt hl') (mutAt_lt m)
              rw [q, hd] at this
              cases this
          have d3 : H'' Da = some (.lst ys) := P3.keep Da _ hl hn
          have d5 : H5 Da = some (.lst ys) := P35.keep Da _ hl hn
          cases b5 with
          | true =>
            rw [if_pos rfl] at hc
            obtain ⟨v6, s6, q6, hc⟩ := R.bind_eq hc
            obtain ⟨vs7, s7, q7, hc⟩ := R.bind_eq hc
            cases hc
            refine iteT ⟨ρ5, s5, e4, v6, s6, P5.rel, P5.envr P4.rel E4, q6, fun ρ6 H6 y6 P6 r6 => ?_⟩
            have P36 := P35.trans P6
            have P26 := P2.trans P36
            have d6 : H6 Da = some (.lst ys) := P36.keep Da _ hl hn
            have n6 : ∀ l, mutAt s6 l → ρ6 l ≠ Da := nn P26 (((P4.trans P5).trans P6)) d3
            obtain ⟨P8, t8⟩ := P26.temp (zs := ys ++ [y6]) hD n6 d6
            have ra6 := P36.vrs P2.rel ra
            refine ⟨ys, d6, ?_, ρ6, s6, acc ++ [v6], ys ++ [y6], P8, upd_same, n6, ?_, ?_, vs7, q7, ?_⟩
            · rw [← ra.length]
              omega
            · exact (ra6.append (.cons r6 .nil)).mono (fun _ _ => rfl) (Nat.le_refl _) t8
            · rw [List.length_append, List.length_singleton]; omega
            · rw [← er, List.append_assoc]; rfl
          | false =>
            rw [if_neg Bool.false_ne_true] at hc
            refine iteF ⟨ρ5, s5, acc, ys, P25, d5, nn P25 (P4.trans P5) d3, P35.vrs P2.rel ra, Nat.le_succ_of_le la, r, hc, er⟩
        · rw [if_neg w] at hc; cases hc
      · rw [List.drop_of_length_le (Nat.le_refl _)] at hc
        unfold compF at hc
        by_cases w : wOk st2 s.ws = true
        · rw [if_pos w] at hc
          cases hc
          rw [List.append_nil] at er
          subst er
          exact k ρ2 H' Da ys (P1.trans P2) hl hn (P1.freeB hD) ra
        · rw [if_neg w] at hc; cases hc
    · cases h
abbrev Ptf (g : Gh) (X : Cx) (ifs : List Expr) (tf : Tf) : Prop := PTs X ifs (tT g tf)
def tfYes : Tf := fun _ st => .ok true st
theorem pts_imp {X : Cx} {ifs : List Expr} {t t' : TT} (h : PTs X ifs t) (k : ∀ σ H Q, t' σ H Q → t σ H Q) : PTs X ifs t' := ⟨fun pins s σ H Q I q => h.run pins s σ H Q I (k σ H Q q)⟩
theorem ts_nil : Ptf g X [] tfYes := pts_imp pts_nil fun σ H Q ⟨ρ, st, env, v, st', Rl, E, h, k⟩ => by
  cases h
  exact k ρ H (Post.refl Rl)
theorem ts_one {c : Expr} {p : Tf} (h : TV g X c p) : Ptf g X [c] p := pts_one h
variable {elt tg iter : Expr} {ifs : List Expr} {scope : Scope} {own : List (Str × Nat)} {fi : If} {ws : List Nat} {gf : Gf} {tf : Tf} {ef : Ef}
theorem n_comp (x : XG g X) (own : List (Str × Nat)) (hi : IV g X tg iter fi) (ok : BlkOk X.N X.env.scope scope own)
    (hg : ∀ (s : Shared) (H : Hp) (C : Addr) (cl : List (Str × Addr)) (fp : List Addr), GV g (X.blk s H scope (compEnvC scope cl C X.env) fp) tg ws gf) (ht : ∀ (s : Shared) (H : Hp) (C : Addr) (cl : List (Str × Addr)) (fp : List Addr), Ptf g (X.blk s H scope (compEnvC scope cl C X.env) fp) ifs tf)
    (he : ∀ (s : Shared) (H : Hp) (C : Addr) (cl : List (Str × Addr)) (fp : List Addr), EV g (X.blk s H scope (compEnvC scope cl C X.env) fp) elt ef) (hws : ∀ j ∈ ws, j ∈ own.map (·.2) := by decide) (hs : ∀ x, foldedSetIterable iter X.env x = pure x := by intro _; rfl) :
    NV g X (.ListComp elt [⟨tg, iter, ifs, 0⟩] scope pos) (nComp (own.map (·.2)) fi gf tf ef) := pe_imp (pe_lc x.calm x.nd hi ok hg ht he hs) (lc_of hws)
def sSetN (i : Nat) (t : Af) : Sf := sSet i (eNew t)
theorem s_comp (x : XG g X) (i : Nat) {y : Str} {py spos : Pos} (own : List (Str × Nat)) (hi : IV g X tg iter fi) (ok : BlkOk X.N X.env.scope scope own)
    (hg : ∀ (s : Shared) (H : Hp) (C : Addr) (cl : List (Str × Addr)) (fp : List Addr), GV g (X.blk s H scope (compEnvC scope cl C X.env) fp) tg ws gf) (ht : ∀ (s : Shared) (H : Hp) (C : Addr) (cl : List (Str × Addr)) (fp : List Addr), Ptf g (X.blk s H scope (compEnvC scope cl C X.env) fp) ifs tf)
    (he : ∀ (s : Shared) (H : Hp) (C : Addr) (cl : List (Str × Addr)) (fp : List Addr), EV g (X.blk s H scope (compEnvC scope cl C X.env) fp) elt ef) (hws : ∀ j ∈ ws, j ∈ own.map (·.2) := by decide)
    (hy : X.N[i]? = some y := by rfl) (hyl : X.env.scope.names.lookup y = some .local := by rfl) (hsw : swapsWith (.ListComp elt [⟨tg, iter, ifs, 0⟩] scope pos) (some (.Name y py)) spos.line X.env = pure true := by exact sw_true rfl rfl rfl (by decide +kernel)) (hs : ∀ x, foldedSetIterable iter X.env x = pure x := by intro _; rfl) :
    SV g X (.Assign [.Name y py] (.ListComp elt [⟨tg, iter, ifs, 0⟩] scope pos) spos) (sSetN i (nComp (own.map (·.2)) fi gf tf ef)) :=
  ps_imp (ps_setLc x.calm x.nd hy hyl hsw hi ok hg ht he hs) fun Dd σ H ⟨ρ, st, env, Rl, E, h⟩ => by
    obtain ⟨d, s1, e1, h⟩ := sR_of h
    obtain ⟨xs, s0, e0, e1⟩ := R.bind_eq e1
    cases e1
    refine lc_of hws σ H _ ⟨ρ, st, env, xs, s0, Rl, E, e0, fun ρ1 H1 p ys P1 hl hn hp r1 => ?_⟩
    have P2 := P1.named (o := .lst xs) hn hp ⟨ys, hl, r1⟩
    refine h _ H1 _ P2 ((P2.envr Rl E).set ?_ i)
    unfold VR
    exact ⟨by simp, by rw [nxt_same]⟩
end
end Ev

/-! Ev7: defs, calls, methods, properties, new instances, methods of lists, the law's entry. -/
namespace Ev
open PySem L2
open PyProof.Rows hiding St

/-! ### a def's promise -/
abbrev SemF := List D → Store → R D
def SpD (g : Gh) (sem : SemF) (vs : List V) (H : Hp) (Q : VK) : Prop := ∃ ρ st ds v st', Rel g ρ st H ∧ VRs g.K ρ st.length H ds vs ∧ sem ds st = .ok v st' ∧ ∀ ρ' H' x, Post g ρ st H ρ' st' H' → VR g.K ρ' st'.length H' v x → Q x H'
structure FnG (g : Gh) (P : Program) (w : World) (K : PySem.W.Frag) (mg : Str → Option Value) (base : Heap) (k : Nat) (f : Addr) (fd : FuncData) (ps : List Str) (sem : SemF) : Prop where
  len : ∀ ds st v st', sem ds st = .ok v st' → ds.length = ps.length
  run : ∀ (A : Around) (outer : List PySem.Env) (s : Shared) (H : Hp) (args : Args) (us : List Value) (vs : List V) (Q : VK), Room k A → A.guards = some [] → Env0 P w K mg base A outer s H → BindsTo s fd args (ps.zip us) → Vals vs us →
    SpD g sem vs H Q → codeAny (model P w) A (.call (.ref f) args) (CR CX0 outer P w H s Q E0) s
section
variable {g : Gh} {P : Program} {w : World} {K : PySem.W.Frag} {mg : Str → Option Value} {base : Heap} {k : Nat} {f : Addr} {fd : FuncData} {ps : List Str} {sem : SemF}
theorem FnG.lenV (F : FnG g P w K mg base k f fd ps sem) {vs : List V} {H : Hp} {Q : VK} (h : SpD g sem vs H Q) : vs.length = ps.length := by
  obtain ⟨ρ, st, ds, v, st', _, r, e, _⟩ := h
  rw [← r.length]
  exact F.len _ _ _ _ e
theorem FnG.mono {j : Nat} (F : FnG g P w K mg base j f fd ps sem) (h : j ≤ k) : FnG g P w K mg base k f fd ps sem := ⟨F.len, fun A outer s H args us vs Q hr => F.run A outer s H args us vs Q (hr.mono h)⟩
/-- another reckoning, where it is right -/
theorem FnG.imp {sem' : SemF} (F : FnG g P w K mg base k f fd ps sem) (h : ∀ vs H Q, SpD g sem' vs H Q → SpD g sem vs H Q) (hl : ∀ ds st v st', sem' ds st = .ok v st' → ds.length = ps.length) : FnG g P w K mg base k f fd ps sem' :=
  ⟨hl, fun A outer s H args us vs Q hr hg e0 hb r q => F.run A outer s H args us vs Q hr hg e0 hb r (h _ _ _ q)⟩
theorem FnG.eqOn {sem' : SemF} (F : FnG g P w K mg base k f fd ps sem) (h : ∀ ds st v st', sem' ds st = .ok v st' → sem ds st = .ok v st') : FnG g P w K mg base k f fd ps sem' :=
  F.imp (fun vs H Q ⟨ρ, st, ds, v, st', Rl, r, e, q⟩ => ⟨ρ, st, ds, v, st', Rl, r, h _ _ _ _ e, q⟩) fun ds st v st' e => F.len _ _ _ _ (h _ _ _ _ e)
end

/-! ### calls -/
section
variable {g : Gh} {X : Cx} {k : Nat} {f : Addr} {fd : FuncData} {ps : List Str} {sem : SemF} {pins : List (Addr × Obj)} {σ : St} {H : Hp} {s : Shared} {Q : VK} {us : List Value} {vs : List V}
theorem run_g (x : XG g X) (F : FnG g X.prog X.w X.K X.mg X.base k f fd ps sem) (hr : Room k X.A) (hb : Binds X.K fd ps []) (I : Inv X pins σ H s) (r : Vals vs us) (h : SpD g sem vs H Q) :
    wpAny (model X.prog X.w) X.A (call (.ref f) us) (EP X pins σ Q) X.xe s := by
  have hl : (us ++ []).length = ps.length := by rw [List.append_nil, ← r.length]; exact F.lenV h
  have hb' := hb s us I.kIn hl
  rw [List.append_nil] at hb'
  refine wpAny_call (codeAny_mono (F.run X.A X.stack s H ⟨us, []⟩ us vs Q hr x.hg I.env0 hb' r h) fun rr s' hq => ?_)
  match rr, hq with
  | .ok (.ret u), hq => exact I.after hq
  | .ok .next, hq => exact hq.elim
  | .ok .brk, hq => exact hq.elim
  | .ok .cont, hq => exact hq.elim
  | .error _, hq => exact hq.elim
/-- keywords: which of the values, in the parameters' order -/
def sel {A : Type} (pm : List Nat) (xs : List A) : List A := pm.filterMap fun i => xs[i]?
theorem sel_vals {pm : List Nat} {vs : List V} {us : List Value} (r : Vals vs us) : Vals (sel pm vs) (sel pm us) := by
  unfold sel
  induction pm with
  | nil => exact .nil
  | cons i pm ih =>
    rw [List.filterMap_cons, List.filterMap_cons]
    cases e : vs[i]? with
    | none =>
      rw [r.none_of e]
      exact ih
    | some v =>
      obtain ⟨u, e2, rv⟩ := r.get e
      rw [e2]
      exact .cons rv ih
theorem sel_vrs {K : PySem.W.Frag} {ρ : Nat → Addr} {n : Nat} {H : Hp} {pm : List Nat} {ds : List D} {vs : List V} (r : VRs K ρ n H ds vs) : VRs K ρ n H (sel pm ds) (sel pm vs) := by
  unfold sel
  induction pm with
  | nil => exact .nil
  | cons i pm ih =>
    rw [List.filterMap_cons, List.filterMap_cons]
    cases e : ds[i]? with
    | none =>
      have hl : vs[i]? = none := by
        rw [List.getElem?_eq_none_iff] at e ⊢
        rw [← r.length]
        exact e
      rw [hl]
      exact ih
    | some v =>
      obtain ⟨u, e2, rv⟩ := r.get e
      rw [e2]
      exact .cons rv ih
structure KBd (K : PySem.W.Frag) (fd : FuncData) (ps : List Str) (n : Nat) (ks : List Str) (pm : List Nat) : Prop where
  to : ∀ (s : Shared) (us ws : List Value), K.In s.heap → us.length = n → ws.length = ks.length → BindsTo s fd ⟨us, ks.zip ws⟩ (ps.zip (sel pm (us ++ ws)))
theorem run_gk {n : Nat} {ks : List Str} {pm : List Nat} {ws : List Value} {zs : List V} (x : XG g X) (F : FnG g X.prog X.w X.K X.mg X.base k f fd ps sem) (hr : Room k X.A) (hb : KBd X.K fd ps n ks pm) (I : Inv X pins σ H s) (r : Vals vs us) (rz : Vals zs ws)
    (l1 : vs.length = n) (l2 : zs.length = ks.length) (h : SpD g sem (sel pm (vs ++ zs)) H Q) : wpAny (model X.prog X.w) X.A (call (.ref f) us (ks.zip ws)) (EP X pins σ Q) X.xe s := by
  refine wpAny_call (codeAny_mono (F.run X.A X.stack s H ⟨us, ks.zip ws⟩ _ _ Q hr x.hg I.env0 (hb.to s us ws I.kIn (r.length.symm.trans l1) (rz.length.symm.trans l2)) (sel_vals (r.append rz)) h) fun rr s' hq => ?_)
  match rr, hq with
  | .ok (.ret u), hq => exact I.after hq
  | .ok .next, hq => exact hq.elim
  | .ok .brk, hq => exact hq.elim
  | .ok .cont, hq => exact hq.elim
  | .error _, hq => exact hq.elim
end
section
variable {g : Gh} {X : Cx} {k : Nat} {f : Addr} {fd : FuncData} {ps : List Str} {sem : SemF} {n m : Str} {p pos apos : Pos} {e o : Expr} {es : List Expr} {t : Af} {fo : Ef}
theorem e_call (x : XG g X) (F : FnG g X.prog X.w X.K X.mg X.base k f fd ps sem) (hr : Room k X.A) (hm : X.mg n = some (.ref f)) (hk : PySem.W.keepIn X.K (.ref f) = true) (hb : Binds X.K fd ps []) (ha : AV g X (e :: es) t) (hg : Gl X n := by rfl)
    (hdb : (n == ("__debug__" : Str)) = false := by decide) (he : starEach (e :: es) X.env = (false, eval e X.env) :: starEach es X.env := by rfl) (hpl : (backTo pos (starEach es X.env)).any (·.1) = false := by rfl) :
    EV g X (.Call (.Name n p) (e :: es) [] pos) (eCall sem t) := by
  refine ⟨fun pins s σ H Q I ⟨ρ, st, env, v, st', Rl, E, h, k⟩ => ?_⟩
  obtain ⟨ds, s1, e1, h⟩ := R.bind_eq h
  refine wpAny_Call_Name_kw (ld_glob I hg hm ?_ hdb)
  refine PySem.W.callWith_K (h₀ := X.base) I.ok.mod.kin hk (thn (ha.run pos pins s σ H (fun vs H1 => SpD g sem vs H1 Q) I ⟨ρ, st, env, ds, s1, Rl, E, e1, fun ρ1 H1 vs P1 r1 => ?_⟩) fun us s2 ⟨vs, H1, I1, r, q⟩ => ⟨I1.kIn, run_g x F hr hb I1 r q⟩) he hpl
  exact ⟨ρ1, s1, ds, v, st', P1.rel, r1, h, fun ρ' H' y P r => k ρ' H' y (P1.trans P) r⟩
theorem e_call0 (x : XG g X) (F : FnG g X.prog X.w X.K X.mg X.base k f fd ps sem) (hr : Room k X.A) (hm : X.mg n = some (.ref f)) (hk : PySem.W.keepIn X.K (.ref f) = true) (hb : Binds X.K fd ps []) (hg : Gl X n := by rfl)
    (hdb : (n == ("__debug__" : Str)) = false := by decide) : EV g X (.Call (.Name n p) [] [] pos) (eCall sem aNil) := by
  refine ⟨fun pins s σ H Q I ⟨ρ, st, env, v, st', Rl, E, h, k⟩ => ?_⟩
  refine wpAny_Call_Name_kw (ld_glob I hg hm ?_ hdb)
  exact PySem.W.callWith_K0 I.kIn hk (run_g (us := []) (vs := []) x F hr hb I .nil ⟨ρ, st, [], v, st', Rl, .nil, h, fun ρ' H' y P r => k ρ' H' y P r⟩)
/-- the keywords' values -/
def tKw (g : Gh) (f : Af) : TA := tA g f
abbrev KV (g : Gh) (X : Cx) (kws : List Keyword) (f : Af) : Prop := PK X kws (tA g f)
theorem pk_imp {X : Cx} {e : List Keyword} {t t' : TA} (h : PK X e t) (k : ∀ σ H Q, t' σ H Q → t σ H Q) : PK X e t' := ⟨fun pos pins s σ H Q I q => h.run pos pins s σ H Q I (k σ H Q q)⟩
theorem k_nil : KV g X [] aNil := pk_imp pk_nil fun σ H Q ⟨ρ, st, env, v, st', Rl, E, h, k⟩ => by
  cases h
  exact k ρ H [] (Post.refl Rl) .nil
theorem k_cons {nm : Option Str} {kp : Pos} {kws : List Keyword} {fe : Ef} (ha : EV g X e fe) (hr : KV g X kws t) : KV g X (⟨nm, e, kp⟩ :: kws) (aCons fe t) :=
  pk_imp (pk_cons ha hr) fun σ H Q ⟨ρ, st, env, v, st', Rl, E, h, k⟩ => by
    obtain ⟨x1, s1, e1, h⟩ := R.bind_eq h
    obtain ⟨x2, s2, e2, h⟩ := R.bind_eq h
    cases h
    refine ⟨ρ, st, env, x1, s1, Rl, E, e1, fun ρ1 H1 y1 P1 r1 => ?_⟩
    refine ⟨ρ1, s1, env, x2, _, P1.rel, P1.envr Rl E, e2, fun ρ2 H2 y2 P2 r2 => ?_⟩
    exact k ρ2 H2 _ (P1.trans P2) (.cons (P2.vr P1.rel r1) r2)
def aKw (n m : Nat) (pm : List Nat) (t u : Af) : Af := fun env st => (t env st).bind fun ds s1 => (u env s1).bind fun es s2 => if ds.length = n ∧ es.length = m then .ok (sel pm (ds ++ es)) s2 else .bad
variable {kws : List Keyword} {u : Af} {ks : List Str} {pm : List Nat} {a : Nat}
theorem e_callK (x : XG g X) (F : FnG g X.prog X.w X.K X.mg X.base k f fd ps sem) (hr : Room k X.A) (hm : X.mg n = some (.ref f)) (hk : PySem.W.keepIn X.K (.ref f) = true) (hb : KBd X.K fd ps a ks pm) (ha : AV g X (e :: es) t) (hkw : KV g X kws u) (hg : Gl X n := by rfl)
    (hall : (backToKw pos (keywordEach kws X.env)).all (·.1.isSome) = true := by rfl) (hks : (backToKw pos (keywordEach kws X.env)).filterMap (·.1) = ks := by rfl)
    (hdb : (n == ("__debug__" : Str)) = false := by decide) (he : starEach (e :: es) X.env = (false, eval e X.env) :: starEach es X.env := by rfl)
    (hpl : ((backTo pos (starEach (e :: es) X.env)).any (·.1) || (backToKw pos (keywordEach kws X.env)).any (·.1.isNone)) = false := by rfl) :
    EV g X (.Call (.Name n p) (e :: es) kws pos) (eCall sem (aKw a ks.length pm t u)) := by
  refine ⟨fun pins s σ H Q I ⟨ρ, st, env, v, st', Rl, E, h, k⟩ => ?_⟩
  obtain ⟨ds, s1, e1, h⟩ := R.bind_eq h
  obtain ⟨d1, s2, e2, e1⟩ := R.bind_eq e1
  obtain ⟨d2, s3, e3, e1⟩ := R.bind_eq e1
  split at e1
  · rename_i hl
    cases e1
    refine wpAny_Call_Name_kw (ld_glob I hg hm ?_ hdb)
    refine PySem.W.callWith_KW (h₀ := X.base) I.ok.mod.kin hk hall (thn (ha.run pos pins s σ H (fun vs H1 => vs.length = a ∧ tA g u σ H1 fun zs H2 => zs.length = ks.length ∧ SpD g sem (sel pm (vs ++ zs)) H2 Q) I
      ⟨ρ, st, env, d1, s2, Rl, E, e2, fun ρ1 H1 vs P1 r1 => ⟨by rw [← r1.length]; exact hl.1, ρ1, s2, env, d2, _, P1.rel, P1.envr Rl E, e3, fun ρ2 H2 zs P2 r2 => ⟨by rw [← r2.length]; exact hl.2, ?_⟩⟩⟩) fun us s4 ⟨vs, H1, I1, r, q1, q2⟩ => ?_) hpl he
    · exact ⟨ρ2, _, _, v, st', P2.rel, sel_vrs ((P2.vrs P1.rel r1).append r2), h, fun ρ' H' y P r => k ρ' H' y ((P1.trans P2).trans P) r⟩
    · refine thn (hkw.run pos pins s4 σ H1 _ I1 q2) fun ws s5 ⟨zs, H2, I2, rz, l2, q3⟩ => ⟨I2.kIn, ?_⟩
      rw [hks]
      exact run_gk x F hr hb I2 r rz q1 l2 q3
  · cases e1
theorem e_callK0 (x : XG g X) (F : FnG g X.prog X.w X.K X.mg X.base k f fd ps sem) (hr : Room k X.A) (hm : X.mg n = some (.ref f)) (hk : PySem.W.keepIn X.K (.ref f) = true) (hb : KBd X.K fd ps 0 ks pm) (hkw : KV g X kws u) (hg : Gl X n := by rfl)
    (hall : (backToKw pos (keywordEach kws X.env)).all (·.1.isSome) = true := by rfl) (hks : (backToKw pos (keywordEach kws X.env)).filterMap (·.1) = ks := by rfl)
    (hdb : (n == ("__debug__" : Str)) = false := by decide)
    (hpl : ((backTo pos (starEach [] X.env)).any (·.1) || (backToKw pos (keywordEach kws X.env)).any (·.1.isNone)) = false := by rfl) :
    EV g X (.Call (.Name n p) [] kws pos) (eCall sem (aKw 0 ks.length pm aNil u)) := by
  refine ⟨fun pins s σ H Q I ⟨ρ, st, env, v, st', Rl, E, h, k⟩ => ?_⟩
  obtain ⟨ds, s1, e1, h⟩ := R.bind_eq h
  obtain ⟨d1, s2, e2, e1⟩ := R.bind_eq e1
  cases e2
  obtain ⟨d2, s3, e3, e1⟩ := R.bind_eq e1
  split at e1
  · rename_i hl
    cases e1
    refine wpAny_Call_Name_kw (ld_glob I hg hm ?_ hdb)
    refine PySem.W.callWith_KW0 (h₀ := X.base) I.ok.mod.kin hk hall (thn (hkw.run pos pins s σ H (fun zs H2 => zs.length = ks.length ∧ SpD g sem (sel pm ([] ++ zs)) H2 Q) I
      ⟨ρ, _, env, d2, _, Rl, E, e3, fun ρ2 H2 zs P2 r2 => ⟨by rw [← r2.length]; exact hl.2, ?_⟩⟩) fun ws s5 ⟨zs, H2, I2, rz, l2, q3⟩ => ⟨I2.kIn, ?_⟩) hpl
    · exact ⟨ρ2, _, _, v, st', P2.rel, sel_vrs (VRs.append .nil r2), h, fun ρ' H' y P r => k ρ' H' y (P2.trans P) r⟩
    · rw [hks]
      exact run_gk (us := []) (vs := []) x F hr hb I2 .nil rz rfl l2 q3
  · cases e1

/-! ### methods, properties, new instances -/
def isC (c : Nat) (d : D) (s : Store) : Bool := match d with
  | .loc l => match s[l]? with
    | some (.ins c' _) => decide (c' = c)
    | _ => false
  | _ => false
def eMeth (c : Nat) (sem : SemF) (fo : Ef) (t : Af) : Ef := fun env st => (fo env st).bind fun o s1 => if isC c o s1 = true then (t env s1).bind fun ds s2 => sem (o :: ds) s2 else .bad
theorem isC_ok {ρ : Nat → Addr} {s : Store} {H : Hp} {d : D} {y : V} {c : Nat} (Rl : Rel g ρ s H) (r : VR g.K ρ s.length H d y) (h : isC c d s = true) : ∃ l dx gs fs, d = .loc l ∧ y = .ref (ρ l) ∧ H (ρ l) = some (.ins (g.cl c) dx gs) ∧ c < g.nc ∧ FR g ρ s.length H fs gs := by
  cases d with
  | loc l =>
    unfold VR at r
    obtain ⟨hl, rfl⟩ := r
    simp only [isC] at h
    split at h
    · rename_i c' fs q
      obtain rfl := of_decide_eq_true h
      obtain ⟨hc, dx, gs, e, rf⟩ := Rl.obj l _ q
      exact ⟨l, dx, gs, fs, rfl, rfl, e, hc, rf⟩
    · cases h
  | _ => simp [isC] at h
theorem e_meth {pl : Sem Bool} (x : XG g X) (c : Nat) (ho : EV g X o fo) (M : Meth X.K (g.cl c) m f) (F : FnG g X.prog X.w X.K X.mg X.base k f fd ps sem) (hr : Room k X.A) (hb : Binds X.K fd ps []) (hn : ∀ i, i < g.nf → g.fld i ≠ m) (ha : AV g X (e :: es) t)
    (hst : starEach (e :: es) X.env = (false, eval e X.env) :: starEach es X.env := by rfl) (hpl : (backTo pos (starEach es X.env)).any (·.1) = false := by rfl)
    (ht : eval (.Call (.Attribute o m apos) (e :: es) [] pos) X.env = (do
      let ov ← eval o X.env
      standAt apos.atName
      let (f, first) ← holding [ov] (getMethod ov m pl)
      callWith pos f first (backTo pos (starEach (e :: es) X.env)) (backToKw pos (keywordEach [] X.env))) := by rfl) :
    EV g X (.Call (.Attribute o m apos) (e :: es) [] pos) (eMeth c sem fo t) := by
  refine ⟨fun pins s σ H Q I ⟨ρ, st, env, v, st', Rl, E, h, k⟩ => ?_⟩
  obtain ⟨d, s1, e1, h⟩ := R.bind_eq h
  split at h
  · rename_i hC
    obtain ⟨ds, s2, e2, h⟩ := R.bind_eq h
    refine PySem.W.methodCall_KW (pl := pl) (thn (ho.run pins s σ H (fun y H1 => ∃ a dx gs, y = .ref a ∧ H1 a = some (.ins (g.cl c) dx gs) ∧ c < g.nc ∧ gs.lookup m = none ∧ tA g t σ H1 fun vs H2 => SpD g sem (.ref a :: vs) H2 Q) I
      ⟨ρ, st, env, d, s1, Rl, E, e1, fun ρ1 H1 y P1 r1 => ?_⟩) fun uo s3 ⟨y, H1, I1, ry, a, dx, gs, ey, ea, hc, l, q⟩ => ?_) ht
    · obtain ⟨l, dx, gs, fs, rfl, rfl, e3, hc, rf⟩ := isC_ok P1.rel r1 hC
      refine ⟨ρ1 l, dx, gs, rfl, e3, hc, rf.none_of hn, ρ1, s1, env, ds, s2, P1.rel, P1.envr Rl E, e2, fun ρ2 H2 vs P2 r2 => ?_⟩
      exact ⟨ρ2, s2, _, v, st', P2.rel, .cons (P2.vr P1.rel r1) r2, h, fun ρ' H' z P r => k ρ' H' z ((P1.trans P2).trans P) r⟩
    · subst ey
      obtain rfl : uo = Value.ref a := ry
      refine getmeth_ok I1 ea (by rw [x.K]; exact x.cls c hc) M l ?_
      refine PySem.W.callWith_K (first := [.ref a]) (h₀ := X.base) I.ok.mod.kin M.kp (thn (ha.run pos pins s3 σ H1 _ I1 q) fun us s4 ⟨vs, H2, I2, r, q2⟩ => ⟨I2.kIn, ?_⟩) hst hpl
      exact run_g (us := .ref a :: us) (vs := .ref a :: vs) x F hr hb I2 (.cons rfl r) q2
  · cases h
theorem e_meth0 {pl : Sem Bool} (x : XG g X) (c : Nat) (ho : EV g X o fo) (M : Meth X.K (g.cl c) m f) (F : FnG g X.prog X.w X.K X.mg X.base k f fd ps sem) (hr : Room k X.A) (hb : Binds X.K fd ps []) (hn : ∀ i, i < g.nf → g.fld i ≠ m)
    (ht : eval (.Call (.Attribute o m apos) [] [] pos) X.env = (do
      let ov ← eval o X.env
      standAt apos.atName
      let (f, first) ← holding [ov] (getMethod ov m pl)
      callWith pos f first (backTo pos (starEach [] X.env)) (backToKw pos (keywordEach [] X.env))) := by rfl) :
    EV g X (.Call (.Attribute o m apos) [] [] pos) (eMeth c sem fo aNil) := by
  refine ⟨fun pins s σ H Q I ⟨ρ, st, env, v, st', Rl, E, h, k⟩ => ?_⟩
  obtain ⟨d, s1, e1, h⟩ := R.bind_eq h
  split at h
  · rename_i hC
    obtain ⟨ds, s2, e2, h⟩ := R.bind_eq h
    cases e2
    refine PySem.W.methodCall_KW (pl := pl) (thn (ho.run pins s σ H (fun y H1 => ∃ a dx gs, y = .ref a ∧ H1 a = some (.ins (g.cl c) dx gs) ∧ c < g.nc ∧ gs.lookup m = none ∧ SpD g sem [.ref a] H1 Q) I
      ⟨ρ, st, env, d, _, Rl, E, e1, fun ρ1 H1 y P1 r1 => ?_⟩) fun uo s3 ⟨y, H1, I1, ry, a, dx, gs, ey, ea, hc, l, q⟩ => ?_) ht
    · obtain ⟨l, dx, gs, fs, rfl, rfl, e3, hc, rf⟩ := isC_ok P1.rel r1 hC
      exact ⟨ρ1 l, dx, gs, rfl, e3, hc, rf.none_of hn, ρ1, _, _, v, st', P1.rel, .cons r1 .nil, h, fun ρ' H' z P r => k ρ' H' z (P1.trans P) r⟩
    · subst ey
      obtain rfl : uo = Value.ref a := ry
      refine getmeth_ok I1 ea (by rw [x.K]; exact x.cls c hc) M l ?_
      exact PySem.W.callWith_K0 (first := [.ref a]) I1.kIn M.kp (run_g (us := [.ref a]) (vs := [.ref a]) x F hr hb I1 (.cons rfl .nil) q)
  · cases h
/-- o.p, a property -/
def eProp (c : Nat) (sem : SemF) (fo : Ef) : Ef := fun env st => (fo env st).bind fun o s1 => if isC c o s1 = true then sem [o] s1 else .bad
theorem e_prop {pr : Addr} (x : XG g X) (c : Nat) (ho : EV g X o fo) (hp : PropOf X.K (g.cl c) m pr f) (F : FnG g X.prog X.w X.K X.mg X.base k f fd ps sem) (hr : Room (k + 1) X.A) (hb : Binds X.K fd ps [])
    (hab : attributeBase o m X.env (eval o X.env) = eval o X.env := by rfl) : EV g X (.Attribute o m pos) (eProp c sem fo) := by
  refine ⟨fun pins s σ H Q I ⟨ρ, st, env, v, st', Rl, E, h, k⟩ => ?_⟩
  obtain ⟨d, s1, e1, h⟩ := R.bind_eq h
  split at h
  · rename_i hC
    refine attr_of hab (thn (ho.run pins s σ H (fun y H1 => ∃ a dx gs, y = .ref a ∧ H1 a = some (.ins (g.cl c) dx gs) ∧ c < g.nc ∧ SpD g sem [.ref a] H1 Q) I ⟨ρ, st, env, d, s1, Rl, E, e1, fun ρ1 H1 y P1 r1 => ?_⟩) fun uo s3 ⟨y, H1, I1, ry, a, dx, gs, ey, ea, hc, q⟩ => ?_)
    · obtain ⟨l, dx, gs, fs, rfl, rfl, e3, hc, rf⟩ := isC_ok P1.rel r1 hC
      exact ⟨ρ1 l, dx, gs, rfl, e3, hc, ρ1, _, _, v, st', P1.rel, .cons r1 .nil, h, fun ρ' H' z P r => k ρ' H' z (P1.trans P) r⟩
    · subst ey
      obtain rfl : uo = Value.ref a := ry
      obtain ⟨mA, O, _, _, _, _⟩ := ins_get I1.hok ea
      obtain ⟨od, J, _⟩ := O.look
      obtain ⟨rst, hrec⟩ := hp.rec_
      have I2 := I1.tok (s3.toks + 1)
      have hcl : Cls X.K (g.cl c) := by rw [x.K]; exact x.cls c hc
      have hc' : (PySem.W.clsIn X.K (g.cl c)).isSome = true := by
        obtain ⟨cd, z, _⟩ := PySem.W.any_some hcl.hd
        rw [z]
        rfl
      have hl : ([Value.ref a] ++ ([] : List Value)).length = ps.length := (show ([V.ref a] : List V).length = ps.length from F.lenV q)
      refine PySem.W.get_bind I1.kIn J (PySem.W.plainGet_of (hcl.get m)).1 (PySem.W.findObj_data hc' hp.at_ hp.get hp.tak) (PySem.W.plainGet_of (hcl.get m)).2 (wpAny_call (PySem.W.prop_get (s := { s3 with toks := s3.toks + 1 }) I1.kIn hrec ?_))
      refine codeAny_mono (F.run X.A.in1 X.stack { s3 with toks := s3.toks + 1 } H1 ⟨[.ref a], []⟩ [.ref a] [.ref a] Q hr.in1 x.hg I2.env0.in1 (by have z := hb { s3 with toks := s3.toks + 1 } [.ref a] I2.kIn hl; rw [List.append_nil] at z; exact z) (.cons rfl .nil) q) fun rr s' hq => ?_
      match rr, hq with
      | .ok (.ret u), hq =>
        obtain ⟨w, H', I3, rv, q3⟩ := I2.after hq
        show wpAny _ _ (handedOut u) _ _ _
        rw [PySem.W.handedOut_of (handed_of rv)]
        exact wpAny_pure ⟨w, H', I3, rv, q3⟩
      | .ok .next, hq => exact hq.elim
      | .ok .brk, hq => exact hq.elim
      | .ok .cont, hq => exact hq.elim
      | .error _, hq => exact hq.elim
  · cases h
/-- C(..) -/
def mkF (c : Nat) (sem : SemF) (ds : List D) (s : Store) : R D := (sem (.loc s.length :: ds) (s ++ [.ins c []])).bind fun v s' => match v with | .non => .ok (.loc s.length) s' | _ => .bad
theorem run_mk {C : Addr} {pins : List (Addr × Obj)} {σ : St} {H : Hp} {s : Shared} {Q : VK} {kw : List (Str × Value)} {us us' : List Value} {vs : List V} (x : XG g X) (c : Nat) (hc : c < g.nc) (eC : g.cl c = C) (M : Mk X.K C f) (F : FnG g X.prog X.w X.K X.mg X.base k f fd ps sem) (hr : Room (k + 1) X.A)
    (hb : ∀ s' : Shared, X.K.In s'.heap → BindsTo s' fd ⟨Value.ref (s.heap.objs.size + 1) :: us, kw⟩ (ps.zip (Value.ref (s.heap.objs.size + 1) :: us'))) (I : Inv X pins σ H s) (r : Vals vs us') (h : SpD g (mkF c sem) vs H Q) :
    wpAny (model X.prog X.w) X.A (call (.ref C) us kw) (EP X pins σ Q) X.xe s := by
  subst eC
  obtain ⟨ρ, st, ds, v, st', Rl, rd, e, q⟩ := h
  obtain ⟨v1, s1, e1, e2⟩ := R.bind_eq e
  have hv : v1 = .non := by cases v1 <;> first | rfl | exact (R.no e2).elim
  subst hv
  cases e2
  have I2 := Inv.made (C := g.cl c) I
  have n1 : H s.heap.objs.size = none := I.hok.fresh (Nat.le_refl _)
  have n2 : H (s.heap.objs.size + 1) = none := I.hok.fresh (Nat.le_succ _)
  have P1 := Rl.tup (u := HO.own (s.heap.objs.size + 1)) n1
  have n3 : upd H s.heap.objs.size (HO.own (s.heap.objs.size + 1)) (s.heap.objs.size + 1) = none := by
    rw [upd_ne (Nat.ne_of_gt (Nat.lt_succ_self _))]
    exact n2
  have P2 := P1.rel.push (o := .ins c []) (u := HO.ins (g.cl c) s.heap.objs.size []) n3 ⟨hc, _, [], upd_same, rfl⟩
  have P12 := P1.trans P2
  refine wpAny_call (make_map (f := f) I.kIn M.makes M.init (beq_iff_eq.mp M.fn) (codeAny_mono (F.run _ X.stack _ _ ⟨Value.ref (s.heap.objs.size + 1) :: us, kw⟩ (Value.ref (s.heap.objs.size + 1) :: us') (V.ref (s.heap.objs.size + 1) :: vs)
    (fun w H2 => w = .non ∧ Q (.ref (s.heap.objs.size + 1)) H2) (hr.make _ us kw) ?_ (I2.env0.make _ us kw) (hb _ I2.kIn) (.cons rfl r) ?_) fun rr s' hq => ?_))
  · have e := x.hg
    first
      | exact e
      | (show (X.A.under _).guards = some []; simp [Around.under, Code.guards, Code.isGuard, guardIds, pushGuards, e])
  · refine ⟨_, _, .loc st.length :: ds, .non, _, P2.rel, .cons ?_ (P12.vrs Rl rd), e1, fun ρ' H' y P ry => ⟨by simpa [VR] using ry, q ρ' H' _ (P12.trans P) ?_⟩⟩
    · unfold VR
      exact ⟨by simp, by rw [nxt_same]⟩
    · unfold VR
      have hl : st.length < (st ++ [O.ins c []]).length := by simp
      refine ⟨Nat.lt_of_lt_of_le hl P.len, ?_⟩
      rw [P.old st.length hl, nxt_same]
  · match rr, hq with
    | .ok (.ret u), hq =>
      obtain ⟨w, H', I3, rv, ev, q3⟩ := I2.after hq
      subst ev
      exact ⟨rv, ⟨V.ref (s.heap.objs.size + 1), H', I3, rfl, q3⟩⟩
    | .ok .next, hq => exact hq.elim
    | .ok .brk, hq => exact hq.elim
    | .ok .cont, hq => exact hq.elim
    | .error _, hq => exact hq.elim
theorem e_make {C : Addr} (x : XG g X) (c : Nat) (hc : c < g.nc) (eC : g.cl c = C) (M : Mk X.K C f) (F : FnG g X.prog X.w X.K X.mg X.base k f fd ps sem) (hr : Room (k + 1) X.A) (hm : X.mg n = some (.ref C)) (hb : Binds X.K fd ps []) (ha : AV g X (e :: es) t) (hg : Gl X n := by rfl)
    (hdb : (n == ("__debug__" : Str)) = false := by decide) (he : starEach (e :: es) X.env = (false, eval e X.env) :: starEach es X.env := by rfl) (hpl : (backTo pos (starEach es X.env)).any (·.1) = false := by rfl) :
    EV g X (.Call (.Name n p) (e :: es) [] pos) (eCall (mkF c sem) t) := by
  refine ⟨fun pins s σ H Q I ⟨ρ, st, env, v, st', Rl, E, h, k⟩ => ?_⟩
  obtain ⟨ds, s1, e1, h⟩ := R.bind_eq h
  refine wpAny_Call_Name_kw (ld_glob I hg hm ?_ hdb)
  refine PySem.W.callWith_K (h₀ := X.base) I.ok.mod.kin M.kp (thn (ha.run pos pins s σ H (fun vs H1 => vs.length + 1 = ps.length ∧ SpD g (mkF c sem) vs H1 Q) I ⟨ρ, st, env, ds, s1, Rl, E, e1, fun ρ1 H1 vs P1 r1 => ?_⟩) fun us s2 ⟨vs, H1, I1, r, hl, q⟩ => ⟨I1.kIn, ?_⟩) he hpl
  · refine ⟨?_, ρ1, s1, ds, v, st', P1.rel, r1, h, fun ρ' H' y P r => k ρ' H' y (P1.trans P) r⟩
    obtain ⟨v1, s3, e3, _⟩ := R.bind_eq h
    rw [← r1.length]
    exact F.len _ _ _ _ e3
  · refine run_mk (us' := us) x c hc eC M F hr (fun s' hK => ?_) I1 r q
    have z := hb s' (Value.ref (s2.heap.objs.size + 1) :: us) hK (by rw [List.append_nil, List.length_cons, ← r.length]; exact hl)
    rw [List.append_nil] at z
    exact z
theorem e_make0 {C : Addr} (x : XG g X) (c : Nat) (hc : c < g.nc) (eC : g.cl c = C) (M : Mk X.K C f) (F : FnG g X.prog X.w X.K X.mg X.base k f fd ps sem) (hr : Room (k + 1) X.A) (hm : X.mg n = some (.ref C)) (hb : Binds X.K fd ps []) (hg : Gl X n := by rfl)
    (hdb : (n == ("__debug__" : Str)) = false := by decide) : EV g X (.Call (.Name n p) [] [] pos) (eCall (mkF c sem) aNil) := by
  refine ⟨fun pins s σ H Q I ⟨ρ, st, env, v, st', Rl, E, h, k⟩ => ?_⟩
  refine wpAny_Call_Name_kw (ld_glob I hg hm ?_ hdb)
  have hl : 1 = ps.length := by
    obtain ⟨_, _, e0, h0⟩ := R.bind_eq h
    cases e0
    obtain ⟨v1, s3, e3, _⟩ := R.bind_eq h0
    exact F.len _ _ _ _ e3
  refine PySem.W.callWith_K0 I.kIn M.kp (run_mk (us := []) (us' := []) (vs := []) x c hc eC M F hr (fun s' hK => ?_) I .nil ⟨ρ, st, [], v, st', Rl, .nil, h, fun ρ' H' y P r => k ρ' H' y P r⟩)
  have z := hb s' [Value.ref (s.heap.objs.size + 1)] hK (by simpa using hl)
  rw [List.append_nil] at z
  exact z
/-- C(k = v): the new instance first -/
theorem e_makeK0 {C : Addr} (x : XG g X) (c : Nat) (hc : c < g.nc) (eC : g.cl c = C) (M : Mk X.K C f) (F : FnG g X.prog X.w X.K X.mg X.base k f fd ps sem) (hr : Room (k + 1) X.A) (hm : X.mg n = some (.ref C)) (hb : KBd X.K fd ps 1 ks (0 :: pm.map (· + 1))) (hkw : KV g X kws u) (hg : Gl X n := by rfl)
    (hall : (backToKw pos (keywordEach kws X.env)).all (·.1.isSome) = true := by rfl) (hks : (backToKw pos (keywordEach kws X.env)).filterMap (·.1) = ks := by rfl) (hdb : (n == ("__debug__" : Str)) = false := by decide)
    (hpl : ((backTo pos (starEach [] X.env)).any (·.1) || (backToKw pos (keywordEach kws X.env)).any (·.1.isNone)) = false := by rfl) : EV g X (.Call (.Name n p) [] kws pos) (eCall (mkF c sem) (aKw 0 ks.length pm aNil u)) := by
  refine ⟨fun pins s σ H Q I ⟨ρ, st, env, v, st', Rl, E, h, k⟩ => ?_⟩
  obtain ⟨ds, s1, e1, h⟩ := R.bind_eq h
  obtain ⟨d1, s2, e2, e1⟩ := R.bind_eq e1
  cases e2
  obtain ⟨d2, s3, e3, e1⟩ := R.bind_eq e1
  split at e1
  · rename_i hl
    cases e1
    refine wpAny_Call_Name_kw (ld_glob I hg hm ?_ hdb)
    refine PySem.W.callWith_KW0 (h₀ := X.base) I.ok.mod.kin M.kp hall (thn (hkw.run pos pins s σ H (fun zs H2 => zs.length = ks.length ∧ SpD g (mkF c sem) (sel pm zs) H2 Q) I
      ⟨ρ, _, env, d2, _, Rl, E, e3, fun ρ2 H2 zs P2 r2 => ⟨by rw [← r2.length]; exact hl.2, ?_⟩⟩) fun ws s5 ⟨zs, H2, I2, rz, l2, q3⟩ => ⟨I2.kIn, ?_⟩) hpl
    · exact ⟨ρ2, _, _, v, st', P2.rel, sel_vrs (VRs.append .nil r2), h, fun ρ' H' y P r => k ρ' H' y (P2.trans P) r⟩
    · rw [hks]
      refine run_mk (us := []) (us' := sel pm ws) x c hc eC M F hr (fun s' hK => ?_) I2 (sel_vals rz) q3
      have z := hb.to s' [Value.ref (s5.heap.objs.size + 1)] ws hK rfl (rz.length.symm.trans l2)
      have e : sel (0 :: pm.map (· + 1)) ([Value.ref (s5.heap.objs.size + 1)] ++ ws) = Value.ref (s5.heap.objs.size + 1) :: sel pm ws := by
        unfold sel
        rw [List.filterMap_cons, List.filterMap_map]
        rfl
      rw [e] at z
      exact z
  · cases e1
end
end Ev

/-! Ev8: methods of lists; a def by its body; the law's entry; what is no longer reached forgotten. -/
namespace Ev
open PySem L2
open PyProof.Rows hiding St

section
variable {g : Gh} {X : Cx} {o e a : Expr} {es : List Expr} {pos apos cpos p : Pos} {f fo fa : Ef} {t : Af}
theorem tk_set {H : Hp} {a : Addr} {xs : List V} {u : HO} (q : H a = some (.lst xs)) : TK g.K H (upd H a u) := TK.of fun b o e nm => by
  rw [upd_ne]
  · exact e
  · intro w
    subst w
    rw [q] at e
    cases e
    exact nm trivial
/-- a list with a place gets other items -/
theorem Rel.setLst {ρ : Nat → Addr} {st : Store} {H : Hp} {l : Nat} {xs zs : List D} {ys us : List V} (Rl : Rel g ρ st H) (hl : st[l]? = some (.lst xs)) (q : H (ρ l) = some (.lst ys)) (r : VRs g.K ρ st.length H zs us) :
    Post g ρ st H ρ (st.set l (.lst zs)) (upd H (ρ l) (.lst us)) ∧ TK g.K H (upd H (ρ l) (.lst us)) :=
  ⟨Rl.set hl rfl rfl ⟨us, upd_same, r.mono (fun _ _ => rfl) (Nat.le_refl _) (tk_set q)⟩, tk_set q⟩
def isL (d : D) (s : Store) : Bool := match d with
  | .loc l => match s[l]? with
    | some (.lst _) => true
    | _ => false
  | _ => false
theorem isL_ok {ρ : Nat → Addr} {s : Store} {H : Hp} {d : D} {y : V} (Rl : Rel g ρ s H) (r : VR g.K ρ s.length H d y) (h : isL d s = true) : tyV g.K "list" y H := by
  cases d with
  | loc l =>
    unfold VR at r
    obtain ⟨hl, rfl⟩ := r
    simp only [isL] at h
    split at h
    · rename_i xs q
      obtain ⟨ys, e, _⟩ := Rl.obj l _ q
      exact .inl ⟨rfl, ys, SqL.of e⟩
    · cases h
  | _ => simp [isL] at h
abbrev FM := D → List D → Store → R D
def OpM (g : Gh) (r : V → List V → Hp → VK → Prop) (F : FM) : Prop := ∀ (ρ : Nat → Addr) (st : Store) (H : Hp) (d : D) (ds : List D) (y : V) (vs : List V) (v : D) (st' : Store) (Q : VK), Rel g ρ st H → VR g.K ρ st.length H d y → VRs g.K ρ st.length H ds vs →
  F d ds st = .ok v st' → (∀ ρ' H' z, Post g ρ st H ρ' st' H' → VR g.K ρ' st'.length H' v z → Q z H') → r y vs H Q
def eBM (F : FM) (fo : Ef) (t : Af) : Ef := fun env st => (fo env st).bind fun d s1 => if isL d s1 = true then (t env s1).bind fun ds s2 => F d ds s2 else .bad
variable {id : String} {name : Str} {r : V → List V → Hp → VK → Prop} {F : FM}
theorem e_bm (x : XG g X) (pa : PlainAttrs "list") (slot : Slot "list" name id) (hty : typeOf (.builtin id) = pure (.type "method_descriptor")) (hm : MtR X id r) (hF : OpM g r F) (ho : EV g X o fo) (ha : AV g X (e :: es) t)
    (hbase : attributeBase o name X.env (eval o X.env) = eval o X.env := by rfl)
    (hfew : ((backTo cpos (starEach (e :: es) X.env)).all (fun x => !x.1) && (backToKw cpos (keywordEach [] X.env)).all (fun x => x.1.isSome)
      && decide ((e :: es).length + ([] : List Keyword).length + (if ([] : List Keyword).isEmpty then 0 else 1) < 30)) = true := by rfl)
    (hline : (apos.endLine == cpos.line) = true := by rfl) (hs : starEach (e :: es) X.env = (false, eval e X.env) :: starEach es X.env := by rfl) (hplain : (backTo cpos (starEach es X.env)).any (·.1) = false := by rfl) :
    EV g X (.Call (.Attribute o name apos) (e :: es) [] cpos) (eBM F fo t) := pe_imp (pe_bm pa slot hty hm ho ha hbase hfew hline hs hplain) fun σ H Q ⟨ρ, st, env, v, st', Rl, E, h, k⟩ => by
  obtain ⟨d, s1, e1, h⟩ := R.bind_eq h
  split at h
  · rename_i hL
    obtain ⟨ds, s2, e2, h⟩ := R.bind_eq h
    refine ⟨ρ, st, env, d, s1, Rl, E, e1, fun ρ1 H1 y P1 r1 => ⟨by rw [x.K]; exact isL_ok P1.rel r1 hL, ρ1, s1, env, ds, s2, P1.rel, P1.envr Rl E, e2, fun ρ2 H2 vs P2 r2 => ?_⟩⟩
    exact hF ρ2 s2 H2 d ds y vs v st' Q P2.rel (P2.vr P1.rel r1) r2 h fun ρ' H' z P r => k ρ' H' z ((P1.trans P2).trans P) r
  · cases h
def appF : FM := fun d ds s => match d, ds with
  | .loc l, [v] => match s[l]? with
    | some (.lst xs) => if xs.length < sizeLine then .ok .non (s.set l (.lst (xs ++ [v]))) else .bad
    | _ => .bad
  | _, _ => .bad
theorem o_app : OpM g rAppend appF := fun ρ st H d ds y vs v st' Q Rl r1 r2 h k => by
  unfold appF at h
  split at h
  · rename_i l v1
    split at h
    · rename_i xs q
      split at h
      · rename_i hz
        cases h
        unfold VR at r1
        obtain ⟨hl, rfl⟩ := r1
        obtain ⟨z, rfl, rz⟩ := vrs1 r2
        obtain ⟨ys, q1, rs⟩ := Rl.obj l _ q
        obtain ⟨P, _⟩ := Rl.setLst q q1 (rs.append (.cons rz .nil))
        exact ⟨ρ l, ys, z, rfl, rfl, q1, by rw [← rs.length]; exact hz, k ρ _ _ P (by simp [VR])⟩
      · cases h
    · cases h
  · cases h
theorem e_app (x : XG g X) (ho : EV g X o fo) (ha : EV g X e f) (hbase : attributeBase o "append" X.env (eval o X.env) = eval o X.env := by rfl)
    (hfew : ((backTo cpos (starEach [e] X.env)).all (fun x => !x.1) && (backToKw cpos (keywordEach [] X.env)).all (fun x => x.1.isSome) && decide ([e].length + ([] : List Keyword).length + (if ([] : List Keyword).isEmpty then 0 else 1) < 30)) = true := by rfl)
    (hline : (apos.endLine == cpos.line) = true := by rfl) (hs : starEach [e] X.env = (false, eval e X.env) :: starEach [] X.env := by rfl) :
    EV g X (.Call (.Attribute o "append" apos) [e] [] cpos) (eBM appF fo (aCons f aNil)) :=
  e_bm x PySem.F.plainAttrs_list PySem.F.slot_list_append PySem.F.type_list_append mt_append o_app ho (a_cons ha a_nil hs) hbase hfew hline hs rfl
def popAtF : FM := fun d ds s => match d, ds with
  | .loc l, [.int i] => match s[l]? with
    | some (.lst xs) => if rgOk i = true then match seqIndex? i xs.length with
      | some k => match xs[k]? with
        | some y => .ok y (s.set l (.lst (xs.eraseIdx k)))
        | none => .bad
      | none => .bad
      else .bad
    | _ => .bad
  | _, _ => .bad
theorem vrs_erase {ρ : Nat → Addr} {n : Nat} {H : Hp} : ∀ {ds : List D} {vs : List V} (i : Nat), VRs g.K ρ n H ds vs → VRs g.K ρ n H (ds.eraseIdx i) (vs.eraseIdx i)
  | [], _, _, h => by unfold VRs at h; subst h; simp [VRs]
  | x :: ds, _, 0, h => by
    unfold VRs at h
    obtain ⟨y, zs, rfl, _, h⟩ := h
    simpa using h
  | x :: ds, _, i + 1, h => by
    unfold VRs at h
    obtain ⟨y, zs, rfl, q, h⟩ := h
    rw [List.eraseIdx_cons_succ, List.eraseIdx_cons_succ]
    exact .cons q (vrs_erase i h)
theorem vrs_dropLast {ρ : Nat → Addr} {n : Nat} {H : Hp} {ds : List D} {vs : List V} (h : VRs g.K ρ n H ds vs) : VRs g.K ρ n H ds.dropLast vs.dropLast := by
  rw [List.dropLast_eq_take, List.dropLast_eq_take, ← h.length]
  exact h.take _
theorem o_popAt : OpM g rPopAt popAtF := fun ρ st H d ds y vs v st' Q Rl r1 r2 h k => by
  unfold popAtF at h
  split at h
  · rename_i l i
    split at h
    · rename_i xs q
      split at h
      · rename_i hz
        split at h
        · rename_i kk hk
          split at h
          · rename_i w hw
            cases h
            unfold VR at r1
            obtain ⟨hl, rfl⟩ := r1
            obtain ⟨z, rfl, rz⟩ := vrs1 r2
            simp only [VR] at rz
            subst rz
            obtain ⟨ys, q1, rs⟩ := Rl.obj l _ q
            obtain ⟨P, t⟩ := Rl.setLst q q1 (vrs_erase kk rs)
            obtain ⟨u, e1, e2⟩ := rs.get hw
            have hb := rgOk_eq hz
            refine ⟨ρ l, ys, i, kk, u, rfl, rfl, q1, by omega, by omega, by rw [← rs.length]; exact hk, e1, k ρ _ _ P ?_⟩
            rw [List.length_set]
            exact e2.mono (fun _ _ => rfl) (Nat.le_refl _) t
          · cases h
        · cases h
      · cases h
    · cases h
  · cases h
theorem e_popAt (x : XG g X) (ho : EV g X o fo) (ha : EV g X e f) (hbase : attributeBase o "pop" X.env (eval o X.env) = eval o X.env := by rfl)
    (hfew : ((backTo cpos (starEach [e] X.env)).all (fun x => !x.1) && (backToKw cpos (keywordEach [] X.env)).all (fun x => x.1.isSome) && decide ([e].length + ([] : List Keyword).length + (if ([] : List Keyword).isEmpty then 0 else 1) < 30)) = true := by rfl)
    (hline : (apos.endLine == cpos.line) = true := by rfl) (hs : starEach [e] X.env = (false, eval e X.env) :: starEach [] X.env := by rfl) :
    EV g X (.Call (.Attribute o "pop" apos) [e] [] cpos) (eBM popAtF fo (aCons f aNil)) :=
  e_bm x PySem.F.plainAttrs_list PySem.F.slot_list_pop PySem.F.type_list_pop mt_popAt o_popAt ho (a_cons ha a_nil hs) hbase hfew hline hs rfl
def popF (d : D) (s : Store) : R D := match d with
  | .loc l => match s[l]? with
    | some (.lst xs) => match xs[xs.length - 1]? with
      | some y => .ok y (s.set l (.lst xs.dropLast))
      | none => .bad
    | _ => .bad
  | _ => .bad
def ePop (fo : Ef) : Ef := fun env st => (fo env st).bind popF
theorem e_pop (x : XG g X) (ho : EV g X o fo) (hbase : attributeBase o "pop" X.env (eval o X.env) = eval o X.env := by rfl) (hline : (apos.endLine == cpos.line) = true := by rfl) : EV g X (.Call (.Attribute o "pop" apos) [] [] cpos) (ePop fo) :=
  pe_imp (pe_bm0 PySem.F.plainAttrs_list PySem.F.slot_list_pop PySem.F.type_list_pop mt_pop ho hbase hline) fun σ H Q ⟨ρ, st, env, v, st', Rl, E, h, k⟩ => by
    obtain ⟨d, s1, e1, h⟩ := R.bind_eq h
    refine ⟨ρ, st, env, d, s1, Rl, E, e1, fun ρ1 H1 y P1 r1 => ?_⟩
    cases d with
    | loc l =>
      simp only [popF] at h
      split at h
      · rename_i xs q
        split at h
        · rename_i w hw
          cases h
          unfold VR at r1
          obtain ⟨hl, rfl⟩ := r1
          obtain ⟨ys, q1, rs⟩ := P1.rel.obj l _ q
          obtain ⟨P, t⟩ := P1.rel.setLst q q1 (vrs_dropLast rs)
          obtain ⟨u, e2, e3⟩ := rs.get hw
          refine ⟨.inl ⟨rfl, ys, by rw [x.K]; exact SqL.of q1⟩, ρ1 l, ys, u, rfl, rfl, q1, by rw [← rs.length]; exact e2, k ρ1 _ _ (P1.trans P) ?_⟩
          rw [List.length_set]
          exact e3.mono (fun _ _ => rfl) (Nat.le_refl _) t
        · cases h
      · cases h
    | _ => cases h
def idxD (x : D) : Nat → List D → Option Nat
  | _, [] => none
  | k, d :: ds => if eqD d x = true then some k else idxD x (k + 1) ds
theorem idxD_ok {x : D} : ∀ {ds : List D} {k j : Nat}, idxD x k ds = some j → ∃ i d, j = k + i ∧ ds[i]? = some d ∧ eqD d x = true ∧ ∀ (m : Nat) (d' : D), m < i → ds[m]? = some d' → eqD d' x = false
  | [], k, j, h => by cases h
  | d :: ds, k, j, h => by
    unfold idxD at h
    by_cases hd : eqD d x = true
    · rw [if_pos hd] at h
      cases h
      exact ⟨0, d, rfl, rfl, hd, fun m d' hm => absurd hm (Nat.not_lt_zero _)⟩
    · rw [if_neg hd] at h
      obtain ⟨i, e, e1, e2, e3, e4⟩ := idxD_ok h
      refine ⟨i + 1, e, by omega, by simpa using e2, e3, fun m d' hm q => ?_⟩
      cases m with
      | zero =>
        simp at q
        subst q
        simpa using hd
      | succ m => exact e4 m d' (by omega) (by simpa using q)
def indexF : FM := fun d ds s => match d, ds with
  | .loc l, [v] => match s[l]? with
    | some (.lst xs) => if flatD v = true ∧ xs.all flatD = true then match idxD v 0 xs with
      | some j => .ok (.int (j : Nat)) s
      | none => .bad
      else .bad
    | _ => .bad
  | _, _ => .bad
theorem o_index (x : XG g X) : OpM g (rIndex X.K) indexF := fun ρ st H d ds y vs v st' Q Rl r1 r2 h k => by
  unfold indexF at h
  split at h
  · rename_i l w
    split at h
    · rename_i xs q
      split at h
      · rename_i hz
        split at h
        · rename_i j hj
          cases h
          unfold VR at r1
          obtain ⟨hl, rfl⟩ := r1
          obtain ⟨z, rfl, rz⟩ := vrs1 r2
          obtain ⟨ys, q1, rs⟩ := Rl.obj l _ q
          obtain ⟨i, d0, ej, e1, e2, e3⟩ := idxD_ok hj
          rw [Nat.zero_add] at ej
          subst ej
          obtain ⟨u, e4, e5⟩ := rs.get e1
          rw [x.K]
          have fl : ∀ {m : Nat} {d' : D}, xs[m]? = some d' → flatD d' = true := fun {m d'} e => List.all_eq_true.mp hz.2 _ (List.mem_of_getElem? e)
          refine ⟨ρ l, ys, z, j, u, rfl, rfl, SqL.of q1, flat_vr rz hz.1, flats_vr rs hz.2, e4, by rw [eq_vr e5 rz (fl e1) hz.1]; exact e2, fun m z' hm e6 => ?_, k ρ H _ (Post.refl Rl) (by simp [VR])⟩
          obtain ⟨d', e7, e8⟩ := rs.getB e6
          rw [eq_vr e8 rz (fl e7) hz.1]
          exact e3 m d' hm e7
        · cases h
      · cases h
    · cases h
  · cases h
theorem e_index (x : XG g X) (ho : EV g X o fo) (ha : EV g X e f) (hbase : attributeBase o "index" X.env (eval o X.env) = eval o X.env := by rfl)
    (hfew : ((backTo cpos (starEach [e] X.env)).all (fun x => !x.1) && (backToKw cpos (keywordEach [] X.env)).all (fun x => x.1.isSome) && decide ([e].length + ([] : List Keyword).length + (if ([] : List Keyword).isEmpty then 0 else 1) < 30)) = true := by rfl)
    (hline : (apos.endLine == cpos.line) = true := by rfl) (hs : starEach [e] X.env = (false, eval e X.env) :: starEach [] X.env := by rfl) :
    EV g X (.Call (.Attribute o "index" apos) [e] [] cpos) (eBM indexF fo (aCons f aNil)) :=
  e_bm x PySem.F.plainAttrs_list PySem.F.slot_list_index PySem.F.type_list_index mt_index (o_index x) ho (a_cons ha a_nil hs) hbase hfew hline hs rfl
/-- a list that can be read off the heap: just made, or with a place -/
def tX (g : Gh) (f : Af) : TE := fun σ H Q => ∃ ρ st env v st', Rel g ρ st H ∧ EnvR g.K ρ st.length H env σ ∧ f env st = .ok v st' ∧
  ∀ ρ' H' p ys, Post g ρ st H ρ' st' H' → H' p = some (.lst ys) → VRs g.K ρ' st'.length H' v ys → Q (.ref p) H'
abbrev XV (g : Gh) (X : Cx) (e : Expr) (f : Af) : Prop := PE X e (tX g f)
theorem x_new (hn : NV g X e t) : XV g X e t := pe_imp hn fun σ H Q ⟨ρ, st, env, v, st', Rl, E, h, k⟩ => ⟨ρ, st, env, v, st', Rl, E, h, fun ρ1 H1 p ys P1 hl hn hp r1 => k ρ1 H1 p ys P1 hl r1⟩
def toX (r : R D) : R (List D) := r.bind fun d s => match d with
  | .loc l => match s[l]? with
    | some (.lst xs) => .ok xs s
    | _ => .bad
  | _ => .bad
def xOf (f : Ef) : Af := fun env st => toX (f env st)
theorem x_of (ha : EV g X e f) : XV g X e (xOf f) := pe_imp ha fun σ H Q ⟨ρ, st, env, v, st', Rl, E, h, k⟩ => by
  obtain ⟨d, s1, e1, h⟩ := R.bind_eq h
  refine ⟨ρ, st, env, d, s1, Rl, E, e1, fun ρ1 H1 y P1 r1 => ?_⟩
  cases d with
  | loc l =>
    unfold VR at r1
    obtain ⟨hl, rfl⟩ := r1
    simp only at h
    split at h
    · rename_i xs q
      cases h
      obtain ⟨ys, e2, rs⟩ := P1.rel.obj l _ q
      exact k ρ1 H1 _ ys P1 e2 rs
    · cases h
  | _ => cases h
def xM (f : Mf) : Af := fun env st => (f env st).bind fun m s => match m with
  | .v d => toX (.ok d s)
  | .l xs => .ok xs s
theorem x_m {f : Mf} (hm : MV g X e f) : XV g X e (xM f) := pe_imp hm fun σ H Q ⟨ρ, st, env, v, st', Rl, E, h, k⟩ => by
  obtain ⟨m, s1, e1, h⟩ := R.bind_eq h
  refine ⟨ρ, st, env, m, s1, Rl, E, e1, fun ρ1 H1 y P1 r1 => ?_⟩
  cases m with
  | l xs =>
    cases h
    obtain ⟨p, ys, rfl, hl, hn, hp, r2⟩ := r1
    exact k ρ1 H1 p ys P1 hl r2
  | v d =>
    cases d with
    | loc l =>
      unfold MR VR at r1
      obtain ⟨hl, rfl⟩ := r1
      simp only [toX, R.bind_ok] at h
      split at h
      · rename_i xs q
        cases h
        obtain ⟨ys, e2, rs⟩ := P1.rel.obj l _ q
        exact k ρ1 H1 _ ys P1 e2 rs
      · cases h
    | _ => cases h
def extF (d : D) (zs : List D) (s : Store) : R D := match d with
  | .loc l => match s[l]? with
    | some (.lst xs) => if xs.length + zs.length ≤ sizeLine then .ok .non (s.set l (.lst (xs ++ zs))) else .bad
    | _ => .bad
  | _ => .bad
def eExt (fo : Ef) (t : Af) : Ef := fun env st => (fo env st).bind fun d s1 => if isL d s1 = true then (t env s1).bind fun zs s2 => extF d zs s2 else .bad
theorem e_ext (x : XG g X) (ho : EV g X o fo) (ha : XV g X e t) (hbase : attributeBase o "extend" X.env (eval o X.env) = eval o X.env := by rfl)
    (hfew : ((backTo cpos (starEach [e] X.env)).all (fun x => !x.1) && (backToKw cpos (keywordEach [] X.env)).all (fun x => x.1.isSome) && decide ([e].length + ([] : List Keyword).length + (if ([] : List Keyword).isEmpty then 0 else 1) < 30)) = true := by rfl)
    (hline : (apos.endLine == cpos.line) = true := by rfl) (hs : starEach [e] X.env = (false, eval e X.env) :: starEach [] X.env := by rfl) :
    EV g X (.Call (.Attribute o "extend" apos) [e] [] cpos) (eExt fo t) :=
  pe_imp (pe_bm PySem.F.plainAttrs_list PySem.F.slot_list_extend PySem.F.type_list_extend mt_extend ho (pa_cons ha pa_nil hs) hbase hfew hline hs rfl) fun σ H Q ⟨ρ, st, env, v, st', Rl, E, h, k⟩ => by
    obtain ⟨d, s1, e1, h⟩ := R.bind_eq h
    split at h
    · rename_i hL
      obtain ⟨zs, s2, e2, h⟩ := R.bind_eq h
      refine ⟨ρ, st, env, d, s1, Rl, E, e1, fun ρ1 H1 y P1 r1 => ⟨by rw [x.K]; exact isL_ok P1.rel r1 hL, ρ1, s1, env, zs, s2, P1.rel, P1.envr Rl E, e2, fun ρ2 H2 p us P2 hp r2 => ?_⟩⟩
      have r1' := P2.vr P1.rel r1
      cases d with
      | loc l =>
        simp only [extF] at h
        split at h
        · rename_i xs q
          split at h
          · rename_i hz
            cases h
            unfold VR at r1'
            obtain ⟨hl, rfl⟩ := r1'
            obtain ⟨ys, q1, rs⟩ := P2.rel.obj l _ q
            obtain ⟨P, _⟩ := P2.rel.setLst q q1 (rs.append r2)
            exact ⟨ρ2 l, p, ys, us, rfl, rfl, q1, hp, by rw [← rs.length, ← r2.length]; exact hz, k ρ2 _ _ ((P1.trans P2).trans P) (by simp [VR])⟩
          · cases h
        · cases h
      | _ => cases h
    · cases h
end

/-! ### a def by its body -/
def semOf (n a : Nat) (sf : Sf) : SemF := fun ds st => if ds.length = a then (match sf (ds.map some ++ List.replicate (n - a) none) st with
  | .nx _ s => .ok .non s
  | .rt d s => .ok d s
  | _ => .bad) else .bad
/-- what the module's names mean -/
structure GF (g : Gh) (mg : Str → Option Value) : Prop where
  bl : ∀ x ∈ blts, mg x = none
  cls : ∀ c, c < g.nc → Cls g.K (g.cl c)
  na : ∀ c, c < g.nc → ∀ i, i < g.nf → NoAttr g.K (g.cl c) (g.fld i)
  inj : ∀ i j, i < g.nf → j < g.nf → g.fld i = g.fld j → i = j
section
variable {g : Gh} {P : Program} {w : World} {mg : Str → Option Value} {base : Heap}
theorem env_start {ρ : Nat → Addr} {n : Nat} {H : Hp} {N : List Str} {ds : List D} {vs : List V} (r : VRs g.K ρ n H ds vs) : EnvR g.K ρ n H (ds.map some ++ List.replicate (N.length - ds.length) none) (L2.start N vs) := by
  refine ⟨by unfold L2.start; simp [r.length], fun i d e => ?_⟩
  have hl := r.length
  unfold L2.start
  by_cases hi : i < ds.length
  · rw [List.getElem?_append_left (by simpa using hi), List.getElem?_map, Option.map_eq_some_iff] at e
    obtain ⟨d', e1, e2⟩ := e
    cases e2
    obtain ⟨v, e3, e4⟩ := r.get e1
    exact ⟨v, by rw [List.getElem?_append_left (by simp; omega), List.getElem?_map, e3]; rfl, e4⟩
  · rw [List.getElem?_append_right (by simpa using hi), List.getElem?_replicate] at e
    split at e <;> cases e
theorem fn_g {qual x : Str} {st : Stmt} {f : Addr} {fd : FuncData} {N ps : List Str} {k : Nat} {sf : Sf} (G : GF g mg) (F : Fun g.K x qual st f fd) (S : FnScope N ps (defScope st))
    (hbody : ∀ (cdv : Value) (A : Around) (outer : List PySem.Env) (s : Shared) (H : Hp) (E : XK), XG g (cxOf CX0 P w g.K mg base N qual (defScope st) f cdv A outer s H E).nox → Room k (cxOf CX0 P w g.K mg base N qual (defScope st) f cdv A outer s H E).nox.A →
      SVs g (cxOf CX0 P w g.K mg base N qual (defScope st) f cdv A outer s H E).nox (defBody st) sf) : FnG g P w g.K mg base (k + 1) f fd ps (semOf N.length ps.length sf) := by
  refine ⟨fun ds st v st' h => ?_, fun A outer s H args us vs Q hr hg e0 hb r hsp => ?_⟩
  · unfold semOf at h
    split at h
    · assumption
    · cases h
  · obtain ⟨oc, od, kV, doc, pm, an, cdv, ct, osl, rfl, lk, hcd⟩ := F.ex
    have len : vs.length = ps.length := by
      obtain ⟨ρ, st, ds, v, st', Rl, rd, e, _⟩ := hsp
      unfold semOf at e
      split at e
      · rename_i hl
        rw [← rd.length]
        exact hl
      · cases e
    have KX : g.K.In s.heap := e0.mod.kin.keeps fun b o e => (e0.bs b o e).1
    have lim : s.heap.NoLimit := e0.mod.nolimit.keeps fun b o e => (e0.bs b o e).1
    have hkind : ∀ y ∈ ps.zip us, (defScope st).names.lookup y.1 = some .local ∨ ((defScope st).names.lookup y.1 = some .cell ∧ ((cellsFrom (s.heap.objs.size + 1) (defScope st).names []).lookup y.1).isSome = true) := fun ⟨n, v⟩ hy => by
      rcases S.par n (List.of_mem_zip hy).1 with q | q
      · exact .inl q
      · exact .inr ⟨q, PySem.W.cellsFrom_some _ _ _ (.inl q)⟩
    refine codeAny_call_function hr.depth (KX _ _ lk) rfl S.co S.gen rfl (PySem.W.codeRec_of KX hcd) (hb _ _ _ _ ?_)
    refine wpAny_newFunctionEnv_cells S.kind hkind fun env he s1 xc => ?_
    subst he
    refine ⟨lim.keeps xc.toInCall.keep, codeAny_func ?_⟩
    have hr' := hr.deeper (envOfC qual (defScope st) s.heap.objs.size f cdv)
    have xg : XG g (cxOf CX0 P w g.K mg base N qual (defScope st) f cdv A outer s H E0).nox := ⟨rfl, rfl, by have := hr'.un; show (A.deeper _).units + 200 < cLine; omega, hg, S.nd, G.bl, G.cls, G.na, G.inj⟩
    have body := hbody cdv A outer s H E0 xg hr'
    have I : Inv (cxOf CX0 P w g.K mg base N qual (defScope st) f cdv A outer s H E0) [] (L2.start N vs) H s1 := inv_start S hr.hd e0 len r xc
    obtain ⟨ρ, sto, ds, v, sto', Rl, rd, e, k⟩ := hsp
    unfold semOf at e
    split at e
    · rename_i hl
      have env0 := env_start (N := N) rd
      rw [hl] at env0
      refine wpAny_mono (body.run [] s1 (L2.start N vs) H { nx := fun _ H' => Q .non H', rt := Q } (I.wish _) ⟨ρ, sto, _, Rl, env0, ?_⟩) (fun fl s' hs => ?_) fun er s' hs => hs.elim
      · split at e
        · rename_i env2 s2 q
          cases e
          rw [q]
          exact fun ρ' H' σ' P' E' => k ρ' H' .non P' (by simp [VR])
        · rename_i d2 s2 q
          cases e
          rw [q]
          exact fun ρ' H' y P' r' => k ρ' H' y P' r'
        · cases e
      · have fin : ∀ {σ' : St} {H' : Hp} {v : V} {u : Value}, Inv (cxOf CX0 P w g.K mg base N qual (defScope st) f cdv A outer s H E0).nox [] σ' H' s' → RelV v u → Q v H' → CE outer P w H s Q u s' :=
          fun {σ' H' v u} J rv q => ⟨v, H', J.os, J.bare, J.base, J.hok, rv, q⟩
        cases fl with
        | ret u =>
          obtain ⟨v, σ', H', J, rv, q⟩ := hs
          exact fin J rv q
        | next =>
          obtain ⟨σ', H', J, q⟩ := hs
          exact fin (v := V.non) (u := Value.none) J rfl q
        | brk =>
          obtain ⟨_, _, _, q⟩ := hs
          exact False.elim q
        | cont =>
          obtain ⟨_, _, _, q⟩ := hs
          exact False.elim q
    · cases e
end

/-! ### the law's entry -/
theorem law_g {P : Program} {w : World} {g : Gh} {mg mb : Str → Option Value} {k : Nat} {fa a : Addr} {fd : FuncData} {x : Str} {sem : SemF} {s₁ : Shared} {vs : List Value} {ns : List Int}
    (KX : g.K.In s₁.heap) (hns : s₁.heap.Ns mainGlobals mg) (hb : s₁.heap.Ns builtinsNs mb) (hbb : ∀ x : Str, x ≠ "__name__" → mb x = bootBuiltins x) (hlim : s₁.heap.NoLimit) (hg : s₁.gens = #[])
    (ha : s₁.heap.get? a = some { cls := .type "list", data := .seq vs.toArray }) (hi : IntsAre vs ns) (hl : ns.length ≤ sizeLine) (hr : Room k callerA)
    (F : ∀ base : Heap, g.K.In base → base.Ns mainGlobals mg → FnG g P w g.K mg base k fa fd [x] sem) (hbind : ∀ (s : Shared) (u : Value), BindsTo s fd ⟨[u], []⟩ [(x, u)])
    (hsem : ∃ st', sem [.loc 0] [.ro ns] = .ok (.bl true) st') :
    codeAny (model P w) callerA (.call (.ref fa) ⟨[.ref a], []⟩) (fun r s' => r = .ok (.ret (.bool true)) ∧ OldK s₁.heap s'.heap ∧ s'.os = s₁.os ∧ AllBare s'.gens) s₁ := by
  have rv := vals_ints hi
  have core : ∀ H : Hp, RoL g.K H a (ns.map V.int) → HOk P w H s₁.heap → (∀ b u, H b = some u → b = a ∧ ∃ ob, u = .frz ob (.lst (ns.map V.int))) → (H a ≠ none → g.K.lookup a = none) →
      codeAny (model P w) callerA (.call (.ref fa) ⟨[.ref a], []⟩) (fun r s' => r = .ok (.ret (.bool true)) ∧ OldK s₁.heap s'.heap ∧ s'.os = s₁.os ∧ AllBare s'.gens) s₁ := by
    intro H hS hok hA hK
    have noD : ∀ {b : Addr} {o : Obj} {es : Array DictEntry} {ep : Nat}, s₁.heap.get? b = some o → o.data = .dict es ep → H b = none := fun {b o es ep} e d => by
      cases q : H b with
      | none => rfl
      | some u =>
        obtain ⟨rfl, _⟩ := hA b u q
        rw [ha] at e
        cases e
        have d' : Data.seq vs.toArray _ = Data.dict es ep := d
        cases d'
    have nsK : ∀ {b : Addr} {m : Str → Option Value}, s₁.heap.Ns b m → (hidT s₁.heap H).Ns b m := fun {b m} ⟨o, es, ep, e, d, r⟩ => ⟨o, es, ep, hidT_get e (noD e d), d, r⟩
    have hKb : g.K.In (hidT s₁.heap H) := fun b o e => hidT_get (KX b o e) (by
      cases q : H b with
      | none => rfl
      | some u =>
        obtain ⟨rfl, _⟩ := hA b u q
        rw [hK (by rw [q]; simp)] at e
        cases e)
    have hM : Mod g.K mg (hidT s₁.heap H) := ⟨hKb, nsK hns, ⟨mb, nsK hb, hbb⟩, let ⟨mc, h1, h2⟩ := hlim; ⟨mc, nsK h1, h2⟩⟩
    have e0 : Env0 P w g.K mg (hidT s₁.heap H) callerA [] s₁ H := ⟨rfl, hM, fun b o e => of_hidT e, Nat.le_of_eq (hidT_size _ _), trivial, (fun b hb => nomatch hb), hok, AllBare.of_eq hg⟩
    obtain ⟨stE, he⟩ := hsem
    have sp : SpD g sem [.ref a] H (fun v _ => v = .bl true) := by
      refine ⟨fun _ => a, [.ro ns], [.loc 0], .bl true, stE, ⟨fun l o e => ?_, fun l l' m => ?_⟩, .cons (by unfold VR; exact ⟨by simp, rfl⟩) .nil, he, fun ρ' H' y P' r' => by simpa [VR] using r'⟩
      · cases l with
        | zero =>
          simp at e
          subst e
          exact hS
        | succ l => simp at e
      · obtain ⟨o, e, mo⟩ := m
        cases l with
        | zero =>
          simp at e
          subst e
          cases mo
        | succ l => simp at e
    refine codeAny_mono ((F _ hKb (nsK hns)).run callerA [] s₁ H ⟨[.ref a], []⟩ [.ref a] [.ref a] _ hr rfl e0 (hbind s₁ (.ref a)) (.cons rfl .nil) sp) fun rr s' hq => ?_
    match rr, hq with
    | .ok (.ret u), hq =>
      obtain ⟨v, H', os, bare, un, hok', r', q⟩ := hq
      have q' : v = .bl true := q
      subst q'
      obtain rfl : u = Value.bool true := r'
      refine ⟨rfl, OldK.of_keep fun b o e => ?_, os, bare⟩
      cases q : H b with
      | none => exact un.keep b o e q (fun z => nomatch z) (fun z => nomatch z)
      | some u =>
        obtain ⟨rfl, ob, rfl⟩ := hA b u q
        have z2 := un.frzs b ob _ q
        obtain ⟨e1, _⟩ := hok b _ q
        obtain ⟨e2, _⟩ := hok' b _ z2
        rw [e] at e1
        cases e1
        exact e2
    | .ok .next, hq => exact hq.elim
    | .ok .brk, hq => exact hq.elim
    | .ok .cont, hq => exact hq.elim
    | .error _, hq => exact hq.elim
  cases hk : g.K.lookup a with
  | some o =>
    have e := KX a o hk
    rw [ha] at e
    cases e
    exact core (fun _ => none) (.inr ⟨_, vs.toArray, _, hk, rfl, rfl, rfl, by rw [List.size_toArray, hi.length]; exact hl, by simpa using rv⟩) (fun b u z => by cases z) (fun b u z => by cases z) fun z => absurd rfl z
  | none =>
    refine core (fun b => if b = a then some (.frz { cls := .type "list", data := .seq vs.toArray } (.lst (ns.map V.int))) else none) (.inl ⟨_, if_pos rfl⟩) (fun b u z => ?_) (fun b u z => ?_) fun _ => hk
    · by_cases hb : b = a
      · have z' := (if_pos hb).symm.trans z
        cases z'
        subst hb
        exact ⟨ha, by rw [List.length_map]; exact hl, vs, _, rv, ha⟩
      · have z' := (if_neg hb).symm.trans z
        cases z'
    · by_cases hb : b = a
      · have z' := (if_pos hb).symm.trans z
        cases z'
        exact ⟨hb, _, rfl⟩
      · have z' := (if_neg hb).symm.trans z
        cases z'
theorem walk_g {l : PySem.W.OpenLaw} {n k : Nat} {q : Program} {loose : List Str} {XP : (Str → Option Value) → Heap → Prop} {YP : World → Heap → Prop} {d : DefRec} {K : Params → PySem.W.Frag} {sem : SemF} {x : Str}
    (hn : l.most = some n) (hn2 : n ≤ sizeLine) (hdf : d.params.defaults = []) (hr : Room k callerA) (hY : ∀ (w : World) (h : Heap), YP w h → (K w.params).In h)
    (F : ∀ (w : World) (mg : Str → Option Value) (fa : Addr) (h : Heap), (K w.params).In h → h.Ns mainGlobals mg → mg d.name = some (.ref fa) →
      ∃ (g : Gh) (fd : FuncData), g.K = K w.params ∧ (∀ (s : Shared) (u : Value), BindsTo s fd ⟨[u], []⟩ [(x, u)]) ∧ ∀ base : Heap, (K w.params).In base → base.Ns mainGlobals mg → FnG g l.prog w g.K mg base k fa fd [x] sem)
    (hsem : ∀ ns : List Int, ns.length ≤ n → ∃ st', sem [.loc 0] [.ro ns] = .ok (.bl true) st') : PySem.W.WalkO q loose XP YP l.row.toRowW d [] (fun f vs => PySem.call f vs) := by
  refine Att.attach_call hn hdf fun w s₀ s₁ mg mb fa o pm cd doc a vs ns G Y ho hd hcd hmg hobj hints hlen hg => ?_
  have KX := hY w _ Y
  obtain ⟨g, fd, eK, hb, hF⟩ := F w mg fa _ KX G.T.g hmg
  exact law_g (g := g) (by rw [eK]; exact KX) G.T.g G.T.b G.T.builtins G.T.nolimit hg hobj hints (Nat.le_trans hlen hn2) hr (by rw [eK] at hF ⊢; exact hF) hb (hsem ns hlen)

/-! ### what is no longer reached, forgotten -/
mutual
def D.ren (θ : Nat → Nat) : D → D
  | .non => .non
  | .bl b => .bl b
  | .int i => .int i
  | .str s => .str s
  | .tup xs => .tup (D.rens θ xs)
  | .loc l => .loc (θ l)
def D.rens (θ : Nat → Nat) : List D → List D
  | [] => []
  | x :: xs => D.ren θ x :: D.rens θ xs
end
mutual
def D.under (n : Nat) : D → Bool
  | .tup xs => D.unders n xs
  | .loc l => decide (l < n)
  | _ => true
def D.unders (n : Nat) : List D → Bool
  | [] => true
  | x :: xs => D.under n x && D.unders n xs
end
def O.ren (θ : Nat → Nat) : O → O
  | .ro ns => .ro ns
  | .lst xs => .lst (D.rens θ xs)
  | .ins c fs => .ins c (fs.map fun p => (p.1, D.ren θ p.2))
  | .dic kvs => .dic (kvs.map fun p => (p.1, D.ren θ p.2))
  | .opq => .opq
def O.under (n : Nat) : O → Bool
  | .ro _ => true
  | .lst xs => D.unders n xs
  | .ins _ fs => fs.all fun p => D.under n p.2
  | .dic kvs => kvs.all fun p => D.under n p.2
  | .opq => true
section
variable {g : Gh} {K : PySem.W.Frag} {ρ : Nat → Addr} {n m : Nat} {H : Hp} {θ : Nat → Nat}
mutual
theorem VR.back : ∀ {d : D} {v : V}, D.under m d = true → VR K ρ n H (D.ren θ d) v → VR K (ρ ∘ θ) m H d v
  | .non, _, _, h => h
  | .bl _, _, _, h => h
  | .int _, _, _, h => h
  | .str _, _, _, h => h
  | .tup xs, v, u, h => by
    simp only [D.ren] at h
    unfold VR at h ⊢
    obtain ⟨a, ys, e, q, r⟩ := h
    exact ⟨a, ys, e, q, VRs.back (by simpa [D.under] using u) r⟩
  | .loc l, v, u, h => by
    simp only [D.ren] at h
    unfold VR at h ⊢
    exact ⟨by simpa [D.under] using u, h.2⟩
theorem VRs.back : ∀ {ds : List D} {vs : List V}, D.unders m ds = true → VRs K ρ n H (D.rens θ ds) vs → VRs K (ρ ∘ θ) m H ds vs
  | [], _, _, h => h
  | x :: xs, vs, u, h => by
    simp only [D.rens] at h
    unfold VRs at h ⊢
    obtain ⟨y, zs, e, r, rs⟩ := h
    have u' : D.under m x = true ∧ D.unders m xs = true := by simpa [D.unders] using u
    exact ⟨y, zs, e, VR.back u'.1 r, VRs.back u'.2 rs⟩
end
theorem FR.back : ∀ {fs : List (Nat × D)} {gs : List (Str × V)}, (fs.all fun p => D.under m p.2) = true → FR g ρ n H (fs.map fun p => (p.1, D.ren θ p.2)) gs → FR g (ρ ∘ θ) m H fs gs
  | [], _, _, h => h
  | (i, d) :: fs, _, u, h => by
    rw [List.all_cons, Bool.and_eq_true] at u
    obtain ⟨hi, v, hs, e, r, rs⟩ := h
    exact ⟨hi, v, hs, e, r.back u.1, FR.back u.2 rs⟩
theorem KR.back : ∀ {fs : List (Key × D)} {gs : List (Key × V)}, (fs.all fun p => D.under m p.2) = true → KR K ρ n H (fs.map fun p => (p.1, D.ren θ p.2)) gs → KR K (ρ ∘ θ) m H fs gs
  | [], _, _, h => h
  | (i, d) :: fs, _, u, h => by
    rw [List.all_cons, Bool.and_eq_true] at u
    obtain ⟨v, hs, e, r, rs⟩ := h
    exact ⟨v, hs, e, r.back u.1, KR.back u.2 rs⟩
theorem OR.back {a : Addr} {o : O} (u : O.under m o = true) (h : OR g ρ n H a (O.ren θ o)) : OR g (ρ ∘ θ) m H a o := by
  cases o with
  | ro ns => exact h
  | lst xs => obtain ⟨ys, e, r⟩ := h; exact ⟨ys, e, r.back u⟩
  | ins c fs => obtain ⟨hc, dx, gs, e, r⟩ := h; exact ⟨hc, dx, gs, e, r.back u⟩
  | dic kvs => obtain ⟨gs, e, r⟩ := h; exact ⟨gs, e, r.back u⟩
  | opq => exact h
theorem O.ren_mut {o : O} : (O.ren θ o).mut = o.mut := by cases o <;> rfl
/-- st2, v2 seen as st', v: the places that stay are θ's -/
structure Weak (st st2 st' : Store) (v2 v : D) (θ : Nat → Nat) : Prop where
  old : ∀ l, l < st.length → θ l = l
  len : st.length ≤ st'.length
  inj : ∀ l l', l < st'.length → l' < st'.length → θ l = θ l' → l = l'
  get : ∀ (l : Nat) (o : O), st'[l]? = some o → st2[θ l]? = some (O.ren θ o) ∧ O.under st'.length o = true
  new : ∀ l, st.length ≤ l → l < st'.length → st.length ≤ θ l
  val : v2 = D.ren θ v
  und : D.under st'.length v = true
theorem Weak.post {st st2 st' : Store} {v2 v : D} {H2 : Hp} {ρ2 : Nat → Addr} (W : Weak st st2 st' v2 v θ) (P : Post g ρ st H ρ2 st2 H2) : Post g ρ st H (ρ2 ∘ θ) st' H2 where
  rel := ⟨fun l o e => by
      obtain ⟨e1, e2⟩ := W.get l o e
      exact OR.back e2 (P.rel.obj _ _ e1), fun l l' a b q => by
      have lt : ∀ {j}, mutAt st' j → mutAt st2 (θ j) ∧ j < st'.length := fun {j} m => by
        obtain ⟨o, e, mo⟩ := m
        obtain ⟨e1, _⟩ := W.get j o e
        exact ⟨⟨_, e1, by rw [O.ren_mut]; exact mo⟩, lt_of_get e⟩
      exact W.inj l l' (lt a).2 (lt b).2 (P.rel.inj _ _ (lt a).1 (lt b).1 q)⟩
  len := W.len
  old := fun l hl => by
    show ρ2 (θ l) = ρ l
    rw [W.old l hl]
    exact P.old l hl
  keep := P.keep
  fresh := fun l h1 h2 => by
    obtain ⟨o, e⟩ := get_of_lt h2
    obtain ⟨e1, _⟩ := W.get l o e
    exact P.fresh (θ l) (W.new l h1 h2) (lt_of_get e1)
  kind := fun l o o' e e' => by
    obtain ⟨e1, _⟩ := W.get l o' e'
    rw [W.old l (lt_of_get e)] at e1
    rw [P.kind l o _ e e1, O.ren_mut]
/-- a def's reckoning where what is no longer reached is forgotten -/
theorem FnG.weak {P : Program} {w : World} {K : PySem.W.Frag} {mg : Str → Option Value} {base : Heap} {k : Nat} {f : Addr} {fd : FuncData} {ps : List Str} {sem sem' : SemF} (F : FnG g P w K mg base k f fd ps sem)
    (h : ∀ ds st v st', (∃ ρ H, Rel g ρ st H) → sem' ds st = .ok v st' → ∃ v2 st2 θ, sem ds st = .ok v2 st2 ∧ Weak st st2 st' v2 v θ) (hl : ∀ ds st v st', sem' ds st = .ok v st' → ds.length = ps.length) : FnG g P w K mg base k f fd ps sem' :=
  F.imp (fun vs H Q ⟨ρ, st, ds, v, st', Rl, r, e, q⟩ => by
    obtain ⟨v2, st2, θ, e2, W⟩ := h ds st v st' ⟨ρ, H, Rl⟩ e
    refine ⟨ρ, st, ds, v2, st2, Rl, r, e2, fun ρ' H' y P' r' => q _ H' y (W.post P') ?_⟩
    have ev := W.val
    rw [ev] at r'
    exact r'.back W.und) hl
end
end Ev

/-! Ev9: len of an own object; a def that is never called; the store's part that a def sees. -/
namespace Ev
open PySem L2
open PyProof.Rows hiding St

section
variable {g : Gh} {X : Cx} {k : Nat} {f : Addr} {fd : FuncData} {ps : List Str} {sem : SemF} {p pos : Pos} {e o : Expr} {fo : Ef}
def rLenO (g : Gh) (c : Nat) (sem : SemF) (xs : List V) (H : Hp) (Q : VK) : Prop := ∃ a dx gs, xs = [V.ref a] ∧ H a = some (.ins (g.cl c) dx gs) ∧ c < g.nc ∧ SpD g sem [.ref a] H (fun v H' => ∃ n : Int, v = .int n ∧ 0 ≤ n ∧ n < 2 ^ 62 ∧ Q (.int n) H')
theorem call_lenO (x : XG g X) (c : Nat) (M : Meth X.K (g.cl c) "__len__" f) (F : FnG g X.prog X.w X.K X.mg X.base k f fd ps sem) (hr : Room (k + 1) X.A) (hb : Binds X.K fd ps []) : CallR X (.builtin "len") (rLenO g c sem) := by
  intro pins s σ H xs us Q I r h
  obtain ⟨a, dx, gs, rfl, ea, hc, q⟩ := h
  obtain ⟨u, rfl, ru⟩ := vals1 r
  obtain rfl : u = Value.ref a := ru
  obtain ⟨mA, O, _, _, _, _⟩ := ins_get I.hok ea
  obtain ⟨od, J, _⟩ := O.look
  have hl : ([Value.ref a] ++ ([] : List Value)).length = ps.length := (show ([V.ref a] : List V).length = ps.length from F.lenV q)
  refine Calls.call_function_entry kind_len plain_len entry_len (args_len1 _) ?_
  unfold Builtin.«len»
  refine wpAny_bind (m := oneArg "len" _) (wpAny_pure ?_)
  refine wpAny_bind (m := callSpecial? (.ref a) (Str.ofString "__len__")) (PySem.W.special_fn I.kIn J M.at_ (beq_iff_eq.mp M.fn) ?_)
  refine wpAny_call (codeAny_mono (F.run X.A.in1 X.stack s H ⟨[.ref a], []⟩ [.ref a] [.ref a] _ hr.in1 x.hg I.env0.in1 (by have z := hb s [.ref a] I.kIn hl; rw [List.append_nil] at z; exact z) (.cons rfl .nil) q) fun rr s' hq => ?_)
  match rr, hq with
  | .ok (.ret u), hq =>
    obtain ⟨w, H', I3, rv, n, rfl, h0, h1, q3⟩ := I.after hq
    obtain ⟨t, rfl⟩ : ∃ t, u = .int n t := rv
    refine wpAny_bind (wpAny_holding (wpAny_pure ?_))
    refine wpAny_bind (wpAny_letGo ?_)
    show wpAny _ _ (if n < 0 then _ else _) _ _ _
    rw [if_neg (by omega)]
    show wpAny _ _ (if n ≥ 2 ^ 63 then _ else _) _ _ _
    rw [if_neg (by omega)]
    exact wpAny_bind (wpAny_mkInt (wpAny_pure ⟨_, rfl, .int n, H', I3.tok _, ⟨_, rfl⟩, q3⟩))
  | .ok .next, hq => exact hq.elim
  | .ok .brk, hq => exact hq.elim
  | .ok .cont, hq => exact hq.elim
  | .error _, hq => exact hq.elim
def lenOF (c : Nat) (sem : SemF) : FA := fun ds st => match ds with
  | [d] => if isC c d st = true then (sem [d] st).bind fun v s => match v with | .int n => if 0 ≤ n ∧ n < 2 ^ 62 then .ok (.int n) s else .bad | _ => .bad else .bad
  | _ => .bad
theorem o_lenO (c : Nat) : OpA g (rLenO g c sem) (lenOF c sem) := fun ρ st H ds vs v st' Q Rl r h k => by
  unfold lenOF at h
  split at h
  · rename_i d
    split at h
    · rename_i hC
      obtain ⟨y, rfl, r1⟩ := vrs1 r
      obtain ⟨w, s2, e1, h⟩ := R.bind_eq h
      obtain ⟨l, dx, gs, fs, rfl, rfl, e3, hc, rf⟩ := isC_ok Rl r1 hC
      cases w with
      | int n =>
        simp only at h
        split at h
        · rename_i hn
          cases h
          refine ⟨ρ l, dx, gs, rfl, e3, hc, ρ, st, _, _, _, Rl, r, e1, fun ρ' H' z P rz => ?_⟩
          simp only [VR] at rz
          exact ⟨n, rz, hn.1, hn.2, k ρ' H' _ P (by simp [VR])⟩
        · cases h
      | _ => cases h
    · cases h
  · cases h
theorem e_lenO (x : XG g X) (c : Nat) (ho : EV g X o fo) (M : Meth X.K (g.cl c) "__len__" f) (F : FnG g X.prog X.w X.K X.mg X.base k f fd ps sem) (hr : Room (k + 1) X.A) (hb : Binds X.K fd ps []) (hg : Gl X "len" := by rfl) (he : starEach [o] X.env = (false, eval o X.env) :: starEach [] X.env := by rfl) :
    EV g X (.Call (.Name "len" p) [o] [] pos) (eCall (lenOF c sem) (aCons fo aNil)) := e_callB (call_lenO x c M F hr hb) (o_lenO c) (x.mg "len") (a_cons ho a_nil he) hg (by decide +kernel) (by decide) (by decide) he rfl
end

section
variable {g : Gh} {P : Program} {w : World} {K : PySem.W.Frag} {mg : Str → Option Value} {base : Heap} {k : Nat} {f : Addr} {fd : FuncData} {ps : List Str} {sem : SemF}
theorem FnG.no : FnG g P w K mg base k f fd ps (fun _ _ => .bad) := ⟨fun _ _ _ _ h => (R.no h).elim, fun _ _ _ _ _ _ _ _ _ _ _ _ _ ⟨_, _, _, _, _, _, _, e, _⟩ => (R.no e).elim⟩
end
end Ev

/-! Ev10: a def seen within a part of the store; what repr tells, its bounds. -/
namespace Ev
open PySem L2
open PyProof.Rows hiding St

section
variable {g : Gh} {K : PySem.W.Frag} {ρ ρ1 : Nat → Addr} {n m n1 : Nat} {H H' : Hp} {θ : Nat → Nat}
mutual
theorem VR.fwd (hρ : ∀ i, i < m → ρ1 i = ρ (θ i) ∧ θ i < n) : ∀ {d : D} {v : V}, D.under m d = true → VR K ρ1 n1 H d v → VR K ρ n H (D.ren θ d) v
  | .non, _, _, h => h
  | .bl _, _, _, h => h
  | .int _, _, _, h => h
  | .str _, _, _, h => h
  | .tup xs, v, u, h => by
    simp only [D.ren]
    unfold VR at h ⊢
    obtain ⟨a, ys, e, q, r⟩ := h
    exact ⟨a, ys, e, q, VRs.fwd hρ (by simpa [D.under] using u) r⟩
  | .loc l, v, u, h => by
    simp only [D.ren]
    unfold VR at h ⊢
    obtain ⟨e1, e2⟩ := hρ l (by simpa [D.under] using u)
    exact ⟨e2, by rw [← e1]; exact h.2⟩
theorem VRs.fwd (hρ : ∀ i, i < m → ρ1 i = ρ (θ i) ∧ θ i < n) : ∀ {ds : List D} {vs : List V}, D.unders m ds = true → VRs K ρ1 n1 H ds vs → VRs K ρ n H (D.rens θ ds) vs
  | [], _, _, h => h
  | x :: xs, vs, u, h => by
    simp only [D.rens]
    unfold VRs at h ⊢
    obtain ⟨y, zs, e, r, rs⟩ := h
    have u' : D.under m x = true ∧ D.unders m xs = true := by simpa [D.unders] using u
    exact ⟨y, zs, e, VR.fwd hρ u'.1 r, VRs.fwd hρ u'.2 rs⟩
end
theorem FR.fwd (hρ : ∀ i, i < m → ρ1 i = ρ (θ i) ∧ θ i < n) : ∀ {fs : List (Nat × D)} {gs : List (Str × V)}, (fs.all fun p => D.under m p.2) = true → FR g ρ1 n1 H fs gs → FR g ρ n H (fs.map fun p => (p.1, D.ren θ p.2)) gs
  | [], _, _, h => h
  | (i, d) :: fs, _, u, h => by
    rw [List.all_cons, Bool.and_eq_true] at u
    obtain ⟨hi, v, hs, e, r, rs⟩ := h
    exact ⟨hi, v, hs, e, r.fwd hρ u.1, FR.fwd hρ u.2 rs⟩
theorem KR.fwd (hρ : ∀ i, i < m → ρ1 i = ρ (θ i) ∧ θ i < n) : ∀ {fs : List (Key × D)} {gs : List (Key × V)}, (fs.all fun p => D.under m p.2) = true → KR K ρ1 n1 H fs gs → KR K ρ n H (fs.map fun p => (p.1, D.ren θ p.2)) gs
  | [], _, _, h => h
  | (i, d) :: fs, _, u, h => by
    rw [List.all_cons, Bool.and_eq_true] at u
    obtain ⟨v, hs, e, r, rs⟩ := h
    exact ⟨v, hs, e, r.fwd hρ u.1, KR.fwd hρ u.2 rs⟩
theorem OR.fwd {a : Addr} {o : O} (hρ : ∀ i, i < m → ρ1 i = ρ (θ i) ∧ θ i < n) (u : O.under m o = true) (h : OR g ρ1 n1 H a o) : OR g ρ n H a (O.ren θ o) := by
  cases o with
  | ro ns => exact h
  | lst xs => obtain ⟨ys, e, r⟩ := h; exact ⟨ys, e, r.fwd hρ u⟩
  | ins c fs => obtain ⟨hc, dx, gs, e, r⟩ := h; exact ⟨hc, dx, gs, e, r.fwd hρ u⟩
  | dic kvs => obtain ⟨gs, e, r⟩ := h; exact ⟨gs, e, r.fwd hρ u⟩
  | opq => exact h
/-- a part of the store, what is done in it put back -/
structure Part (st st' sub sub' : Store) (v0 v : D) (θ : Nat → Nat) : Prop where
  inj : ∀ i j, i < sub.length → j < sub.length → θ i = θ j → i = j
  get : ∀ (i : Nat) (o : O), sub[i]? = some o → st[θ i]? = some (o.ren θ) ∧ o.under sub.length = true
  put : ∀ (i : Nat) (o : O), i < sub.length → sub'[i]? = some o → st'[θ i]? = some (o.ren θ) ∧ o.under sub.length = true
  rest : ∀ l, (∀ i, i < sub.length → θ i ≠ l) → st'[l]? = st[l]?
  len : st'.length = st.length
  val : v = D.ren θ v0
  und : D.under sub.length v0 = true
theorem Part.rel {st st' sub sub' : Store} {v0 v : D} (W : Part st st' sub sub' v0 v θ) (Rl : Rel g ρ st H) : Rel g (ρ ∘ θ) sub H :=
  ⟨fun i o e => by
    obtain ⟨e1, e2⟩ := W.get i o e
    exact OR.back e2 (Rl.obj _ _ e1), fun i j a b q => by
    have lt : ∀ {j}, mutAt sub j → mutAt st (θ j) ∧ j < sub.length := fun {j} m => by
      obtain ⟨o, e, mo⟩ := m
      obtain ⟨e1, _⟩ := W.get j o e
      exact ⟨⟨_, e1, by rw [O.ren_mut]; exact mo⟩, lt_of_get e⟩
    exact W.inj i j (lt a).2 (lt b).2 (Rl.inj _ _ (lt a).1 (lt b).1 q)⟩
theorem Part.post {st st' sub sub' : Store} {v0 v : D} (W : Part st st' sub sub' v0 v θ) (Rl : Rel g ρ st H) (P : Post g (ρ ∘ θ) sub H ρ1 sub' H') : Post g ρ st H ρ st' H' := by
  have ht : ∀ i, i < sub.length → ρ1 i = ρ (θ i) ∧ θ i < st'.length := fun i hi => by
    obtain ⟨o, e⟩ := get_of_lt hi
    exact ⟨P.old i hi, by rw [W.len]; exact lt_of_get (W.get i o e).1⟩
  have mu : ∀ {i}, mutAt sub i → mutAt st (θ i) := fun {i} m => by
    obtain ⟨o, e, mo⟩ := m
    exact ⟨_, (W.get i o e).1, by rw [O.ren_mut]; exact mo⟩
  have tk : TK g.K H H' := P.tk (W.rel Rl)
  have kd : ∀ (l : Nat) (o o' : O), st[l]? = some o → st'[l]? = some o' → o.mut = o'.mut := fun l o o' e e' => by
    by_cases hl : ∃ i, i < sub.length ∧ θ i = l
    · obtain ⟨i, hi, rfl⟩ := hl
      obtain ⟨o1, e1⟩ := get_of_lt hi
      obtain ⟨o2, e2⟩ := get_of_lt (Nat.lt_of_lt_of_le hi P.len)
      rw [(W.get i o1 e1).1] at e
      rw [(W.put i o2 hi e2).1] at e'
      cases e
      cases e'
      rw [O.ren_mut, O.ren_mut]
      exact P.kind i o1 o2 e1 e2
    · rw [W.rest l (fun i hi q => hl ⟨i, hi, q⟩), e] at e'
      cases e'
      rfl
  have mb : ∀ {l}, mutAt st' l → mutAt st l := fun {l} m => by
    obtain ⟨o', e', mo⟩ := m
    have hl := lt_of_get e'
    rw [W.len] at hl
    obtain ⟨o, e⟩ := get_of_lt hl
    exact ⟨o, e, by rw [kd l o o' e e']; exact mo⟩
  refine ⟨⟨fun l o' e' => ?_, fun l l' a b q => Rl.inj l l' (mb a) (mb b) q⟩, Nat.le_of_eq W.len.symm, fun _ _ => rfl, fun b o e nm => P.keep b o e fun i mi => nm (θ i) (mu mi), fun l h1 h2 => absurd h2 (by rw [W.len]; omega), kd⟩
  by_cases hl : ∃ i, i < sub.length ∧ θ i = l
  · obtain ⟨i, hi, rfl⟩ := hl
    obtain ⟨o2, e2⟩ := get_of_lt (Nat.lt_of_lt_of_le hi P.len)
    obtain ⟨z1, z2⟩ := W.put i o2 hi e2
    rw [z1] at e'
    cases e'
    have q := P.rel.obj i o2 e2
    rw [(ht i hi).1] at q
    exact OR.fwd ht z2 q
  · have e := e'
    rw [W.rest l (fun i hi q => hl ⟨i, hi, q⟩)] at e
    have q := Rl.obj l o' e
    have kp : ∀ u, H (ρ l) = some u → o'.mut = true → H' (ρ l) = some u := fun u eu mo => P.keep _ _ eu fun i mi z => by
      have ll := Rl.inj _ _ (mu mi) ⟨o', e, mo⟩ z
      obtain ⟨oi, ei, _⟩ := mi
      exact hl ⟨i, lt_of_get ei, ll⟩
    rw [W.len]
    have old : ∀ j, j < st.length → ρ j = ρ j := fun _ _ => rfl
    cases o' with
    | ro ns => exact RoL.of (K := g.K) (H := H) (H' := H') (fun b u eb mb' => P.keepN (W.rel Rl) eb mb') (show RoL g.K H (ρ l) (ns.map V.int) from q)
    | lst xs =>
      obtain ⟨ys, e1, r⟩ := q
      exact ⟨ys, kp _ e1 rfl, r.mono old (Nat.le_refl _) tk⟩
    | ins c fs =>
      obtain ⟨hc, dx, gs, e1, r⟩ := q
      exact ⟨hc, dx, gs, kp _ e1 rfl, r.mono old (Nat.le_refl _) tk⟩
    | dic kvs =>
      obtain ⟨gs, e1, r⟩ := q
      exact ⟨gs, kp _ e1 rfl, r.mono old (Nat.le_refl _) tk⟩
    | opq =>
      obtain ⟨φ, e1⟩ := q
      exact ⟨φ, kp _ e1 rfl⟩
/-- a def's reckoning, seen within a part of the store -/
theorem FnG.part {P : Program} {w : World} {mg : Str → Option Value} {base : Heap} {k : Nat} {f : Addr} {fd : FuncData} {ps : List Str} {sem sem' : SemF} (F : FnG g P w K mg base k f fd ps sem)
    (h : ∀ ds st v st', sem' ds st = .ok v st' → ∃ sub θ ds0 v0 sub', sem ds0 sub = .ok v0 sub' ∧ ds = D.rens θ ds0 ∧ D.unders sub.length ds0 = true ∧ Part st st' sub sub' v0 v θ) (hl : ∀ ds st v st', sem' ds st = .ok v st' → ds.length = ps.length) : FnG g P w K mg base k f fd ps sem' :=
  F.imp (fun vs H Q ⟨ρ, st, ds, v, st', Rl, r, e, q⟩ => by
    obtain ⟨sub, θ, ds0, v0, sub', e2, rfl, u, W⟩ := h ds st v st' e
    refine ⟨ρ ∘ θ, sub, ds0, v0, sub', W.rel Rl, VRs.back u r, e2, fun ρ' H' y P' r' => q ρ H' y (W.post Rl P') ?_⟩
    have ev := W.val
    subst ev
    refine r'.fwd (fun i hi => ?_) W.und
    obtain ⟨o, eo⟩ := get_of_lt hi
    exact ⟨P'.old i hi, by rw [W.len]; exact lt_of_get (W.get i o eo).1⟩) hl
end

/-! ### values without places -/
mutual
def D.flat : D → Bool
  | .tup xs => D.flats xs
  | .loc _ => false
  | _ => true
def D.flats : List D → Bool
  | [] => true
  | x :: xs => D.flat x && D.flats xs
end
mutual
theorem D.flat_ren {θ : Nat → Nat} : ∀ {d : D}, d.flat = true → d.ren θ = d
  | .non, _ => rfl
  | .bl _, _ => rfl
  | .int _, _ => rfl
  | .str _, _ => rfl
  | .tup xs, h => by
    simp only [D.ren]
    rw [D.flats_ren (by simpa [D.flat] using h)]
  | .loc l, h => by simp [D.flat] at h
theorem D.flats_ren {θ : Nat → Nat} : ∀ {ds : List D}, D.flats ds = true → D.rens θ ds = ds
  | [], _ => rfl
  | x :: xs, h => by
    have h' : D.flat x = true ∧ D.flats xs = true := by simpa [D.flats] using h
    simp only [D.rens]
    rw [D.flat_ren h'.1, D.flats_ren h'.2]
end
mutual
theorem D.flat_under {n : Nat} : ∀ {d : D}, d.flat = true → d.under n = true
  | .non, _ => rfl
  | .bl _, _ => rfl
  | .int _, _ => rfl
  | .str _, _ => rfl
  | .tup xs, h => by
    simp only [D.under]
    exact D.flats_under (by simpa [D.flat] using h)
  | .loc l, h => by simp [D.flat] at h
theorem D.flats_under {n : Nat} : ∀ {ds : List D}, D.flats ds = true → D.unders n ds = true
  | [], _ => rfl
  | x :: xs, h => by
    have h' : D.flat x = true ∧ D.flats xs = true := by simpa [D.flats] using h
    simp only [D.unders, Bool.and_eq_true]
    exact ⟨D.flat_under h'.1, D.flats_under h'.2⟩
end
/-- no place is handed in, none comes back: seen in the empty store -/
def frame0 (sem : SemF) : SemF := fun ds st => if D.flats ds = true then match sem ds [] with
  | .ok v _ => if v.flat = true then .ok v st else .bad
  | .bad => .bad
  else .bad
/-- a list without places is handed in first -/
def frame1 (sem : SemF) : SemF := fun ds st => match ds with
  | .loc l :: ds => if D.flats ds = true then match st[l]? with
    | some (.lst xs) => if D.flats xs = true then match sem (.loc 0 :: ds) [.lst xs] with
      | .ok v (.lst ys :: _) => if v.flat = true ∧ D.flats ys = true then .ok v (st.set l (.lst ys)) else .bad
      | _ => .bad
      else .bad
    | _ => .bad
    else .bad
  | _ => .bad
section
variable {g : Gh} {K : PySem.W.Frag} {P : Program} {w : World} {mg : Str → Option Value} {base : Heap} {k : Nat} {f : Addr} {fd : FuncData} {ps : List Str} {sem : SemF}
theorem FnG.frame0 (F : FnG g P w K mg base k f fd ps sem) : FnG g P w K mg base k f fd ps (frame0 sem) := by
  have key : ∀ ds st v st', Ev.frame0 sem ds st = .ok v st' → D.flats ds = true ∧ v.flat = true ∧ st' = st ∧ ∃ s2, sem ds [] = .ok v s2 := fun ds st v st' h => by
    unfold Ev.frame0 at h
    split at h
    · rename_i hd
      split at h
      · rename_i v0 s2 e
        split at h
        · rename_i hv
          cases h
          exact ⟨hd, hv, rfl, s2, e⟩
        · cases h
      · cases h
    · cases h
  refine F.part (fun ds st v st' h => ?_) fun ds st v st' h => ?_
  · obtain ⟨hd, hv, rfl, s2, e⟩ := key _ _ _ _ h
    exact ⟨[], id, ds, v, s2, e, (D.flats_ren hd).symm, D.flats_under hd, ⟨fun i j hi => absurd hi (Nat.not_lt_zero _), fun i o e => by simp at e, fun i o hi => absurd hi (Nat.not_lt_zero _), fun l _ => rfl, rfl, (D.flat_ren hv).symm, D.flat_under hv⟩⟩
  · obtain ⟨hd, hv, rfl, s2, e⟩ := key _ _ _ _ h
    exact F.len _ _ _ _ e
theorem FnG.frame1 (F : FnG g P w K mg base k f fd ps sem) : FnG g P w K mg base k f fd ps (frame1 sem) := by
  have key : ∀ ds st v st', Ev.frame1 sem ds st = .ok v st' → ∃ l ds' xs ys s2, ds = .loc l :: ds' ∧ D.flats ds' = true ∧ st[l]? = some (.lst xs) ∧ D.flats xs = true ∧ sem (.loc 0 :: ds') [.lst xs] = .ok v (.lst ys :: s2) ∧ v.flat = true ∧ D.flats ys = true ∧ st' = st.set l (.lst ys) := fun ds st v st' h => by
    unfold Ev.frame1 at h
    split at h
    · rename_i l ds'
      split at h
      · rename_i hd
        split at h
        · rename_i xs e0
          split at h
          · rename_i hx
            split at h
            · rename_i v0 ys s2 e
              split at h
              · rename_i hv
                cases h
                exact ⟨l, ds', xs, ys, s2, rfl, hd, e0, hx, e, hv.1, hv.2, rfl⟩
              · cases h
            · cases h
          · cases h
        · cases h
      · cases h
    · cases h
  refine F.part (fun ds st v st' h => ?_) fun ds st v st' h => ?_
  · obtain ⟨l, ds', xs, ys, s2, rfl, hd, e0, hx, e, hv, hy, rfl⟩ := key _ _ _ _ h
    have one : ∀ i, i < ([O.lst xs] : Store).length → i = 0 := fun i hi => by simp at hi; exact hi
    have rl : ∀ {zs : List D}, D.flats zs = true → O.ren (fun _ => l) (.lst zs) = .lst zs := fun {zs} hz => by
      show O.lst (D.rens _ zs) = _
      rw [D.flats_ren hz]
    refine ⟨[.lst xs], fun _ => l, .loc 0 :: ds', v, .lst ys :: s2, e, ?_, ?_, ⟨fun i j hi hj _ => by rw [one i hi, one j hj], fun i o eo => ?_, fun i o hi eo => ?_, fun j hj => ?_, by simp, (D.flat_ren hv).symm, D.flat_under hv⟩⟩
    · simp only [D.rens, D.ren]
      rw [D.flats_ren hd]
    · simp only [D.unders, D.under, Bool.and_eq_true]
      exact ⟨by simp, D.flats_under hd⟩
    · cases i with
      | zero =>
        simp at eo
        subst eo
        exact ⟨by rw [rl hx]; exact e0, D.flats_under hx⟩
      | succ i => simp at eo
    · rw [one i hi] at eo
      simp at eo
      subst eo
      exact ⟨by rw [rl hy, List.getElem?_set_self (lt_of_get e0)], D.flats_under hy⟩
    · rw [List.getElem?_set_ne]
      exact hj 0 (by simp)
  · obtain ⟨l, ds', xs, ys, s2, rfl, hd, e0, hx, e, hv, hy, rfl⟩ := key _ _ _ _ h
    have z := F.len _ _ _ _ e
    simpa using z
end

/-! ### what repr tells -/
mutual
def D.dat : D → PyData
  | .non => .none
  | .bl b => .bool b
  | .int i => .int i
  | .str s => .str s
  | .tup xs => .tuple (D.dats xs)
  | .loc _ => .none
def D.dats : List D → List PyData
  | [] => []
  | x :: xs => D.dat x :: D.dats xs
end
mutual
theorem pdW_flat {f : Nat → Option (List PyData)} : ∀ {d : D}, d.flat = true → pdW f d = some d.dat
  | .non, _ => rfl
  | .bl _, _ => rfl
  | .int _, _ => rfl
  | .str _, _ => rfl
  | .tup xs, h => by
    simp only [pdW, D.dat]
    rw [pdWs_flat (by simpa [D.flat] using h)]
    rfl
  | .loc l, h => by simp [D.flat] at h
theorem pdWs_flat {f : Nat → Option (List PyData)} : ∀ {ds : List D}, D.flats ds = true → pdWs f ds = some (D.dats ds)
  | [], _ => rfl
  | x :: xs, h => by
    have h' : D.flat x = true ∧ D.flats xs = true := by simpa [D.flats] using h
    simp only [pdWs, D.dats]
    rw [pdW_flat h'.1, pdWs_flat h'.2]
    rfl
end
/-- a value that == and repr go through: how deep, how long -/
structure Rp (n c : Nat) (p : PyData) : Prop where
  sh : p.showable = true
  lay : p.canLay0 = true
  dep : p.depth ≤ n
  len : p.shown.length ≤ c
structure Rps (n c : Nat) (ps : List PyData) : Prop where
  sh : PyData.showableAll ps = true
  lay : PyData.canLayAll0 ps = true
  dep : PyData.depthAll ps ≤ n
  len : piled (PyData.shownAll ps) ≤ c
theorem Rps.nil {n c : Nat} : Rps n c [] := ⟨rfl, rfl, Nat.zero_le _, Nat.zero_le _⟩
theorem Rps.cons {n c1 c2 c : Nat} {p : PyData} {ps : List PyData} (h : Rp n c1 p) (hs : Rps n c2 ps) (hc : c1 + 2 + c2 ≤ c := by decide) : Rps n c (p :: ps) :=
  ⟨by simp only [PyData.showableAll, Bool.and_eq_true]; exact ⟨h.sh, hs.sh⟩, by simp only [PyData.canLayAll0, Bool.and_eq_true]; exact ⟨h.lay, hs.lay⟩,
    by simp only [PyData.depthAll]; exact Nat.max_le.mpr ⟨h.dep, hs.dep⟩, by
    have := h.len
    have := hs.len
    simp only [PyData.shownAll]
    rw [piled_cons]
    omega⟩
theorem Rp.shaped {n c : Nat} {p : PyData} (h : Rp n c p) (hn : n ≤ 64) : SeqAt.shaped p = true := by
  unfold SeqAt.shaped
  rw [h.lay, Bool.true_and]
  exact decide_eq_true (Nat.le_trans h.dep hn)
theorem Rp.mono {n m c d : Nat} {p : PyData} (h : Rp n c p) (hn : n ≤ m := by decide) (hc : c ≤ d := by decide) : Rp m d p := ⟨h.sh, h.lay, Nat.le_trans h.dep hn, Nat.le_trans h.len hc⟩
theorem piled_sum (ts : List Str) : piled ts = (ts.map (·.length)).sum + 2 * ts.length := by
  induction ts with
  | nil => rfl
  | cons t ts ih => rw [piled_cons, ih, List.map_cons, List.sum_cons, List.length_cons]; omega
theorem Rps.lst {n c m d : Nat} {ps : List PyData} (h : Rps n c ps) (hn : n + 1 ≤ m := by decide) (hc : c + 3 ≤ d := by decide) : Rp m d (.list ps) :=
  ⟨by simp only [PyData.showable]; exact h.sh, by simp only [PyData.canLay0]; exact h.lay, by simp only [PyData.depth]; have := h.dep; omega, by
    have q := listText_len_le (PyData.shownAll ps)
    have := h.len
    rw [← piled_sum] at q
    simp only [PyData.shown]
    omega⟩
theorem Rps.tup {n c m d : Nat} {ps : List PyData} (h : Rps n c ps) (hn : n + 1 ≤ m := by decide) (hc : c + 3 ≤ d := by decide) : Rp m d (.tuple ps) :=
  ⟨by simp only [PyData.showable]; exact h.sh, by simp only [PyData.canLay0]; exact h.lay, by simp only [PyData.depth]; have := h.dep; omega, by
    have q := tupleText_len_le (PyData.shownAll ps)
    have := h.len
    rw [← piled_sum] at q
    simp only [PyData.shown]
    omega⟩
theorem Rp.non {n c : Nat} (hc : 4 ≤ c := by decide) : Rp n c .none := ⟨rfl, rfl, Nat.zero_le _, Nat.le_trans (by decide +kernel) hc⟩
theorem Rp.bl {n c : Nat} {b : Bool} (hc : 5 ≤ c := by decide) : Rp n c (.bool b) := ⟨rfl, rfl, Nat.zero_le _, Nat.le_trans (by cases b <;> decide +kernel) hc⟩
theorem Rps.nil' {n : Nat} : Rps n 0 [] := .nil
theorem Rps.cons' {n c1 c2 : Nat} {p : PyData} {ps : List PyData} (h : Rp n c1 p) (hs : Rps n c2 ps) : Rps n (c1 + 2 + c2) (p :: ps) := Rps.cons h hs (Nat.le_refl _)
theorem Rps.lst' {n c : Nat} {ps : List PyData} (h : Rps n c ps) : Rp (n + 1) (c + 3) (.list ps) := h.lst (Nat.le_refl _) (Nat.le_refl _)
theorem Rps.tup' {n c : Nat} {ps : List PyData} (h : Rps n c ps) : Rp (n + 1) (c + 3) (.tuple ps) := h.tup (Nat.le_refl _) (Nat.le_refl _)
theorem Rp.non' {n : Nat} : Rp n 4 .none := Rp.non
theorem Rp.bl' {n : Nat} {b : Bool} : Rp n 5 (.bool b) := Rp.bl
theorem Rp.str' {n : Nat} {z : Str} (h : (PyData.strOk z && decide ((reprText z).length ≤ 40)) = true := by decide +kernel) : Rp n 40 (.str z) := by
  rw [Bool.and_eq_true] at h
  exact ⟨rfl, h.1, Nat.zero_le _, of_decide_eq_true h.2⟩
theorem Rp.int' {n : Nat} {i : Int} (h : (decide (i.natAbs.log2 < 1920) && decide ((PyData.shown (.int i)).length ≤ 20)) = true := by decide +kernel) : Rp n 20 (.int i) := by
  rw [Bool.and_eq_true] at h
  exact ⟨by simpa [PyData.showable] using h.1, rfl, Nat.zero_le _, of_decide_eq_true h.2⟩
theorem reprP_ok' {c : Nat} {p : PyData} {st : Store} (h : Rp 12 c p) (hc : c ≤ 16777216) : reprP (some p) st = .ok (.str p.shown) st := by
  have hz : sizeLine = 16777216 := by decide
  exact if_pos ⟨h.sh, h.shaped (by decide), Nat.le_trans h.len (by rw [hz]; exact hc)⟩
theorem reprP_ok {n c : Nat} {p : PyData} {st : Store} (h : Rp n c p) (hn : n ≤ 64 := by decide) (hc : c ≤ 16777216 := by decide) : reprP (some p) st = .ok (.str p.shown) st := by
  have hz : sizeLine = 16777216 := by decide
  exact if_pos ⟨h.sh, h.shaped hn, Nat.le_trans h.len (by rw [hz]; exact hc)⟩
/-- a comprehension whose items change nothing -/
theorem compF_map {gf : Gf} {tf : Tf} {ef : Ef} {env : EEnv} {st : Store} (f : D → D) : ∀ (ds : List D), (∀ d ∈ ds, ∃ e, gf d env st = .ok e st ∧ tf e st = .ok true st ∧ ef e st = .ok (f d) st) → compF [] gf tf ef env ds st = .ok (ds.map f) st
  | [], _ => rfl
  | d :: ds, h => by
    obtain ⟨e, h1, h2, h3⟩ := h d (List.mem_cons_self ..)
    unfold compF
    rw [if_pos (wOk_nil st), h1, R.bind_ok, h2, R.bind_ok, if_pos rfl, h3, R.bind_ok, compF_map f ds (fun d' m => h d' (List.mem_cons_of_mem _ m)), R.bind_ok]
    rfl
theorem R.bind_congr {A B : Type} {r r' : R A} {f : A → Store → R B} (h : r = r') : r.bind f = r'.bind f := by rw [h]
theorem sR_congr {A : Type} {r r' : R A} {f : A → Store → RS} (h : r = r') : sR r f = sR r' f := by rw [h]
@[simp] theorem sR_ok' {A : Type} {a : A} {s : Store} {f : A → Store → RS} : sR (.ok a s) f = f a s := rfl
theorem RS.then_congr {r r' : RS} {f : Sf} (h : r = r') : r.then f = r'.then f := by rw [h]
@[simp] theorem RS.then_nx {e : EEnv} {s : Store} {f : Sf} : (RS.nx e s).then f = f e s := rfl
@[simp] theorem RS.then_rt {d : D} {s : Store} {f : Sf} : (RS.rt d s).then f = .rt d s := rfl
@[simp] theorem RS.then_bk {e : EEnv} {s : Store} {f : Sf} : (RS.bk e s).then f = .bk e s := rfl
@[simp] theorem RS.then_ct {e : EEnv} {s : Store} {f : Sf} : (RS.ct e s).then f = .ct e s := rfl
theorem RS.loop_congr {r r' : RS} {f : Sf} (h : r = r') : r.loop f = r'.loop f := by rw [h]
@[simp] theorem RS.loop_nx {e : EEnv} {s : Store} {f : Sf} : (RS.nx e s).loop f = f e s := rfl
@[simp] theorem RS.loop_ct {e : EEnv} {s : Store} {f : Sf} : (RS.ct e s).loop f = f e s := rfl
@[simp] theorem RS.loop_bk {e : EEnv} {s : Store} {f : Sf} : (RS.bk e s).loop f = .nx e s := rfl
@[simp] theorem RS.loop_rt {d : D} {s : Store} {f : Sf} : (RS.rt d s).loop f = .rt d s := rfl
end Ev

/-! Ev11: how simp reckons: each word's equation, what comes behind it a word of its own (so nothing is looked at ahead of its time). -/
namespace Ev
open PySem L2
open PyProof.Rows hiding St
theorem toNat_inj {a b : Char} (h : a.toNat = b.toNat) : a = b := Char.ext (UInt32.toNat_inj.mp h)
theorem ofStr_list : ∀ {a b : List Char}, a.map Char.toNat = b.map Char.toNat → a = b
  | [], [], _ => rfl
  | [], _ :: _, h => by cases h
  | _ :: _, [], h => by cases h
  | x :: xs, y :: ys, h => by
    rw [List.map_cons, List.map_cons] at h
    injection h with h1 h2
    rw [toNat_inj h1, ofStr_list h2]
@[simp] theorem ofStr_inj {a b : String} : (Str.ofString a = Str.ofString b) = (a = b) := by
  apply propext
  constructor
  · intro h
    rw [Str.ofString_eq_toList, Str.ofString_eq_toList] at h
    injection h with h
    have h2 := congrArg Array.toList h
    simp only at h2
    exact String.toList_inj.mp (ofStr_list h2)
  · intro h
    rw [h]
@[simp] theorem ofStr_beq {a b : String} : (Str.ofString a == Str.ofString b) = decide (a = b) := by
  rw [show (Str.ofString a == Str.ofString b) = decide (Str.ofString a = Str.ofString b) from rfl]
  simp
theorem szL : sizeLine = 16777216 := by decide
section
variable {env : EEnv} {st s s1 : Store} {f fa fb fc fo h : Ef} {t u : Af} {p q : Tf} {d x y : D} {ds xs ys : List D} {l i j n : Nat} {k m : Int} {b neg : Bool} {F : F2} {G : F2} {FM' : F2M} {mf : Mf}
-- names, constants
def okV (o : Option (Option D)) (s : Store) : R D := match o with | some (some d) => .ok d s | _ => .bad
@[simp] theorem ev_eVar : eVar i env st = okV (env[i]?) st := rfl
@[simp] theorem ev_okV : okV (some (some d)) st = .ok d st := rfl
@[simp] theorem ev_eC : eC d env st = .ok d st := rfl
-- two operands
def kBin (F : F2) (fb : Ef) (env : EEnv) (x : D) (s : Store) : R D := (fb env s).bind (F x)
@[simp] theorem ev_eBin : eBin F fa fb env st = (fa env st).bind (kBin F fb env) := rfl
@[simp] theorem ev_kBin : kBin F fb env x s = (fb env s).bind (F x) := rfl
def kMBin (F : F2M) (fb : Ef) (env : EEnv) (x : D) (s : Store) : R Mv := (fb env s).bind (F x)
@[simp] theorem ev_mBin : mBin FM' fa fb env st = (fa env st).bind (kMBin FM' fb env) := rfl
@[simp] theorem ev_kMBin : kMBin FM' fb env x s = (fb env s).bind (FM' x) := rfl
@[simp] theorem ev_sub : subF (.int k) (.int m) st = .ok (.int (k - m)) st := rfl
@[simp] theorem ev_mod : modF (.int k) (.int m) st = if 0 < m then .ok (.int (k % m)) st else .bad := by simp [modF, iF]
@[simp] theorem ev_fdiv : fdivF (.int k) (.int m) st = if 0 < m ∧ m < 1073741824 then .ok (.int (k / m)) st else .bad := by simp [fdivF, iF]
@[simp] theorem ev_shl : shlF (.int k) (.int m) st = if (0 ≤ m ∧ m ≤ 1000000) ∧ k.natAbs < 2 ^ 64 then .ok (.int (k * 2 ^ m.toNat)) st else .bad := by simp [shlF, iF]
@[simp] theorem ev_shr : shrF (.int k) (.int m) st = if 0 ≤ m then .ok (.int (k / 2 ^ m.toNat)) st else .bad := by simp [shrF, iF]
theorem ev_pow : powF (.int k) (.int m) st = if powOk k m = true then .ok (.int (k ^ m.toNat)) st else .bad := rfl
@[simp] theorem ev_lt : ltF (.int k) (.int m) st = .ok (.bl (decide (k < m))) st := rfl
@[simp] theorem ev_le : leF (.int k) (.int m) st = .ok (.bl (decide (k ≤ m))) st := rfl
@[simp] theorem ev_gt : gtF (.int k) (.int m) st = .ok (.bl (decide (m < k))) st := rfl
@[simp] theorem ev_ge : geF (.int k) (.int m) st = .ok (.bl (decide (m ≤ k))) st := rfl
@[simp] theorem ev_addI : addM (.int k) (.int m) st = .ok (.v (.int (k + m))) st := rfl
@[simp] theorem ev_addT : addM (.tup xs) (.tup ys) st = if xs.length + ys.length ≤ sizeLine then .ok (.v (.tup (xs ++ ys))) st else .bad := rfl
@[simp] theorem ev_mulI : mulM (.int k) (.int m) st = if mulOk k m = true then .ok (.v (.int (k * m))) st else .bad := rfl
def kMd (m : Mv) (s : Store) : R D := match m with | .v d => .ok d s | .l xs => .ok (.loc s.length) (s ++ [.lst xs])
@[simp] theorem ev_eM : eM mf env st = (mf env st).bind kMd := rfl
@[simp] theorem ev_kMdV : kMd (.v d) s = .ok d s := rfl
@[simp] theorem ev_kMdL : kMd (.l xs) s = .ok (.loc s.length) (s ++ [.lst xs]) := rfl
def kQ (d : D) (s : Store) : R (List D) := toQ (.ok d s)
def qGet (o : Option O) (s : Store) : R (List D) := match o with | some (.lst xs) => .ok xs s | some (.ro ns) => .ok (ns.map .int) s | _ => .bad
@[simp] theorem ev_qOf : qOf f env st = (f env st).bind kQ := by unfold qOf toQ; rfl
@[simp] theorem ev_kQT : kQ (.tup xs) s = .ok xs s := rfl
@[simp] theorem ev_kQL : kQ (.loc l) s = qGet (s[l]?) s := rfl
@[simp] theorem ev_qGetL : qGet (some (.lst xs)) s = .ok xs s := rfl
@[simp] theorem ev_qGetR {ns : List Int} : qGet (some (.ro ns)) s = .ok (ns.map .int) s := rfl
def kL (d : D) (s : Store) : R (List D) := toL (.ok d s)
@[simp] theorem ev_lOf : lOf f env st = (f env st).bind kL := by unfold lOf toL; rfl
@[simp] theorem ev_kLL : kL (.loc l) s = qGet (s[l]?) s := rfl
def xGet (o : Option O) (s : Store) : R (List D) := match o with | some (.lst xs) => .ok xs s | _ => .bad
def kX (d : D) (s : Store) : R (List D) := toX (.ok d s)
@[simp] theorem ev_xOf : xOf f env st = (f env st).bind kX := by unfold xOf toX; rfl
@[simp] theorem ev_kXL : kX (.loc l) s = xGet (s[l]?) s := rfl
@[simp] theorem ev_xGet : xGet (some (.lst xs)) s = .ok xs s := rfl
def kMq (m : Mv) (s : Store) : R (List D) := match m with | .v d => kQ d s | .l xs => .ok xs s
@[simp] theorem ev_qM : qM mf env st = (mf env st).bind kMq := rfl
@[simp] theorem ev_kMqV : kMq (.v d) s = kQ d s := rfl
@[simp] theorem ev_kMqL : kMq (.l xs) s = .ok xs s := rfl
def kMl (m : Mv) (s : Store) : R (List D) := match m with | .v d => kL d s | .l xs => .ok xs s
@[simp] theorem ev_lM : lM mf env st = (mf env st).bind kMl := rfl
@[simp] theorem ev_kMlV : kMl (.v d) s = kL d s := rfl
@[simp] theorem ev_kMlL : kMl (.l xs) s = .ok xs s := rfl
def kMx (m : Mv) (s : Store) : R (List D) := match m with | .v d => kX d s | .l xs => .ok xs s
@[simp] theorem ev_xM : xM mf env st = (mf env st).bind kMx := rfl
@[simp] theorem ev_kMxV : kMx (.v d) s = kX d s := rfl
@[simp] theorem ev_kMxL : kMx (.l xs) s = .ok xs s := rfl
-- truth
def kB (d : D) (s : Store) : R Bool := match d with | .bl b => .ok b s | _ => .bad
@[simp] theorem ev_toB {r : R D} : toB r = r.bind kB := rfl
@[simp] theorem ev_kB : kB (.bl b) s = .ok b s := rfl
@[simp] theorem ev_tfB : tfB f env st = (f env st).bind kB := rfl
def kAnd (q : Tf) (env : EEnv) (b : Bool) (s : Store) : R Bool := if b = true then q env s else .ok false s
@[simp] theorem ev_tfAnd : tfAnd p q env st = (p env st).bind (kAnd q env) := rfl
@[simp] theorem ev_kAndT : kAnd q env true s = q env s := rfl
@[simp] theorem ev_kAndF : kAnd q env false s = .ok false s := rfl
def kOr (q : Tf) (env : EEnv) (b : Bool) (s : Store) : R Bool := if b = true then .ok true s else q env s
@[simp] theorem ev_tfOr : tfOr p q env st = (p env st).bind (kOr q env) := rfl
@[simp] theorem ev_kOrT : kOr q env true s = .ok true s := rfl
@[simp] theorem ev_kOrF : kOr q env false s = q env s := rfl
def kNot (b : Bool) (s : Store) : R Bool := .ok (!b) s
@[simp] theorem ev_tfNot : tfNot p env st = (p env st).bind kNot := rfl
@[simp] theorem ev_kNot : kNot b s = .ok (!b) s := rfl
@[simp] theorem ev_tfYes : tfYes env st = .ok true st := rfl
def keAnd (h : Ef) (env : EEnv) (b : Bool) (s : Store) : R D := if b = true then h env s else .ok (.bl false) s
@[simp] theorem ev_eAnd : eAnd f h env st = ((f env st).bind kB).bind (keAnd h env) := rfl
@[simp] theorem ev_keAndT : keAnd h env true s = h env s := rfl
@[simp] theorem ev_keAndF : keAnd h env false s = .ok (.bl false) s := rfl
def keOr (h : Ef) (env : EEnv) (b : Bool) (s : Store) : R D := if b = true then .ok (.bl true) s else h env s
@[simp] theorem ev_eOr : eOr f h env st = ((f env st).bind kB).bind (keOr h env) := rfl
@[simp] theorem ev_keOrT : keOr h env true s = .ok (.bl true) s := rfl
@[simp] theorem ev_keOrF : keOr h env false s = h env s := rfl
def keNot (b : Bool) (s : Store) : R D := .ok (.bl (!b)) s
@[simp] theorem ev_eNot : eNot f env st = ((f env st).bind kB).bind keNot := rfl
@[simp] theorem ev_keNot : keNot b s = .ok (.bl (!b)) s := rfl
def kIf (f h : Ef) (env : EEnv) (b : Bool) (s : Store) : R D := if b = true then f env s else h env s
@[simp] theorem ev_eIf : eIf p f h env st = (p env st).bind (kIf f h env) := rfl
@[simp] theorem ev_kIfT : kIf f h env true s = f env s := rfl
@[simp] theorem ev_kIfF : kIf f h env false s = h env s := rfl
def kNeg (d : D) (s : Store) : R D := match d with | .int i => .ok (.int (-i)) s | _ => .bad
@[simp] theorem ev_eNeg : eNeg f env st = (f env st).bind kNeg := rfl
@[simp] theorem ev_kNeg : kNeg (.int k) s = .ok (.int (-k)) s := rfl
def kCh (G : F2) (y : D) (fc : Ef) (env : EEnv) (b : Bool) (s : Store) : R D := if b = true then (fc env s).bind (G y) else .ok (.bl false) s
def kCh2 (F G : F2) (fc : Ef) (env : EEnv) (x y : D) (s : Store) : R D := ((F x y s).bind kB).bind (kCh G y fc env)
def kCh1 (F G : F2) (fb fc : Ef) (env : EEnv) (x : D) (s : Store) : R D := (fb env s).bind (kCh2 F G fc env x)
@[simp] theorem ev_eChain : eChain F G fa fb fc env st = (fa env st).bind (kCh1 F G fb fc env) := rfl
@[simp] theorem ev_kCh1 : kCh1 F G fb fc env x s = (fb env s).bind (kCh2 F G fc env x) := rfl
@[simp] theorem ev_kCh2 : kCh2 F G fc env x y s = ((F x y s).bind kB).bind (kCh G y fc env) := rfl
@[simp] theorem ev_kChT : kCh G y fc env true s = (fc env s).bind (G y) := rfl
@[simp] theorem ev_kChF : kCh G y fc env false s = .ok (.bl false) s := rfl
def kIsN (d : D) (s : Store) : R D := .ok (.bl (isNF d)) s
def kNotN (d : D) (s : Store) : R D := .ok (.bl (!isNF d)) s
@[simp] theorem ev_eIsN : eIsN f env st = (f env st).bind kIsN := rfl
@[simp] theorem ev_eNotN : eNotN f env st = (f env st).bind kNotN := rfl
@[simp] theorem ev_kIsN : kIsN d s = .ok (.bl (isNF d)) s := rfl
@[simp] theorem ev_kNotN : kNotN d s = .ok (.bl (!isNF d)) s := rfl
@[simp] theorem isNF_non : isNF .non = true := rfl
@[simp] theorem isNF_int : isNF (.int k) = false := rfl
@[simp] theorem isNF_bl : isNF (.bl b) = false := rfl
@[simp] theorem isNF_str {z : Str} : isNF (.str z) = false := rfl
@[simp] theorem isNF_tup : isNF (.tup xs) = false := rfl
@[simp] theorem isNF_loc : isNF (.loc l) = false := rfl
@[simp] theorem ev_isB : isBF neg (.bl b) (.bl true) s = .ok (.bl (if neg then !b else b)) s := by cases b <;> cases neg <;> rfl
@[simp] theorem ev_isB' : isBF neg (.bl b) (.bl false) s = .ok (.bl (if neg then b else !b)) s := by cases b <;> cases neg <;> rfl
def kInQ (neg : Bool) (x : D) (xs : List D) (s : Store) : R D := inQ neg x xs s
def kIn (neg : Bool) (t : Af) (env : EEnv) (x : D) (s : Store) : R D := (t env s).bind (inQ neg x)
@[simp] theorem ev_eIn : eIn neg f t env st = (f env st).bind (kIn neg t env) := rfl
@[simp] theorem ev_kIn : kIn neg t env x s = (t env s).bind (inQ neg x) := rfl
@[simp] theorem ev_inQF : inQ false x xs s = if flatD x = true ∧ xs.all flatD = true then .ok (.bl (xs.any fun d => eqD d x)) s else .bad := by simp [inQ]
@[simp] theorem ev_inQT : inQ true x xs s = if flatD x = true ∧ xs.all flatD = true then .ok (.bl (!xs.any fun d => eqD d x)) s else .bad := by simp [inQ]
@[simp] theorem flatD_non : flatD .non = true := rfl
@[simp] theorem flatD_int : flatD (.int k) = true := rfl
@[simp] theorem flatD_bl : flatD (.bl b) = true := rfl
@[simp] theorem flatD_str {z : Str} : flatD (.str z) = true := rfl
@[simp] theorem eqD_nn : eqD .non .non = true := rfl
@[simp] theorem eqD_ii : eqD (.int k) (.int m) = (k == m) := rfl
@[simp] theorem eqD_ni : eqD .non (.int m) = false := rfl
@[simp] theorem eqD_in : eqD (.int m) .non = false := rfl
@[simp] theorem eqD_ss {z w : Str} : eqD (.str z) (.str w) = (z == w) := rfl
-- arguments, tuples, lists
@[simp] theorem ev_aNil : aNil env st = .ok [] st := rfl
def kCons2 (x : D) (xs : List D) (s : Store) : R (List D) := .ok (x :: xs) s
def kCons (t : Af) (env : EEnv) (x : D) (s : Store) : R (List D) := (t env s).bind (kCons2 x)
@[simp] theorem ev_aCons : aCons f t env st = (f env st).bind (kCons t env) := rfl
@[simp] theorem ev_kCons : kCons t env x s = (t env s).bind (kCons2 x) := rfl
@[simp] theorem ev_kCons2 : kCons2 x xs s = .ok (x :: xs) s := rfl
def kStar2 (x xs : List D) (s : Store) : R (List D) := .ok (x ++ xs) s
def kStar (t : Af) (env : EEnv) (x : List D) (s : Store) : R (List D) := (t env s).bind (kStar2 x)
@[simp] theorem ev_aStar : aStar u t env st = (u env st).bind (kStar t env) := rfl
@[simp] theorem ev_kStar : kStar t env xs s = (t env s).bind (kStar2 xs) := rfl
@[simp] theorem ev_kStar2 : kStar2 xs ys s = .ok (xs ++ ys) s := rfl
def kTup (xs : List D) (s : Store) : R D := if xs.length ≤ sizeLine then .ok (.tup xs) s else .bad
@[simp] theorem ev_eTup : eTup t env st = (t env st).bind kTup := rfl
@[simp] theorem ev_kTup : kTup xs s = if xs.length ≤ sizeLine then .ok (.tup xs) s else .bad := rfl
def kLst (xs : List D) (s : Store) : R (List D) := if xs.length ≤ sizeLine then .ok xs s else .bad
@[simp] theorem ev_nLst : nLst t env st = (t env st).bind kLst := rfl
@[simp] theorem ev_kLst : kLst xs s = if xs.length ≤ sizeLine then .ok xs s else .bad := rfl
def kNew (xs : List D) (s : Store) : R D := .ok (.loc s.length) (s ++ [.lst xs])
@[simp] theorem ev_eNew : eNew t env st = (t env st).bind kNew := rfl
@[simp] theorem ev_kNew : kNew xs s = .ok (.loc s.length) (s ++ [.lst xs]) := rfl
-- fields, items, slices
def iGet (o : Option O) (i : Nat) (s : Store) : R D := match o with | some (.ins _ fs) => okO (fget fs i) s | _ => .bad
@[simp] theorem ev_eFld : eFld i f env st = (f env st).bind (fldF i) := rfl
@[simp] theorem ev_fldF : fldF i (.loc l) s = iGet (s[l]?) i s := by
  unfold fldF iGet okO
  rfl
@[simp] theorem ev_iGet {c : Nat} {fs : List (Nat × D)} : iGet (some (.ins c fs)) i s = okO (fget fs i) s := rfl
@[simp] theorem ev_okO : okO (some d) s = .ok d s := rfl
@[simp] theorem fget_cons {fs : List (Nat × D)} : fget ((j, d) :: fs) i = if j = i then some d else fget fs i := rfl
@[simp] theorem fput_nil : fput i d [] = [(i, d)] := rfl
@[simp] theorem fput_cons {fs : List (Nat × D)} : fput i d ((j, x) :: fs) = if j = i then (j, d) :: fs else (j, x) :: fput i d fs := rfl
def xGetI (o : Option O) (k : Int) (s : Store) : R D := match o with | some (.lst xs) => okO (atI xs k) s | some (.ro ns) => okO (atI (ns.map D.int) k) s | _ => .bad
@[simp] theorem ev_ixT : ixF (.tup xs) (.int k) s = okO (atI xs k) s := rfl
@[simp] theorem ev_ixL : ixF (.loc l) (.int k) s = xGetI (s[l]?) k s := rfl
@[simp] theorem ev_xGetI : xGetI (some (.lst xs)) k s = okO (atI xs k) s := rfl
@[simp] theorem ev_xGetR {ns : List Int} : xGetI (some (.ro ns)) k s = okO (atI (ns.map D.int) k) s := rfl
def kSl3 (d : D) (lo hi : Option Int) (s : Store) : R Mv := slF d lo hi s
def kSl2 (fh : Of) (env : EEnv) (d : D) (lo : Option Int) (s : Store) : R Mv := (fh env s).bind (slF d lo)
def kSl1 (fl fh : Of) (env : EEnv) (d : D) (s : Store) : R Mv := (fl env s).bind (kSl2 fh env d)
variable {fl fh : Of} {lo hi : Option Int}
@[simp] theorem ev_mSl : mSl f fl fh env st = (f env st).bind (kSl1 fl fh env) := rfl
@[simp] theorem ev_kSl1 : kSl1 fl fh env d s = (fl env s).bind (kSl2 fh env d) := rfl
@[simp] theorem ev_kSl2 : kSl2 fh env d lo s = (fh env s).bind (slF d lo) := rfl
@[simp] theorem ev_oNo : oNo env st = .ok none st := rfl
def kSo (d : D) (s : Store) : R (Option Int) := match d with | .int i => .ok (some i) s | _ => .bad
@[simp] theorem ev_oSo : oSo f env st = (f env st).bind kSo := rfl
@[simp] theorem ev_kSo : kSo (.int k) s = .ok (some k) s := rfl
def slGet (o : Option O) (lo hi : Option Int) (s : Store) : R Mv := match o with | some (.lst xs) => .ok (.l (cutD xs lo hi)) s | some (.ro ns) => .ok (.l (cutD (ns.map D.int) lo hi)) s | _ => .bad
@[simp] theorem ev_slT : slF (.tup xs) lo hi s = .ok (.v (.tup (cutD xs lo hi))) s := rfl
@[simp] theorem ev_slL : slF (.loc l) lo hi s = slGet (s[l]?) lo hi s := rfl
@[simp] theorem ev_slGet : slGet (some (.lst xs)) lo hi s = .ok (.l (cutD xs lo hi)) s := rfl
@[simp] theorem ev_slGetR {ns : List Int} : slGet (some (.ro ns)) lo hi s = .ok (.l (cutD (ns.map D.int) lo hi)) s := rfl
-- built-in functions
@[simp] theorem ev_eCall {F : FA} : eCall F t env st = (t env st).bind F := rfl
@[simp] theorem ev_lenQ : lenQ xs s = .ok (.int xs.length) s := rfl
@[simp] theorem ev_lenT : lenF [.tup xs] s = .ok (.int xs.length) s := rfl
@[simp] theorem ev_lenL : lenF [.loc l] s = (qGet (s[l]?) s).bind lenQ := rfl
@[simp] theorem ev_tupQ : tupQ xs s = .ok (.tup xs) s := rfl
@[simp] theorem ev_abs : absF [.int k] s = .ok (.int (if k < 0 then -k else k)) s := rfl
@[simp] theorem ev_int : intF [.int k] s = .ok (.int k) s := rfl
@[simp] theorem ev_intB : intF [.bl b] s = .ok (.int (if b then 1 else 0)) s := rfl
@[simp] theorem ev_max2 : max2F [.int k, .int m] s = .ok (.int (if m > k then m else k)) s := rfl
@[simp] theorem ev_min2 : min2F [.int k, .int m] s = .ok (.int (if m < k then m else k)) s := rfl
@[simp] theorem ev_repr : reprF [d] s = reprP (pd s d) s := rfl
@[simp] theorem ev_reprQ : reprQ xs s = reprP ((pdWs (pdN s 3) xs).map .list) s := rfl
def kR1 (d : D) (s : Store) : R (List D) := match d with | .int j => rgF 0 j s | _ => .bad
@[simp] theorem ev_nRange1 : nRange1 f env st = (f env st).bind kR1 := rfl
@[simp] theorem ev_kR1 : kR1 (.int k) s = rgF 0 k s := rfl
@[simp] theorem ev_eIsi {T : String} : eIsi T f env st = (f env st).bind (isiF T) := rfl
-- walks
def kI (xs : List D) (s : Store) : R Src := .ok ⟨xs, []⟩ s
@[simp] theorem ev_iNew : iNew t env st = (t env st).bind kI := rfl
@[simp] theorem ev_kI : kI xs s = .ok ⟨xs, []⟩ s := rfl
def sGet (o : Option O) (l : Nat) (s : Store) : R Src := match o with | some (.lst xs) => .ok ⟨xs, [(l, xs)]⟩ s | some (.ro ns) => .ok ⟨ns.map .int, [(l, ns.map .int)]⟩ s | _ => .bad
@[simp] theorem ev_iVal : iVal f env st = (f env st).bind srcV := rfl
@[simp] theorem ev_srcVT : srcV (.tup xs) s = .ok ⟨xs, []⟩ s := rfl
@[simp] theorem ev_srcVL : srcV (.loc l) s = sGet (s[l]?) l s := rfl
@[simp] theorem ev_sGet : sGet (some (.lst xs)) l s = .ok ⟨xs, [(l, xs)]⟩ s := rfl
@[simp] theorem ev_wVal : wVal f env st = (f env st).bind srcL := rfl
@[simp] theorem ev_srcLL : srcL (.loc l) s = sGet (s[l]?) l s := rfl
def kMi (m : Mv) (s : Store) : R Src := match m with | .v d => srcV d s | .l xs => .ok ⟨xs, []⟩ s
@[simp] theorem ev_iM : iM mf env st = (mf env st).bind kMi := rfl
@[simp] theorem ev_kMiV : kMi (.v d) s = srcV d s := rfl
@[simp] theorem ev_kMiL : kMi (.l xs) s = .ok ⟨xs, []⟩ s := rfl
def kMw (m : Mv) (s : Store) : R Src := match m with | .v d => srcL d s | .l xs => .ok ⟨xs, []⟩ s
@[simp] theorem ev_wM : wM mf env st = (mf env st).bind kMw := rfl
@[simp] theorem ev_kMwL : kMw (.l xs) s = .ok ⟨xs, []⟩ s := rfl
def kRg1 (d : D) (s : Store) : R Src := match d with | .int j => if rgOk j = true then .ok ⟨intD 0 j.toNat, []⟩ s else .bad | _ => .bad
@[simp] theorem ev_iRange1 : iRange1 f env st = (f env st).bind kRg1 := rfl
@[simp] theorem ev_kRg1 : kRg1 (.int k) s = if rgOk k = true then .ok ⟨intD 0 k.toNat, []⟩ s else .bad := rfl
def kRg22 (d d2 : D) (s : Store) : R Src := match d, d2 with | .int i, .int j => if rgOk i = true ∧ rgOk j = true then .ok ⟨intD i (j - i).toNat, []⟩ s else .bad | _, _ => .bad
def kRg2 (h : Ef) (env : EEnv) (d : D) (s : Store) : R Src := (h env s).bind (kRg22 d)
@[simp] theorem ev_iRange2 : iRange2 f h env st = (f env st).bind (kRg2 h env) := rfl
@[simp] theorem ev_kRg2 : kRg2 h env d s = (h env s).bind (kRg22 d) := rfl
@[simp] theorem ev_kRg22 : kRg22 (.int k) (.int m) s = if rgOk k = true ∧ rgOk m = true then .ok ⟨intD k (m - k).toNat, []⟩ s else .bad := rfl
def kEn (z : Src) (s : Store) : R Src := .ok (srcEnum z) s
variable {fi : If} {ws : Wt} {gf : Gf} {hf : Gfs} {tf : Tf} {ef : Ef} {vs : List Nat}
@[simp] theorem ev_iEnum : iEnum fi env st = (fi env st).bind kEn := rfl
@[simp] theorem ev_kEn {z : Src} : kEn z s = .ok ⟨enumD 0 z.items, z.ws⟩ s := rfl
-- targets
@[simp] theorem ev_gN : gN i d env st = .ok (env.set i (some d)) st := rfl
@[simp] theorem ev_gsNil : gsNil [] env st = .ok env st := rfl
def kGs (hf : Gfs) (ds : List D) (e : EEnv) (s : Store) : R EEnv := hf ds e s
@[simp] theorem ev_gsCons : gsCons gf hf (d :: ds) env st = (gf d env st).bind (kGs hf ds) := rfl
@[simp] theorem ev_kGs : kGs hf ds env s = hf ds env s := rfl
@[simp] theorem ev_gT : gT n hf (.tup ds) env st = if ds.length = n then hf ds env st else .bad := rfl
def kG3 (env : EEnv) (u : Unit) (s : Store) : R EEnv := .ok env s
def kG2 (o d : D) (env : EEnv) (i : D) (s : Store) : R EEnv := (setL o i d s).bind (kG3 env)
def kG1 (fi : Ef) (d : D) (env : EEnv) (o : D) (s : Store) : R EEnv := (fi env s).bind (kG2 o d env)
@[simp] theorem ev_gS : gS fo f d env st = (fo env st).bind (kG1 f d env) := rfl
@[simp] theorem ev_kG1 : kG1 f d env x s = (f env s).bind (kG2 x d env) := rfl
@[simp] theorem ev_kG2 : kG2 x d env y s = (setL x y d s).bind (kG3 env) := rfl
@[simp] theorem ev_kG3 {v : Unit} : kG3 env v s = .ok env s := rfl
def sSet' (o : Option O) (l : Nat) (k : Int) (v : D) (s : Store) : R Unit := match o with | some (.lst xs) => (match ixN xs.length k with | some j => .ok () (s.set l (.lst (xs.set j v))) | none => .bad) | _ => .bad
def sPut (o : Option Nat) (l : Nat) (xs : List D) (v : D) (s : Store) : R Unit := match o with | some j => .ok () (s.set l (.lst (xs.set j v))) | none => .bad
@[simp] theorem ev_setL : setL (.loc l) (.int k) d s = sSet' (s[l]?) l k d s := rfl
@[simp] theorem ev_sSet' : sSet' (some (.lst xs)) l k d s = sPut (ixN xs.length k) l xs d s := rfl
@[simp] theorem ev_sPut : sPut (some j) l xs d s = .ok () (s.set l (.lst (xs.set j d))) := rfl
-- comprehensions
def kC3 (v : D) (vs : List D) (s : Store) : R (List D) := .ok (v :: vs) s
def kC2 (k : Store → R (List D)) (v : D) (s : Store) : R (List D) := (k s).bind (kC3 v)
def kC1 (k : Store → R (List D)) (ef : Ef) (e : EEnv) (b : Bool) (s : Store) : R (List D) := if b = true then (ef e s).bind (kC2 k) else k s
def kC0 (k : Store → R (List D)) (tf : Tf) (ef : Ef) (e : EEnv) (s : Store) : R (List D) := (tf e s).bind (kC1 k ef e)
@[simp] theorem ev_compN : compF ws gf tf ef env [] st = if wOk st ws = true then .ok [] st else .bad := rfl
@[simp] theorem ev_compC : compF ws gf tf ef env (d :: ds) st = if wOk st ws = true then (gf d env st).bind (kC0 (compF ws gf tf ef env ds) tf ef) else .bad := rfl
variable {kk : Store → R (List D)}
@[simp] theorem ev_kC0 : kC0 kk tf ef env s = (tf env s).bind (kC1 kk ef env) := rfl
@[simp] theorem ev_kC1T : kC1 kk ef env true s = (ef env s).bind (kC2 kk) := rfl
@[simp] theorem ev_kC1F : kC1 kk ef env false s = kk s := rfl
@[simp] theorem ev_kC2 : kC2 kk d s = (kk s).bind (kC3 d) := rfl
@[simp] theorem ev_kC3 : kC3 d xs s = .ok (d :: xs) s := rfl
def kN (vs : List Nat) (gf : Gf) (tf : Tf) (ef : Ef) (env : EEnv) (z : Src) (s : Store) : R (List D) := if z.items.length ≤ sizeLine then compF z.ws gf tf ef (wipeE env vs) z.items s else .bad
@[simp] theorem ev_nComp : nComp vs fi gf tf ef env st = (fi env st).bind (kN vs gf tf ef env) := rfl
@[simp] theorem ev_kN {z : Src} : kN vs gf tf ef env z s = if z.items.length ≤ sizeLine then compF z.ws gf tf ef (wipeE env vs) z.items s else .bad := rfl
@[simp] theorem ev_wN : wOk s [] = true := rfl
def wGet (o : Option O) (xs : List D) : Bool := match o with | some (.lst ys) => D.eqbs ys xs | some (.ro _) => true | _ => false
@[simp] theorem ev_wC : wOk s ((l, xs) :: ws) = (wGet (s[l]?) xs && wOk s ws) := rfl
@[simp] theorem ev_wGet : wGet (some (.lst ys)) xs = D.eqbs ys xs := rfl
@[simp] theorem ev_wGetR {ns : List Int} : wGet (some (.ro ns)) xs = true := rfl
@[simp] theorem ev_eqbs : D.eqbs xs xs = true := D.eqbs_self xs
@[simp] theorem ev_wipeN : wipeE env [] = env := rfl
@[simp] theorem ev_wipeC : wipeE env (i :: vs) = (wipeE env vs).set i none := rfl
-- statements
variable {sf sh : Sf} {e : EEnv} {r : RS}
@[simp] theorem ev_sNil : sNil env st = .nx env st := rfl
@[simp] theorem ev_sPass : sPass env st = .nx env st := rfl
@[simp] theorem ev_sBrk : sBrk env st = .bk env st := rfl
@[simp] theorem ev_sCt : sCt env st = .ct env st := rfl
@[simp] theorem ev_sBad : sBad env st = .bad := rfl
@[simp] theorem ev_sSeq : sSeq sf sh env st = (sf env st).then sh := rfl
def kNx (env : EEnv) (d : D) (s : Store) : RS := .nx env s
@[simp] theorem ev_sExpr : sExpr f env st = sR (f env st) (kNx env) := rfl
@[simp] theorem ev_kNx : kNx env d s = .nx env s := rfl
def kRt (d : D) (s : Store) : RS := .rt d s
@[simp] theorem ev_sRet : sRet f env st = sR (f env st) kRt := rfl
@[simp] theorem ev_kRt : kRt d s = .rt d s := rfl
@[simp] theorem ev_sRetN : sRetN env st = .rt .non st := rfl
def kSIf (sf sh : Sf) (env : EEnv) (b : Bool) (s : Store) : RS := if b = true then sf env s else sh env s
@[simp] theorem ev_sIf : sIf p sf sh env st = sR (p env st) (kSIf sf sh env) := rfl
@[simp] theorem ev_kSIfT : kSIf sf sh env true s = sf env s := rfl
@[simp] theorem ev_kSIfF : kSIf sf sh env false s = sh env s := rfl
def kSet (i : Nat) (env : EEnv) (d : D) (s : Store) : RS := .nx (env.set i (some d)) s
@[simp] theorem ev_sSet : sSet i f env st = sR (f env st) (kSet i env) := rfl
@[simp] theorem ev_sSetN : sSetN i t env st = sR ((t env st).bind kNew) (kSet i env) := rfl
@[simp] theorem ev_kSet : kSet i env d s = .nx (env.set i (some d)) s := rfl
def kAsg2 (e : EEnv) (s : Store) : RS := .nx e s
def kAsg (gf : Gf) (env : EEnv) (d : D) (s : Store) : RS := sR (gf d env s) kAsg2
@[simp] theorem ev_sAsg : sAsg f gf env st = sR (f env st) (kAsg gf env) := rfl
@[simp] theorem ev_kAsg : kAsg gf env d s = sR (gf d env s) kAsg2 := rfl
@[simp] theorem ev_kAsg2 : kAsg2 e s = .nx e s := rfl
def kPar (is : List Nat) (env : EEnv) (ds : List D) (s : Store) : RS := if ds.length = is.length then .nx ((is.zip ds).foldl (fun e p => e.set p.1 (some p.2)) env) s else .bad
@[simp] theorem ev_sPar : sPar vs t env st = sR (t env st) (kPar vs env) := rfl
@[simp] theorem ev_kPar2 : kPar [i, j] env [x, y] s = .nx ((env.set i (some x)).set j (some y)) s := rfl
@[simp] theorem ev_kPar3 : kPar [i, j, l] env [x, y, d] s = .nx (((env.set i (some x)).set j (some y)).set l (some d)) s := rfl
def kF3 (env : EEnv) (u : Unit) (s : Store) : RS := .nx env s
def kF2 (i : Nat) (v : D) (env : EEnv) (o : D) (s : Store) : RS := sR (putO i o v s) (kF3 env)
def kF1 (i : Nat) (fo : Ef) (env : EEnv) (v : D) (s : Store) : RS := sR (fo env s) (kF2 i v env)
@[simp] theorem ev_sFldE : sFldE i fo f env st = sR (f env st) (kF1 i fo env) := rfl
@[simp] theorem ev_kF1 : kF1 i fo env x s = sR (fo env s) (kF2 i x env) := rfl
@[simp] theorem ev_kF2 : kF2 i x env y s = sR (putO i y x s) (kF3 env) := rfl
@[simp] theorem ev_kF3 {v : Unit} : kF3 env v s = .nx env s := rfl
def pGet (o : Option O) (l i : Nat) (v : D) (s : Store) : R Unit := match o with | some (.ins c fs) => if fs.length < 1000 then .ok () (s.set l (.ins c (fput i v fs))) else .bad | _ => .bad
@[simp] theorem ev_putO : putO i (.loc l) d s = pGet (s[l]?) l i d s := rfl
@[simp] theorem ev_pGet {c : Nat} {fs : List (Nat × D)} : pGet (some (.ins c fs)) l i d s = if fs.length < 1000 then .ok () (s.set l (.ins c (fput i d fs))) else .bad := rfl
def kFor (gf : Gf) (bf : Sf) (env : EEnv) (z : Src) (s : Store) : RS := loopF z.ws gf bf z.items env s
@[simp] theorem ev_sFor : sFor fi gf sf env st = sR (fi env st) (kFor gf sf env) := rfl
@[simp] theorem ev_kFor {z : Src} : kFor gf sf env z s = loopF z.ws gf sf z.items env s := rfl
def kLp (bf k : Sf) (e : EEnv) (s : Store) : RS := (bf e s).loop k
@[simp] theorem ev_loopN : loopF ws gf sf [] env st = if wOk st ws = true then .nx env st else .bad := rfl
@[simp] theorem ev_loopC : loopF ws gf sf (d :: ds) env st = if wOk st ws = true then sR (gf d env st) (kLp sf (loopF ws gf sf ds)) else .bad := rfl
@[simp] theorem ev_kLp : kLp sf sh env s = (sf env s).loop sh := rfl
def kW (bf k : Sf) (env : EEnv) (b : Bool) (s : Store) : RS := if b = true then (bf env s).loop k else .nx env s
theorem ev_while : whileF p sf (n + 1) env st = sR (p env st) (kW sf (whileF p sf n) env) := rfl
@[simp] theorem ev_kWT : kW sf sh env true s = (sf env s).loop sh := rfl
@[simp] theorem ev_kWF : kW sf sh env false s = .nx env s := rfl
-- calls of defs, methods
variable {sem : SemF} {c : Nat}
def outS (r : RS) : R D := match r with | .nx _ s => .ok .non s | .rt d s => .ok d s | _ => .bad
@[simp] theorem ev_semOf {a : Nat} : semOf n a sf ds st = if ds.length = a then outS (sf (ds.map some ++ List.replicate (n - a) none) st) else .bad := rfl
@[simp] theorem ev_outN : outS (.nx env s) = .ok .non s := rfl
@[simp] theorem ev_outR : outS (.rt d s) = .ok d s := rfl
def cGet (o : Option O) (c : Nat) : Bool := match o with | some (.ins c' _) => decide (c' = c) | _ => false
@[simp] theorem ev_isC : isC c (.loc l) s = cGet (s[l]?) c := rfl
@[simp] theorem ev_cGet {fs : List (Nat × D)} {c' : Nat} : cGet (some (.ins c' fs)) c = decide (c' = c) := rfl
def kMeth2 (sem : SemF) (o : D) (ds : List D) (s : Store) : R D := sem (o :: ds) s
def kMeth (c : Nat) (sem : SemF) (t : Af) (env : EEnv) (o : D) (s : Store) : R D := if isC c o s = true then (t env s).bind (kMeth2 sem o) else .bad
@[simp] theorem ev_eMeth : eMeth c sem fo t env st = (fo env st).bind (kMeth c sem t env) := rfl
@[simp] theorem ev_kMeth : kMeth c sem t env x s = if isC c x s = true then (t env s).bind (kMeth2 sem x) else .bad := rfl
@[simp] theorem ev_kMeth2 : kMeth2 sem x ds s = sem (x :: ds) s := rfl
def kProp (c : Nat) (sem : SemF) (o : D) (s : Store) : R D := if isC c o s = true then sem [o] s else .bad
@[simp] theorem ev_eProp : eProp c sem fo env st = (fo env st).bind (kProp c sem) := rfl
@[simp] theorem ev_kProp : kProp c sem x s = if isC c x s = true then sem [x] s else .bad := rfl
def kMk (l : Nat) (v : D) (s : Store) : R D := match v with | .non => .ok (.loc l) s | _ => .bad
@[simp] theorem ev_mkF : mkF c sem ds s = (sem (.loc s.length :: ds) (s ++ [.ins c []])).bind (kMk s.length) := rfl
@[simp] theorem ev_kMk : kMk l .non s = .ok (.loc l) s := rfl
def kKw2 (n m : Nat) (pm : List Nat) (ds es : List D) (s : Store) : R (List D) := if ds.length = n ∧ es.length = m then .ok (sel pm (ds ++ es)) s else .bad
def kKw (n m : Nat) (pm : List Nat) (u : Af) (env : EEnv) (ds : List D) (s : Store) : R (List D) := (u env s).bind (kKw2 n m pm ds)
@[simp] theorem ev_aKw {n m : Nat} {pm : List Nat} : aKw n m pm t u env st = (t env st).bind (kKw n m pm u env) := rfl
@[simp] theorem ev_kKw {n m : Nat} {pm : List Nat} : kKw n m pm u env ds s = (u env s).bind (kKw2 n m pm ds) := rfl
@[simp] theorem ev_kKw2 {n m : Nat} {pm : List Nat} : kKw2 n m pm ds xs s = if ds.length = n ∧ xs.length = m then .ok (sel pm (ds ++ xs)) s else .bad := rfl
@[simp] theorem ev_sel {pm : List Nat} : sel (i :: pm) xs = match xs[i]? with | some v => v :: sel pm xs | none => sel pm xs := by
  unfold sel
  rw [List.filterMap_cons]
  cases xs[i]? <;> rfl
@[simp] theorem ev_selN : sel [] xs = [] := rfl
def kLenO (v : D) (s : Store) : R D := match v with | .int n => if 0 ≤ n ∧ n < 2 ^ 62 then .ok (.int n) s else .bad | _ => .bad
@[simp] theorem ev_lenO : lenOF c sem [d] s = if isC c d s = true then (sem [d] s).bind kLenO else .bad := rfl
@[simp] theorem ev_kLenO : kLenO (.int k) s = if 0 ≤ k ∧ k < 2 ^ 62 then .ok (.int k) s else .bad := rfl
-- methods of lists
def kBM2 (F : FM) (d : D) (ds : List D) (s : Store) : R D := F d ds s
def kBM (F : FM) (t : Af) (env : EEnv) (d : D) (s : Store) : R D := if isL d s = true then (t env s).bind (F d) else .bad
variable {Fm : FM}
@[simp] theorem ev_eBM : eBM Fm fo t env st = (fo env st).bind (kBM Fm t env) := rfl
@[simp] theorem ev_kBM : kBM Fm t env d s = if isL d s = true then (t env s).bind (Fm d) else .bad := rfl
def lGet (o : Option O) : Bool := match o with | some (.lst _) => true | _ => false
@[simp] theorem ev_isL : isL (.loc l) s = lGet (s[l]?) := rfl
@[simp] theorem ev_lGet : lGet (some (.lst xs)) = true := rfl
def aGet (o : Option O) (l : Nat) (v : D) (s : Store) : R D := match o with | some (.lst xs) => if xs.length < sizeLine then .ok .non (s.set l (.lst (xs ++ [v]))) else .bad | _ => .bad
@[simp] theorem ev_app : appF (.loc l) [d] s = aGet (s[l]?) l d s := rfl
@[simp] theorem ev_aGet : aGet (some (.lst xs)) l d s = if xs.length < sizeLine then .ok .non (s.set l (.lst (xs ++ [d]))) else .bad := rfl
def nGet (o : Option O) (w : D) (s : Store) : R D := match o with | some (.lst xs) => (if flatD w = true ∧ xs.all flatD = true then (match idxD w 0 xs with | some j => .ok (.int (j : Nat)) s | none => .bad) else .bad) | _ => .bad
@[simp] theorem ev_index : indexF (.loc l) [d] s = nGet (s[l]?) d s := rfl
def nOut (o : Option Nat) (s : Store) : R D := match o with | some j => .ok (.int (j : Nat)) s | none => .bad
@[simp] theorem ev_nGet : nGet (some (.lst xs)) d s = if flatD d = true ∧ xs.all flatD = true then nOut (idxD d 0 xs) s else .bad := rfl
@[simp] theorem ev_nOut : nOut (some j) s = .ok (.int (j : Nat)) s := rfl
@[simp] theorem ev_idxN : idxD d j [] = none := rfl
@[simp] theorem ev_idxC : idxD d j (x :: xs) = if eqD x d = true then some j else idxD d (j + 1) xs := rfl
def kExt2 (d : D) (zs : List D) (s : Store) : R D := extF d zs s
def kExt (t : Af) (env : EEnv) (d : D) (s : Store) : R D := if isL d s = true then (t env s).bind (extF d) else .bad
@[simp] theorem ev_eExt : eExt fo t env st = (fo env st).bind (kExt t env) := rfl
@[simp] theorem ev_kExt : kExt t env d s = if isL d s = true then (t env s).bind (extF d) else .bad := rfl
def eGet (o : Option O) (l : Nat) (zs : List D) (s : Store) : R D := match o with | some (.lst xs) => if xs.length + zs.length ≤ sizeLine then .ok .non (s.set l (.lst (xs ++ zs))) else .bad | _ => .bad
@[simp] theorem ev_ext : extF (.loc l) ds s = eGet (s[l]?) l ds s := rfl
@[simp] theorem ev_eGet : eGet (some (.lst xs)) l ds s = if xs.length + ds.length ≤ sizeLine then .ok .non (s.set l (.lst (xs ++ ds))) else .bad := rfl
@[simp] theorem ev_ePop : ePop fo env st = (fo env st).bind popF := rfl
-- items
@[simp] theorem ev_atI : atI xs k = (ixN xs.length k).bind fun j => xs[j]? := rfl
@[simp] theorem ev_pd : pd s d = pdW (pdN s 3) d := rfl
def mulGet (o : Option O) (k : Int) (s : Store) : R Mv := match o with | some (.lst xs) => (if -(2 ^ 63) ≤ k ∧ k < 2 ^ 63 ∧ xs.length * k.toNat ≤ sizeLine then .ok (.l (List.replicate k.toNat xs).flatten) s else .bad) | _ => .bad
@[simp] theorem ev_mulL : mulM (.loc l) (.int k) s = mulGet (s[l]?) k s := rfl
@[simp] theorem ev_mulGet : mulGet (some (.lst xs)) k s = if -(2 ^ 63) ≤ k ∧ k < 2 ^ 63 ∧ xs.length * k.toNat ≤ sizeLine then .ok (.l (List.replicate k.toNat xs).flatten) s else .bad := rfl
@[simp] theorem ev_mulT : mulM (.tup xs) (.int k) s = if xs ≠ [] ∧ 2 ≤ k ∧ k ≤ 1000 ∧ xs.length ≤ 1000 then .ok (.v (.tup (List.replicate k.toNat xs).flatten)) s else .bad := rfl
def addGet (o o' : Option O) (s : Store) : R Mv := match o, o' with | some (.lst xs), some (.lst ys) => (if xs.length + ys.length ≤ sizeLine then .ok (.l (xs ++ ys)) s else .bad) | _, _ => .bad
@[simp] theorem ev_addL : addM (.loc i) (.loc l) s = addGet (s[i]?) (s[l]?) s := rfl
@[simp] theorem ev_addGet : addGet (some (.lst xs)) (some (.lst ys)) s = if xs.length + ys.length ≤ sizeLine then .ok (.l (xs ++ ys)) s else .bad := rfl
@[simp] theorem ev_eqSS {z w : Str} : eqF neg (.str z) (.str w) s = .ok (.bl (if neg then !decide (z = w) else decide (z = w))) s := rfl
@[simp] theorem ev_eqII : eqF neg (.int k) (.int m) s = .ok (.bl (if neg then !(k == m) else k == m)) s := by
  have e : eqF neg (.int k) (.int m) s = eqG neg (.int k) (.int m) s := by simp [eqF]
  rw [e]
  have h : ∀ a : Int, SeqAt.shaped (.int a) = true := fun a => rfl
  simp only [eqG, pd, pdW, h, and_self, if_true, PyData.eqv]
@[simp] theorem ev_eqNI : eqF neg .non (.int m) s = .ok (.bl neg) s := by cases neg <;> rfl
@[simp] theorem ev_eqIN : eqF neg (.int m) .non s = .ok (.bl neg) s := by cases neg <;> rfl
@[simp] theorem ev_eqNN : eqF neg .non .non s = .ok (.bl (!neg)) s := by cases neg <;> rfl
@[simp] theorem ev_eqBB {a : Bool} : eqF neg (.bl a) (.bl b) s = .ok (.bl (if neg then !(a == b) else a == b)) s := by cases neg <;> cases a <;> cases b <;> rfl
theorem ev_eqD {c c' : Nat} {v w : PyData} (h1 : pdW (pdN s 3) x = some v) (h2 : pdW (pdN s 3) y = some w) (r1 : Rp 12 c v) (r2 : Rp 12 c' w) (h : ∀ a b, x = .str a → y = .str b → False) : eqF neg x y s = .ok (.bl (if neg then !PyData.eqv v w else PyData.eqv v w)) s := by
  have e : eqF neg x y s = eqG neg x y s := by
    unfold eqF
    split
    · exact (h _ _ rfl rfl).elim
    · rfl
  rw [e]
  unfold eqG pd
  rw [h1, h2]
  exact if_pos ⟨r1.shaped (by decide), r2.shaped (by decide)⟩
def eqP (neg : Bool) (a b : Option PyData) (s : Store) : R D := match a, b with
  | some d, some e => if SeqAt.shaped d = true ∧ SeqAt.shaped e = true then .ok (.bl (if neg then !PyData.eqv d e else PyData.eqv d e)) s else .bad
  | _, _ => .bad
@[simp] theorem ev_eqLL : eqF neg (.loc i) (.loc j) s = eqP neg (pdW (pdN s 3) (.loc i)) (pdW (pdN s 3) (.loc j)) s := rfl
@[simp] theorem ev_eqTT : eqF neg (.tup xs) (.tup ys) s = eqP neg (pdW (pdN s 3) (.tup xs)) (pdW (pdN s 3) (.tup ys)) s := rfl
@[simp] theorem ev_eqNT : eqF neg .non (.tup ys) s = eqP neg (some .none) (pdW (pdN s 3) (.tup ys)) s := rfl
@[simp] theorem ev_eqTN : eqF neg (.tup ys) .non s = eqP neg (pdW (pdN s 3) (.tup ys)) (some .none) s := rfl
theorem eqP_ok {c c' : Nat} {v w : PyData} (r1 : Rp 12 c v) (r2 : Rp 12 c' w) : eqP neg (some v) (some w) s = .ok (.bl (if neg then !PyData.eqv v w else PyData.eqv v w)) s := if_pos ⟨r1.shaped (by decide), r2.shaped (by decide)⟩
theorem Rp.up {n c d : Nat} {p : PyData} (h : Rp n c p) (hc : c ≤ d) : Rp n d p := ⟨h.sh, h.lay, h.dep, Nat.le_trans h.len hc⟩
-- data
def pdGet (o : Option O) (g : Nat → Option (List PyData)) : Option (List PyData) := match o with | some (.lst xs) => pdWs g xs | some (.ro ns) => some (ns.map .int) | _ => none
@[simp] theorem ev_pdN3 : pdN s 3 l = pdGet (s[l]?) (pdN s 2) := rfl
@[simp] theorem ev_pdN2 : pdN s 2 l = pdGet (s[l]?) (pdN s 1) := rfl
@[simp] theorem ev_pdN1 : pdN s 1 l = pdGet (s[l]?) (pdN s 0) := rfl
variable {gg : Nat → Option (List PyData)}
@[simp] theorem ev_pdGet : pdGet (some (.lst xs)) gg = pdWs gg xs := rfl
@[simp] theorem pdW_non : pdW gg .non = some .none := rfl
@[simp] theorem pdW_int : pdW gg (.int k) = some (.int k) := rfl
@[simp] theorem pdW_bl : pdW gg (.bl b) = some (.bool b) := rfl
@[simp] theorem pdW_str {z : Str} : pdW gg (.str z) = some (.str z) := rfl
@[simp] theorem pdW_tup : pdW gg (.tup xs) = (pdWs gg xs).map .tuple := rfl
@[simp] theorem pdW_loc : pdW gg (.loc l) = (gg l).map .list := rfl
@[simp] theorem pdWs_nil : pdWs gg [] = some [] := rfl
def cM (a : PyData) (o : Option (List PyData)) : Option (List PyData) := o.map fun b => a :: b
@[simp] theorem pdWs_cons : pdWs gg (x :: xs) = (pdW gg x).bind fun a => cM a (pdWs gg xs) := rfl
@[simp] theorem cM_some {a : PyData} {b : List PyData} : cM a (some b) = some (a :: b) := rfl
-- `range`
@[simp] theorem ev_intD0 : intD k 0 = [] := rfl
theorem ev_intDs : intD k (n + 1) = .int k :: intD (k + 1) n := by
  unfold intD
  rw [List.range_succ_eq_map, List.map_cons, List.map_map]
  congr 1
  · simp
  · apply List.map_congr_left
    intro a _
    show D.int _ = D.int _
    congr 1
    show k + ((a + 1 : Nat) : Int) = k + 1 + (a : Int)
    omega
@[simp] theorem ev_enumN : enumD n [] = [] := rfl
@[simp] theorem ev_enumC : enumD n (d :: ds) = .tup [.int (n : Nat), d] :: enumD (n + 1) ds := rfl
end
end Ev

/-! Ev12: whole numbers told apart, the drawing pot, comprehensions with a state. -/
namespace Ev
open PySem L2
open PyProof.Rows hiding St

theorem kit_ii : kitB "int" "int" = some true := by decide +kernel
theorem kit_ib : kitB "int" "bool" = some false := by decide +kernel
theorem kit_it : kitB "int" "tuple" = some false := by decide +kernel
theorem kit_bi : kitB "bool" "int" = some true := by decide +kernel
theorem kit_bb : kitB "bool" "bool" = some true := by decide +kernel
theorem kit_bt : kitB "bool" "tuple" = some false := by decide +kernel
theorem kit_ni : kitB "NoneType" "int" = some false := by decide +kernel
theorem kit_nb : kitB "NoneType" "bool" = some false := by decide +kernel
theorem kit_nt : kitB "NoneType" "tuple" = some false := by decide +kernel
theorem kit_ti : kitB "tuple" "int" = some false := by decide +kernel
theorem kit_tb : kitB "tuple" "bool" = some false := by decide +kernel
theorem kit_tt : kitB "tuple" "tuple" = some true := by decide +kernel
theorem kit_si : kitB "str" "int" = some false := by decide +kernel
theorem kit_sb : kitB "str" "bool" = some false := by decide +kernel
theorem kit_st : kitB "str" "tuple" = some false := by decide +kernel
section
variable {s : Store} {k : Int} {b : Bool} {xs : List D} {z : Str}
@[simp] theorem isi_ii : isiF "int" (.int k) s = .ok (.bl true) s := by unfold isiF tyN; simp [kit_ii]
@[simp] theorem isi_ib : isiF "bool" (.int k) s = .ok (.bl false) s := by unfold isiF tyN; simp [kit_ib]
@[simp] theorem isi_it : isiF "tuple" (.int k) s = .ok (.bl false) s := by unfold isiF tyN; simp [kit_it]
@[simp] theorem isi_bi : isiF "int" (.bl b) s = .ok (.bl true) s := by unfold isiF tyN; simp [kit_bi]
@[simp] theorem isi_bb : isiF "bool" (.bl b) s = .ok (.bl true) s := by unfold isiF tyN; simp [kit_bb]
@[simp] theorem isi_bt : isiF "tuple" (.bl b) s = .ok (.bl false) s := by unfold isiF tyN; simp [kit_bt]
@[simp] theorem isi_ni : isiF "int" .non s = .ok (.bl false) s := by unfold isiF tyN; simp [kit_ni]
@[simp] theorem isi_nt : isiF "tuple" .non s = .ok (.bl false) s := by unfold isiF tyN; simp [kit_nt]
@[simp] theorem isi_ti : isiF "int" (.tup xs) s = .ok (.bl false) s := by unfold isiF tyN; simp [kit_ti]
@[simp] theorem isi_tt : isiF "tuple" (.tup xs) s = .ok (.bl true) s := by unfold isiF tyN; simp [kit_tt]
@[simp] theorem isi_si : isiF "int" (.str z) s = .ok (.bl false) s := by unfold isiF tyN; simp [kit_si]
@[simp] theorem isi_st : isiF "tuple" (.str z) s = .ok (.bl false) s := by unfold isiF tyN; simp [kit_st]
end

/-- is_integer, is_tuple of the package -/
def isWholeM : SemF := fun ds st => match ds with
  | [.int _] => .ok (.bl true) st
  | [.bl _] => .ok (.bl false) st
  | [.non] => .ok (.bl false) st
  | [.tup _] => .ok (.bl false) st
  | [.str _] => .ok (.bl false) st
  | _ => .bad
def isIntM : SemF := fun ds st => match ds with
  | [.int v, .int lo, .int hi] => .ok (.bl (decide (lo ≤ v) && decide (v ≤ hi))) st
  | [.bl _, .int _, .int _] => .ok (.bl false) st
  | [.non, .int _, .int _] => .ok (.bl false) st
  | [.tup _, .int _, .int _] => .ok (.bl false) st
  | [.str _, .int _, .int _] => .ok (.bl false) st
  | _ => .bad
def isTupM : SemF := fun ds st => match ds with
  | [.tup xs, .int lo, .int hi] => .ok (.bl (decide (lo ≤ (xs.length : Int)) && decide ((xs.length : Int) ≤ hi))) st
  | [.int _, .int _, .int _] => .ok (.bl false) st
  | [.non, .int _, .int _] => .ok (.bl false) st
  | _ => .bad
section
variable {st : Store} {v lo hi : Int} {xs : List D} {z : Str} {b : Bool}
@[simp] theorem isIntM_int : isIntM [.int v, .int lo, .int hi] st = .ok (.bl (decide (lo ≤ v) && decide (v ≤ hi))) st := rfl
@[simp] theorem isIntM_non : isIntM [.non, .int lo, .int hi] st = .ok (.bl false) st := rfl
@[simp] theorem isIntM_bl : isIntM [.bl b, .int lo, .int hi] st = .ok (.bl false) st := rfl
@[simp] theorem isIntM_tup : isIntM [.tup xs, .int lo, .int hi] st = .ok (.bl false) st := rfl
@[simp] theorem isIntM_str : isIntM [.str z, .int lo, .int hi] st = .ok (.bl false) st := rfl
@[simp] theorem isTupM_tup : isTupM [.tup xs, .int lo, .int hi] st = .ok (.bl (decide (lo ≤ (xs.length : Int)) && decide ((xs.length : Int) ≤ hi))) st := rfl
@[simp] theorem isTupM_non : isTupM [.non, .int lo, .int hi] st = .ok (.bl false) st := rfl
@[simp] theorem isTupM_int : isTupM [.int v, .int lo, .int hi] st = .ok (.bl false) st := rfl
end

/-! ### the pot -/
structure PotOk (a b n k : Int) : Prop where
  a0 : 0 ≤ a
  b0 : 0 ≤ b
  b1 : b < 2305843009213693952
  n0 : 0 ≤ n
  n1 : n ≤ k
theorem PotOk.up {a b n k j : Int} (h : PotOk a b n k) (hk : k ≤ j) : PotOk a b n j := ⟨h.a0, h.b0, h.b1, h.n0, Int.le_trans h.n1 hk⟩
theorem mulOk_l {i j : Int} (h : i.natAbs < 18446744073709551616) : mulOk i j = true := by simp [mulOk, h]
theorem mulOk_r {i j : Int} (h : j.natAbs < 18446744073709551616) : mulOk i j = true := by simp [mulOk, h]
theorem powOk_3 {i : Int} (h : i.natAbs < 18446744073709551616) : powOk i 3 = true := by simp [powOk, h]
theorem ite01 (P : Prop) [Decidable P] : (0 : Int) ≤ (if P then 1 else 0) := by split <;> decide
theorem ite01n (P : Prop) [Decidable P] : (if P then (1 : Int) else 0).natAbs < 18446744073709551616 := by split <;> decide
/-- what take(pot, u) does: a digit, the pot goes on -/
def Takes (sem : SemF) : Prop := ∀ (st : Store) (l : Nat) (a b n k u : Int), st[l]? = some (.lst [.int a, .int b, .int n]) → PotOk a b n k → k < 100000 → 0 < u → u < 1000000 →
  ∃ d a' n', 0 ≤ d ∧ d < u ∧ PotOk a' b n' (k + 1) ∧ sem [.loc l, .int u] st = .ok (.int d) (st.set l (.lst [.int a', .int b, .int n']))
/-- a comprehension with a state -/
theorem compF_inv {gf : Gf} {tf : Tf} {ef : Ef} {env : EEnv} (P : D → Prop) (I : Nat → Store → Prop) : ∀ (ds : List D) (i : Nat) (st : Store), I i st →
    (∀ d ∈ ds, ∀ j s, j < i + ds.length → I j s → ∃ e v s', gf d env s = .ok e s ∧ tf e s = .ok true s ∧ ef e s = .ok v s' ∧ P v ∧ I (j + 1) s') →
    ∃ vs st', compF [] gf tf ef env ds st = .ok vs st' ∧ vs.length = ds.length ∧ (∀ v ∈ vs, P v) ∧ I (i + ds.length) st'
  | [], i, st, h, _ => ⟨[], st, rfl, rfl, (fun _ m => nomatch m), h⟩
  | d :: ds, i, st, h, hs => by
    obtain ⟨e, v, s', h1, h2, h3, h4, h5⟩ := hs d (List.mem_cons_self ..) i st (by simp) h
    obtain ⟨vs, st', q1, q2, q3, q4⟩ := compF_inv P I ds (i + 1) s' h5 fun d' m j s hj => hs d' (List.mem_cons_of_mem _ m) j s (by rw [List.length_cons]; omega)
    refine ⟨v :: vs, st', ?_, by simp [q2], fun w m => ?_, by rw [List.length_cons]; rw [show i + (ds.length + 1) = i + 1 + ds.length by omega]; exact q4⟩
    · simp [h1, h2, h3, q1]
    · rcases List.mem_cons.mp m with rfl | m
      · exact h4
      · exact q3 w m
/-- the same, a list looked at stays -/
theorem compF_invW {gf : Gf} {tf : Tf} {ef : Ef} {env : EEnv} {ws : Wt} (P : D → Prop) (I : Nat → Store → Prop) (hw : ∀ j s, I j s → wOk s ws = true) : ∀ (ds : List D) (i : Nat) (st : Store), I i st →
    (∀ d ∈ ds, ∀ j s, j < i + ds.length → I j s → ∃ e v s', gf d env s = .ok e s ∧ tf e s = .ok true s ∧ ef e s = .ok v s' ∧ P v ∧ I (j + 1) s') →
    ∃ vs st', compF ws gf tf ef env ds st = .ok vs st' ∧ vs.length = ds.length ∧ (∀ v ∈ vs, P v) ∧ I (i + ds.length) st'
  | [], i, st, h, _ => ⟨[], st, by simp [hw i st h], rfl, (fun _ m => nomatch m), h⟩
  | d :: ds, i, st, h, hs => by
    obtain ⟨e, v, s', h1, h2, h3, h4, h5⟩ := hs d (List.mem_cons_self ..) i st (by simp) h
    obtain ⟨vs, st', q1, q2, q3, q4⟩ := compF_invW P I hw ds (i + 1) s' h5 fun d' m j s hj => hs d' (List.mem_cons_of_mem _ m) j s (by rw [List.length_cons]; omega)
    refine ⟨v :: vs, st', ?_, by simp [q2], fun w m => ?_, by rw [List.length_cons]; rw [show i + (ds.length + 1) = i + 1 + ds.length by omega]; exact q4⟩
    · simp [hw i st h, h1, h2, h3, q1]
    · rcases List.mem_cons.mp m with rfl | m
      · exact h4
      · exact q3 w m
theorem blsD_true : ∀ {vs : List D}, (∀ v ∈ vs, v = .bl true) → ∃ bs, blsD vs = some bs ∧ bs.all id = true
  | [], _ => ⟨[], rfl, rfl⟩
  | v :: vs, h => by
    obtain ⟨bs, e, q⟩ := blsD_true fun w m => h w (List.mem_cons_of_mem _ m)
    have hv := h v (List.mem_cons_self ..)
    subst hv
    exact ⟨true :: bs, by simp [blsD, e], by simpa using q⟩
theorem allQ_true {vs : List D} {st : Store} (h : ∀ v ∈ vs, v = .bl true) : allQ vs st = .ok (.bl true) st := by
  obtain ⟨bs, e, q⟩ := blsD_true h
  unfold allQ
  rw [e]
  simp [q]
theorem frame0_ok {sem : SemF} {ds : List D} {v : D} {s2 st : Store} (hd : D.flats ds = true) (h : sem ds [] = .ok v s2) (hv : v.flat = true) : frame0 sem ds st = .ok v st := by
  simp [frame0, hd, h, hv]
theorem frame1_ok {sem : SemF} {ds : List D} {v : D} {xs ys : List D} {s2 st : Store} {l : Nat} (hl : st[l]? = some (.lst xs)) (hd : D.flats ds = true) (hx : D.flats xs = true) (h : sem (.loc 0 :: ds) [.lst xs] = .ok v (.lst ys :: s2)) (hv : v.flat = true) (hy : D.flats ys = true) :
    frame1 sem (.loc l :: ds) st = .ok v (st.set l (.lst ys)) := by
  simp [frame1, hd, hl, hx, h, hv, hy]
theorem flat_pot {a b n : Int} : D.flats [.int a, .int b, .int n] = true := rfl
end Ev

/-! Ev13: loops with a state. -/
namespace Ev
open PySem L2
open PyProof.Rows hiding St
/-- range(n), n told by a Nat (never let the kernel reckon rgOk of such a number) -/
theorem rg_nat {n : Nat} {s : Store} (h : n ≤ 16777216) : kRg1 (.int (n : Int)) s = .ok ⟨intD 0 n, []⟩ s := by
  have key : ∀ k : Int, k = (n : Int) → kRg1 (.int k) s = .ok ⟨intD 0 n, []⟩ s := fun k hk => by
    have hr : rgOk k = true := by simp [rgOk]; omega
    have ht : k.toNat = n := by omega
    simp [hr, ht]
  exact key _ rfl
theorem rgOk_nat {n : Nat} (h : n ≤ 16777216) : rgOk (n : Int) = true := by
  have key : ∀ k : Int, k = (n : Int) → rgOk k = true := fun k hk => by simp [rgOk]; omega
  exact key _ rfl
theorem popAt_ok {s : Store} {l : Nat} {xs : List D} {d : Int} {y : D} (hl : s[l]? = some (.lst xs)) (h0 : 0 ≤ d) (h1 : d < 1000000) (hy : xs[d.toNat]? = some y) : popAtF (.loc l) [.int d] s = .ok y (s.set l (.lst (xs.eraseIdx d.toNat))) := by
  have hd := (List.getElem?_eq_some_iff.mp hy).1
  have r : rgOk d = true := by simp [rgOk]; omega
  have q : seqIndex? d xs.length = some d.toNat := by
    have n0 : ¬ d < 0 := by omega
    have n1 : d < (xs.length : Int) := by omega
    simp [seqIndex?, n0, h0, n1]
  simp [popAtF, hl, r, q, hy]
/-- a for: the state goes on, or the def returns -/
theorem loopF_inv {ws : Wt} {gf : Gf} {bf : Sf} (I : Nat → EEnv → Store → Prop) (P : D → Store → Prop) (hw : ∀ j e s, I j e s → wOk s ws = true) : ∀ (ds : List D) (k : Nat) (env : EEnv) (st : Store), I k env st →
    (∀ j d e s, ds[j]? = some d → I (k + j) e s → ∃ e1, gf d e s = .ok e1 s ∧ ((∃ e2 s2, (bf e1 s = .nx e2 s2 ∨ bf e1 s = .ct e2 s2) ∧ I (k + j + 1) e2 s2) ∨ ∃ v s2, bf e1 s = .rt v s2 ∧ P v s2)) →
    (∃ e' st', loopF ws gf bf ds env st = .nx e' st' ∧ I (k + ds.length) e' st') ∨ ∃ v st', loopF ws gf bf ds env st = .rt v st' ∧ P v st'
  | [], k, env, st, h, _ => .inl ⟨env, st, by simp [hw k env st h], h⟩
  | d :: ds, k, env, st, h, hs => by
    obtain ⟨e1, h1, q⟩ := hs 0 d env st rfl h
    rcases q with ⟨e2, s2, hb, hI⟩ | ⟨v, s2, hb, hP⟩
    · have r := loopF_inv I P hw ds (k + 1) e2 s2 hI fun j d' e s hj hIj => by
        have z := hs (j + 1) d' e s (by simpa using hj) (by rw [show k + (j + 1) = k + 1 + j by omega]; exact hIj)
        rw [show k + (j + 1) = k + 1 + j by omega] at z
        exact z
      have e : loopF ws gf bf (d :: ds) env st = loopF ws gf bf ds e2 s2 := by
        rcases hb with hb | hb <;> simp [hw k env st h, h1, hb]
      rw [e, List.length_cons, show k + (ds.length + 1) = k + 1 + ds.length by omega]
      exact r
    · exact .inr ⟨v, s2, by simp [hw k env st h, h1, hb], hP⟩
/-- a for that never returns -/
theorem loopF_nx {ws : Wt} {gf : Gf} {bf : Sf} (I : Nat → EEnv → Store → Prop) (hw : ∀ j e s, I j e s → wOk s ws = true) (ds : List D) (env : EEnv) (st : Store) (h : I 0 env st)
    (hs : ∀ j d e s, ds[j]? = some d → I j e s → ∃ e1 e2 s2, gf d e s = .ok e1 s ∧ (bf e1 s = .nx e2 s2 ∨ bf e1 s = .ct e2 s2) ∧ I (j + 1) e2 s2) : ∃ e' st', loopF ws gf bf ds env st = .nx e' st' ∧ I ds.length e' st' := by
  rcases loopF_inv I (fun _ _ => False) hw ds 0 env st h (fun j d e s hj hI => by
    rw [Nat.zero_add] at hI
    obtain ⟨e1, e2, s2, h1, h2, h3⟩ := hs j d e s hj hI
    exact ⟨e1, h1, .inl ⟨e2, s2, h2, by rw [Nat.zero_add]; exact h3⟩⟩) with q | ⟨_, _, _, f⟩
  · rw [Nat.zero_add] at q
    exact q
  · exact f.elim
theorem intD_at {n j : Nat} {d : D} (h : (intD 0 n)[j]? = some d) : j < n ∧ d = .int (j : Nat) := by
  have hl : j < n := by
    have := lt_of_get (st := (intD 0 n).map fun d => O.lst [d]) (l := j) (o := .lst [d]) (by rw [List.getElem?_map, h]; rfl)
    simpa [intD_length] using this
  rw [intD_get hl] at h
  cases h
  exact ⟨hl, by simp⟩
theorem perm_erase {A : Type} : ∀ (r : List A) (k : Nat) (y : A), r[k]? = some y → (y :: r.eraseIdx k).Perm r
  | [], _, _, h => by simp at h
  | x :: r, 0, y, h => by
    simp at h
    subst h
    exact List.Perm.refl _
  | x :: r, k + 1, y, h => by
    rw [List.eraseIdx_cons_succ]
    exact (List.Perm.swap x y _).trans (List.Perm.cons x (perm_erase r k y (by simpa using h)))
theorem perm_pop {A : Type} {f r : List A} {xs : List A} {k : Nat} {y : A} (h : (f ++ r).Perm xs) (hk : r[k]? = some y) : ((f ++ [y]) ++ r.eraseIdx k).Perm xs := by
  refine List.Perm.trans ?_ h
  rw [List.append_assoc]
  exact List.Perm.append_left f (perm_erase r k y hk)
end Ev

/-! Ev14: dicts with keys that are texts or whole numbers. -/
namespace Ev
open PySem L2
open PyProof.Rows hiding St
def keyD : D → Option Key
  | .int i => some (.inl i)
  | .str s => some (.inr s)
  | _ => none
def valD (kvs : List (Key × D)) (k : Key) : Option D := (kvs.find? fun kv => decide (kv.1 = k)).map (·.2)
def putD (kvs : List (Key × D)) (k : Key) (d : D) : List (Key × D) := if (kvs.any fun kv => decide (kv.1 = k)) = true then kvs.map (fun kv => if kv.1 = k then (kv.1, d) else kv) else kvs ++ [(k, d)]
section
variable {g : Gh} {X : Cx} {K : PySem.W.Frag} {ρ : Nat → Addr} {n : Nat} {H : Hp}
theorem key_vr {d : D} {y : V} {k : Key} (r : VR K ρ n H d y) (h : keyD d = some k) : y = kV k := by
  cases d <;> simp [keyD] at h <;> subst h <;> simp only [VR] at r <;> subst r <;> rfl
theorem KR.val {k : Key} : ∀ {kvs : List (Key × D)} {gs : List (Key × V)} {d : D}, KR K ρ n H kvs gs → valD kvs k = some d → ∃ v, valV gs k = some v ∧ VR K ρ n H d v
  | [], _, d, _, h => by simp [valD] at h
  | (j, e) :: kvs, _, d, r, h => by
    obtain ⟨v, hs, rfl, r1, rs⟩ := r
    by_cases z : j = k
    · subst z
      simp [valD] at h
      subst h
      exact ⟨v, valV_pos rfl, r1⟩
    · have h' : valD kvs k = some d := by simpa [valD, List.find?_cons, z] using h
      obtain ⟨u, e1, e2⟩ := KR.val rs h'
      exact ⟨u, by rw [valV_neg (p := (j, v)) z]; exact e1, e2⟩
theorem KR.valN {k : Key} : ∀ {kvs : List (Key × D)} {gs : List (Key × V)}, KR K ρ n H kvs gs → valD kvs k = none → valV gs k = none
  | [], gs, r, h => by
    have r' : gs = [] := r
    subst r'
    rfl
  | (j, e) :: kvs, _, r, h => by
    obtain ⟨v, hs, rfl, r1, rs⟩ := r
    by_cases z : j = k
    · subst z
      simp [valD] at h
    · have h' : valD kvs k = none := by simpa [valD, List.find?_cons, z] using h
      rw [valV_neg (p := (j, v)) z]
      exact KR.valN rs h'
theorem KR.length : ∀ {kvs : List (Key × D)} {gs : List (Key × V)}, KR K ρ n H kvs gs → gs.length = kvs.length
  | [], gs, r => by
    have r' : gs = [] := r
    subst r'
    rfl
  | (j, e) :: kvs, _, r => by
    obtain ⟨v, hs, rfl, r1, rs⟩ := r
    simp [KR.length rs]
theorem KR.any {k : Key} : ∀ {kvs : List (Key × D)} {gs : List (Key × V)}, KR K ρ n H kvs gs → (gs.any fun kv => decide (kv.1 = k)) = (kvs.any fun kv => decide (kv.1 = k))
  | [], gs, r => by
    have r' : gs = [] := r
    subst r'
    rfl
  | (j, e) :: kvs, _, r => by
    obtain ⟨v, hs, rfl, r1, rs⟩ := r
    rw [List.any_cons, List.any_cons, KR.any rs]
theorem KR.repl {k : Key} {d : D} {v : V} (r0 : VR K ρ n H d v) : ∀ {kvs : List (Key × D)} {gs : List (Key × V)}, KR K ρ n H kvs gs → KR K ρ n H (kvs.map fun kv => if kv.1 = k then (kv.1, d) else kv) (gs.map fun kv => if kv.1 = k then (kv.1, v) else kv)
  | [], gs, r => by
    have r' : gs = [] := r
    subst r'
    exact rfl
  | (j, e) :: kvs, _, r => by
    obtain ⟨w, hs, rfl, r1, rs⟩ := r
    by_cases z : j = k
    · rw [List.map_cons, List.map_cons, if_pos z, if_pos z]
      exact ⟨v, _, rfl, r0, KR.repl r0 rs⟩
    · rw [List.map_cons, List.map_cons, if_neg z, if_neg z]
      exact ⟨w, _, rfl, r1, KR.repl r0 rs⟩
theorem KR.snoc {k : Key} {d : D} {v : V} (r0 : VR K ρ n H d v) : ∀ {kvs : List (Key × D)} {gs : List (Key × V)}, KR K ρ n H kvs gs → KR K ρ n H (kvs ++ [(k, d)]) (gs ++ [(k, v)])
  | [], gs, r => by
    have r' : gs = [] := r
    subst r'
    exact ⟨v, [], rfl, r0, rfl⟩
  | (j, e) :: kvs, _, r => by
    obtain ⟨w, hs, rfl, r1, rs⟩ := r
    exact ⟨w, _, rfl, r1, KR.snoc r0 rs⟩
theorem KR.put {k : Key} {d : D} {v : V} (r0 : VR K ρ n H d v) {kvs : List (Key × D)} {gs : List (Key × V)} (r : KR K ρ n H kvs gs) : KR K ρ n H (putD kvs k d) (putK gs k v) := by
  unfold putD putK
  rw [r.any]
  split
  · exact r.repl r0
  · exact r.snoc r0
/-- d[k] -/
def dgF : F2 := fun x y s => match x with
  | .loc l => match s[l]? with
    | some (.dic kvs) => match (keyD y).bind (valD kvs) with
      | some v => .ok v s
      | none => .bad
    | _ => .bad
  | _ => .bad
variable {o i : Expr} {pos : Pos} {fa fb : Ef}
theorem dg_get {s : Store} {d1 d2 v : D} {x y : V} {s' : Store} (Rl : Rel g ρ s H) (r1 : VR g.K ρ s.length H d1 x) (r2 : VR g.K ρ s.length H d2 y) (h : dgF d1 d2 s = .ok v s') :
    s' = s ∧ ∃ a w, x = .ref a ∧ DGet H a y (some w) ∧ VR g.K ρ s.length H v w := by
  cases d1 <;> simp only [dgF] at h <;> (try exact (R.no h).elim)
  rename_i l
  split at h
  · rename_i kvs q
    split at h
    · rename_i u hu
      cases h
      obtain ⟨k, e1, e2⟩ := Option.bind_eq_some_iff.mp hu
      unfold VR at r1
      obtain ⟨hl, rfl⟩ := r1
      have ey := key_vr r2 e1
      subst ey
      obtain ⟨gs, q1, rk⟩ := Rl.obj l _ q
      obtain ⟨w, e3, rw'⟩ := rk.val e2
      refine ⟨rfl, ρ l, w, rfl, ?_, rw'⟩
      have := DGet.k (k := k) q1
      rw [e3] at this
      exact this
    · cases h
  · cases h
theorem e_dg (x : XG g X) (ho : EV g X o fa) (hi : EV g X i fb) (hs : NoSl i := by intro _ _; rfl) : EV g X (.Subscript o i pos) (eBin dgF fa fb) :=
  pe_imp (pe_dget (by have := x.hu; omega) ho hi hs) fun σ H Q ⟨ρ, st, env, v, st', Rl, E, h, k⟩ => by
    obtain ⟨d1, s1, e1, h⟩ := R.bind_eq h
    obtain ⟨d2, s2, e2, h⟩ := R.bind_eq h
    refine ⟨ρ, st, env, d1, s1, Rl, E, e1, fun ρ1 H1 y1 P1 r1 => ?_⟩
    refine ⟨ρ1, s1, env, d2, s2, P1.rel, P1.envr Rl E, e2, fun ρ2 H2 y2 P2 r2 => ?_⟩
    have P12 := P1.trans P2
    obtain ⟨es, a, w, e3, e4, e5⟩ := dg_get P2.rel (P2.vr P1.rel r1) r2 h
    subst es
    exact ⟨a, w, e3, e4, k ρ2 H2 w P12 e5⟩
/-- d[k] = v -/
def setD (o i v : D) (s : Store) : R Unit := match o with
  | .loc l => match s[l]? with
    | some (.dic kvs) => match keyD i with
      | some k => if kvs.length < sizeLine then .ok () (s.set l (.dic (putD kvs k v))) else .bad
      | none => .bad
    | _ => .bad
  | _ => .bad
theorem setD_ok {s s' : Store} {o i v : D} {x y z : V} {Q : Hp → Prop} (Rl : Rel g ρ s H) (r1 : VR g.K ρ s.length H o x) (r2 : VR g.K ρ s.length H i y) (r3 : VR g.K ρ s.length H v z)
    (h : setD o i v s = .ok () s') (k : ∀ H', Post g ρ s H ρ s' H' → Q H') : rSetD x y z H Q := by
  cases o <;> simp only [setD] at h <;> (try exact (R.no h).elim)
  rename_i l
  split at h
  · rename_i kvs q
    split at h
    · rename_i kk hk
      split at h
      · rename_i hz
        cases h
        unfold VR at r1
        obtain ⟨hl, rfl⟩ := r1
        have ey := key_vr r2 hk
        subst ey
        obtain ⟨gs, q1, rk⟩ := Rl.obj l _ q
        refine ⟨ρ l, _, rfl, DPut.k q1 (by rw [rk.length]; exact hz), k _ ?_⟩
        refine Rl.set q rfl rfl ⟨putK gs kk z, upd_same, ?_⟩
        have t : TK g.K H (upd H (ρ l) (.dK (putK gs kk z))) := TK.of fun b o e nm => by
          rw [upd_ne]
          · exact e
          · intro w
            subst w
            rw [q1] at e
            cases e
            exact nm trivial
        exact KR.mono (fun _ _ => rfl) (Nat.le_refl _) t (rk.put r3)
      · cases h
    · cases h
  · cases h
def gD (fo fi : Ef) : Gf := fun d env st => (fo env st).bind fun o s1 => (fi env s1).bind fun i s2 => (setD o i d s2).bind fun _ s3 => .ok env s3
theorem g_dsub (xg : XG g X) (ho : EV g X o fa) (hi : EV g X i fb)
    (ha : ∀ v, assign (.Subscript o i pos) X.env v = (do
      let ov ← holding [v] (eval o X.env)
      let iv ← holding [v, ov] (eval i X.env)
      standAt pos
      holding [v, ov, iv] (setItem ov iv v)
      release [v, ov, iv] []) := by intro _; rfl) : GV g X (.Subscript o i pos) [] (gD fa fb) :=
  pg_imp (pg_sub ho hi (set_dict (by have := xg.hu; omega)) ha) fun v σ H Q ⟨ρ, st, env, d, env', st', Rl, E, r, h, k⟩ => by
    obtain ⟨d1, s1, e1, h⟩ := R.bind_eq h
    obtain ⟨d2, s2, e2, h⟩ := R.bind_eq h
    obtain ⟨_, s3, e3, h⟩ := R.bind_eq h
    cases h
    refine ⟨ρ, st, env, d1, s1, Rl, E, e1, fun ρ1 H1 y1 P1 r1 => ?_⟩
    refine ⟨ρ1, s1, env, d2, s2, P1.rel, P1.envr Rl E, e2, fun ρ2 H2 y2 P2 r2 => ?_⟩
    have P12 := P1.trans P2
    exact setD_ok P2.rel (P2.vr P1.rel r1) r2 (P12.vr Rl r) e3 fun H' P => k ρ2 H' σ (P12.trans P) ((P12.trans P).envr Rl E) (Off.refl σ _)
/-! ### a written dict -/
abbrev Pf := EEnv → Store → R (List (Key × D))
def pNil : Pf := fun _ st => .ok [] st
def pCons (fk fv : Ef) (t : Pf) : Pf := fun env st => (fk env st).bind fun a s1 => (fv env s1).bind fun b s2 => match keyD a with
  | some k => (t env s2).bind fun r s3 => .ok ((k, b) :: r) s3
  | none => .bad
def mergeD (kvs more : List (Key × D)) : List (Key × D) := more.foldl (fun acc kv => putD acc kv.1 kv.2) kvs
theorem KR.merge : ∀ {more : List (Key × D)} {rs : List (Key × V)} {kvs : List (Key × D)} {gs : List (Key × V)}, KR K ρ n H more rs → KR K ρ n H kvs gs → KR K ρ n H (mergeD kvs more) (mergeK gs rs)
  | [], rs, kvs, gs, r, q => by
    have r' : rs = [] := r
    subst r'
    exact q
  | (j, e) :: more, _, kvs, gs, r, q => by
    obtain ⟨w, hs, rfl, r1, rs⟩ := r
    exact KR.merge (kvs := putD kvs j e) (gs := putK gs j w) rs (q.put r1)
/-- the pairs: the keys' expressions and the values', with their words -/
inductive PV (g : Gh) (X : Cx) (pos : Pos) : List (Option Expr) → List Expr → List (TE × TE) → Pf → Prop
  | nil : PV g X pos [] [] [] pNil
  | cons {k v : Expr} {ks : List (Option Expr)} {vs : List Expr} {fk fv : Ef} {trs : List (TE × TE)} {t : Pf} (hk : EV g X k fk) (hv : EV g X v fv) (h : PV g X pos ks vs trs t) : PV g X pos (some k :: ks) (v :: vs) ((tE g fk, tE g fv) :: trs) (pCons fk fv t)
theorem PV.pps {ks : List (Option Expr)} {vs : List Expr} {trs : List (TE × TE)} {t : Pf} (h : PV g X pos ks vs trs t) : PPs X pos ks vs trs := by
  induction h with
  | nil => exact pps_nil
  | cons hk hv h ih => exact pps_cons hk hv ih
theorem PV.pairs {ks : List (Option Expr)} {vs : List Expr} {trs : List (TE × TE)} {t : Pf} (h : PV g X pos ks vs trs t) : ∀ {ρ : Nat → Addr} {st : Store} {H : Hp} {env : EEnv} {σ : St} {kvs : List (Key × D)} {st' : Store} {Q : List (V × V) → Hp → Prop},
    Rel g ρ st H → EnvR g.K ρ st.length H env σ → t env st = .ok kvs st' → (∀ ρ' H' gs, Post g ρ st H ρ' st' H' → KR g.K ρ' st'.length H' kvs gs → Q (gs.map fun kv => (kV kv.1, kv.2)) H') → tPairs trs σ H Q := by
  induction h with
  | nil =>
    intro ρ st H env σ kvs st' Q Rl E h k
    cases h
    exact k ρ H [] (Post.refl Rl) rfl
  | cons hk hv h ih =>
    intro ρ st H env σ kvs st' Q Rl E h k
    obtain ⟨d1, s1, e1, h⟩ := R.bind_eq h
    obtain ⟨d2, s2, e2, h⟩ := R.bind_eq h
    split at h
    · rename_i kk hkk
      obtain ⟨r, s3, e3, h⟩ := R.bind_eq h
      cases h
      refine ⟨ρ, st, env, d1, s1, Rl, E, e1, fun ρ1 H1 y1 P1 r1 => ?_⟩
      refine ⟨ρ1, s1, env, d2, s2, P1.rel, P1.envr Rl E, e2, fun ρ2 H2 y2 P2 r2 => ?_⟩
      have P12 := P1.trans P2
      have ek := key_vr r1 hkk
      subst ek
      refine ih P2.rel (P12.envr Rl E) e3 fun ρ' H' gs P3 rg => ?_
      exact k ρ' H' ((kk, y2) :: gs) (P12.trans P3) ⟨y2, gs, rfl, P3.vr P2.rel r2, rg⟩
    · cases h
def eDict (t : Pf) : Ef := fun env st => (t env st).bind fun kvs s => if kvs.length ≤ 15 then .ok (.loc s.length) (s ++ [.dic (mergeD [] kvs)]) else .bad
theorem Post.tempD {ρ ρ' : Nat → Addr} {st st' : Store} {H H' : Hp} {p : Addr} {ys zs : List (Key × V)} (P : Post g ρ st H ρ' st' H') (hp : H p = none) (hn : ∀ l, mutAt st' l → ρ' l ≠ p) (hl : H' p = some (.dK ys)) :
    Post g ρ st H ρ' st' (upd H' p (.dK zs)) ∧ TK g.K H' (upd H' p (.dK zs)) := by
  have kn : ∀ b o, H' b = some o → ¬ Mut (some o) → upd H' p (.dK zs) b = some o := fun b o e nm => by
    rw [upd_ne]
    · exact e
    · intro w
      subst w
      rw [hl] at e
      cases e
      exact nm trivial
  have t : TK g.K H' (upd H' p (.dK zs)) := TK.of kn
  refine ⟨⟨⟨fun l o e => ?_, P.rel.inj⟩, P.len, P.old, fun b o e h => ?_, P.fresh, P.kind⟩, t⟩
  · have q := P.rel.obj l o e
    have ne : o.mut = true → ρ' l ≠ p := fun m => hn l ⟨o, e, m⟩
    cases o with
    | ro ns => exact RoL.of kn q
    | lst xs => obtain ⟨us, e1, r⟩ := q; exact ⟨us, by rw [upd_ne (ne rfl)]; exact e1, r.mono (fun _ _ => rfl) (Nat.le_refl _) t⟩
    | ins c fs => obtain ⟨hc, dx, gs, e1, r⟩ := q; exact ⟨hc, dx, gs, by rw [upd_ne (ne rfl)]; exact e1, r.mono (fun _ _ => rfl) (Nat.le_refl _) t⟩
    | dic kvs => obtain ⟨gs, e1, r⟩ := q; exact ⟨gs, by rw [upd_ne (ne rfl)]; exact e1, r.mono (fun _ _ => rfl) (Nat.le_refl _) t⟩
    | opq => obtain ⟨φ, e1⟩ := q; exact ⟨φ, by rw [upd_ne (ne rfl)]; exact e1⟩
  · rw [upd_ne (ne_of_none e hp)]
    exact P.keep b o e h
theorem e_disp {ks : List (Option Expr)} {vs : List Expr} {trs : List (TE × TE)} {t : Pf} (h : PV g X pos ks vs trs t) (hall : ks.all (·.isSome) = true := by rfl) (hl : ks.length = vs.length := by rfl) (h0 : ks ≠ [] := by simp) (h15 : ks.length ≤ 15 := by decide) :
    EV g X (.Dict ks vs pos) (eDict t) := pe_imp (pe_disp h.pps hall hl h0 h15) fun σ H Q ⟨ρ, st, env, v, st', Rl, E, hh, k⟩ => fun p hp => by
  obtain ⟨kvs, s1, e1, hh⟩ := R.bind_eq hh
  split at hh
  · rename_i hz
    cases hh
    have P0 : Post g ρ st H ρ st (upd H p (.dK [])) := Rl.tup hp
    refine h.pairs P0.rel (P0.envr Rl E) e1 fun ρ' H' gs P r => ?_
    have P1 := P0.trans P
    have n0 : ∀ l, mutAt st l → ρ l ≠ p := fun l m q => by
      obtain ⟨u, e2, _⟩ := Rl.mutSome m
      rw [q, hp] at e2
      cases e2
    have hd : H' p = some (.dK []) := P.keep p _ upd_same n0
    have n1 : ∀ l, mutAt s1 l → ρ' l ≠ p := fun l m q => by
      by_cases hl' : l < st.length
      · rw [P.old l hl'] at q
        exact n0 l (P.mutB m hl') q
      · have := P.fresh l (Nat.le_of_not_lt hl') (mutAt_lt m)
        rw [q, upd_same] at this
        cases this
    refine ⟨hd, gs, rfl, by rw [r.length]; exact hz, ?_⟩
    obtain ⟨P2, t2⟩ := P1.tempD (zs := mergeK [] gs) hp n1 hd
    have r2 : KR g.K ρ' s1.length (upd H' p (.dK (mergeK [] gs))) kvs gs := r.mono (fun _ _ => rfl) (Nat.le_refl _) t2
    refine k _ _ _ (P2.named (o := .dic (mergeD [] kvs)) n1 hp ⟨mergeK [] gs, upd_same, KR.merge r2 rfl⟩) ?_
    unfold VR
    exact ⟨by simp, by rw [nxt_same]⟩
  · cases hh
def eDict0 : Ef := fun _ st => .ok (.loc st.length) (st ++ [.dic []])
theorem e_disp0 : EV g X (.Dict [] [] pos) eDict0 := pe_imp pe_dnewK fun σ H Q ⟨ρ, st, env, v, st', Rl, E, hh, k⟩ => fun p hp => by
  cases hh
  refine k _ _ _ (Rl.push (o := .dic []) hp ⟨[], upd_same, rfl⟩) ?_
  unfold VR
  exact ⟨by simp, by rw [nxt_same]⟩
end
/-! ### how simp reckons -/
section
variable {env : EEnv} {st s : Store} {fa fb fo f : Ef} {d x y : D} {l : Nat} {kvs r : List (Key × D)} {k j : Key} {t : Pf} {z w : Str} {m : Int} {z' w' : String}
def dGet (o : Option O) (y : D) (s : Store) : R D := match o with | some (.dic kvs) => okO ((keyD y).bind (valD kvs)) s | _ => .bad
@[simp] theorem ev_dgF : dgF (.loc l) y s = dGet (s[l]?) y s := by
  unfold dgF dGet okO
  rfl
@[simp] theorem ev_dGet : dGet (some (.dic kvs)) y s = okO ((keyD y).bind (valD kvs)) s := rfl
@[simp] theorem keyD_str : keyD (.str z) = some (.inr z) := rfl
@[simp] theorem keyD_int : keyD (.int m) = some (.inl m) := rfl
@[simp] theorem valD_nil : valD [] k = none := rfl
@[simp] theorem valD_cons : valD ((j, d) :: kvs) k = if j = k then some d else valD kvs k := by
  unfold valD
  rw [List.find?_cons]
  by_cases h : j = k <;> simp [h]
def kGD3 (env : EEnv) (u : Unit) (s : Store) : R EEnv := .ok env s
def kGD2 (o d : D) (env : EEnv) (i : D) (s : Store) : R EEnv := (setD o i d s).bind (kGD3 env)
def kGD1 (fi : Ef) (d : D) (env : EEnv) (o : D) (s : Store) : R EEnv := (fi env s).bind (kGD2 o d env)
@[simp] theorem ev_gD : gD fo f d env st = (fo env st).bind (kGD1 f d env) := rfl
@[simp] theorem ev_kGD1 : kGD1 f d env x s = (f env s).bind (kGD2 x d env) := rfl
@[simp] theorem ev_kGD2 : kGD2 x d env y s = (setD x y d s).bind (kGD3 env) := rfl
@[simp] theorem ev_kGD3 {v : Unit} : kGD3 env v s = .ok env s := rfl
def sDP (kk : Option Key) (l : Nat) (kvs : List (Key × D)) (v : D) (s : Store) : R Unit := match kk with | some k => if kvs.length < sizeLine then .ok () (s.set l (.dic (putD kvs k v))) else .bad | none => .bad
def sDS (o : Option O) (l : Nat) (y : D) (v : D) (s : Store) : R Unit := match o with | some (.dic kvs) => sDP (keyD y) l kvs v s | _ => .bad
@[simp] theorem ev_setD : setD (.loc l) y d s = sDS (s[l]?) l y d s := rfl
@[simp] theorem ev_sDS : sDS (some (.dic kvs)) l y d s = sDP (keyD y) l kvs d s := rfl
@[simp] theorem ev_sDP : sDP (some k) l kvs d s = if kvs.length < sizeLine then .ok () (s.set l (.dic (putD kvs k d))) else .bad := rfl
@[simp] theorem putD_nil : putD [] k d = [(k, d)] := rfl
def kPC3 (k : Key) (b : D) (r : List (Key × D)) (s : Store) : R (List (Key × D)) := .ok ((k, b) :: r) s
def kPCk (o : Option Key) (b : D) (t : Pf) (env : EEnv) (s : Store) : R (List (Key × D)) := match o with | some k => (t env s).bind (kPC3 k b) | none => .bad
def kPC2 (a : D) (t : Pf) (env : EEnv) (b : D) (s : Store) : R (List (Key × D)) := kPCk (keyD a) b t env s
def kPC1 (fv : Ef) (t : Pf) (env : EEnv) (a : D) (s : Store) : R (List (Key × D)) := (fv env s).bind (kPC2 a t env)
@[simp] theorem ev_pNil : pNil env st = .ok [] st := rfl
@[simp] theorem ev_pCons : pCons fa fb t env st = (fa env st).bind (kPC1 fb t env) := rfl
@[simp] theorem ev_kPC1 : kPC1 fb t env x s = (fb env s).bind (kPC2 x t env) := rfl
@[simp] theorem ev_kPC2 : kPC2 x t env y s = kPCk (keyD x) y t env s := rfl
@[simp] theorem ev_kPCk : kPCk (some k) y t env s = (t env s).bind (kPC3 k y) := rfl
@[simp] theorem ev_kPC3 : kPC3 k y r s = .ok ((k, y) :: r) s := rfl
def kDict (kvs : List (Key × D)) (s : Store) : R D := if kvs.length ≤ 15 then .ok (.loc s.length) (s ++ [.dic (mergeD [] kvs)]) else .bad
@[simp] theorem ev_eDict : eDict t env st = (t env st).bind kDict := rfl
@[simp] theorem ev_kDict : kDict kvs s = if kvs.length ≤ 15 then .ok (.loc s.length) (s ++ [.dic (mergeD [] kvs)]) else .bad := rfl
@[simp] theorem ev_eDict0 : eDict0 env st = .ok (.loc st.length) (st ++ [.dic []]) := rfl
@[simp] theorem mergeD_nil : mergeD kvs [] = kvs := rfl
@[simp] theorem mergeD_cons : mergeD kvs ((k, d) :: r) = mergeD (putD kvs k d) r := rfl
theorem putD_cons : putD ((j, x) :: kvs) k d = if j = k then (j, d) :: (kvs.map fun kv => if kv.1 = k then (kv.1, d) else kv) else (j, x) :: putD kvs k d := by
  unfold putD
  rw [List.any_cons]
  by_cases h : j = k
  · simp [h]
  · simp only [h, decide_false, Bool.false_or, if_false]
    split
    · simp [h]
    · simp
theorem putD_def : putD kvs k d = if (kvs.any fun kv => decide (kv.1 = k)) = true then kvs.map (fun kv => if kv.1 = k then (kv.1, d) else kv) else kvs ++ [(k, d)] := rfl
end
end Ev

/-! Ev17: enumerate over a tuple. -/
namespace Ev
open PySem L2
open PyProof.Rows hiding St
section
variable {prog : Program} {w : World} {A : Around} {E : Value → Shared → Prop} {s : Shared}
/-- the next item of a tuple's iterator, as enumerate asks it -/
theorem tupNext {it t : Addr} {i : Nat} {items : Array Value} {x : Value} {Q : Value → Shared → Prop} (hit : s.heap.IsTupleIter it t i) (ht : s.heap.IsTuple t items) (hx : items[i]? = some x)
    (hQ : ∀ h', h'.IsTupleIter it t (i + 1) → Heap.SameBut it s.heap h' → Q x { s with heap := h' }) : wpAny (model prog w) A (Builtin.SmallTypes.nextOf (.ref it)) Q E s := by
  obtain ⟨o, ho, hc, hd⟩ := id hit
  obtain ⟨ol, hol, _, nl, hdl⟩ := ht
  unfold Builtin.SmallTypes.nextOf
  refine wpAny_bind (wpAny_callSpecial?_slot (name := Str.ofString "__next__") hit.typeIs F.slot_tuple_iterator_next (wpAny_call_entry F.slot_tuple_iterator_next hit.typeIs F.entry_tuple_iterator_next ?_ (F.args_tuple_iterator_next_1 _)))
  show wpAny _ _ (field (.ref it) 0 >>= _) _ _ s
  refine wpAny_bind (wpAny_field ho hd (x := .ref t) rfl ?_)
  show wpAny _ _ (if (Value.ref t == Value.none) = true then _ else _) _ _ s
  rw [if_neg (show ¬ ((Value.ref t == Value.none) = true) from Bool.false_ne_true)]
  show wpAny _ _ (field (.ref it) 1 >>= _) _ _ s
  refine wpAny_bind (wpAny_field ho hd (x := .int i 0) rfl ?_)
  show wpAny _ _ (seqItems? (.ref t) >>= _) _ _ s
  refine wpAny_bind (wpAny_seqItems hol hdl ?_)
  simp only [Int.toNat_natCast, hx]
  refine wpAny_bind (wpAny_setField ho hd (by simp) (wpAny_pure ⟨x, rfl, wpAny_pure (hQ _ ?_ (Heap.SameBut.update ..))⟩))
  exact ⟨_, Heap.get?_update_self _ ho (Obj.isFreed_of_fields (Obj.data_mapFields hd _)), (Obj.cls_mapFields ..).trans hc, by
    rw [Obj.data_mapFields hd]; simp [rawInt]⟩
/-- there is none: StopIteration -/
theorem tupStop {it t : Addr} {i : Nat} {items : Array Value} {Q : Value → Shared → Prop} (hh : A.handled = none) (hit : s.heap.IsTupleIter it t i) (ht : s.heap.IsTuple t items) (hx : items[i]? = none)
    (hE : ∀ h' e, Heap.ExtBut it s.heap h' → (∃ o, h'.get? e = some o ∧ o.cls = .type "StopIteration") → E (.ref e) { s with heap := h' }) : wpAny (model prog w) A (Builtin.SmallTypes.nextOf (.ref it)) Q E s := by
  obtain ⟨o, ho, hc, hd⟩ := id hit
  obtain ⟨ol, hol, _, nl, hdl⟩ := ht
  unfold Builtin.SmallTypes.nextOf
  refine wpAny_bind (wpAny_callSpecial?_slot (name := Str.ofString "__next__") hit.typeIs F.slot_tuple_iterator_next (wpAny_call_entry F.slot_tuple_iterator_next hit.typeIs F.entry_tuple_iterator_next ?_ (F.args_tuple_iterator_next_1 _)))
  show wpAny _ _ (field (.ref it) 0 >>= _) _ _ s
  refine wpAny_bind (wpAny_field ho hd (x := .ref t) rfl ?_)
  show wpAny _ _ (if (Value.ref t == Value.none) = true then _ else _) _ _ s
  rw [if_neg (show ¬ ((Value.ref t == Value.none) = true) from Bool.false_ne_true)]
  show wpAny _ _ (field (.ref it) 1 >>= _) _ _ s
  refine wpAny_bind (wpAny_field ho hd (x := .int i 0) rfl ?_)
  show wpAny _ _ (seqItems? (.ref t) >>= _) _ _ s
  refine wpAny_bind (wpAny_seqItems hol hdl ?_)
  simp only [Int.toNat_natCast, hx]
  refine wpAny_bind (wpAny_rule (wpAny_bind (wpAny_setField ho hd (by simp) ?_)))
  show wpAny _ _ (newExc (.type "StopIteration") [] >>= _) _ _ _
  refine wpAny_bind ?_
  simp only [newExc, newTuple]
  refine wpAny_bind (wpAny_newObj_type ?_ (by size_fits))
  refine wpAny_bind (m := firstArgMember _ _) (wpAny_of_eq (a := Value.none) (by first | rfl | (simp only [firstArgMember]; rfl)) ?_)
  refine wpAny_newObj_type ?_ (by size_fits)
  simp only [raiseNew]
  refine wpAny_bind (wpAny_handled ?_)
  first | rw [show A.in1.handled = none from hh] | rw [hh]
  refine wpAny_bind (wpAny_pure (wpAny_throw ?_))
  exact hE _ _ (((Heap.SameBut.update ..).extBut.push _).push _) ⟨_, Heap.get?_push_size _ rfl, rfl⟩
/-- enumerate's own step, whatever it walks: P tells how its source stands behind it -/
theorem enumStep {e it : Addr} {i : Nat} {x old : Value} {P : Heap → Prop} {Q : Value → Shared → Prop} (he : IsEnum s.heap e it i old) (hne : e ≠ it) (keep : ∀ h h', Heap.ExtBut e h h' → P h → P h')
    (nx : ∀ (B : Around) (Q' : Value → Shared → Prop), (∀ h1, P h1 → Heap.SameBut it s.heap h1 → Q' x { s with heap := h1 }) → wpAny (model prog w) B (Builtin.SmallTypes.nextOf (.ref it)) Q' E s)
    (hQ : ∀ h', IsEnumOut h' e it ((i : Int) + 1) x s.heap.objs.size → P h' → h'.get? s.heap.objs.size = some { cls := .type "tuple", data := .seq #[.int i s.toks, x] } → h'.objs.size = s.heap.objs.size + 1 →
      (∀ b o, b ≠ e → b ≠ it → s.heap.get? b = some o → h'.get? b = some o) → Q (.ref s.heap.objs.size) { s with heap := h', toks := s.toks + 1 }) :
    wpAny (model prog w) A (Builtin.«enumerate.__next__» ⟨[.ref e], []⟩) (fun fin s' => ∃ v, fin = .done (.ret v) ∧ Q v s') E s := by
  obtain ⟨hp, g, d, tk, os⟩ := s
  show wpAny _ _ (field (.ref e) 2 >>= _) _ _ _
  refine wpAny_bind (wpAny_field he rfl (x := .ref it) rfl ?_)
  refine wpAny_bind (nx _ _ fun h1 p1 sb1 => ?_)
  replace sb1 : Heap.SameBut it hp h1 := sb1
  have he1 : IsEnum h1 e it i old := (sb1.2 e hne).trans he
  show wpAny _ _ (field (.ref e) 3 >>= _) _ _ ⟨h1, g, d, tk, os⟩
  refine wpAny_bind (wpAny_field he1 rfl (x := rawInt i) rfl ?_)
  show wpAny _ _ (field (.ref e) 4 >>= _) _ _ ⟨h1, g, d, tk, os⟩
  refine wpAny_bind (wpAny_field he1 rfl (x := .none) rfl ?_)
  show wpAny _ _ (mkInt i >>= _) _ _ ⟨h1, g, d, tk, os⟩
  refine wpAny_bind (wpAny_mkInt ?_)
  show wpAny _ _ (setField (.ref e) 3 (rawInt ((i : Int) + 1)) >>= _) _ _ ⟨h1, g, d, tk + 1, os⟩
  refine wpAny_bind (wpAny_setField_rec he1 (by simp) fun h2 he2 sb2 => ?_)
  replace sb2 : Heap.SameBut e h1 h2 := sb2
  replace he2 : IsEnum h2 e it ((i : Int) + 1) old := he2
  show wpAny _ _ (setField (.ref e) 4 .none >>= _) _ _ ⟨h2, g, d, tk + 1, os⟩
  refine wpAny_bind (wpAny_setField_rec he2 (by simp) fun h3 he3 sb3 => ?_)
  replace sb3 : Heap.SameBut e h2 h3 := sb3
  replace he3 : IsEnum h3 e it ((i : Int) + 1) old := he3
  have p3 : P h3 := keep _ _ sb3.extBut (keep _ _ sb2.extBut p1)
  have z3 : h3.objs.size = hp.objs.size := by rw [sb3.1, sb2.1, sb1.1]
  have k3 : ∀ b o, b ≠ e → b ≠ it → hp.get? b = some o → h3.get? b = some o := fun b o be bi q => sb3.extBut b o be (sb2.extBut b o be (sb1.extBut b o bi q))
  show wpAny _ _ (newTuple [.int i tk, x] >>= _) _ _ ⟨h3, g, d, tk + 1, os⟩
  refine wpAny_bind (wpAny_newTuple ?_)
  obtain ⟨h4, e4⟩ : ∃ h4, h4 = h3.push { cls := .type "tuple", data := .seq #[.int i tk, x] } := ⟨_, rfl⟩
  have he4 : IsEnum h4 e it ((i : Int) + 1) old := by rw [e4]; exact Heap.get?_push_of_some _ he3
  have x4 : ∀ b o, h3.get? b = some o → h4.get? b = some o := fun b o q => by rw [e4]; exact Heap.get?_push_of_some _ q
  have t4 : h4.get? hp.objs.size = some { cls := .type "tuple", data := .seq #[.int i tk, x] } := by rw [e4, ← z3]; exact Heap.get?_push_size _ rfl
  have z4 : h4.objs.size = hp.objs.size + 1 := by rw [e4, Heap.size_push, z3]
  have p4 : P h4 := keep _ _ (fun b o _ q => x4 b o q) p3
  have hel : e < hp.objs.size := Heap.lt_size he
  show wpAny _ _ (Builtin.SmallTypes.ownedTupleIsFree (.ref e) >>= _) _ _ ⟨h3.push { cls := .type "tuple", data := .seq #[.int i tk, x] }, g, d, tk + 1, os⟩
  rw [← e4, z3]
  refine wpAny_bind ?_
  unfold Builtin.SmallTypes.ownedTupleIsFree
  refine wpAny_bind (wpAny_field he4 rfl (x := .none) rfl (wpAny_pure ?_))
  simp only [if_true]
  refine wpAny_bind (wpAny_rule ?_)
  refine wpAny_bind (wpAny_field he4 rfl (x := old) rfl ?_)
  refine wpAny_bind (wpAny_setField_rec he4 (by simp) fun h5 he5 sb5 => ?_)
  replace sb5 : Heap.SameBut e h4 h5 := sb5
  replace he5 : IsEnum h5 e it ((i : Int) + 1) x := he5
  show wpAny _ _ (Builtin.SmallTypes.ownedTupleHandOut (.ref e) (.ref hp.objs.size) >>= _) _ _ ⟨h5, g, d, tk + 1, os⟩
  refine wpAny_bind ?_
  unfold Builtin.SmallTypes.ownedTupleHandOut
  refine wpAny_bind (wpAny_setField_rec he5 (by simp) fun h6 he6 sb6 => ?_)
  replace sb6 : Heap.SameBut e h5 h6 := sb6
  replace he6 : IsEnumOut h6 e it ((i : Int) + 1) x hp.objs.size := he6
  refine wpAny_setField_rec he6 (by simp) fun h7 he7 sb7 => ?_
  replace sb7 : Heap.SameBut e h6 h7 := sb7
  replace he7 : IsEnumOut h7 e it ((i : Int) + 1) x hp.objs.size := he7
  have ext : Heap.ExtBut e h4 h7 := fun b o be q => sb7.extBut b o be (sb6.extBut b o be (sb5.extBut b o be q))
  refine wpAny_bind (wpAny_letGo (wpAny_pure ⟨_, rfl, hQ h7 he7 (keep _ _ ext p4) (ext _ _ (Nat.ne_of_gt hel) t4) (by rw [sb7.1, sb6.1, sb5.1, z4]) fun b o be bi q => ext b o be (x4 b o (k3 b o be bi q))⟩))
theorem enumT_item {e it t : Addr} {i : Nat} {items : Array Value} {x old : Value} {Q : Option Value → Shared → Prop} (he : IsEnum s.heap e it i old) (hit : s.heap.IsTupleIter it t i) (ht : s.heap.IsTuple t items) (hx : items[i]? = some x) (hne : e ≠ it)
    (hQ : ∀ h', IsEnumOut h' e it ((i : Int) + 1) x s.heap.objs.size → h'.IsTupleIter it t (i + 1) → h'.get? s.heap.objs.size = some { cls := .type "tuple", data := .seq #[.int i s.toks, x] } → h'.objs.size = s.heap.objs.size + 1 →
      (∀ b o, b ≠ e → b ≠ it → s.heap.get? b = some o → h'.get? b = some o) → Q (some (.ref s.heap.objs.size)) { s with heap := h', toks := s.toks + 1 }) : wpAny (model prog w) A (pyNext (.ref e)) Q E s := by
  have hT : s.TypeIs (.ref e) "enumerate" := ⟨_, he, rfl⟩
  unfold pyNext
  exact wpAny_bind (wpAny_attempt (wpAny_callSpecial?_slot (name := Str.ofString "__next__") hT F.slot_enumerate_next (wpAny_call_entry F.slot_enumerate_next hT F.entry_enumerate_next
    (enumStep (P := fun h => h.IsTupleIter it t (i + 1)) he hne (fun h h' k p => p.extBut k (Ne.symm hne)) (fun B Q' k => tupNext hit ht hx fun h1 p1 sb => k h1 p1 sb) fun h' a b c d k => wpAny_pure (hQ h' a b c d k)) (F.args_enumerate_next_1 _))))
theorem enumT_end {e it t : Addr} {i : Nat} {items : Array Value} {old : Value} {Q : Option Value → Shared → Prop} (hh : A.handled = none) (he : IsEnum s.heap e it i old) (hit : s.heap.IsTupleIter it t i) (ht : s.heap.IsTuple t items) (hx : items[i]? = none)
    (hQ : ∀ h', Heap.ExtBut it s.heap h' → Q none { s with heap := h' }) : wpAny (model prog w) A (pyNext (.ref e)) Q E s := by
  have hT : s.TypeIs (.ref e) "enumerate" := ⟨_, he, rfl⟩
  unfold pyNext
  refine wpAny_bind (wpAny_attempt (wpAny_callSpecial?_slot (name := Str.ofString "__next__") hT F.slot_enumerate_next (wpAny_call_entry F.slot_enumerate_next hT F.entry_enumerate_next ?_ (F.args_enumerate_next_1 _))))
  show wpAny _ _ (field (.ref e) 2 >>= _) _ _ _
  refine wpAny_bind (wpAny_field he rfl (x := .ref it) rfl ?_)
  refine wpAny_bind (tupStop hh hit ht hx fun h' x he' hx' => ?_)
  obtain ⟨o, ho, hc⟩ := hx'
  refine wpAny_bind (wpAny_isInstance (T := "StopIteration") (b := true) ⟨o, ho, hc⟩ isSubtype_stop ?_)
  exact wpAny_pure (hQ _ he')
end
open AutoSeq1 (wpAny_loadPart') in
theorem enumT_new (l : Addr) (items : Array Value) (n : Nat) (dct : Option Addr) (sl : Array (Option Value)) :
    Meets (Builtin.«enumerate.__new__» ⟨[.type "enumerate", .ref l], []⟩) (fun _ R s => s.heap.get? l = some { cls := .type "tuple", dict := dct, data := .seq items n, slots := sl } ∧
      R (.ok (.ret (.ref (s.heap.push { cls := .type "tuple_iterator", data := .fields #[.ref l, .int 0 0] }).objs.size)))
        { s with heap := (s.heap.push { cls := .type "tuple_iterator", data := .fields #[.ref l, .int 0 0] }).push { cls := .type "enumerate", data := .fields #[.none, .bool false, .ref s.heap.objs.size, rawInt 0, .none, .none] } }) :=
  .of_wp fun prog w A R s h => by
    obtain ⟨hp, g, d, tk, os⟩ := s; obtain ⟨hl, h⟩ := h
    have hsub := sub_enumerate
    have hL : Heap.IsTuple (Shared.heap ⟨hp, g, d, tk, os⟩) l items := ⟨_, hl, rfl, n, rfl⟩
    wp_walk using wpAny_loadPart' hl
    refine wpAny_stack_any fun st => wpAny_pure ?_
    split
    · rename_i c _ _ _ _ _
      cases (c == Value.type "enumerate")
      · wp_walk using wpAny_loadPart' hl, wpAny_pyIter_tuple hL
        exact ⟨_, rfl, h⟩
      · wp_walk using wpAny_loadPart' hl, wpAny_pyIter_tuple hL
        exact ⟨_, rfl, h⟩
    · wp_walk using wpAny_loadPart' hl, wpAny_pyIter_tuple hL
      exact ⟨_, rfl, h⟩
theorem call_enumT {prog : Program} {w : World} {A : Around} {E : Value → Shared → Prop} {s : Shared} {l : Addr} {items : Array Value} {Q : Value → Shared → Prop} (hL : s.heap.IsTuple l items)
    (h : ∀ h', IsEnum h' (s.heap.objs.size + 1) s.heap.objs.size 0 .none → h'.IsTupleIter s.heap.objs.size l 0 → h'.objs.size = s.heap.objs.size + 2 → (∀ b o, s.heap.get? b = some o → h'.get? b = some o) → Q (.ref (s.heap.objs.size + 1)) { s with heap := h' }) :
    wpAny (model prog w) A (call (.type "enumerate") [.ref l]) Q E s := by
  obtain ⟨⟨c, dct, dt, sl⟩, hl, hc, n, hd⟩ := hL
  replace hc : c = .type "tuple" := hc
  replace hd : dt = .seq items n := hd
  subst hc hd
  refine callType_new F.called_enumerate (by decide) (F.typeCall_enumerate_1 _) (F.newCall_enumerate_1 _) (fun obj => F.args_object_init_2 obj _) F.entry_enumerate_new (enumT_new l items n dct sl) ⟨hl, ?_⟩
  have hz : (s.heap.push { cls := .type "tuple_iterator", data := .fields #[.ref l, .int 0 0] }).objs.size = s.heap.objs.size + 1 := Heap.size_push ..
  show _ ∧ _
  rw [hz]
  have he : IsEnum ((s.heap.push { cls := .type "tuple_iterator", data := .fields #[.ref l, .int 0 0] }).push { cls := .type "enumerate", data := .fields #[.none, .bool false, .ref s.heap.objs.size, rawInt 0, .none, .none] }) (s.heap.objs.size + 1) s.heap.objs.size 0 .none := by
    have := Heap.get?_push_size (s.heap.push { cls := .type "tuple_iterator", data := .fields #[.ref l, .int 0 0] }) (o := { cls := .type "enumerate", data := .fields #[.none, .bool false, .ref s.heap.objs.size, rawInt 0, .none, .none] }) rfl
    rw [hz] at this; exact this
  exact ⟨⟨_, he, rfl⟩, h _ he ⟨_, Heap.get?_push_of_some _ (Heap.get?_push_size _ rfl), rfl, rfl⟩ (by rw [Heap.size_push, hz]) fun b o x => Heap.get?_push_of_some _ (Heap.get?_push_of_some _ x)⟩
end Ev

/-! Ev18: enumerate and zip of tuples or lists; comprehensions with two fors. -/
namespace Ev
open PySem L2
open PyProof.Rows hiding St
/-! ### enumerate(tuple) -/
def IteT (K : PySem.W.Frag) (a : Addr) : It :=
  ⟨fun i H => ∃ (xs : List V) (x : V), SqT K H a xs ∧ xs[i]? = some x, fun i H v H' => ∃ T x, v = .ref T ∧ H T = none ∧ H' = upd H T (.tup [.int (i : Nat), x]) ∧ ∀ xs, SqT K H a xs → xs[i]? = some x, fun i H => ∃ xs : List V, SqT K H a xs ∧ xs.length ≤ i⟩
theorem turn_enumT {P : Program} {w : World} {K : PySem.W.Frag} {elts : List Expr} {kk : Nat} {tpos : Pos} (a e it : Addr) :
    Turn P w K (.Tuple elts kk tpos) (IteT K a) [e, it] e (fun i h => (∃ old, IsEnum h e it ((i : Nat) : Int) old) ∧ h.IsTupleIter it a i ∧ e ≠ it) where
  mem := by simp
  obj := fun i h st b hb => by
    obtain ⟨⟨old, he⟩, ⟨o, ho, hc, hd⟩, _⟩ := st
    have e' : b = e ∨ b = it := by simpa using hb
    rcases e' with z | z
    · rw [z]; exact ⟨_, he, fun v q => nomatch q⟩
    · rw [z]; exact ⟨o, ho, fun v q => by rw [hd] at q; cases q⟩
  keep := fun i h h' st k => let ⟨⟨old, he⟩, hi, hne⟩ := st; ⟨⟨old, k e (by simp) _ he⟩, hi.at fun o q => k it (by simp) o q, hne⟩
  item := by
    intro X hP hw hK hc i pins s σ H E I hf st hg
    subst hP hw hK
    obtain ⟨⟨old, he⟩, hit, hne⟩ := st
    obtain ⟨xs, x, hq, hx⟩ := hg
    obtain ⟨its, rv, p, hz⟩ := I.tuple hq
    obtain ⟨u, hu, ru⟩ := rv.get hx
    have hel : e < s.heap.objs.size := Heap.lt_size he
    have hil : it < s.heap.objs.size := by obtain ⟨_, q, _⟩ := hit; exact Heap.lt_size q
    refine enumT_item he hit p (x := u) (by simpa using hu) hne fun h' ho hit' hT hsz hk => ?_
    refine ⟨_, rfl, wpAny_letOwnedTupleGo_enum (s := { s with heap := h', toks := s.toks + 1 }) ho fun h'' he' sb => ?_⟩
    have hT2 : h''.get? s.heap.objs.size = some { cls := .type "tuple", data := .seq #[.int i s.toks, u] } := (sb.2 _ (Nat.ne_of_gt hel)).trans hT
    have new : ObjOk X.prog X.w (upd H s.heap.objs.size (.tup [.int (i : Nat), x])) h'' s.heap.objs.size (.tup [.int (i : Nat), x]) :=
      ⟨by show 2 ≤ sizeLine; decide, [.int i s.toks, u], .cons ⟨_, rfl⟩ (.cons ru .nil), ⟨_, hT2, rfl, _, rfl⟩⟩
    have I1 : Inv X pins σ (upd H s.heap.objs.size (.tup [.int (i : Nat), x])) { s with heap := h'', toks := s.toks + 1 } :=
      I.turnedNew (ch := [e, it]) (fun b ob hb q => (sb.2 b (fun z => hb (by simp [z]))).trans (hk b ob (fun z => hb (by simp [z])) (fun z => hb (by simp [z])) q)) hf (Nat.le_refl _) new
    refine ⟨.ref s.heap.objs.size, _, I1, rfl, ⟨_, x, rfl, I.hok.fresh (Nat.le_refl _), rfl, fun ys hy => by rw [I.tuple_inj hy hq]; exact hx⟩, ⟨⟨u, ?_⟩, hit'.at fun o q => (sb.2 it (Ne.symm hne)).trans q, hne⟩, fun b hb => ?_⟩
    · have e1 : ((i + 1 : Nat) : Int) = (i : Int) + 1 := by omega
      rw [e1]; exact he'
    · have hb' : b < s.heap.objs.size := by
        have e' : b = e ∨ b = it := by simpa using hb
        rcases e' with z | z
        · rw [z]; exact hel
        · rw [z]; exact hil
      rw [upd_ne (Nat.ne_of_lt hb')]
      exact (hf b hb).1
  done := by
    intro X hP hw hK hc i pins s σ H E I hf st hg
    subst hP hw hK
    obtain ⟨⟨old, he⟩, hit, hne⟩ := st
    obtain ⟨xs, hq, hx⟩ := hg
    obtain ⟨its, rv, p, hz⟩ := I.tuple hq
    obtain ⟨f0, f1, f2, f3, f4, f5⟩ := hf it (by simp)
    have hl := rv.length
    exact enumT_end (I.ok.hd hc) he hit p (by simp; omega) fun h' eb => ⟨rfl, I.turned (t' := s.toks) (fun b o hb q => eb b o hb q) f0 f1 f3 f4 f5⟩
  self := fun A i s Q E st h => let ⟨⟨_, he⟩, _⟩ := st; wpAny_pyIter_enum he h
def iEnumA (K : PySem.W.Frag) (ta : TA) : TI := fun σ H R => ta σ H fun vs H1 => ∃ a xs, vs = [.ref a] ∧ ((SqL K H1 a xs ∧ R (Ite K a) H1) ∨ (SqT K H1 a xs ∧ R (IteT K a) H1))
theorem pi_enumA {X : Cx} {e : Expr} {ta : TA} {p pos tpos : Pos} {elts : List Expr} {kk : Nat} (hg : Gl X "enumerate") (hm : X.mg "enumerate" = none) (ha : PA X [e] ta) (hs : starEach [e] X.env = [(false, eval e X.env)] := by rfl) :
    PI X (.Tuple elts kk tpos) (.Call (.Name "enumerate" p) [e] [] pos) (iEnumA X.K ta) := by
  refine ⟨fun pins s σ H R I h => ?_⟩
  refine Call_ (ld_blt I hg hm boot_enumerate (callWith_type1 (thn (ha.run pos pins s σ H _ I h) fun us s1 ⟨vs, H1, I1, r1, q1⟩ => ?_) hs rfl))
  obtain ⟨a, xs, ex, q⟩ := q1
  subst ex
  cases r1 with
  | cons r rr =>
    cases rr
    cases r
    have fr : ∀ b ∈ [s1.heap.objs.size + 1, s1.heap.objs.size], FpOk X pins H1 b := fun b hb => by
      have e' : b = s1.heap.objs.size + 1 ∨ b = s1.heap.objs.size := by simpa using hb
      have hle : s1.heap.objs.size ≤ b := by
        rcases e' with z | z
        · rw [z]; exact Nat.le_add_right _ _
        · rw [z]; exact Nat.le_refl _
      exact I1.fpOk hle (I1.hok.fresh hle)
    rcases q with ⟨hq, q⟩ | ⟨hq, q⟩
    · obtain ⟨its, rv, p', hz⟩ := I1.list hq
      refine call_enumerate_list p'.isList fun h' he hit hsz hk => wpAny_pyIter_enum he ?_
      have I2 : Inv X pins σ H1 { s1 with heap := h' } := I1.kept (t' := s1.toks) hk
      exact ⟨s1.heap.objs.size + 1, [s1.heap.objs.size + 1, s1.heap.objs.size], _, _, H1, rfl, I2, turn_enum a (s1.heap.objs.size + 1) s1.heap.objs.size, ⟨⟨.none, he⟩, hit, Nat.succ_ne_self _⟩, fr, q⟩
    · obtain ⟨its, rv, p', hz⟩ := I1.tuple hq
      refine call_enumT p' fun h' he hit hsz hk => wpAny_pyIter_enum he ?_
      have I2 : Inv X pins σ H1 { s1 with heap := h' } := I1.kept (t' := s1.toks) hk
      exact ⟨s1.heap.objs.size + 1, [s1.heap.objs.size + 1, s1.heap.objs.size], _, _, H1, rfl, I2, turn_enumT a (s1.heap.objs.size + 1) s1.heap.objs.size, ⟨⟨.none, he⟩, hit, Nat.succ_ne_self _⟩, fr, q⟩
section
variable {g : Gh} {X : Cx} {tg e a b : Expr} {pos : Pos} {f h : Ef} {elts : List Expr} {kk : Nat} {tpos p : Pos}
theorem walkET {ρ : Nat → Addr} {st : Store} {H : Hp} {p : Addr} {xs : List D} (S : StT g ρ st H p xs) :
    WalkD g ρ st H (IteT g.K p) ⟨enumD 0 xs, []⟩ (fun H => ∃ us, SqT g.K H p us ∧ us.length = xs.length)
      (fun i H v H' => ∃ T x, v = .ref T ∧ H T = none ∧ H' = upd H T (.tup [.int (i : Nat), x]) ∧ ∀ us, SqT g.K H p us → us[i]? = some x) where
  walk := ⟨fun i H hi ⟨us, q, hl⟩ => by
      have hi' : i < us.length := by
        rw [hl]
        have h : i < (enumD 0 xs).length := hi
        rw [enumD_length] at h
        exact h
      exact ⟨us, us[i], q, List.getElem?_eq_getElem hi'⟩,
    fun H ⟨us, q, hl⟩ => ⟨us, q, by show us.length ≤ (enumD 0 xs).length; rw [enumD_length, hl]; exact Nat.le_refl _⟩, fun i H x H' hi _ y => y⟩
  stay := fun ρ2 st2 H2 P w => by
    obtain ⟨us, h⟩ := S
    obtain ⟨q, r⟩ := h ρ2 st2 H2 P
    exact ⟨us, q, r.length.symm⟩
  gives := fun i H2 v H3 ρ2 st2 P w hi ⟨T, x, ev, hT, eH, y⟩ => by
    subst ev
    subst eH
    obtain ⟨us, h⟩ := S
    obtain ⟨q, r⟩ := h ρ2 st2 H2 P
    obtain ⟨d, e1, e2⟩ := r.getB (y us q)
    obtain ⟨Pn, rn⟩ := pair_new (d := .int (i : Nat)) (x := V.int (i : Nat)) P.rel hT (by simp [VR]) e2
    refine ⟨_, ?_, Pn, rn⟩
    have e3 := enumD_get 0 xs i d e1
    rw [Nat.zero_add] at e3
    exact e3
/-- what stands behind a value that is walked -/
theorem srcV_ok {ρ : Nat → Addr} {s : Store} {H : Hp} {d : D} {x : V} {w : Src} {s' : Store} (Rl : Rel g ρ s H) (r : VR g.K ρ s.length H d x) (h : srcV d s = .ok w s') :
    s' = s ∧ ∃ p, x = .ref p ∧ ((StL g ρ s H p w.items w.ws ∧ ∃ us, SqL g.K H p us) ∨ (StT g ρ s H p w.items ∧ w.ws = [] ∧ ∃ us, SqT g.K H p us)) := by
  cases d with
  | tup xs =>
    unfold VR at r
    obtain ⟨p, ys, rfl, q, r⟩ := r
    cases h
    exact ⟨rfl, p, rfl, .inr ⟨StT.of Rl q r, rfl, ys, q⟩⟩
  | loc l =>
    unfold VR at r
    obtain ⟨hl, rfl⟩ := r
    unfold srcV at h
    simp only at h
    split at h
    · rename_i xs q
      cases h
      obtain ⟨ys, e1, rs⟩ := Rl.obj l _ q
      exact ⟨rfl, ρ l, rfl, .inl ⟨StL.place Rl hl (.inl q), ys, SqL.of e1⟩⟩
    · rename_i ns q
      cases h
      exact ⟨rfl, ρ l, rfl, .inl ⟨StL.place Rl hl (.inr ⟨ns, q, rfl⟩), _, RoL.sq (Rl.obj l _ q)⟩⟩
    · cases h
  | _ => cases h
theorem srcLoc_ok {ρ : Nat → Addr} {s : Store} {H : Hp} {l : Nat} {x : V} {w : Src} {s' : Store} (Rl : Rel g ρ s H) (r : VR g.K ρ s.length H (.loc l) x) (h : srcV (.loc l) s = .ok w s') :
    s' = s ∧ ∃ p, x = .ref p ∧ StL g ρ s H p w.items w.ws ∧ ∃ us, SqL g.K H p us := by
  unfold VR at r
  obtain ⟨hl, rfl⟩ := r
  unfold srcV at h
  simp only at h
  split at h
  · rename_i xs q
    cases h
    obtain ⟨ys, e1, rs⟩ := Rl.obj l _ q
    exact ⟨rfl, ρ l, rfl, StL.place Rl hl (.inl q), ys, SqL.of e1⟩
  · rename_i ns q
    cases h
    exact ⟨rfl, ρ l, rfl, StL.place Rl hl (.inr ⟨ns, q, rfl⟩), _, RoL.sq (Rl.obj l _ q)⟩
  · cases h
/-- enumerate(x), x a value -/
def iEnumV (f : Ef) : If := fun env st => (f env st).bind fun d s => (srcV d s).bind fun w s2 => .ok (srcEnum w) s2
theorem i_enumV (x : XG g X) (h : EV g X a f) (hg : Gl X "enumerate" := by rfl) (hs : starEach [a] X.env = [(false, eval a X.env)] := by rfl) :
    IV g X (.Tuple elts kk tpos) (.Call (.Name "enumerate" p) [a] [] pos) (iEnumV f) :=
  pi_imp (pi_enumA hg (x.mg "enumerate") (pa_cons h pa_nil hs) hs) fun σ H Rw ⟨ρ, st, env, s, st', Rl, E, h, k⟩ => by
    obtain ⟨d, s1, e1, h⟩ := R.bind_eq h
    obtain ⟨w, s2, e2, h⟩ := R.bind_eq h
    cases h
    refine ⟨ρ, st, env, d, s1, Rl, E, e1, fun ρ1 H1 y P1 r1 => ?_⟩
    obtain ⟨es, q, ex, c⟩ := srcV_ok P1.rel r1 e2
    subst es
    subst ex
    rw [x.K]
    rcases c with ⟨S, us, sq⟩ | ⟨S, ew, us, sq⟩
    · exact ⟨q, us, rfl, .inl ⟨sq, k ρ1 H1 _ _ _ P1 (walkE S)⟩⟩
    · have e : srcEnum w = ⟨enumD 0 w.items, []⟩ := by unfold srcEnum; rw [ew]
      rw [e] at k
      exact ⟨q, us, rfl, .inr ⟨sq, k ρ1 H1 _ _ _ P1 (walkET S)⟩⟩
/-- zip of two values, both lists or both tuples -/
def bothT : D → D → Bool
  | .tup _, .tup _ => true
  | .loc _, .loc _ => true
  | _, _ => false
def iZipV (f h : Ef) : If := fun env st => (f env st).bind fun d s => (h env s).bind fun d2 s2 => if bothT d d2 = true then (srcV d s2).bind fun w s3 => (srcV d2 s3).bind fun w2 s4 => .ok (srcZip w w2) s4 else .bad
theorem i_zipV (x : XG g X) (ha : EV g X a f) (hb : EV g X b h) (hg : Gl X "zip" := by rfl) (hs : starEach [a, b] X.env = (false, eval a X.env) :: starEach [b] X.env := by rfl) (hs2 : starEach [b] X.env = (false, eval b X.env) :: starEach [] X.env := by rfl) (hpl : (backTo pos (starEach [b] X.env)).any (·.1) = false := by rfl) :
    IV g X (.Tuple elts kk tpos) (.Call (.Name "zip" p) [a, b] [] pos) (iZipV f h) :=
  pi_imp (RZ.pi_zipA hg (x.mg "zip") (pa_cons ha (pa_cons hb pa_nil hs2) hs) hs hpl) fun σ H Rw ⟨ρ, st, env, s, st', Rl, E, h, k⟩ => by
    obtain ⟨d, s1, e1, h⟩ := R.bind_eq h
    obtain ⟨d2, s2, e2, h⟩ := R.bind_eq h
    split at h
    · rename_i hz
      obtain ⟨w, s3, e3, h⟩ := R.bind_eq h
      obtain ⟨w2, s4, e4, h⟩ := R.bind_eq h
      cases h
      refine ⟨ρ, st, env, d, s1, Rl, E, e1, fun ρ1 H1 y P1 r1 => ?_⟩
      refine ⟨ρ1, s1, env, d2, s2, P1.rel, P1.envr Rl E, e2, fun ρ2 H2 y2 P2 r2 => ?_⟩
      have r1' := P2.vr P1.rel r1
      have P12 := P1.trans P2
      rw [x.K]
      cases d <;> cases d2 <;> simp only [bothT] at hz <;> (try cases hz)
      · unfold VR at r1' r2
        obtain ⟨pa, ya, rfl, qa, ra⟩ := r1'
        obtain ⟨pb, yb, rfl, qb, rb⟩ := r2
        cases e3
        cases e4
        exact ⟨_, _, ya, yb, rfl, .inr ⟨qa, qb, k ρ2 H2 _ _ _ P12 (walkZT (StT.of P2.rel qa ra) (StT.of P2.rel qb rb))⟩⟩
      · obtain ⟨es, q, ex, S, us, sq⟩ := srcLoc_ok P2.rel r1' e3
        subst es
        obtain ⟨es, q2, ex2, S2, us2, sq2⟩ := srcLoc_ok P2.rel r2 e4
        subst es
        exact ⟨q, q2, us, us2, by rw [ex, ex2], .inl ⟨sq, sq2, k ρ2 H2 _ _ _ P12 (walkZ S S2)⟩⟩
    · cases h
end
end Ev

/-! Ev19: comprehensions with two fors. -/
namespace Ev
open PySem L2
open PyProof.Rows hiding St
theorem it_W {J : It} {n : Nat} {G : Hp → Prop} {Y : Nat → Hp → V → Hp → Prop} (w : Walk J n G Y) {Step : (Hp → Prop) → V → Hp → Prop} {H0 : Hp} {Qd : Hp → Prop} (Pv : Nat → Hp → Prop) (h0 : Pv 0 H0) (hG : ∀ i H, i ≤ n → Pv i H → G H)
    (hs : ∀ i x H H', i < n → Pv i H → Y i H x H' → Step (Pv (i + 1)) x H') (hd : ∀ H, Pv n H → Qd H) :
    ∃ W : Nat → Nat → Hp → Prop, (∃ m, W 0 m H0) ∧ ∀ i m H, W i m H →
      (J.stop i H ∧ Qd H) ∨ (J.go i H ∧ ∃ Nx : Hp → Prop, (∀ H', Nx H' → ∃ m', m' < m ∧ W (i + 1) m' H') ∧ ∀ x H', J.yld i H x H' → Step Nx x H') := by
  refine ⟨fun i m H => m = n - i ∧ i ≤ n ∧ Pv i H, ⟨n, by simp, Nat.zero_le _, h0⟩, ?_⟩
  rintro i m H ⟨rfl, hi, p⟩
  have q := hG i H hi p
  by_cases hlt : i < n
  · exact .inr ⟨w.goes i H hlt q, Pv (i + 1), fun H' p' => ⟨n - (i + 1), by omega, rfl, hlt, p'⟩, fun x H' y => hs i x H H' hlt p (w.yields i H x H' hlt q y)⟩
  · have e : i = n := by omega
    subst e
    exact .inl ⟨w.stops H q, hd H p⟩
/-- the list at l gets one more -/
def appL (l : Nat) (v : D) (s : Store) : R Unit := match s[l]? with
  | some (.lst xs) => if xs.length < sizeLine then .ok () (s.set l (.lst (xs ++ [v]))) else .bad
  | _ => .bad
def compL (l : Nat) (ws : Wt) (gf : Gf) (tf : Tf) (ef : Ef) (env : EEnv) : List D → Store → R Unit
  | [], st => if wOk st ws = true then .ok () st else .bad
  | d :: ds, st => if wOk st ws = true then (gf d env st).bind fun e s => (tf e s).bind fun b s2 => if b = true then (ef e s2).bind fun v s3 => (appL l v s3).bind fun _ s4 => compL l ws gf tf ef env ds s4 else compL l ws gf tf ef env ds s2 else .bad
def compL2 (l : Nat) (ws : Wt) (gf : Gf) (tf : Tf) (fi1 : If) (vs1 : List Nat) (gf1 : Gf) (tf1 : Tf) (ef : Ef) (env : EEnv) : List D → Store → R Unit
  | [], st => if wOk st ws = true then .ok () st else .bad
  | d :: ds, st => if wOk st ws = true then (gf d env st).bind fun e s => (tf e s).bind fun b s2 => if b = true then (fi1 e s2).bind fun z s3 => (compL l z.ws gf1 tf1 ef (wipeE e vs1) z.items s3).bind fun _ s4 => compL2 l ws gf tf fi1 vs1 gf1 tf1 ef env ds s4
      else compL2 l ws gf tf fi1 vs1 gf1 tf1 ef env ds s2 else .bad
/-- [elt for .. for ..], the list with a place from the start -/
def eComp2 (vs : List Nat) (f : If) (gf : Gf) (tf : Tf) (fi1 : If) (vs1 : List Nat) (gf1 : Gf) (tf1 : Tf) (ef : Ef) : Ef := fun env st => (f env st).bind fun s s1 =>
  (compL2 s1.length s.ws gf tf fi1 vs1 gf1 tf1 ef (wipeE env vs) s.items (s1 ++ [.lst []])).bind fun _ s2 => .ok (.loc s1.length) s2
section
variable {g : Gh} {X : Cx}
theorem appL_ok {ρ : Nat → Addr} {st st' : Store} {H : Hp} {l : Nat} {v : D} {y : V} (Rl : Rel g ρ st H) (r : VR g.K ρ st.length H v y) (h : appL l v st = .ok () st') :
    ∃ acc, H (ρ l) = some (.lst acc) ∧ acc.length < sizeLine ∧ Post g ρ st H ρ st' (upd H (ρ l) (.lst (acc ++ [y]))) := by
  unfold appL at h
  split at h
  · rename_i xs q
    split at h
    · rename_i hz
      cases h
      obtain ⟨ys, q1, rs⟩ := Rl.obj l _ q
      refine ⟨ys, q1, by rw [← rs.length]; exact hz, ?_⟩
      exact (Rl.setLst q q1 (rs.append (.cons r .nil))).1
    · cases h
  · cases h
theorem lc2_of {fi fi1 : If} {ws ws1 : List Nat} {gf gf1 : Gf} {tf tf1 : Tf} {ef : Ef} {vs vs1 : List Nat} (hws : ∀ j ∈ ws, j ∈ vs) (hws1 : ∀ j ∈ ws1, j ∈ vs1) : ∀ σ H Q, tE g (eComp2 vs fi gf tf fi1 vs1 gf1 tf1 ef) σ H Q → tLc2 (tI g fi) (tG g ws gf) (tT g tf) (tI g fi1) (tG g ws1 gf1) (tT g tf1) (tE g ef) vs vs1 σ H Q :=
  fun σ H Q ⟨ρ, st, env, fin, stF, Rl, E, h, k⟩ => by
    obtain ⟨s, s1, e1, h⟩ := R.bind_eq h
    obtain ⟨u0, s2, hc0, h⟩ := R.bind_eq h
    cases h
    refine ⟨ρ, st, env, s, s1, Rl, E, e1, fun ρ1 H1 J G Y P1 W => fun Da hD => ?_⟩
    -- the list has the place s1.length from the start
    have P0 : Post g ρ1 s1 H1 (nxt ρ1 s1.length Da) (s1 ++ [.lst []]) (upd H1 Da (.lst [])) := P1.rel.push (o := .lst []) hD ⟨[], upd_same, .nil⟩
    have lD : ∀ {ρ2 st2 H2}, Post g (nxt ρ1 s1.length Da) (s1 ++ [.lst []]) (upd H1 Da (.lst [])) ρ2 st2 H2 → ρ2 s1.length = Da := fun P => by
      rw [P.old s1.length (by simp), nxt_same]
    refine it_W W.walk (fun i H' => ∃ ρ2 st2, Post g (nxt ρ1 s1.length Da) (s1 ++ [.lst []]) (upd H1 Da (.lst [])) ρ2 st2 H' ∧ compL2 s1.length s.ws gf tf fi1 vs1 gf1 tf1 ef (wipeE env vs) (s.items.drop i) st2 = .ok () stF)
      ⟨_, _, Post.refl P0.rel, by rw [List.drop_zero]; exact hc0⟩ (fun i H' hi ⟨ρ2, st2, P2, hc⟩ => ?_) (fun i v H' H'' hi ⟨ρ2, st2, P2, hc⟩ y => ?_) (fun H' ⟨ρ2, st2, P2, hc⟩ => ?_)
    · refine W.stay ρ2 st2 H' (P0.trans P2) ?_
      cases hd : s.items.drop i with
      | nil =>
        rw [hd] at hc
        unfold compL2 at hc
        by_cases w : wOk st2 s.ws = true
        · exact w
        · rw [if_neg w] at hc; cases hc
      | cons d ds =>
        rw [hd] at hc
        unfold compL2 at hc
        by_cases w : wOk st2 s.ws = true
        · exact w
        · rw [if_neg w] at hc; cases hc
    · have hdr : s.items.drop i = s.items[i] :: s.items.drop (i + 1) := List.drop_eq_getElem_cons hi
      rw [hdr] at hc
      unfold compL2 at hc
      by_cases w : wOk st2 s.ws = true
      · rw [if_pos w] at hc
        obtain ⟨d, ed, P3, r3⟩ := W.gives i H' v H'' ρ2 st2 (P0.trans P2) w hi y
        rw [List.getElem?_eq_getElem hi] at ed
        cases ed
        obtain ⟨e4, s4, q4, hc⟩ := R.bind_eq hc
        obtain ⟨b5, s5, q5, hc⟩ := R.bind_eq hc
        have P02 := P0.trans P2
        have E2 : EnvR g.K ρ2 st2.length H'' env σ := P3.envr P2.rel (P02.envr P1.rel (P1.envr Rl E))
        refine ⟨ρ2, st2, wipeE env vs, _, e4, s4, P3.rel, E2.wipe vs, r3, q4, fun ρ4 H4 σ4 P4 E4 o4 => ?_⟩
        have ew : wipe σ4 vs = wipe σ vs := by
          have q := o4.wipe hws
          rw [q]
          exact (Off.wipe (ws := vs) ⟨wipe_length σ vs, fun j hj => wipe_out hj⟩ (fun _ h => h))
        refine ⟨ew, ρ4, s4, e4, b5, s5, P4.rel, E4, q5, fun ρ5 H5 P5 => ?_⟩
        have P25 := P2.trans ((P3.trans P4).trans P5)
        cases b5 with
        | true =>
          rw [if_pos rfl] at hc
          obtain ⟨z, s6, q6, hc⟩ := R.bind_eq hc
          obtain ⟨u7, s7, q7, hc⟩ := R.bind_eq hc
          refine iteT ⟨ρ5, s5, e4, z, s6, P5.rel, P5.envr P4.rel E4, q6, fun ρ6 H6 J1 G1 Y1 P6 W1 => ?_⟩
          have P26 := P25.trans P6
          have E6 := P6.envr P5.rel (P5.envr P4.rel E4)
          refine it_W W1.walk (fun j Hj => ∃ ρj stj, Post g ρ6 s6 H6 ρj stj Hj ∧ compL s1.length z.ws gf1 tf1 ef (wipeE e4 vs1) (z.items.drop j) stj = .ok () s7)
            ⟨ρ6, s6, Post.refl P6.rel, by rw [List.drop_zero]; exact q7⟩
            (fun j Hj hj ⟨ρj, stj, Pj, hc2⟩ => ?_) (fun j v2 Hj Hj' hj ⟨ρj, stj, Pj, hc2⟩ y2 => ?_) (fun Hj ⟨ρj, stj, Pj, hc2⟩ => ?_)
          · refine W1.stay ρj stj Hj Pj ?_
            cases hd : z.items.drop j with
            | nil =>
              rw [hd] at hc2
              unfold compL at hc2
              by_cases w : wOk stj z.ws = true
              · exact w
              · rw [if_neg w] at hc2; cases hc2
            | cons d ds =>
              rw [hd] at hc2
              unfold compL at hc2
              by_cases w : wOk stj z.ws = true
              · exact w
              · rw [if_neg w] at hc2; cases hc2
          · have hdr2 : z.items.drop j = z.items[j] :: z.items.drop (j + 1) := List.drop_eq_getElem_cons hj
            rw [hdr2] at hc2
            unfold compL at hc2
            by_cases w1 : wOk stj z.ws = true
            · rw [if_pos w1] at hc2
              obtain ⟨d2, ed2, P7, r7⟩ := W1.gives j Hj v2 Hj' ρj stj Pj w1 hj y2
              rw [List.getElem?_eq_getElem hj] at ed2
              cases ed2
              obtain ⟨e8, s8, q8, hc2⟩ := R.bind_eq hc2
              obtain ⟨b9, s9, q9, hc2⟩ := R.bind_eq hc2
              have Ej : EnvR g.K ρj stj.length Hj' e4 σ4 := P7.envr Pj.rel (Pj.envr P6.rel E6)
              refine ⟨ρj, stj, wipeE e4 vs1, _, e8, s8, P7.rel, Ej.wipe vs1, r7, q8, fun ρ8 H8 σ8 P8 E8 o8 => ?_⟩
              have ew8 : wipe σ8 vs1 = wipe σ4 vs1 := by
                have q := o8.wipe hws1
                rw [q]
                exact (Off.wipe (ws := vs1) ⟨wipe_length σ4 vs1, fun j hj => wipe_out hj⟩ (fun _ h => h))
              refine ⟨ew8, ρ8, s8, e8, b9, s9, P8.rel, E8, q9, fun ρ9 H9 P9 => ?_⟩
              have Pj9 := Pj.trans ((P7.trans P8).trans P9)
              cases b9 with
              | true =>
                rw [if_pos rfl] at hc2
                obtain ⟨v10, s10, q10, hc2⟩ := R.bind_eq hc2
                obtain ⟨u11, s11, q11, hc2⟩ := R.bind_eq hc2
                refine iteT ⟨ρ9, s9, e8, v10, s10, P9.rel, P9.envr P8.rel E8, q10, fun ρ10 H10 y10 P10 r10 => ?_⟩
                have P210 := (P26.trans Pj9).trans P10
                obtain ⟨acc, h1, h2, P11⟩ := appL_ok P10.rel r10 q11
                rw [lD P210] at h1 P11
                exact ⟨acc, h1, h2, ρ10, s11, (Pj9.trans P10).trans P11, hc2⟩
              | false =>
                rw [if_neg Bool.false_ne_true] at hc2
                exact iteF ⟨ρ9, s9, Pj9, hc2⟩
            · rw [if_neg w1] at hc2; cases hc2
          · rw [List.drop_of_length_le (Nat.le_refl _)] at hc2
            unfold compL at hc2
            by_cases w1 : wOk stj z.ws = true
            · rw [if_pos w1] at hc2
              cases hc2
              exact ⟨ρj, _, P26.trans Pj, hc⟩
            · rw [if_neg w1] at hc2; cases hc2
        | false =>
          rw [if_neg Bool.false_ne_true] at hc
          exact iteF ⟨ρ5, s5, P25, hc⟩
      · rw [if_neg w] at hc; cases hc
    · rw [List.drop_of_length_le (Nat.le_refl _)] at hc
      unfold compL2 at hc
      by_cases w : wOk st2 s.ws = true
      · rw [if_pos w] at hc
        cases hc
        refine k ρ2 H' (.ref Da) ((P1.trans P0).trans P2) ?_
        unfold VR
        exact ⟨Nat.lt_of_lt_of_le (by simp) P2.len, by rw [lD P2]⟩
      · rw [if_neg w] at hc; cases hc
variable {elt tg iter tg1 iter1 : Expr} {ifs ifs1 : List Expr} {scope : Scope} {fi fi1 : If} {ws ws1 : List Nat} {gf gf1 : Gf} {tf tf1 : Tf} {ef : Ef} {pos : Pos}
theorem e_comp2 (x : XG g X) (own : List (Str × Nat)) (vs1 : List Nat) (hi : IV g X tg iter fi) (ok : BlkOk X.N X.env.scope scope own)
    (hg : ∀ (s : Shared) (H : Hp) (C : Addr) (cl : List (Str × Addr)) (fp : List Addr), GV g (X.blk s H scope (compEnvC scope cl C X.env) fp) tg ws gf) (ht : ∀ (s : Shared) (H : Hp) (C : Addr) (cl : List (Str × Addr)) (fp : List Addr), Ptf g (X.blk s H scope (compEnvC scope cl C X.env) fp) ifs tf)
    (hi1 : ∀ (s : Shared) (H : Hp) (C : Addr) (cl : List (Str × Addr)) (fp : List Addr), IV g (X.blk s H scope (compEnvC scope cl C X.env) fp) tg1 iter1 fi1)
    (hg1 : ∀ (s : Shared) (H : Hp) (C : Addr) (cl : List (Str × Addr)) (fp : List Addr), GV g (X.blk s H scope (compEnvC scope cl C X.env) fp) tg1 ws1 gf1) (ht1 : ∀ (s : Shared) (H : Hp) (C : Addr) (cl : List (Str × Addr)) (fp : List Addr), Ptf g (X.blk s H scope (compEnvC scope cl C X.env) fp) ifs1 tf1)
    (he : ∀ (s : Shared) (H : Hp) (C : Addr) (cl : List (Str × Addr)) (fp : List Addr), EV g (X.blk s H scope (compEnvC scope cl C X.env) fp) elt ef) (hws : ∀ j ∈ ws, j ∈ own.map (·.2) := by decide) (hws1 : ∀ j ∈ ws1, j ∈ vs1 := by decide) (hv : ∀ j ∈ vs1, j ∈ own.map (·.2) := by decide)
    (hs : ∀ x, foldedSetIterable iter X.env x = pure x := by intro _; rfl) (hs1 : ∀ env x, foldedSetIterable iter1 env x = pure x := by intro _ _; rfl) :
    EV g X (.ListComp elt [⟨tg, iter, ifs, 0⟩, ⟨tg1, iter1, ifs1, 0⟩] scope pos) (eComp2 (own.map (·.2)) fi gf tf fi1 vs1 gf1 tf1 ef) := pe_imp (pe_lc2 x.calm x.nd hi ok hv hg ht hi1 hg1 ht1 he hs hs1) (lc2_of hws hws1)
end
/-! ### o.m(k=..) -/
section
variable {g : Gh} {X : Cx} {o : Expr} {m n : Str} {apos pos p : Pos} {fo : Ef} {u : Af} {sem : SemF} {k : Nat} {f : Addr} {fd : FuncData} {ps ks : List Str} {pm : List Nat} {kws : List Keyword}
theorem e_methK0 {pl : Sem Bool} (x : XG g X) (c : Nat) (ho : EV g X o fo) (M : Meth X.K (g.cl c) m f) (F : FnG g X.prog X.w X.K X.mg X.base k f fd ps sem) (hr : Room k X.A) (hb : KBd X.K fd ps 1 ks (0 :: pm.map (· + 1))) (hn : ∀ i, i < g.nf → g.fld i ≠ m) (hkw : KV g X kws u)
    (hall : (backToKw pos (keywordEach kws X.env)).all (·.1.isSome) = true := by rfl) (hks : (backToKw pos (keywordEach kws X.env)).filterMap (·.1) = ks := by rfl)
    (hpl : ((backTo pos (starEach [] X.env)).any (·.1) || (backToKw pos (keywordEach kws X.env)).any (·.1.isNone)) = false := by rfl)
    (ht : eval (.Call (.Attribute o m apos) [] kws pos) X.env = (do
      let ov ← eval o X.env
      standAt apos.atName
      let (f, first) ← holding [ov] (getMethod ov m pl)
      callWith pos f first (backTo pos (starEach [] X.env)) (backToKw pos (keywordEach kws X.env))) := by rfl) :
    EV g X (.Call (.Attribute o m apos) [] kws pos) (eMeth c sem fo (aKw 0 ks.length pm aNil u)) := by
  refine ⟨fun pins s σ H Q I ⟨ρ, st, env, v, st', Rl, E, h, kq⟩ => ?_⟩
  obtain ⟨d, s1, e1, h⟩ := R.bind_eq h
  split at h
  · rename_i hC
    obtain ⟨ds, s2, e2, h⟩ := R.bind_eq h
    obtain ⟨d1, s3, e3, e2⟩ := R.bind_eq e2
    cases e3
    obtain ⟨d2, s4, e4, e2⟩ := R.bind_eq e2
    split at e2
    · rename_i hl
      cases e2
      refine PySem.W.methodCall_KW (pl := pl) (thn (ho.run pins s σ H (fun y H1 => ∃ a dx gs, y = .ref a ∧ H1 a = some (.ins (g.cl c) dx gs) ∧ c < g.nc ∧ gs.lookup m = none ∧ tA g u σ H1 fun zs H2 => zs.length = ks.length ∧ SpD g sem (.ref a :: sel pm zs) H2 Q) I
        ⟨ρ, st, env, d, _, Rl, E, e1, fun ρ1 H1 y P1 r1 => ?_⟩) fun uo s5 ⟨y, H1, I1, ry, a, dx, gs, ey, ea, hc, l, q⟩ => ?_) ht
      · obtain ⟨l, dx, gs, fs, rfl, rfl, e6, hc, rf⟩ := isC_ok P1.rel r1 hC
        refine ⟨ρ1 l, dx, gs, rfl, e6, hc, rf.none_of hn, ρ1, _, env, d2, _, P1.rel, P1.envr Rl E, e4, fun ρ2 H2 zs P2 r2 => ⟨by rw [← r2.length]; exact hl.2, ?_⟩⟩
        exact ⟨ρ2, _, _, v, st', P2.rel, .cons (P2.vr P1.rel r1) (sel_vrs (VRs.append .nil r2)), h, fun ρ' H' z P r => kq ρ' H' z ((P1.trans P2).trans P) r⟩
      · subst ey
        obtain rfl : uo = Value.ref a := ry
        refine getmeth_ok I1 ea (by rw [x.K]; exact x.cls c hc) M l ?_
        refine PySem.W.callWith_KW0 (first := [.ref a]) (h₀ := X.base) I.ok.mod.kin M.kp hall (thn (hkw.run pos pins s5 σ H1 _ I1 q) fun wz s6 ⟨zs, H2, I2, rz, l2, q3⟩ => ⟨I2.kIn, ?_⟩) hpl
        rw [hks]
        have e : sel (0 :: pm.map (· + 1)) ([V.ref a] ++ zs) = V.ref a :: sel pm zs := by
          unfold sel
          rw [List.filterMap_cons, List.filterMap_map]
          rfl
        exact run_gk (us := [.ref a]) (vs := [.ref a]) x F hr hb I2 (.cons rfl .nil) rz rfl l2 (by rw [e]; exact q3)
    · cases e2
  · cases h
end
/-! ### how simp reckons -/
section
variable {env : EEnv} {st s : Store} {f h fo : Ef} {d d2 : D} {l : Nat} {xs ys : List D} {z z2 : Src}
def kEV2 (w : Src) (s : Store) : R Src := .ok (srcEnum w) s
def kEV1 (d : D) (s : Store) : R Src := (srcV d s).bind kEV2
@[simp] theorem ev_iEnumV : iEnumV f env st = (f env st).bind kEV1 := rfl
@[simp] theorem ev_kEV1 : kEV1 d s = (srcV d s).bind kEV2 := rfl
@[simp] theorem ev_kEV2 : kEV2 z s = .ok ⟨enumD 0 z.items, z.ws⟩ s := rfl
def kZV4 (w w2 : Src) (s : Store) : R Src := .ok (srcZip w w2) s
def kZV3 (d2 : D) (w : Src) (s : Store) : R Src := (srcV d2 s).bind (kZV4 w)
def kZV2 (d d2 : D) (s : Store) : R Src := if bothT d d2 = true then (srcV d s).bind (kZV3 d2) else .bad
def kZV1 (h : Ef) (env : EEnv) (d : D) (s : Store) : R Src := (h env s).bind (kZV2 d)
@[simp] theorem ev_iZipV : iZipV f h env st = (f env st).bind (kZV1 h env) := rfl
@[simp] theorem ev_kZV1 : kZV1 h env d s = (h env s).bind (kZV2 d) := rfl
@[simp] theorem ev_kZV2 : kZV2 d d2 s = if bothT d d2 = true then (srcV d s).bind (kZV3 d2) else .bad := rfl
@[simp] theorem ev_kZV3 : kZV3 d2 z s = (srcV d2 s).bind (kZV4 z) := rfl
@[simp] theorem ev_kZV4 : kZV4 z z2 s = .ok ⟨zipD z.items z2.items, z.ws ++ z2.ws⟩ s := rfl
@[simp] theorem bothT_t : bothT (.tup xs) (.tup ys) = true := rfl
def kAK2 (n m : Nat) (pm : List Nat) (ds es : List D) (s : Store) : R (List D) := if ds.length = n ∧ es.length = m then .ok (sel pm (ds ++ es)) s else .bad
end
end Ev

/-! Ev20: sorted of a list of data (numbers, texts, tuples of these). -/
namespace Ev
open PySem L2
open PyProof.Rows hiding St
theorem each_vals : ∀ {zs : List (V × PyData)} {its : List Value}, Vals (zs.map Prod.fst) its → PySem.W.EachIs (fun v (b : V × PyData) => RelV b.1 v) its zs
  | [], its, h => by cases h; exact .nil
  | z :: zs, its, h => by
    cases h with
    | cons h1 h2 => exact .cons h1 (each_vals h2)
theorem vals_each : ∀ {zs : List (V × PyData)} {its : List Value}, PySem.W.EachIs (fun v (b : V × PyData) => RelV b.1 v) its zs → Vals (zs.map Prod.fst) its
  | _, _, .nil => .nil
  | _, _, .cons h1 h2 => .cons h1 (vals_each h2)
abbrev sortV (zs : List (V × PyData)) : List V := (zs.mergeSort (PySem.W.dataLe false Prod.snd)).map Prod.fst
theorem call_sorted {X : Cx} (hu : X.A.units + 200 < cLine) : CallR X (.builtin "sorted") (fun xs H Q => ∃ p, ∃ zs : List (V × PyData), xs = [.ref p] ∧ SqL X.K H p (zs.map Prod.fst) ∧ (∀ z ∈ zs, Dp X.K H z.1 z.2) ∧ PySem.W.AllAlike (zs.map Prod.snd) ∧ PySem.W.Sortable (zs.map Prod.snd) ∧ (∀ z ∈ zs, z.2.depth ≤ 60) ∧
    ∀ l, H l = none → Q (.ref l) (upd H l (.lst (sortV zs)))) := by
  intro pins s σ H xs us Q I r h
  obtain ⟨p, zs, rfl, hq, hd, ha, hs, hdp, q⟩ := h
  obtain ⟨u, rfl, rx⟩ := vals1 r
  cases rx
  obtain ⟨its, r', pl, hz⟩ := I.list hq
  have e := each_vals r'
  have lz : zs.length ≤ sizeLine := by rw [List.length_map] at hz; exact hz
  refine PySem.W.sorted_data (bs := zs) (enc := Prod.snd) (R := fun v (b : V × PyData) => RelV b.1 v) pl.isList e ?_ ha hs lz (fun b hb => ?_) fun out hl eo => ?_
  · exact ((PySem.W.each_mem e).mono fun v b ⟨h1, h2⟩ => Dp.reads I _ _ v (hd b h2) h1)
  · have := hdp b hb
    omega
  · obtain ⟨c, hc⟩ := sortedAll_at s.heap its out.toArray
    have lo : (sortV zs).length ≤ sizeLine := by
      rw [List.length_map, List.length_mergeSort]
      exact lz
    exact ⟨.ref (s.heap.objs.size + 1), _, I.laid (t' := s.toks) (fun b o e => sortedAll_old e) (Nat.le_succ _) (show ObjOk X.prog X.w _ _ _ (.lst (sortV zs)) from ⟨lo, out, c, vals_each eo, hc⟩), rfl, q _ (I.hok.fresh (Nat.le_succ _))⟩
/-! the layer's word -/
abbrev lexD : D → D → Bool := PySem.W.dataLe false D.dat
def sortD (xs : List D) : List D := xs.mergeSort lexD
def sortOk (xs : List D) : Bool := D.flats xs && (xs.all fun a => xs.all fun b => PySem.W.alike a.dat b.dat) &&
  ((xs.all fun d => match d with | .tup (_ :: _) => true | _ => false) || xs.all fun d => match d with | .non => false | .tup _ => false | .loc _ => false | _ => true) && xs.all fun d => decide (d.dat.depth ≤ 60)
def nSorted (t : Af) : Af := fun env st => (t env st).bind fun xs s => if sortOk xs = true then .ok (sortD xs) s else .bad
theorem vrs_zip {K : PySem.W.Frag} {ρ : Nat → Addr} {n : Nat} {H : Hp} : ∀ {xs : List D} {ys : List V}, VRs K ρ n H xs ys → xs.length = ys.length ∧ ∀ p ∈ xs.zip ys, VR K ρ n H p.1 p.2
  | [], ys, h => by
    unfold VRs at h
    subst h
    exact ⟨rfl, fun _ m => nomatch m⟩
  | x :: xs, ys, h => by
    unfold VRs at h
    obtain ⟨y, zs, rfl, r1, rs⟩ := h
    obtain ⟨a, b⟩ := vrs_zip rs
    refine ⟨by simp [a], fun p m => ?_⟩
    rw [List.zip_cons_cons] at m
    rcases List.mem_cons.mp m with rfl | m
    · exact r1
    · exact b p m
theorem zip_vrs {K : PySem.W.Frag} {ρ : Nat → Addr} {n : Nat} {H : Hp} : ∀ {ps : List (D × V)}, (∀ p ∈ ps, VR K ρ n H p.1 p.2) → VRs K ρ n H (ps.map Prod.fst) (ps.map Prod.snd)
  | [], _ => .nil
  | p :: ps, h => .cons (h p (List.mem_cons_self ..)) (zip_vrs fun q m => h q (List.mem_cons_of_mem _ m))
theorem flats_mem : ∀ {xs : List D}, D.flats xs = true → ∀ d ∈ xs, d.flat = true
  | x :: xs, h, d, m => by
    have h' : D.flat x = true ∧ D.flats xs = true := by simpa [D.flats] using h
    rcases List.mem_cons.mp m with rfl | m
    · exact h'.1
    · exact flats_mem h'.2 d m
section
variable {g : Gh} {X : Cx} {a : Expr} {pos p : Pos} {t : Af} {env : EEnv} {st s : Store}
theorem n_sorted (x : XG g X) (h : LV g X a t) (hg : Gl X "sorted" := by rfl) (he : starEach [a] X.env = (false, eval a X.env) :: starEach [] X.env := by rfl) : NV g X (.Call (.Name "sorted" p) [a] [] pos) (nSorted t) :=
  pe_imp (pe_callB (call_sorted x.hu) hg (x.mg "sorted") (by decide +kernel) (pa_cons h pa_nil he) (by decide) (by decide) he rfl) fun σ H Q ⟨ρ, st, env, v, st', Rl, E, h, k⟩ => by
    obtain ⟨xs, s1, e1, h⟩ := R.bind_eq h
    split at h
    · rename_i ok
      cases h
      refine ⟨ρ, st, env, xs, _, Rl, E, e1, fun ρ1 H1 p ys P1 sq r => ?_⟩
      unfold sortOk at ok
      simp only [Bool.and_eq_true] at ok
      obtain ⟨⟨⟨fl, al⟩, so⟩, dp⟩ := ok
      obtain ⟨lz, rz⟩ := vrs_zip r
      obtain ⟨ws, hws⟩ : ∃ ws, ws = xs.zip ys := ⟨_, rfl⟩
      rw [← hws] at rz
      have w1 : ws.map Prod.fst = xs := by rw [hws, List.map_fst_zip (by omega)]
      have w2 : ws.map Prod.snd = ys := by rw [hws, List.map_snd_zip (by omega)]
      have mw : ∀ q ∈ ws, q.1 ∈ xs := fun q m => by rw [← w1]; exact List.mem_map.mpr ⟨q, m, rfl⟩
      obtain ⟨f, hf⟩ : ∃ f : D × V → V × PyData, ∀ q, f q = (q.2, q.1.dat) := ⟨fun q => (q.2, q.1.dat), fun _ => rfl⟩
      have z1 : (ws.map f).map Prod.fst = ys := by
        rw [List.map_map, ← w2]
        apply List.map_congr_left
        intro q _
        simp [hf]
      have z2 : (ws.map f).map Prod.snd = xs.map D.dat := by
        rw [List.map_map, ← w1, List.map_map]
        apply List.map_congr_left
        intro q _
        simp [hf]
      refine ⟨p, ws.map f, rfl, by rw [z1, x.K]; exact sq, fun z mz => ?_, ?_, ?_, fun z mz => ?_, fun l hl => ?_⟩
      · obtain ⟨q, mq, rfl⟩ := List.mem_map.mp mz
        rw [hf, x.K]
        exact pd_dp P1.rel (rz q mq) (pdW_flat (flats_mem fl _ (mw q mq)))
      · rw [z2]
        intro d md d' md'
        obtain ⟨u, mu, rfl⟩ := List.mem_map.mp md
        obtain ⟨u', mu', rfl⟩ := List.mem_map.mp md'
        exact List.all_eq_true.mp (List.all_eq_true.mp al u mu) u' mu'
      · rw [z2]
        rw [Bool.or_eq_true] at so
        rcases so with so | so
        · refine .inl fun d md => ?_
          obtain ⟨u, mu, rfl⟩ := List.mem_map.mp md
          have := List.all_eq_true.mp so u mu
          split at this
          · exact ⟨_, _, rfl⟩
          · cases this
        · refine .inr fun d md => ?_
          obtain ⟨u, mu, rfl⟩ := List.mem_map.mp md
          have := List.all_eq_true.mp so u mu
          cases u <;> simp at this <;> exact ⟨by simp [D.dat], fun xs => by simp [D.dat]⟩
      · obtain ⟨q, mq, rfl⟩ := List.mem_map.mp mz
        rw [hf]
        exact of_decide_eq_true (List.all_eq_true.mp dp _ (mw q mq))
      · have e3 : (ws.mergeSort fun p q => lexD p.1 q.1).map Prod.fst = sortD xs := by
          rw [PySem.W.sort_maps (s := lexD) Prod.fst (fun _ _ _ _ => rfl), w1]
          rfl
        have e4 : (ws.mergeSort fun p q => lexD p.1 q.1).map f = (ws.map f).mergeSort (PySem.W.dataLe false Prod.snd) :=
          PySem.W.sort_maps (s := PySem.W.dataLe false Prod.snd) f (fun u _ u' _ => by
            show PySem.W.dataLe false D.dat u.1 u'.1 = PySem.W.dataLe false Prod.snd (f u) (f u')
            rw [PySem.W.dataLe_eq, PySem.W.dataLe_eq]
            simp only [hf])
        have e5 : sortV (ws.map f) = (ws.mergeSort fun p q => lexD p.1 q.1).map Prod.snd := by
          unfold sortV
          rw [← e4, List.map_map]
          apply List.map_congr_left
          intro q _
          simp [hf]
        rw [e5]
        have P2 := P1.rel.tup (u := HO.lst ((ws.mergeSort fun p q => lexD p.1 q.1).map Prod.snd)) hl
        have rv := zip_vrs (K := g.K) (ρ := ρ1) (n := st'.length) (H := H1) (ps := ws.mergeSort fun p q => lexD p.1 q.1) fun q m => rz q ((List.mergeSort_perm _ _).mem_iff.mp m)
        rw [e3] at rv
        refine k ρ1 _ l _ (P1.trans P2) upd_same (fun j m q => ?_) (P1.freeB hl) (P2.vrs P1.rel rv)
        obtain ⟨u, e2, _⟩ := P1.rel.mutSome m
        rw [q, hl] at e2
        cases e2
    · cases h
end
/-! ### reckoning -/
section
variable {t : Af} {env : EEnv} {st s : Store} {xs : List D}
def kSorted (xs : List D) (s : Store) : R (List D) := if sortOk xs = true then .ok (sortD xs) s else .bad
@[simp] theorem ev_nSorted : nSorted t env st = (t env st).bind kSorted := rfl
@[simp] theorem ev_kSorted : kSorted xs s = if sortOk xs = true then .ok (sortD xs) s else .bad := rfl
end
/-- the same order by putting one after the other where it belongs -/
def insA {A : Type} (le : A → A → Bool) (a : A) : List A → List A
  | [] => [a]
  | b :: l => if le a b = true then a :: b :: l else b :: insA le a l
def isort {A : Type} (le : A → A → Bool) : List A → List A
  | [] => []
  | a :: l => insA le a (isort le l)
theorem insA_mem {A : Type} {le : A → A → Bool} {a x : A} : ∀ {l : List A}, x ∈ insA le a l ↔ x = a ∨ x ∈ l
  | [] => by simp [insA]
  | b :: l => by
    unfold insA
    split
    · simp
    · simp only [List.mem_cons, insA_mem (l := l)]
      constructor
      · rintro (h | h | h)
        · exact .inr (.inl h)
        · exact .inl h
        · exact .inr (.inr h)
      · rintro (h | h | h)
        · exact .inr (.inl h)
        · exact .inl h
        · exact .inr (.inr h)
theorem isort_mem {A : Type} {le : A → A → Bool} {x : A} : ∀ {l : List A}, x ∈ isort le l ↔ x ∈ l
  | [] => Iff.rfl
  | a :: l => by
    unfold isort
    rw [insA_mem, isort_mem, List.mem_cons]
theorem insA_sorted {A : Type} {le : A → A → Bool} (T : PySem.W.TotalLe le) {a : A} : ∀ {l : List A}, l.Pairwise (fun a b => le a b = true) → (insA le a l).Pairwise (fun a b => le a b = true)
  | [], _ => List.pairwise_singleton _ _
  | b :: l, h => by
    have h1 := List.pairwise_cons.mp h
    unfold insA
    split
    · rename_i hab
      refine List.pairwise_cons.mpr ⟨fun x m => ?_, h⟩
      rcases List.mem_cons.mp m with rfl | m
      · exact hab
      · exact T.trans _ _ _ hab (h1.1 x m)
    · rename_i hab
      have hba : le b a = true := by
        have := T.total a b
        exact this.resolve_left hab
      refine List.pairwise_cons.mpr ⟨fun x m => ?_, insA_sorted T h1.2⟩
      rcases insA_mem.mp m with rfl | m
      · exact hba
      · exact h1.1 x m
theorem isort_sorted {A : Type} {le : A → A → Bool} (T : PySem.W.TotalLe le) : ∀ l : List A, (isort le l).Pairwise (fun a b => le a b = true)
  | [] => .nil
  | a :: l => insA_sorted T (isort_sorted T l)
theorem insA_filter {A : Type} {le : A → A → Bool} (T : PySem.W.TotalLe le) (c a : A) : ∀ l : List A, (insA le a l).filter (PySem.W.sameRank le c) = (a :: l).filter (PySem.W.sameRank le c)
  | [] => rfl
  | b :: l => by
    unfold insA
    split
    · rfl
    · rename_i hab
      have ih := insA_filter T c a l
      rw [List.filter_cons (x := b), ih]
      by_cases ha : PySem.W.sameRank le c a = true
      · have hb : ¬ PySem.W.sameRank le c b = true := fun hb => by
          unfold PySem.W.sameRank at ha hb
          rw [Bool.and_eq_true] at ha hb
          exact hab (T.trans _ _ _ ha.2 hb.1)
        rw [if_neg hb, List.filter_cons_of_pos ha, List.filter_cons_of_pos ha, List.filter_cons_of_neg hb]
      · rw [List.filter_cons_of_neg ha, List.filter_cons_of_neg ha, List.filter_cons (x := b)]
theorem isort_filter {A : Type} {le : A → A → Bool} (T : PySem.W.TotalLe le) (c : A) : ∀ l : List A, (isort le l).filter (PySem.W.sameRank le c) = l.filter (PySem.W.sameRank le c)
  | [] => rfl
  | a :: l => by
    unfold isort
    rw [insA_filter T, List.filter_cons, List.filter_cons, isort_filter T c l]
theorem isort_eq {A : Type} {le : A → A → Bool} (T : PySem.W.TotalLe le) (l : List A) : l.mergeSort le = isort le l := (PySem.W.sort_unique T (isort_sorted T l) (fun c => isort_filter T c l)).symm
theorem sortD_eq (xs : List D) : sortD xs = isort lexD xs := isort_eq (PySem.W.sortLe_total _ false _) xs
end Ev

/-! Ev21: x is True, x is False, where x may be None. -/
namespace Ev
open PySem L2
open PyProof.Rows hiding St
def rIsC : R2 := fun x y H Q => ∃ b : Bool, y = .bl b ∧ ((∃ a : Bool, x = .bl a ∧ Q (.bl (decide (a = b))) H) ∨ x = .non ∧ Q (.bl false) H)
theorem op_isC {X : Cx} : OpR X (compareOp .Is) rIsC := by
  intro pins s σ H x y v u Q I rx ry h
  obtain ⟨b, rfl, h⟩ := h
  rcases h with ⟨a, rfl, q⟩ | ⟨rfl, q⟩
  · exact op_isBl pins s σ H _ _ v u Q I rx ry ⟨a, b, rfl, rfl, q⟩
  · cases (show v = Value.none from rx)
    cases (show u = Value.bool b from ry)
    exact wpAny_is_other rfl (fun z => by cases z) ⟨.bl false, H, I, rfl, q⟩
def isCF (neg : Bool) : F2 := fun x y st => match x, y with
  | .bl i, .bl j => .ok (.bl (if neg then !decide (i = j) else decide (i = j))) st
  | .non, .bl _ => .ok (.bl neg) st
  | _, _ => .bad
section
variable {g : Gh} {X : Cx} {a b : Expr} {pos : Pos} {fa fb : Ef} {s : Store} {neg c : Bool}
theorem o_isC : Op2 g rIsC (isCF false) := fun ρ st H d1 d2 x1 y1 v st' Q Rl r1 r2 q k => by
  cases d1 <;> cases d2 <;> simp only [isCF] at q <;> (try exact (R.no q).elim)
  · simp only [VR] at r1 r2
    subst r1; subst r2
    cases q
    exact ⟨_, rfl, .inr ⟨rfl, k ρ H _ (Post.refl Rl) (by simp [VR])⟩⟩
  · simp only [VR] at r1 r2
    subst r1; subst r2
    cases q
    exact ⟨_, rfl, .inl ⟨_, rfl, k ρ H _ (Post.refl Rl) (by simp [VR])⟩⟩
theorem e_isC (ha : EV g X a fa) (hb : EV g X b fb) : EV g X (.Compare a [.Is] [b] pos) (eBin (isCF false) fa fb) := e_cmp op_isC o_isC ha hb (nomark _)
theorem t_isC (ha : EV g X a fa) (hb : EV g X b fb) : TV g X (.Compare a [.Is] [b] pos) (tfB (eBin (isCF false) fa fb)) := t_cmp op_isC o_isC ha hb (nomark _)
@[simp] theorem ev_isCT : isCF neg (.bl c) (.bl true) s = .ok (.bl (if neg then !c else c)) s := by cases c <;> cases neg <;> rfl
@[simp] theorem ev_isCF : isCF neg (.bl c) (.bl false) s = .ok (.bl (if neg then c else !c)) s := by cases c <;> cases neg <;> rfl
@[simp] theorem ev_isCN : isCF neg .non (.bl c) s = .ok (.bl neg) s := rfl
end
end Ev

/-! Ev22: x in t, t.index(x), t a tuple of data of any depth. -/
namespace Ev
open PySem L2
open PyProof.Rows hiding St
section
variable {X : Cx}
def rInT (K : PySem.W.Frag) : R2 := fun x y H Q => ∃ d ds, Dp K H x d ∧ Dp K H y (.tuple ds) ∧ SeqAt.shaped d = true ∧ SeqAt.shaped (.tuple ds) = true ∧ Q (.bl (ds.any fun z => PyData.eqv z d)) H
def rNotInT (K : PySem.W.Frag) : R2 := fun x y H Q => ∃ d ds, Dp K H x d ∧ Dp K H y (.tuple ds) ∧ SeqAt.shaped d = true ∧ SeqAt.shaped (.tuple ds) = true ∧ Q (.bl (!ds.any fun z => PyData.eqv z d)) H
theorem op_inT (hu : X.A.units + 65 < cLine) : OpR X (compareOp .In) (rInT X.K) := by
  intro pins s σ H x y v u Q I rx ry h
  obtain ⟨d, ds, hd, he, sd, se, q⟩ := h
  obtain ⟨as, r1⟩ := Dp.reads I d x v hd rx
  obtain ⟨bs, r2⟩ := Dp.reads I (.tuple ds) y u he ry
  exact SeqAt.in_tuple_reads r2 r1 (SeqAt.canLay_of_shaped se) (SeqAt.canLay_of_shaped sd) (room_in_shaped sd hu) ⟨.bl _, H, I, rfl, q⟩
theorem op_notInT (hu : X.A.units + 65 < cLine) : OpR X (compareOp .NotIn) (rNotInT X.K) := by
  intro pins s σ H x y v u Q I rx ry h
  obtain ⟨d, ds, hd, he, sd, se, q⟩ := h
  obtain ⟨as, r1⟩ := Dp.reads I d x v hd rx
  obtain ⟨bs, r2⟩ := Dp.reads I (.tuple ds) y u he ry
  exact SeqAt.notIn_tuple_reads r2 r1 (SeqAt.canLay_of_shaped se) (SeqAt.canLay_of_shaped sd) (room_in_shaped sd hu) ⟨.bl _, H, I, rfl, q⟩
def rIndexT (K : PySem.W.Frag) : V → List V → Hp → VK → Prop := fun x xs H Q => ∃ (a : Addr) (y : V) (d : PyData) (ds : List PyData) (j : Nat) (z : PyData), x = V.ref a ∧ xs = [y] ∧ Dp K H (V.ref a) (.tuple ds) ∧ Dp K H y d ∧
  SeqAt.shaped (.tuple ds) = true ∧ SeqAt.shaped d = true ∧ ds[j]? = some z ∧ PyData.eqv z d = true ∧ (∀ (m : Nat) (z' : PyData), m < j → ds[m]? = some z' → PyData.eqv z' d = false) ∧ Q (.int (j : Nat)) H
theorem mt_indexT (hu : X.A.units + 65 < cLine) : MtR X "tuple.index" (rIndexT X.K) := by
  intro pins s σ H x xs v us Q I rx rxs h
  obtain ⟨a, y, d, ds, j, z, rfl, rfl, hl, hy, sl, sd, hz, hzj, hno, q⟩ := h
  cases rx
  cases rxs with
  | cons ry rt =>
    rename_i uy ut
    cases rt
    obtain ⟨bs, r1⟩ := Dp.reads I d y uy hy ry
    have hxs : PyData.canLayAll0 ds = true := SeqAt.canLay_of_shaped sl
    have hroom : X.A.units + 1 + min (PyData.depthAll ds) d.depth < cLine := room_in_shaped sd hu
    cases hl with
    | tup hs ha =>
      obtain ⟨its, rv, ⟨⟨cls, dd, data, sls⟩, ho, hc, n, hdt⟩, hlen⟩ := I.tuple hs
      simp only at hc hdt
      subst hc hdt
      obtain ⟨as, h4⟩ := Dp.readsAll I ds _ its ha rv
      have hn : its.length = ds.length := SeqAt.ReadsAll.length ds its as h4
      have hmap : its.map (SeqAt.readOf s.heap) = ds := SeqAt.readsAll_map ds its as hxs h4
      obtain ⟨hjd, _⟩ := List.getElem?_eq_some_iff.mp hz
      have hjl : j < its.length := by omega
      have hj : j < its.toArray.size := by simpa using hjl
      have at_ : ∀ (m : Nat) (hm : m < its.toArray.size) (z' : PyData), ds[m]? = some z' → SeqAt.readOf s.heap its.toArray[m] = z' := by
        intro m hm z' hz'
        have hml : m < its.length := by simpa using hm
        rw [← hmap, List.getElem?_map, List.getElem?_eq_getElem hml] at hz'
        have e1 : SeqAt.readOf s.heap its[m] = z' := Option.some.inj (show some (SeqAt.readOf s.heap its[m]) = some z' from hz')
        simpa using e1
      refine call_meets PySem.F.slot_tuple_index ⟨_, ho, rfl⟩ PySem.F.entry_tuple_index (PySem.F.args_tuple_index_2 _ _)
        (TI.tuple_indexAt a its.toArray n dd sls uy (fun u => PyData.eqv (SeqAt.readOf s.heap u) d) j hj ?_ ?_) ⟨ho, SeqAt.items_eqAt (vs := its.toArray) (show ReadsAll s.heap its.toArray.toList ds as from h4) r1 hxs (SeqAt.canLay_of_shaped sd) hroom, ?_⟩
      · show PyData.eqv (SeqAt.readOf s.heap its.toArray[j]) d = true
        rw [at_ j hj z hz]
        exact hzj
      · intro m hm hmj
        have hmd : m < ds.length := by omega
        have hz' : ds[m]? = some ds[m] := List.getElem?_eq_getElem hmd
        show PyData.eqv (SeqAt.readOf s.heap its.toArray[m]) d = false
        rw [at_ m hm _ hz']
        exact hno m _ hmj hz'
      · exact ⟨.int (j : Nat), H, I.tok _, ⟨_, rfl⟩, q⟩
end
section
variable {g : Gh} {X : Cx} {e a b o : Expr} {es : List Expr} {pos apos cpos : Pos} {f fa fb fo : Ef} {t : Af} {s : Store} {d : D} {ds xs : List D} {env : EEnv}
def inTF (neg : Bool) : F2 := fun x y st => match pd st x, pd st y with
  | some d, some (.tuple ds) => if SeqAt.shaped d = true ∧ SeqAt.shaped (.tuple ds) = true then .ok (.bl (if neg then !ds.any fun z => PyData.eqv z d else ds.any fun z => PyData.eqv z d)) st else .bad
  | _, _ => .bad
theorem o_inT (x : XG g X) : Op2 g (rInT X.K) (inTF false) := fun ρ st H d1 d2 x1 y1 v st' Q Rl r1 r2 q k => by
  unfold inTF at q
  split at q
  · rename_i d ds e1 e2
    split at q
    · rename_i hz
      cases q
      rw [x.K]
      exact ⟨d, ds, pd_dp Rl r1 e1, pd_dp Rl r2 e2, hz.1, hz.2, k ρ H _ (Post.refl Rl) (by simp [VR])⟩
    · cases q
  · cases q
theorem o_notInT (x : XG g X) : Op2 g (rNotInT X.K) (inTF true) := fun ρ st H d1 d2 x1 y1 v st' Q Rl r1 r2 q k => by
  unfold inTF at q
  split at q
  · rename_i d ds e1 e2
    split at q
    · rename_i hz
      cases q
      rw [x.K]
      exact ⟨d, ds, pd_dp Rl r1 e1, pd_dp Rl r2 e2, hz.1, hz.2, k ρ H _ (Post.refl Rl) (by simp [VR])⟩
    · cases q
  · cases q
theorem e_inT (x : XG g X) (ha : EV g X a fa) (hb : EV g X b fb) (hm : behindInMarks .In b = false := by rfl) : EV g X (.Compare a [.In] [b] pos) (eBin (inTF false) fa fb) := e_cmp (op_inT (by have := x.hu; omega)) (o_inT x) ha hb hm
theorem e_notInT (x : XG g X) (ha : EV g X a fa) (hb : EV g X b fb) (hm : behindInMarks .NotIn b = false := by rfl) : EV g X (.Compare a [.NotIn] [b] pos) (eBin (inTF true) fa fb) := e_cmp (op_notInT (by have := x.hu; omega)) (o_notInT x) ha hb hm
theorem t_inT (x : XG g X) (ha : EV g X a fa) (hb : EV g X b fb) (hm : behindInMarks .In b = false := by rfl) : TV g X (.Compare a [.In] [b] pos) (tfB (eBin (inTF false) fa fb)) := t_cmp (op_inT (by have := x.hu; omega)) (o_inT x) ha hb hm
theorem t_notInT (x : XG g X) (ha : EV g X a fa) (hb : EV g X b fb) (hm : behindInMarks .NotIn b = false := by rfl) : TV g X (.Compare a [.NotIn] [b] pos) (tfB (eBin (inTF true) fa fb)) := t_cmp (op_notInT (by have := x.hu; omega)) (o_notInT x) ha hb hm
/-- t.index(x) -/
def idxP (d : PyData) : Nat → List PyData → Option Nat
  | _, [] => none
  | k, z :: ds => if PyData.eqv z d = true then some k else idxP d (k + 1) ds
theorem idxP_ok {d : PyData} : ∀ {ds : List PyData} {k j : Nat}, idxP d k ds = some j → ∃ i z, j = k + i ∧ ds[i]? = some z ∧ PyData.eqv z d = true ∧ ∀ m z', m < i → ds[m]? = some z' → PyData.eqv z' d = false
  | [], _, _, h => by cases h
  | z :: ds, k, j, h => by
    unfold idxP at h
    split at h
    · rename_i hz
      cases h
      exact ⟨0, z, rfl, rfl, hz, fun m z' hm => absurd hm (Nat.not_lt_zero _)⟩
    · rename_i hz
      obtain ⟨i, z2, e, h1, h2, h3⟩ := idxP_ok h
      refine ⟨i + 1, z2, by omega, by simpa using h1, h2, fun m z' hm hz' => ?_⟩
      cases m with
      | zero =>
        simp at hz'
        subst hz'
        exact Bool.eq_false_iff.mpr hz
      | succ m => exact h3 m z' (by omega) (by simpa using hz')
end
end Ev

/-! Ev23: a dict of texts to lists and one number, copied by dict([(k, list(d[k]) if k != .. else d[k]) for k in d]). -/
namespace Ev
open PySem L2
open PyProof.Rows hiding St
/-- the copy's lists, its entries; n: the next place -/
def copyD (sk : Str) (s : Store) : List (Key × D) → Nat → Option (List O × List (Key × D))
  | [], _ => some ([], [])
  | (.inr t, d) :: kvs, n => if t = sk then (copyD sk s kvs n).map fun z => (z.1, (.inr t, d) :: z.2) else match d with
    | .loc j => match s[j]? with
      | some (.lst xs) => (copyD sk s kvs (n + 1)).map fun z => (.lst xs :: z.1, (.inr t, .loc n) :: z.2)
      | _ => none
    | _ => none
  | _, _ => none
/-- dict([(k, list(d[k]) if k != sk else d[k]) for k in d]) -/
def eDCopy (ik : Nat) (sk : Str) (f : Ef) : Ef := fun env st => if ik < env.length then (f env st).bind fun d s => match d with
  | .loc l => match s[l]? with
    | some (.dic kvs) => match copyD sk s kvs s.length with
      | some (os, ws) => if kvs.length ≤ 1000 ∧ (kvs.map (·.1)).Nodup then .ok (.loc (s.length + os.length)) (s ++ os ++ [.dic (mergeD [] ws)]) else .bad
      | none => .bad
    | _ => .bad
  | _ => .bad
  else .bad
theorem KR.at {K : PySem.W.Frag} {ρ : Nat → Addr} {n : Nat} {H : Hp} : ∀ {fs : List (Key × D)} {gs : List (Key × V)} {i : Nat} {k : Key} {v : V}, KR K ρ n H fs gs → gs[i]? = some (k, v) → ∃ d, fs[i]? = some (k, d) ∧ VR K ρ n H d v
  | [], gs, i, k, v, h, e => by
    have e2 : gs = [] := h
    subst e2
    simp at e
  | (j, d) :: fs, gs, i, k, v, h, e => by
    obtain ⟨w, hs, rfl, r1, rs⟩ := h
    cases i with
    | zero =>
      simp at e
      obtain ⟨rfl, rfl⟩ := e
      exact ⟨d, rfl, r1⟩
    | succ i =>
      obtain ⟨d', e1, e2⟩ := KR.at (i := i) rs (by simpa using e)
      exact ⟨d', by simpa using e1, e2⟩
theorem paired_snoc {A B : Type} {F : A → B → Prop} {a : A} {b : B} : ∀ {xs : List A} {ys : List B}, Paired F xs ys → F a b → Paired F (xs ++ [a]) (ys ++ [b])
  | _, _, .nil, h => .cons h .nil
  | _, _, .cons h1 h2, h => .cons h1 (paired_snoc h2 h)
theorem upd_comm {H : Hp} {a b : Addr} {x y : HO} (h : a ≠ b) : upd (upd H a x) b y = upd (upd H b y) a x := by
  funext c
  by_cases h1 : c = a
  · subst h1
    rw [upd_ne h, upd_same, upd_same]
  · by_cases h2 : c = b
    · subst h2
      rw [upd_same, upd_ne h1, upd_same]
    · rw [upd_ne h2, upd_ne h1, upd_ne h1, upd_ne h2]
theorem upd_back {H : Hp} {d : Addr} {u x : HO} (h : H d = some u) : upd (upd H d x) d u = H := by
  funext c
  by_cases h1 : c = d
  · subst h1
    rw [upd_same, h]
  · rw [upd_ne h1, upd_ne h1]

/-! ### the rule -/
section
variable {g : Gh} {X : Cx} {nd nk : Str} {i ik : Nat}
/-- what is made of one key, the dict locked -/
abbrev tDG (i ik : Nat) : TE := tDGet (tVar i) (tVar ik)
abbrev rListOf (K : PySem.W.Frag) : List V → Hp → VK → Prop := fun xs H Q => ∃ p ys, xs = [.ref p] ∧ (SqL K H p ys ∨ SqT K H p ys) ∧ ∀ l, H l = none → Q (.ref l) (upd H l (.lst ys))
abbrev tElt (K : PySem.W.Frag) (i ik : Nat) (sk : Str) : TE := tTup (tCons (tVar ik) (tCons (tIf (tTest (tOp rNe (tVar ik) (tC (.str sk)))) (tCB (rListOf K) (tCons (tDG i ik) tNil)) (tDG i ik)) tNil))
theorem pe_elt (x : XG g X) {sk : Str} {p1 p2 p3 p4 p5 p6 p7 p8 p9 p10 p11 p12 p13 p14 : Pos} {jj m : Nat} (hk : ∀ p, PE X (.Name nk p) (tVar ik)) (hd : ∀ p, PE X (.Name nd p) (tVar i)) (hg : Gl X "list")
    (s1 : NoSl (.Name nk p4) := by intro _ _; rfl) (s2 : NoSl (.Name nk p8) := by intro _ _; rfl)
    (he : starEach [Expr.Subscript (.Name nd p3) (.Name nk p4) p5] X.env = (false, eval (Expr.Subscript (.Name nd p3) (.Name nk p4) p5) X.env) :: starEach [] X.env := by rfl)
    (hm : behindInMarks .NotEq (.Constant (.str sk) jj p2) = false := by rfl) :
    PE X (.Tuple [.Name nk p1, .IfExp (.Compare (.Name nk p9) [.NotEq] [.Constant (.str sk) jj p2] p10) (.Call (.Name "list" p6) [.Subscript (.Name nd p3) (.Name nk p4) p5] [] p11) (.Subscript (.Name nd p7) (.Name nk p8) p12) p13] m p14) (tElt X.K i ik sk) := by
  have hu : X.A.units + 1 < cLine := by have := x.hu; omega
  have g1 := pe_dget (pos := p5) hu (hd p3) (hk p4) s1
  have g2 := pe_dget (pos := p12) hu (hd p7) (hk p8) s2
  have c1 := pe_callTy (pos := p11) (p := p6) call_list_of hg (x.mg "list") (by decide +kernel) (pa_cons g1 pa_nil he) (by decide) (by decide) he rfl
  have t1 := pt_cmpR (pos := p10) op_ne (hk p9) (pe_str (x := sk) (j := jj) (pos := p2)) hm
  exact pe_tup (pa_cons (hk p1) (pa_cons (pe_ifExp t1 c1 g2) pa_nil))

theorem it_keys {d : Addr} {od : Obj} {gs : List (Key × V)} : Walk (Itk d od gs) gs.length (fun H => H d = some (.frz od (.dK gs))) (fun i H x H' => H' = H ∧ ∃ k v, gs[i]? = some (k, v) ∧ x = kV k) := walk_keys
theorem copyD_cons {sk : Str} {s : Store} {k : Key} {d : D} {kvs : List (Key × D)} {n : Nat} {os : List O} {ws : List (Key × D)} (h : copyD sk s ((k, d) :: kvs) n = some (os, ws)) :
    ∃ t, k = .inr t ∧ ((t = sk ∧ ∃ r, copyD sk s kvs n = some (os, r) ∧ ws = (k, d) :: r) ∨ (t ≠ sk ∧ ∃ j xs os' r, d = .loc j ∧ s[j]? = some (.lst xs) ∧ copyD sk s kvs (n + 1) = some (os', r) ∧ os = .lst xs :: os' ∧ ws = (k, .loc n) :: r)) := by
  cases k with
  | inl z => simp [copyD] at h
  | inr t =>
    refine ⟨t, rfl, ?_⟩
    unfold copyD at h
    by_cases e : t = sk
    · rw [if_pos e, Option.map_eq_some_iff] at h
      obtain ⟨⟨o2, r⟩, h1, h2⟩ := h
      simp only [Prod.mk.injEq] at h2
      obtain ⟨rfl, rfl⟩ := h2
      exact .inl ⟨e, r, h1, rfl⟩
    · rw [if_neg e] at h
      cases d with
      | loc j =>
        simp only at h
        split at h
        · rename_i xs q
          rw [Option.map_eq_some_iff] at h
          obtain ⟨⟨o2, r⟩, h1, h2⟩ := h
          simp only [Prod.mk.injEq] at h2
          obtain ⟨rfl, rfl⟩ := h2
          exact .inr ⟨e, j, xs, o2, r, rfl, q, h1, rfl, rfl⟩
        · cases h
      | _ => simp at h
theorem valV_at : ∀ {gs : List (Key × V)} {i : Nat} {k : Key} {v : V}, (gs.map (·.1)).Nodup → gs[i]? = some (k, v) → valV gs k = some v
  | [], i, k, v, _, e => by simp at e
  | (j, w) :: gs, 0, k, v, _, e => by
    simp at e
    obtain ⟨rfl, rfl⟩ := e
    simp [valV]
  | (j, w) :: gs, i + 1, k, v, n, e => by
    have n' := List.nodup_cons.mp n
    have e' : gs[i]? = some (k, v) := by simpa using e
    have ih := valV_at n'.2 e'
    have jk : j ≠ k := fun z => n'.1 (List.mem_map.mpr ⟨(k, v), List.mem_of_getElem? e', z.symm⟩)
    unfold valV at ih ⊢
    rw [List.find?_cons_of_neg (by simpa using jk)]
    exact ih
theorem kr_keys {K : PySem.W.Frag} {ρ : Nat → Addr} {n : Nat} {H : Hp} : ∀ {fs : List (Key × D)} {gs : List (Key × V)}, KR K ρ n H fs gs → gs.map (·.1) = fs.map (·.1)
  | [], gs, h => by
    have e2 : gs = [] := h
    subst e2
    rfl
  | (j, d) :: fs, gs, h => by
    obtain ⟨w, hs, rfl, r1, rs⟩ := h
    rw [List.map_cons, List.map_cons, kr_keys rs]
/-- how far the copying is: u what stands at d, unlocked -/
structure Cp (g : Gh) (K : PySem.W.Frag) (ρ : Nat → Addr) (s1 : Store) (H : Hp) (d : Addr) (od : Obj) (u : HO) (kvs : List (Key × D)) (sk : Str) (osF : List O) (wsF : List (Key × D)) (Da : Addr) (i : Nat) (Hc : Hp) : Prop where
  lk : Hc d = some (.frz od u)
  ex : ∃ ρ2 os ps rs ws os2 ws2, Post g ρ s1 H ρ2 (s1 ++ os) (upd Hc d u) ∧ Hc Da = some (.lst (ps.map V.ref)) ∧ (∀ l, mutAt (s1 ++ os) l → ρ2 l ≠ Da) ∧ ps.length = i ∧ Paired (fun p (kv : Key × V) => Hc p = some (.tup [kV kv.1, kv.2])) ps rs ∧
    KR K ρ2 (s1 ++ os).length (upd Hc d u) ws rs ∧ copyD sk s1 (kvs.drop i) (s1 ++ os).length = some (os2, ws2) ∧ os ++ os2 = osF ∧ ws ++ ws2 = wsF
theorem dcopy_body {sk : Str} {ρ : Nat → Addr} {st : Store} {H Hc : Hp} {d Da : Addr} {od : Obj} {gs : List (Key × V)} {kvs : List (Key × D)} {osF : List O} {wsF : List (Key × D)} {σ : St} {j : Nat} {k0 : Key} {v0 : V} (xK : X.K = g.K) (hk1 : ik ≠ i) (hik : ik < σ.length) (w1 : σ[i]? = some (some (.ref d)))
    (Rl : Rel g ρ st H) (rk : KR g.K ρ st.length H kvs gs) (nd : (gs.map (·.1)).Nodup) (h1000 : kvs.length ≤ 1000) (hD0 : H Da = none) (Dd : Da ≠ d) (hg : gs[j]? = some (k0, v0)) (C : Cp g g.K ρ st H d od (.dK gs) kvs sk osF wsF Da j Hc) :
    gName ik (kV k0) (wipe σ [ik]) Hc fun σ2 H2 => wipe σ2 [ik] = wipe σ [ik] ∧ tYes σ2 H2 fun b H3 => if b = true then tElt X.K i ik sk σ2 H3 fun y H4 => ∃ acc, H4 Da = some (.lst acc) ∧ acc.length < sizeLine ∧ Cp g g.K ρ st H d od (.dK gs) kvs sk osF wsF Da (j + 1) (upd H4 Da (.lst (acc ++ [y])))
      else Cp g g.K ρ st H d od (.dK gs) kvs sk osF wsF Da (j + 1) H3 := by
  have we : wipe σ [ik] = σ.set ik none := rfl
  have s2k : ((wipe σ [ik]).set ik (some (kV k0)))[ik]? = some (some (kV k0)) := by
    rw [we, List.getElem?_set_self (by rw [List.length_set]; exact hik)]
  have s2i : ((wipe σ [ik]).set ik (some (kV k0)))[i]? = some (some (.ref d)) := by
    rw [we, List.getElem?_set_ne hk1, List.getElem?_set_ne hk1]
    exact w1
  obtain ⟨d1, hkv, rv⟩ := rk.at hg
  obtain ⟨lk, ρ2, os, ps, rs, ws, os2, ws2, P2, e2, hn, pl, pr, kr, hc, h1, h2⟩ := C
  have hdr : kvs.drop j = (k0, d1) :: kvs.drop (j + 1) := by
    obtain ⟨hj, e⟩ := List.getElem?_eq_some_iff.mp hkv
    rw [List.drop_eq_getElem_cons hj, e]
  rw [hdr] at hc
  obtain ⟨t, rfl, cs⟩ := copyD_cons hc
  have dg : DGet Hc d (kV (.inr t)) (some v0) := .inl ⟨gs, .inr t, .inr ⟨od, lk⟩, rfl, (valV_at nd hg).symm⟩
  have two : ∀ a b : V, ([a, b] : List V).length ≤ sizeLine := fun _ _ => by show 2 ≤ sizeLine; rw [szL]; decide
  have pj : ps.length < sizeLine := by
    have jl := (List.getElem?_eq_some_iff.mp hkv).1
    rw [pl, szL]
    omega
  have ml : (ps.map V.ref).length < sizeLine := by rw [List.length_map]; exact pj
  have ud : upd Hc d (.dK gs) Da = some (.lst (ps.map V.ref)) := by rw [upd_ne Dd]; exact e2
  refine ⟨by show (((σ.set ik none).set ik (some (kV (.inr t)))).set ik none) = σ.set ik none; rw [List.set_set, List.set_set], ?_⟩
  change (if true = true then tElt X.K i ik sk ((wipe σ [ik]).set ik (some (kV (.inr t)))) Hc (fun y H4 => ∃ acc, H4 Da = some (.lst acc) ∧ acc.length < sizeLine ∧ Cp g g.K ρ st H d od (.dK gs) kvs sk osF wsF Da (j + 1) (upd H4 Da (.lst (acc ++ [y])))) else Cp g g.K ρ st H d od (.dK gs) kvs sk osF wsF Da (j + 1) Hc)
  rw [if_pos rfl]
  refine ⟨kV (.inr t), s2k, ?_⟩
  refine ⟨kV (.inr t), s2k, rfl, !decide (kV (.inr t) = V.str sk), rfl, ?_⟩
  rcases cs with ⟨rfl, r, hc2, rfl⟩ | ⟨ne, jj, xs, os', r, rfl, hxs, hc2, rfl, rfl⟩
  · have c : (!decide (kV (.inr t) = V.str t)) = false := by simp [kV]
    rw [c]
    show tDGet (tVar i) (tVar ik) _ Hc _
    refine ⟨.ref d, s2i, kV (.inr t), s2k, d, v0, rfl, dg, two _ _, fun p hp => ?_⟩
    have pd : p ≠ d := fun z => by rw [z, lk] at hp; cases hp
    have pD : p ≠ Da := fun z => by rw [z, e2] at hp; cases hp
    have hp2 : upd Hc d (.dK gs) p = none := by rw [upd_ne pd]; exact hp
    refine ⟨ps.map V.ref, by rw [upd_ne (Ne.symm pD)]; exact e2, ml, ?_⟩
    have Pt := P2.rel.tup (u := .tup [kV (.inr t), v0]) hp2
    have P3 := P2.trans Pt
    obtain ⟨P4, t4⟩ := P3.temp (zs := ps.map V.ref ++ [.ref p]) hD0 hn (by rw [upd_ne (Ne.symm pD)]; exact ud)
    have eH : upd (upd (upd Hc p (.tup [kV (.inr t), v0])) Da (.lst (ps.map V.ref ++ [.ref p]))) d (.dK gs) = upd (upd (upd Hc d (.dK gs)) p (.tup [kV (.inr t), v0])) Da (.lst (ps.map V.ref ++ [.ref p])) := by
      rw [upd_comm (a := Da) (b := d) Dd, upd_comm (H := Hc) (a := p) (b := d) pd]
    refine ⟨by rw [upd_ne (Ne.symm Dd), upd_ne (Ne.symm pd)]; exact lk, ρ2, os, ps ++ [p], rs ++ [(.inr t, v0)], ws ++ [(.inr t, d1)], os2, r, by rw [eH]; exact P4, ?_, hn, by simp [pl], ?_, ?_, hc2, h1, by rw [List.append_assoc]; exact h2⟩
    · rw [upd_same, List.map_append]
      rfl
    · refine paired_snoc (L2.Paired.mapP pr fun q kv e => ?_) (by rw [upd_ne pD, upd_same])
      rw [upd_ne (fun z => by rw [z, e2] at e; cases e), upd_ne (fun z => by rw [z, hp] at e; cases e)]
      exact e
    · rw [eH]
      exact KR.snoc (P4.vr Rl rv) ((kr.mono (fun _ _ => rfl) (Nat.le_refl _) (Pt.tk P2.rel)).mono (fun _ _ => rfl) (Nat.le_refl _) t4)
  · have c : (!decide (kV (.inr t) = V.str sk)) = true := by
      simp [kV, ne]
    rw [c]
    show tDGet (tVar i) (tVar ik) _ Hc _
    have jl : jj < st.length := lt_of_get hxs
    unfold VR at rv
    obtain ⟨_, rfl⟩ := rv
    have hx2 : (st ++ os)[jj]? = some (.lst xs) := by rw [List.getElem?_append_left jl]; exact hxs
    obtain ⟨ys, ey, ry⟩ := P2.rel.obj jj _ hx2
    rw [P2.old jj jl] at ey
    have jd : ρ jj ≠ d := fun z => by
      rw [z, upd_same] at ey
      cases ey
    rw [upd_ne jd] at ey
    refine ⟨.ref d, s2i, kV (.inr t), s2k, d, .ref (ρ jj), rfl, dg, ρ jj, ys, rfl, .inl (SqL.of ey), fun a ha => ⟨two _ _, fun p hp => ?_⟩⟩
    have ad : a ≠ d := fun z => by rw [z, lk] at ha; cases ha
    have aD : a ≠ Da := fun z => by rw [z, e2] at ha; cases ha
    have ha2 : upd Hc d (.dK gs) a = none := by rw [upd_ne ad]; exact ha
    have pa : p ≠ a := fun z => by rw [z, upd_same] at hp; cases hp
    rw [upd_ne pa] at hp
    have pd : p ≠ d := fun z => by rw [z, lk] at hp; cases hp
    have pD : p ≠ Da := fun z => by rw [z, e2] at hp; cases hp
    have ta := (P2.rel.tup (u := .lst ys) ha2).tk P2.rel
    have Pa := P2.rel.push (o := .lst xs) (u := .lst ys) ha2 ⟨ys, upd_same, ry.mono (fun _ _ => rfl) (Nat.le_refl _) ta⟩
    have P3 := P2.trans Pa
    have hp2 : upd (upd Hc d (.dK gs)) a (.lst ys) p = none := by rw [upd_ne pa, upd_ne pd]; exact hp
    have Pt := P3.rel.tup (u := .tup [kV (.inr t), .ref a]) hp2
    have P4 := P3.trans Pt
    have hn3 : ∀ l, mutAt (st ++ os ++ [.lst xs]) l → nxt ρ2 (st ++ os).length a l ≠ Da := fun l m => by
      by_cases hl : l < (st ++ os).length
      · rw [nxt_old l hl]
        obtain ⟨o, eo, mo⟩ := m
        rw [List.getElem?_append_left hl] at eo
        exact hn l ⟨o, eo, mo⟩
      · have := mutAt_lt m
        have e : l = (st ++ os).length := by simp at this hl; simp; omega
        rw [e, nxt_same]
        exact aD
    obtain ⟨P5, t5⟩ := P4.temp (zs := ps.map V.ref ++ [.ref p]) hD0 hn3 (by rw [upd_ne (Ne.symm pD), upd_ne (Ne.symm aD)]; exact ud)
    refine ⟨ps.map V.ref, by rw [upd_ne (Ne.symm pD), upd_ne (Ne.symm aD)]; exact e2, ml, ?_⟩
    have eH : upd (upd (upd (upd Hc a (.lst ys)) p (.tup [kV (.inr t), .ref a])) Da (.lst (ps.map V.ref ++ [.ref p]))) d (.dK gs) = upd (upd (upd (upd Hc d (.dK gs)) a (.lst ys)) p (.tup [kV (.inr t), .ref a])) Da (.lst (ps.map V.ref ++ [.ref p])) := by
      rw [upd_comm (a := Da) (b := d) Dd, upd_comm (a := p) (b := d) pd, upd_comm (H := Hc) (a := a) (b := d) ad]
    have as : st ++ os ++ [O.lst xs] = st ++ (os ++ [.lst xs]) := List.append_assoc ..
    refine ⟨by rw [upd_ne (Ne.symm Dd), upd_ne (Ne.symm pd), upd_ne (Ne.symm ad)]; exact lk, nxt ρ2 (st ++ os).length a, os ++ [.lst xs], ps ++ [p], rs ++ [(.inr t, .ref a)], ws ++ [(.inr t, .loc (st ++ os).length)], os', r, by rw [eH, ← as]; exact P5, ?_, by rw [← as]; exact hn3, by simp [pl], ?_, ?_, ?_, by rw [← h1, List.append_assoc]; rfl, by rw [List.append_assoc]; exact h2⟩
    · rw [upd_same, List.map_append]
      rfl
    · refine paired_snoc (L2.Paired.mapP pr fun q kv e => ?_) (by rw [upd_ne pD, upd_same])
      rw [upd_ne (fun z => by rw [z, e2] at e; cases e), upd_ne (fun z => by rw [z, hp] at e; cases e), upd_ne (fun z => by rw [z, ha] at e; cases e)]
      exact e
    · rw [eH, ← as]
      refine KR.snoc ?_ (((kr.mono Pa.old Pa.len (Pa.tk P2.rel)).mono (fun _ _ => rfl) (Nat.le_refl _) (Pt.tk P3.rel)).mono (fun _ _ => rfl) (Nat.le_refl _) t5)
      unfold VR
      exact ⟨by simp, by rw [nxt_same]⟩
    · rw [← as, List.length_append (bs := [O.lst xs])]
      exact hc2
theorem dcopy_of {sk : Str} {ef : Ef} (xK : X.K = g.K) (hk1 : ik ≠ i) (hef : ef = eVar i) : ∀ σ H Q, tE g (eDCopy ik sk ef) σ H Q →
    tLockE (tCB (fun xs H Q => ∃ (a : Addr) (ps : List Addr) (kvs : List (Key × V)), xs = [.ref a] ∧ SqL X.K H a (ps.map V.ref) ∧ Paired (fun p kv => SqT X.K H p [kV kv.1, kv.2]) ps kvs ∧ ∀ p, H p = none → Q (.ref p) (upd H p (.dK (mergeK [] kvs))))
      (tCons (tLc (iKeys (tVar i)) (gName ik) tYes (tElt X.K i ik sk) [ik]) tNil)) σ H Q := fun σ H Q ⟨ρ, st, env, v, st', Rl, E, h, k⟩ => by
  subst hef
  unfold eDCopy at h
  by_cases hik0 : ik < env.length
  case neg =>
    rw [if_neg hik0] at h
    cases h
  rw [if_pos hik0] at h
  have hik : ik < σ.length := by rw [← E.len]; exact hik0
  obtain ⟨d0, s1, e1, h⟩ := R.bind_eq h
  unfold eVar at e1
  split at e1
  · rename_i dd q0
    cases e1
    obtain ⟨w0, w1, w2⟩ := E.get i _ q0
    cases d0 with
    | loc l =>
      simp only at h
      split at h
      · rename_i kvs ql
        split at h
        · rename_i osF wsF ec
          split at h
          · rename_i hz
            cases h
            unfold VR at w2
            obtain ⟨hl, rfl⟩ := w2
            obtain ⟨gs, q1, rk⟩ := Rl.obj l _ ql
            have gk := kr_keys rk
            have gl : gs.length = kvs.length := rk.length
            refine ⟨ρ l, .dK gs, q1, trivial, fun od => ?_⟩
            generalize hd : ρ l = d at *
            have ub : upd (upd H d (.frz od (.dK gs))) d (.dK gs) = H := upd_back q1
            refine ⟨.ref d, w1, d, od, rfl, .inl ⟨gs, upd_same, fun Da hD => ?_⟩⟩
            have Dd : Da ≠ d := fun z => by
              rw [z, upd_same] at hD
              cases hD
            have hD0 : H Da = none := by rw [upd_ne Dd] at hD; exact hD
            refine it_W it_keys (fun i Hc => Cp g g.K ρ st H d od (.dK gs) kvs sk osF wsF Da i Hc) ⟨by rw [upd_ne (Ne.symm Dd), upd_same], ?_⟩ (fun i Hc hi C => C.lk) (fun j x Hc Hc' hj C y => ?_) (fun Hc C => ?_)
            · have e : upd (upd (upd H d (.frz od (.dK gs))) Da (.lst [])) d (.dK gs) = upd H Da (.lst []) := by
                rw [upd_comm (a := Da) (b := d) Dd, ub]
              rw [e]
              refine ⟨ρ, [], [], [], [], osF, wsF, ?_, upd_same, fun l' m q => ?_, rfl, .nil, rfl, by simpa using ec, rfl, rfl⟩
              · rw [List.append_nil]
                exact Rl.tup hD0
              · rw [List.append_nil] at m
                obtain ⟨u, e2, _⟩ := Rl.mutSome m
                rw [q, hD0] at e2
                cases e2
            · obtain ⟨rfl, k0, v0, hg, rfl⟩ := y
              exact dcopy_body xK hk1 hik w1 Rl rk (gk ▸ hz.2) hz.1 hD0 Dd hg C
            · obtain ⟨lk, ρ2, os, ps, rs, ws, os2, ws2, P2, e2, hn, pl, pr, kr, hc, h1, h2⟩ := C
              rw [List.drop_of_length_le (by omega)] at hc
              simp only [copyD, Option.some.injEq, Prod.mk.injEq] at hc
              obtain ⟨rfl, rfl⟩ := hc
              rw [List.append_nil] at h1 h2
              subst h1
              subst h2
              refine ⟨Da, ps, rs, rfl, SqL.of e2, L2.Paired.mapP pr fun p kv e => SqT.of e, fun p hp => ?_⟩
              have pd : p ≠ d := fun z => by rw [z, lk] at hp; cases hp
              have hp2 : upd Hc d (.dK gs) p = none := by rw [upd_ne pd]; exact hp
              refine ⟨by rw [upd_ne (Ne.symm pd)]; exact lk, ?_⟩
              rw [upd_comm (H := Hc) pd]
              have tk := (P2.rel.tup (u := .dK (mergeK [] rs)) hp2).tk P2.rel
              have Pd := P2.rel.push (o := .dic (mergeD [] ws)) (u := .dK (mergeK [] rs)) hp2 ⟨mergeK [] rs, upd_same, KR.merge (kr.mono (fun _ _ => rfl) (Nat.le_refl _) tk) rfl⟩
              refine k _ _ _ (P2.trans Pd) ?_
              unfold VR
              refine ⟨by simp, ?_⟩
              rw [show st.length + os.length = (st ++ os).length by simp, nxt_same]
          · cases h
        · cases h
      · cases h
    | _ => simp at h
  · cases e1

variable {scope : Scope} {pos pos2 pd pt pi p1 p2 p3 p4 p5 p6 p7 p8 p9 p10 p11 p12 p13 p14 : Pos} {jj m : Nat} {sk : Str}
theorem e_dcopy (x : XG g X) (hne : ik ≠ i := by decide) (hd0 : PE X (.Name nd pi) (tVar i)) (ok : BlkOk X.N X.env.scope scope [(nk, ik)])
    (hgt : ∀ (s : Shared) (H : Hp) (C : Addr) (cl : List (Str × Addr)) (fp : List Addr), PG (X.blk s H scope (compEnvC scope cl C X.env) fp) (.Name nk pt) (gName ik))
    (hk : ∀ (s : Shared) (H : Hp) (C : Addr) (cl : List (Str × Addr)) (fp : List Addr) (p : Pos), PE (X.blk s H scope (compEnvC scope cl C X.env) fp) (.Name nk p) (tVar ik))
    (hd : ∀ (s : Shared) (H : Hp) (C : Addr) (cl : List (Str × Addr)) (fp : List Addr) (p : Pos), PE (X.blk s H scope (compEnvC scope cl C X.env) fp) (.Name nd p) (tVar i))
    (hl : ∀ (s : Shared) (H : Hp) (C : Addr) (cl : List (Str × Addr)) (fp : List Addr), Gl (X.blk s H scope (compEnvC scope cl C X.env) fp) "list")
    (hg : Gl X "dict" := by rfl) (hs : ∀ z, foldedSetIterable (.Name nd pi) X.env z = pure z := by intro _; rfl) :
    EV g X (.Call (.Name "dict" pd) [.ListComp (.Tuple [.Name nk p1, .IfExp (.Compare (.Name nk p9) [.NotEq] [.Constant (.str sk) jj p2] p10) (.Call (.Name "list" p6) [.Subscript (.Name nd p3) (.Name nk p4) p5] [] p11) (.Subscript (.Name nd p7) (.Name nk p8) p12) p13] m p14) [⟨.Name nk pt, .Name nd pi, [], 0⟩] scope pos] [] pos2) (eDCopy ik sk (eVar i)) :=
  pe_imp (pe_lock (pe_callTy (call_dictP x.calm) hg (x.mg "dict") (by decide +kernel) (pa_cons (pe_lc x.calm x.nd (pi_keys hd0) ok hgt (fun _ _ _ _ _ => pts_nil) (fun s H C cl fp => pe_elt (x.blk s H scope (compEnvC scope cl C X.env) fp) (hk s H C cl fp) (hd s H C cl fp) (hl s H C cl fp)) hs) pa_nil rfl) (by decide) (by decide) rfl rfl)) (dcopy_of x.K hne rfl)
end
end Ev

/-! Ev24: k in d; sorted(d), all keys numbers. -/
namespace Ev
open PySem L2
open PyProof.Rows hiding St
section
variable {g : Gh} {X : Cx} {a b : Expr} {pos p : Pos} {fa fb : Ef} {K : PySem.W.Frag} {ρ : Nat → Addr} {n : Nat} {H : Hp}
theorem KR.val? {k : Key} : ∀ {kvs : List (Key × D)} {gs : List (Key × V)}, KR K ρ n H kvs gs → (valV gs k).isSome = (valD kvs k).isSome
  | [], gs, h => by
    have e : gs = [] := h
    subst e
    rfl
  | (j, d) :: kvs, gs, h => by
    obtain ⟨w, hs, rfl, r1, rs⟩ := h
    have ih := rs.val? (k := k)
    unfold valV valD at ih ⊢
    by_cases e : j = k
    · rw [List.find?_cons_of_pos (by simpa using e), List.find?_cons_of_pos (by simpa using e)]
      rfl
    · rw [List.find?_cons_of_neg (by simpa using e), List.find?_cons_of_neg (by simpa using e)]
      exact ih
def dinF (neg : Bool) (x y : D) (st : Store) : R D := match keyD x, y with
  | some k, .loc l => match st[l]? with
    | some (.dic kvs) => .ok (.bl (if neg then !(valD kvs k).isSome else (valD kvs k).isSome)) st
    | _ => .bad
  | _, _ => .bad
def eDin (neg : Bool) (fa fb : Ef) : Ef := fun env st => (fa env st).bind fun x s1 => (fb env s1).bind fun y s2 => dinF neg x y s2
theorem din_ok {neg : Bool} {ρ : Nat → Addr} {st : Store} {H : Hp} {dx dy v : D} {y x : V} {st' : Store} (Rl : Rel g ρ st H) (r1 : VR g.K ρ st.length H dx y) (r2 : VR g.K ρ st.length H dy x) (h : dinF neg dx dy st = .ok v st') :
    st' = st ∧ ∃ a o, x = .ref a ∧ DGet H a y o ∧ v = .bl (if neg then !o.isSome else o.isSome) := by
  unfold dinF at h
  split at h
  · rename_i k l hk
    split at h
    · rename_i kvs q
      cases h
      unfold VR at r2
      obtain ⟨hl, rfl⟩ := r2
      have ey := key_vr r1 hk
      subst ey
      obtain ⟨gs, q1, rk⟩ := Rl.obj l _ q
      exact ⟨rfl, ρ l, _, rfl, DGet.k q1, by rw [rk.val?]⟩
    · cases h
  · cases h
theorem din_of : ∀ σ H Q, tE g (eDin false fa fb) σ H Q → tDIn (tE g fa) (tE g fb) σ H Q := fun σ H Q ⟨ρ, st, env, v, st', Rl, E, h, k⟩ => by
  obtain ⟨d1, s1, e1, h⟩ := R.bind_eq h
  obtain ⟨d2, s2, e2, h⟩ := R.bind_eq h
  refine ⟨ρ, st, env, d1, s1, Rl, E, e1, fun ρ1 H1 y1 P1 r1 => ?_⟩
  refine ⟨ρ1, s1, env, d2, s2, P1.rel, P1.envr Rl E, e2, fun ρ2 H2 y2 P2 r2 => ?_⟩
  obtain ⟨es, a, o, ex, hg, hv⟩ := din_ok P2.rel (P2.vr P1.rel r1) r2 h
  subst es
  subst hv
  exact ⟨a, o, ex, hg, k ρ2 H2 _ (P1.trans P2) (by simp [VR])⟩
theorem dnin_of : ∀ σ H Q, tE g (eDin true fa fb) σ H Q → tDNotIn (tE g fa) (tE g fb) σ H Q := fun σ H Q ⟨ρ, st, env, v, st', Rl, E, h, k⟩ => by
  obtain ⟨d1, s1, e1, h⟩ := R.bind_eq h
  obtain ⟨d2, s2, e2, h⟩ := R.bind_eq h
  refine ⟨ρ, st, env, d1, s1, Rl, E, e1, fun ρ1 H1 y1 P1 r1 => ?_⟩
  refine ⟨ρ1, s1, env, d2, s2, P1.rel, P1.envr Rl E, e2, fun ρ2 H2 y2 P2 r2 => ?_⟩
  obtain ⟨es, a, o, ex, hg, hv⟩ := din_ok P2.rel (P2.vr P1.rel r1) r2 h
  subst es
  subst hv
  exact ⟨a, o, ex, hg, k ρ2 H2 _ (P1.trans P2) (by simp [VR])⟩
theorem t_din (x : XG g X) (ha : EV g X a fa) (hb : EV g X b fb) (hm : behindInMarks .In b = false := by rfl) : TV g X (.Compare a [.In] [b] pos) (tfB (eDin false fa fb)) := pt_imp (pt_cmp (pc_impE (pc_din (by have := x.hu; omega) ha hb) din_of) hm) tB_of
theorem t_dnotin (x : XG g X) (ha : EV g X a fa) (hb : EV g X b fb) (hm : behindInMarks .NotIn b = false := by rfl) : TV g X (.Compare a [.NotIn] [b] pos) (tfB (eDin true fa fb)) := pt_imp (pt_cmp (pc_impE (pc_dnotin (by have := x.hu; omega) ha hb) dnin_of) hm) tB_of
/-! sorted(d) -/
def intKeys : List (Key × D) → Option (List Int)
  | [] => some []
  | (.inl i, _) :: kvs => (intKeys kvs).map (i :: ·)
  | (.inr _, _) :: _ => none
theorem intKeys_ok : ∀ {kvs : List (Key × D)} {ks : List Int}, intKeys kvs = some ks → kvs.map (·.1) = ks.map Sum.inl
  | [], ks, h => by cases h; rfl
  | (.inl i, d) :: kvs, ks, h => by
    unfold intKeys at h
    rw [Option.map_eq_some_iff] at h
    obtain ⟨r, h1, rfl⟩ := h
    rw [List.map_cons, intKeys_ok h1]
    rfl
  | (.inr z, d) :: kvs, ks, h => by cases h
def sortI (ks : List Int) : List Int := isort (fun a b => decide (a ≤ b)) ks
theorem total_int : PySem.W.TotalLe (fun a b : Int => decide (a ≤ b)) := ⟨fun a b c h1 h2 => by simp at h1 h2 ⊢; omega, fun a b => by simp; omega⟩
theorem isort_perm {A : Type} {le : A → A → Bool} : ∀ l : List A, (isort le l).Perm l
  | [] => List.Perm.refl _
  | a :: l => by
    have ins : ∀ l : List A, (insA le a l).Perm (a :: l) := fun l => by
      induction l with
      | nil => exact List.Perm.refl _
      | cons b l ih =>
        unfold insA
        split
        · exact List.Perm.refl _
        · exact (List.Perm.cons b ih).trans (List.Perm.swap a b l)
    exact (ins _).trans (List.Perm.cons a (isort_perm l))
theorem sortI_one {ks ys : List Int} (p : ys.Perm ks) (s : ys.Pairwise (· ≤ ·)) : ys = sortI ks := by
  have s2 : (sortI ks).Pairwise (· ≤ ·) := (isort_sorted total_int ks).imp fun h => by simpa using h
  have p2 : ys.Perm (sortI ks) := p.trans (isort_perm ks).symm
  exact List.Perm.eq_of_pairwise (fun a b _ _ h1 h2 => Int.le_antisymm h1 h2) s s2 p2
/-- sorted(d) -/
def nSortK (f : Ef) : Af := fun env st => (f env st).bind fun d s => match d with
  | .loc l => match s[l]? with
    | some (.dic kvs) => match intKeys kvs with
      | some ks => if ks.length < 64 then .ok ((sortI ks).map D.int) s else .bad
      | none => .bad
    | _ => .bad
  | _ => .bad
theorem n_sortK (x : XG g X) (h : EV g X a fa) (hg : Gl X "sorted" := by rfl) (he : starEach [a] X.env = (false, eval a X.env) :: starEach [] X.env := by rfl) : NV g X (.Call (.Name "sorted" p) [a] [] pos) (nSortK fa) :=
  pe_imp (pe_callB (call_sortedDI x.calm) hg (x.mg "sorted") (by decide +kernel) (pa_cons h pa_nil he) (by decide) (by decide) he rfl) fun σ H Q ⟨ρ, st, env, v, st', Rl, E, h, k⟩ => by
    obtain ⟨d, s1, e1, h⟩ := R.bind_eq h
    refine ⟨ρ, st, env, d, s1, Rl, E, e1, fun ρ1 H1 y P1 r1 => ?_⟩
    cases d with
    | loc l =>
      simp only at h
      split at h
      · rename_i kvs ql
        split at h
        · rename_i ks hks
          split at h
          · rename_i hz
            cases h
            unfold VR at r1
            obtain ⟨hl, rfl⟩ := r1
            obtain ⟨gs, q1, rk⟩ := P1.rel.obj l _ ql
            refine ⟨ρ1 l, gs, ks, rfl, .inl q1, by rw [kr_keys rk]; exact intKeys_ok hks, hz, fun ys q py sy hq => ?_⟩
            have ey := sortI_one py sy
            subst ey
            have P2 := P1.rel.tup (u := HO.lst ((sortI ks).map V.int)) hq
            refine k ρ1 _ q _ (P1.trans P2) upd_same (fun j m z => ?_) (P1.freeB hq) (P2.vrs P1.rel VRs.ints)
            obtain ⟨u, e2, _⟩ := P1.rel.mutSome m
            rw [z, hq] at e2
            cases e2
          · cases h
        · cases h
      · cases h
    | _ => simp at h
end
/-! ### reckoning -/
section
variable {env : EEnv} {st s : Store} {fa fb f : Ef} {x y : D} {l : Nat} {kvs : List (Key × D)} {neg : Bool} {k : Key}
def kDin2 (neg : Bool) (x y : D) (s : Store) : R D := dinF neg x y s
def kDin1 (neg : Bool) (fb : Ef) (env : EEnv) (x : D) (s : Store) : R D := (fb env s).bind (kDin2 neg x)
@[simp] theorem ev_eDin : eDin neg fa fb env st = (fa env st).bind (kDin1 neg fb env) := rfl
@[simp] theorem ev_kDin1 : kDin1 neg fb env x s = (fb env s).bind (kDin2 neg x) := rfl
@[simp] theorem ev_kDin2 : kDin2 neg x y s = dinF neg x y s := rfl
def dinG (neg : Bool) (o : Option Key) (q : Option O) (s : Store) : R D := match o, q with
  | some k, some (.dic kvs) => .ok (.bl (if neg then !(valD kvs k).isSome else (valD kvs k).isSome)) s
  | _, _ => .bad
@[simp] theorem ev_dinF : dinF neg x (.loc l) s = dinG neg (keyD x) (s[l]?) s := by
  unfold dinF dinG
  cases keyD x with
  | none => rfl
  | some k =>
    simp only
    cases s[l]? with
    | none => rfl
    | some o => cases o <;> rfl
@[simp] theorem ev_dinG : dinG neg (some k) (some (.dic kvs)) s = .ok (.bl (if neg then !(valD kvs k).isSome else (valD kvs k).isSome)) s := rfl
def sortG (o : Option (List Int)) (s : Store) : R (List D) := match o with | some ks => if ks.length < 64 then .ok ((sortI ks).map D.int) s else .bad | none => .bad
def kSortK (d : D) (s : Store) : R (List D) := match d with
  | .loc l => match s[l]? with
    | some (.dic kvs) => sortG (intKeys kvs) s
    | _ => .bad
  | _ => .bad
@[simp] theorem ev_nSortK : nSortK f env st = (f env st).bind kSortK := rfl
theorem ev_kSortK (h : s[l]? = some (.dic kvs)) : kSortK (.loc l) s = sortG (intKeys kvs) s := by
  simp only [kSortK, h]
@[simp] theorem ev_sortG {ks : List Int} : sortG (some ks) s = if ks.length < 64 then .ok ((sortI ks).map D.int) s else .bad := rfl
end
end Ev

/-! Ev25: a list of anything beside an empty one. -/
namespace Ev
open PySem L2
open PyProof.Rows hiding St
section
variable {g : Gh} {X : Cx} {a b : Expr} {pos : Pos} {fa fb : Ef}
def both0 (xs ys : List V) : Bool := xs.isEmpty && ys.isEmpty
def rEq0 (K : PySem.W.Frag) : R2 := fun x y H Q => ∃ a b xs ys, x = .ref a ∧ y = .ref b ∧ SqL K H a xs ∧ SqL K H b ys ∧ (xs = [] ∨ ys = []) ∧ Q (.bl (both0 xs ys)) H
def rNe0 (K : PySem.W.Frag) : R2 := fun x y H Q => ∃ a b xs ys, x = .ref a ∧ y = .ref b ∧ SqL K H a xs ∧ SqL K H b ys ∧ (xs = [] ∨ ys = []) ∧ Q (.bl (!both0 xs ys)) H
theorem sizes0 {xs ys : List V} {us ws : List Value} (h : xs = [] ∨ ys = []) (r1 : Vals xs us) (r2 : Vals ys ws) : (us.toArray.size = ws.toArray.size ∧ us.toArray.size = 0 ∧ both0 xs ys = true) ∨ ((us.toArray.size != ws.toArray.size) = true ∧ both0 xs ys = false) := by
  have l1 := r1.length
  have l2 := r2.length
  simp only [List.size_toArray]
  unfold both0
  rcases h with rfl | rfl
  · cases ys with
    | nil => exact .inl ⟨by simp_all, by simp_all, rfl⟩
    | cons y ys => exact .inr ⟨by simp at l1 l2 ⊢; omega, rfl⟩
  · cases xs with
    | nil => exact .inl ⟨by simp_all, by simp_all, rfl⟩
    | cons y ys => exact .inr ⟨by simp at l1 l2 ⊢; omega, rfl⟩
theorem op_ne0 (hu : X.A.units < cLine) : OpR X (compareOp .NotEq) (rNe0 X.K) := by
  intro pins s σ H x y v u Q I rx ry h
  obtain ⟨a, b, xs, ys, rfl, rfl, h1, h2, he, q⟩ := h
  cases rx
  cases ry
  obtain ⟨us, rv1, ⟨o1, n1, ho1, hc1, _, hd1⟩, _⟩ := I.list h1
  obtain ⟨ws, rv2, ⟨o2, n2, ho2, hc2, _, hd2⟩, _⟩ := I.list h2
  have l1 : s.heap.IsList a us.toArray := ⟨o1, ho1, hc1, n1, hd1⟩
  have l2 : s.heap.IsList b ws.toArray := ⟨o2, ho2, hc2, n2, hd2⟩
  rcases sizes0 he rv1 rv2 with ⟨e1, e0, eb⟩ | ⟨e1, eb⟩
  · rw [eb] at q
    refine SeqAt.RcNeAt.lists (e := fun _ => true) l1 l2 e1 hu (fun j h1 h2 => ?_) _ _ _ _ ?_
    · rw [e0] at h1
      omega
    · rw [e0]
      exact ⟨.bl _, H, I, rfl, q⟩
  · rw [eb] at q
    exact SeqAt.RcNeAt.lists_lengths l1 l2 e1 hu _ _ _ _ ⟨.bl _, H, I, rfl, q⟩
theorem op_eq0 (hu : X.A.units < cLine) : OpR X (compareOp .Eq) (rEq0 X.K) := by
  intro pins s σ H x y v u Q I rx ry h
  obtain ⟨a, b, xs, ys, rfl, rfl, h1, h2, he, q⟩ := h
  cases rx
  cases ry
  obtain ⟨us, rv1, ⟨o1, n1, ho1, hc1, _, hd1⟩, _⟩ := I.list h1
  obtain ⟨ws, rv2, ⟨o2, n2, ho2, hc2, _, hd2⟩, _⟩ := I.list h2
  have l1 : s.heap.IsList a us.toArray := ⟨o1, ho1, hc1, n1, hd1⟩
  have l2 : s.heap.IsList b ws.toArray := ⟨o2, ho2, hc2, n2, hd2⟩
  rcases sizes0 he rv1 rv2 with ⟨e1, e0, eb⟩ | ⟨e1, eb⟩
  · rw [eb] at q
    refine SeqAt.RcAt.lists (e := fun _ => true) l1 l2 e1 hu (fun j h1 h2 => ?_) _ _ _ _ ?_
    · rw [e0] at h1
      omega
    · rw [e0]
      exact ⟨.bl _, H, I, rfl, q⟩
  · rw [eb] at q
    exact SeqAt.RcAt.lists_lengths l1 l2 e1 hu _ _ _ _ ⟨.bl _, H, I, rfl, q⟩
def eq0G (neg : Bool) (o1 o2 : Option O) (s : Store) : R D := match o1, o2 with
  | some (.lst xs), some (.lst ys) => if xs = [] ∨ ys = [] then .ok (.bl (if neg then !(xs.isEmpty && ys.isEmpty) else xs.isEmpty && ys.isEmpty)) s else .bad
  | _, _ => .bad
def eq0F (neg : Bool) : F2 := fun x y st => match x, y with
  | .loc a, .loc b => eq0G neg (st[a]?) (st[b]?) st
  | _, _ => .bad
theorem both_e {K : PySem.W.Frag} {ρ : Nat → Addr} {n : Nat} {H : Hp} {xs ys : List D} {us ws : List V} (r1 : VRs K ρ n H xs us) (r2 : VRs K ρ n H ys ws) : (xs.isEmpty && ys.isEmpty) = both0 us ws := by
  have l1 := r1.length
  have l2 := r2.length
  unfold both0
  congr 1
  · cases xs <;> cases us <;> simp_all
  · cases ys <;> cases ws <;> simp_all
theorem nil_e {K : PySem.W.Frag} {ρ : Nat → Addr} {n : Nat} {H : Hp} {us : List V} (r : VRs K ρ n H [] us) : us = [] := by
  have := r.length
  exact List.length_eq_zero_iff.mp this.symm
theorem o_ne0 (x : XG g X) : Op2 g (rNe0 X.K) (eq0F true) := fun ρ st H d1 d2 x1 y1 v st' Q Rl r1 r2 q k => by
  unfold eq0F at q
  split at q
  · rename_i a b
    unfold eq0G at q
    split at q
    · rename_i xs ys e1 e2
      split at q
      · rename_i hz
        cases q
        unfold VR at r1 r2
        obtain ⟨_, rfl⟩ := r1
        obtain ⟨_, rfl⟩ := r2
        obtain ⟨us, q1, rv1⟩ := Rl.obj a _ e1
        obtain ⟨ws, q2, rv2⟩ := Rl.obj b _ e2
        rw [x.K]
        refine ⟨_, _, us, ws, rfl, rfl, SqL.of q1, SqL.of q2, ?_, ?_⟩
        · rcases hz with rfl | rfl
          · exact .inl (nil_e rv1)
          · exact .inr (nil_e rv2)
        · refine k ρ H _ (Post.refl Rl) ?_
          rw [both_e rv1 rv2]
          simp [VR]
      · cases q
    · cases q
  · cases q
theorem o_eq0 (x : XG g X) : Op2 g (rEq0 X.K) (eq0F false) := fun ρ st H d1 d2 x1 y1 v st' Q Rl r1 r2 q k => by
  unfold eq0F at q
  split at q
  · rename_i a b
    unfold eq0G at q
    split at q
    · rename_i xs ys e1 e2
      split at q
      · rename_i hz
        cases q
        unfold VR at r1 r2
        obtain ⟨_, rfl⟩ := r1
        obtain ⟨_, rfl⟩ := r2
        obtain ⟨us, q1, rv1⟩ := Rl.obj a _ e1
        obtain ⟨ws, q2, rv2⟩ := Rl.obj b _ e2
        rw [x.K]
        refine ⟨_, _, us, ws, rfl, rfl, SqL.of q1, SqL.of q2, ?_, ?_⟩
        · rcases hz with rfl | rfl
          · exact .inl (nil_e rv1)
          · exact .inr (nil_e rv2)
        · refine k ρ H _ (Post.refl Rl) ?_
          rw [both_e rv1 rv2]
          simp [VR]
      · cases q
    · cases q
  · cases q
theorem e_eq0 (x : XG g X) (ha : EV g X a fa) (hb : EV g X b fb) : EV g X (.Compare a [.Eq] [b] pos) (eBin (eq0F false) fa fb) := e_cmp (op_eq0 (by have := x.hu; omega)) (o_eq0 x) ha hb (nomark _)
theorem e_ne0 (x : XG g X) (ha : EV g X a fa) (hb : EV g X b fb) : EV g X (.Compare a [.NotEq] [b] pos) (eBin (eq0F true) fa fb) := e_cmp (op_ne0 (by have := x.hu; omega)) (o_ne0 x) ha hb (nomark _)
theorem t_eq0 (x : XG g X) (ha : EV g X a fa) (hb : EV g X b fb) : TV g X (.Compare a [.Eq] [b] pos) (tfB (eBin (eq0F false) fa fb)) := t_cmp (op_eq0 (by have := x.hu; omega)) (o_eq0 x) ha hb (nomark _)
theorem t_ne0 (x : XG g X) (ha : EV g X a fa) (hb : EV g X b fb) : TV g X (.Compare a [.NotEq] [b] pos) (tfB (eBin (eq0F true) fa fb)) := t_cmp (op_ne0 (by have := x.hu; omega)) (o_ne0 x) ha hb (nomark _)
end
section
variable {s : Store} {i j : Nat} {neg : Bool} {xs ys : List D}
@[simp] theorem ev_eq0 : eq0F neg (.loc i) (.loc j) s = eq0G neg (s[i]?) (s[j]?) s := rfl
@[simp] theorem ev_eq0G : eq0G neg (some (.lst xs)) (some (.lst [])) s = .ok (.bl (if neg then !xs.isEmpty else xs.isEmpty)) s := by
  show (if xs = [] ∨ ([] : List D) = [] then R.ok (D.bl (if neg = true then !(xs.isEmpty && ([] : List D).isEmpty) else xs.isEmpty && ([] : List D).isEmpty)) s else R.bad) = _
  rw [if_pos (Or.inr rfl)]
  cases xs <;> cases neg <;> rfl
end
end Ev

/-! Ev26: slices of lists with a step; isinstance of an own class; == by an own __eq__. -/
namespace Ev
open PySem L2
open PyProof.Rows hiding St
/-! ### slices with a step -/
def pickIx (n : Nat) (lo hi st : Option Int) : List Nat := sliceRange (sliceBounds lo hi st n).1 (sliceBounds lo hi st n).2.1 (sliceBounds lo hi st n).2.2
def pickS {A : Type} (xs : List A) (lo hi st : Option Int) : List A := sel (pickIx xs.length lo hi st) xs
theorem slicePick_sel (its : List Value) (lo hi st : Option Int) : slicePick its.toArray lo hi st = (pickS its lo hi st).toArray := by
  unfold slicePick pickS sel pickIx
  have e : (fun i : Nat => its.toArray[i]?) = fun i => its[i]? := by
    funext i
    simp
  rw [e, List.size_toArray]
theorem pickS_len {A : Type} (xs : List A) (lo hi st : Option Int) : (pickS xs lo hi st).length ≤ xs.length := by
  have h := slicePick_size_le ((List.replicate xs.length Value.none).toArray) lo hi st
  have e : ∀ {B : Type} (ys : List B) (pm : List Nat), ys.length = xs.length → (sel pm ys).length = (sel pm (List.replicate xs.length Value.none)).length := fun {B} ys pm hl => by
    unfold sel
    induction pm with
    | nil => rfl
    | cons i pm ih =>
      rw [List.filterMap_cons, List.filterMap_cons]
      by_cases hi : i < xs.length
      · rw [List.getElem?_eq_getElem (by omega), List.getElem?_eq_getElem (by simpa using hi)]
        simp only [List.length_cons, ih]
      · rw [List.getElem?_eq_none (by omega), List.getElem?_eq_none (by simpa using hi)]
        exact ih
  rw [slicePick_sel] at h
  simp only [List.size_toArray, List.length_replicate] at h
  unfold pickS at h ⊢
  rw [List.length_replicate] at h
  rw [e xs _ rfl]
  exact h
def tSl3 (K : PySem.W.Frag) (te : TE) (tl th ts : St → Hp → (Option Int → Hp → Prop) → Prop) : TE := fun σ H Q => te σ H fun x H1 => tl σ H1 fun l H2 => th σ H2 fun u H3 => ts σ H3 fun o H4 => o ≠ some 0 ∧ ∃ a xs, x = .ref a ∧ SqL K H4 a xs ∧ ∀ p, H4 p = none → Q (.ref p) (upd H4 p (.lst (pickS xs l u o)))
section
variable {X : Cx} {e sx : Expr} {lo hi : Option Expr} {p2 pos : Pos} {te : TE} {tl th ts : St → Hp → (Option Int → Hp → Prop) → Prop}
theorem pe_slice3 (he : PE X e te) (hl : PO X lo tl) (hu : PO X hi th) (hs : PO X (some sx) ts) : PE X (.Subscript e (.Slice lo hi (some sx) p2) pos) (tSl3 X.K te tl th ts) := by
  refine ⟨fun pins s σ H Q I h => ?_⟩
  refine Subscript_ (thn (he.run pins s σ H _ I h) fun v s1 ⟨x, H1, I1, r1, q1⟩ => ?_)
  refine wpAny_Slice (thn (hl.run pins s1 σ H1 _ I1 q1) fun vl s2 ⟨l, H2, I2, pl, q2⟩ => thn (hu.run pins s2 σ H2 _ I2 q2) fun vu s3 ⟨u, H3, I3, pu, q3⟩ => thn (hs.run pins s3 σ H3 _ I3 q3) fun vs s4 ⟨o, H4, I4, ps, ho, a, xs, ex, hx, q⟩ => ?_)
  subst ex
  cases r1
  have I5 : Inv X pins σ H4 { s4 with heap := s4.heap.push { cls := .type "slice", data := .fields #[vl, vu, vs] } } := I4.kept (t' := s4.toks) fun b ob q => Heap.get?_push_of_some _ q
  obtain ⟨its, r, ht, hz⟩ := I5.list hx
  have hlen := r.length
  show wpAny (model X.prog X.w) X.A (subscriptTail e (.Slice lo hi (some sx) p2) (.ref a) (.ref s4.heap.objs.size)) (EP X pins σ Q) X.xe { s4 with heap := s4.heap.push { cls := .type "slice", data := .fields #[vl, vu, vs] } }
  refine tail_any (ops := [.ref a, .ref s4.heap.objs.size]) ht.isList.typeIs (PySem.slot_list_getitem.lookup) ?_ (by with_unfolding_all rfl)
  refine wpAny_getItem_list_slice ht.isList (Heap.IsSliceOf.new _ vl vu vs) pl pu ps ho ?_ (by rw [List.size_toArray]; omega)
  rw [slicePick_sel]
  refine ⟨.ref _, _, I5.laid (t' := s4.toks) (o := .lst (pickS xs l u o)) (fun b ob q => Heap.get?_push_of_some _ q) (Nat.le_refl _) ?_, rfl, q _ (I5.hok.fresh (Nat.le_refl _))⟩
  refine ⟨Nat.le_trans (pickS_len _ _ _ _) hz, _, 0, ?_, Heap.get?_push_size _ rfl⟩
  unfold pickS
  rw [← hlen]
  exact sel_vals r
end
def sl3G (o : Option O) (lo hi sx : Option Int) (st : Store) : R Mv := match o with
  | some (.lst xs) => if sx = some 0 then .bad else .ok (.l (pickS xs lo hi sx)) st
  | _ => .bad
def sl3F (d : D) (lo hi sx : Option Int) (st : Store) : R Mv := match d with
  | .loc l => sl3G (st[l]?) lo hi sx st
  | _ => .bad
def mSl3 (f : Ef) (fl fh fs : Of) : Mf := fun env st => (f env st).bind fun d s1 => (fl env s1).bind fun lo s2 => (fh env s2).bind fun hi s3 => (fs env s3).bind fun sx s4 => sl3F d lo hi sx s4
section
variable {g : Gh} {X : Cx} {e sx : Expr} {lo hi : Option Expr} {p2 pos : Pos} {f : Ef} {fl fh fs : Of}
theorem m_slice3 (x : XG g X) (he : EV g X e f) (hl : PO X lo (tO g fl)) (hu : PO X hi (tO g fh)) (hs : PO X (some sx) (tO g fs)) : MV g X (.Subscript e (.Slice lo hi (some sx) p2) pos) (mSl3 f fl fh fs) :=
  pe_imp (pe_slice3 he hl hu hs) fun σ H Q ⟨ρ, st, env, v, st', Rl, E, h, k⟩ => by
    obtain ⟨d, s1, e1, h⟩ := R.bind_eq h
    obtain ⟨lo, s2, e2, h⟩ := R.bind_eq h
    obtain ⟨hi, s3, e3, h⟩ := R.bind_eq h
    obtain ⟨so, s4, e4, h⟩ := R.bind_eq h
    refine ⟨ρ, st, env, d, s1, Rl, E, e1, fun ρ1 H1 y P1 r1 => ?_⟩
    refine ⟨ρ1, s1, env, lo, s2, P1.rel, P1.envr Rl E, e2, fun ρ2 H2 P2 => ?_⟩
    refine ⟨ρ2, s2, env, hi, s3, P2.rel, (P1.trans P2).envr Rl E, e3, fun ρ3 H3 P3 => ?_⟩
    refine ⟨ρ3, s3, env, so, s4, P3.rel, ((P1.trans P2).trans P3).envr Rl E, e4, fun ρ4 H4 P4 => ?_⟩
    have P14 := ((P1.trans P2).trans P3).trans P4
    have r4 := P4.vr P3.rel (P3.vr P2.rel (P2.vr P1.rel r1))
    rw [x.K]
    cases d with
    | loc l =>
      simp only [sl3F] at h
      cases q : s4[l]? with
      | none => rw [q] at h; cases h
      | some oo =>
        rw [q] at h
        cases oo with
        | lst xs =>
          have h : (if so = some 0 then (R.bad : R Mv) else .ok (.l (pickS xs lo hi so)) s4) = .ok v st' := h
          by_cases h0 : so = some 0
          · rw [if_pos h0] at h; cases h
          rw [if_neg h0] at h
          cases h
          unfold VR at r4
          obtain ⟨hl', rfl⟩ := r4
          obtain ⟨ys, q1, rs⟩ := P4.rel.obj l _ q
          refine ⟨h0, ρ4 l, ys, rfl, SqL.of q1, fun p hp => ?_⟩
          have Pt := P4.rel.tup (u := .lst (pickS ys lo hi so)) hp
          refine k ρ4 _ _ (P14.trans Pt) ?_
          refine ⟨p, pickS ys lo hi so, rfl, upd_same, fun j m z => ?_, ?_, ?_⟩
          · obtain ⟨u, e5, _⟩ := P4.rel.mutSome m
            rw [z, hp] at e5
            cases e5
          · exact P14.freeB hp
          · have r5 : VRs g.K ρ4 st'.length (upd H4 p (.lst (pickS ys lo hi so))) xs ys := Pt.vrs P4.rel rs
            have e1 : pickS ys lo hi so = sel (pickIx xs.length lo hi so) ys := by
              unfold pickS
              rw [rs.length]
            have q5 := sel_vrs (pm := pickIx xs.length lo hi so) r5
            rw [← e1] at q5
            exact q5
        | _ => cases h
    | _ => cases h
end
/-! ### isinstance of an own class -/
def bltT : List String := ["NoneType", "bool", "int", "str", "tuple", "list", "dict"]
structure InsOk (K : PySem.W.Frag) (C : Addr) : Prop where
  ha : PySem.W.findIn K (.ref C) "__class__" = some (some (.builtin "object.__class__"))
  hn : PySem.W.specialIn K (.builtin "object.__class__") "__get__" = some (some (.builtin "getset_descriptor.__get__"))
  ht : PySem.W.takesIn K (.builtin "object.__class__") = some true
  hm : PySem.W.mroIn K C (.type "object") = some true
structure IsO (g : Gh) (C : Addr) (sub : Nat → Bool) : Prop where
  isc : PySem.W.isClsIn g.K C = true
  ty : PySem.W.typeIn g.K (.ref C) = some (.type "type")
  self : PySem.W.subIn g.K (.ref C) (.ref C) = some true
  blt : ∀ T ∈ bltT, PySem.W.subIn g.K (.type T) (.ref C) = some false
  ins : ∀ c, c < g.nc → InsOk g.K (g.cl c)
  own : ∀ c, c < g.nc → PySem.W.subIn g.K (.ref (g.cl c)) (.ref C) = some (sub c)
theorem IsO.kit {g : Gh} {C : Addr} {sub : Nat → Bool} (h : IsO g C sub) {t : Value} {b : Bool} (hs : PySem.W.subIn g.K t (.ref C) = some b) : PySem.W.kitOne g.K t (.ref C) = some b := by
  unfold PySem.W.kitOne
  split
  · rename_i e
    have e := eq_of_beq e
    subst e
    rw [h.self] at hs
    exact hs
  · unfold PySem.W.kitCls
    have c1 : ((PySem.W.clsIn g.K C).isSome && PySem.W.typeIn g.K (.ref C) == some (.type "type")) = true := by
      rw [h.ty]
      have : (PySem.W.clsIn g.K C).isSome = true := h.isc
      rw [this]
      rfl
    show (if ((PySem.W.clsIn g.K C).isSome && PySem.W.typeIn g.K (.ref C) == some (.type "type")) = true then PySem.W.subIn g.K t (.ref C) else none) = some b
    rw [if_pos c1]
    exact hs
/-- a value's type: a built-in one by its name, an own one by its number -/
def tyO (st : Store) (d : D) : Option (String ⊕ Nat) := match d with
  | .loc l => match st[l]? with
    | some (.lst _) => some (.inl "list")
    | some (.ro _) => some (.inl "list")
    | some (.dic _) => some (.inl "dict")
    | some (.ins c _) => some (.inr c)
    | _ => none
  | .non => some (.inl "NoneType")
  | .bl _ => some (.inl "bool")
  | .int _ => some (.inl "int")
  | .str _ => some (.inl "str")
  | .tup _ => some (.inl "tuple")
section
variable {g : Gh} {X : Cx} {e a b : Expr} {p p2 pos : Pos} {f fa fb : Ef} {sub : Nat → Bool} {C : Addr}
def tyV' (g : Gh) : String ⊕ Nat → Value
  | .inl T => .type T
  | .inr c => .ref (g.cl c)
theorem tyO_ok (h0 : IsO g C sub) (hcl : ∀ c, c < g.nc → Cls g.K (g.cl c)) {ρ : Nat → Addr} {st : Store} {H : Hp} {d : D} {v : V} {n : String ⊕ Nat} (Rl : Rel g ρ st H) (r : VR g.K ρ st.length H d v) (h : tyO st d = some n) :
    TyX g.K H v (tyV' g n) ∧ ((∃ T ∈ bltT, n = .inl T) ∨ ∃ c, c < g.nc ∧ n = .inr c) := by
  cases d with
  | non => simp only [VR] at r; subst r; cases h; exact ⟨.base .non, .inl ⟨_, by decide, rfl⟩⟩
  | bl b => simp only [VR] at r; subst r; cases h; exact ⟨.base (.bl b), .inl ⟨_, by decide, rfl⟩⟩
  | int b => simp only [VR] at r; subst r; cases h; exact ⟨.base (.int b), .inl ⟨_, by decide, rfl⟩⟩
  | str b => simp only [VR] at r; subst r; cases h; exact ⟨.base (.str b), .inl ⟨_, by decide, rfl⟩⟩
  | tup xs =>
    have r' := r
    unfold VR at r
    obtain ⟨p, ys, rfl, q, _⟩ := r
    cases h
    refine ⟨?_, .inl ⟨_, by decide, rfl⟩⟩
    rcases q with (q | ⟨o, q⟩) | ⟨o, its, n, q, hc, _⟩
    · exact .base (.tup q)
    · exact .fTuple q
    · exact .kTuple q hc
  | loc l =>
    unfold VR at r
    obtain ⟨hl, rfl⟩ := r
    simp only [tyO] at h
    split at h
    · rename_i xs q
      cases h
      obtain ⟨ys, q1, _⟩ := Rl.obj l _ q
      exact ⟨.base (.lst q1), .inl ⟨_, by decide, rfl⟩⟩
    · rename_i ns q
      cases h
      refine ⟨?_, .inl ⟨_, by decide, rfl⟩⟩
      rcases Rl.obj l _ q with ⟨o, q⟩ | ⟨o, its, n, q, hc, _⟩
      · exact .base (.frz q)
      · exact .kList q hc
    · rename_i kvs q
      cases h
      obtain ⟨ys, q1, _⟩ := Rl.obj l _ q
      exact ⟨.base (.dK q1), .inl ⟨_, by decide, rfl⟩⟩
    · rename_i c fs q
      cases h
      obtain ⟨hc, dx, gs, q1, _⟩ := Rl.obj l _ q
      have i := h0.ins c hc
      exact ⟨.base (.ins q1 (hcl c hc) i.ha i.hn i.ht i.hm), .inr ⟨c, hc, rfl⟩⟩
    · cases h
def isOF (sub : Nat → Bool) (d : D) (st : Store) : R D := match tyO st d with
  | some (.inl _) => .ok (.bl false) st
  | some (.inr c) => .ok (.bl (sub c)) st
  | none => .bad
def eIsO (sub : Nat → Bool) (f : Ef) : Ef := fun env st => (f env st).bind (isOF sub)
theorem e_isO (x : XG g X) {n : Str} (h0 : IsO g C sub) (h : EV g X e f) (hm : X.mg n = some (.ref C)) (hg : Gl X "isinstance" := by rfl) (hg2 : Gl X n := by rfl)
    (hs : starEach [e, .Name n p2] X.env = (false, eval e X.env) :: starEach [.Name n p2] X.env := by rfl) (hs2 : starEach [.Name n p2] X.env = (false, eval (.Name n p2) X.env) :: starEach [] X.env := by rfl) (hp : (backTo pos (starEach [.Name n p2] X.env)).any (·.1) = false := by rfl)
    (hd : (n == ("__debug__" : Str)) = false := by decide) :
    EV g X (.Call (.Name "isinstance" p) [e, .Name n p2] [] pos) (eIsO sub f) :=
  pe_imp (pe_callB call_isi hg (x.mg "isinstance") (by decide +kernel) (pa_cons h (pa_cons (pe_glob (v := .ref C) hg2 hm rfl hd) pa_nil hs2) hs) (by decide) (by decide) hs hp) fun σ H Q ⟨ρ, st, env, v, st', Rl, E, h, k⟩ => by
    obtain ⟨d, s1, e1, h⟩ := R.bind_eq h
    refine ⟨ρ, st, env, d, s1, Rl, E, e1, fun ρ1 H1 y P1 r1 => ?_⟩
    unfold isOF at h
    rw [x.K]
    cases q : tyO s1 d with
    | none => rw [q] at h; cases h
    | some n =>
      obtain ⟨ty, hn⟩ := tyO_ok h0 x.cls P1.rel r1 q
      rcases hn with ⟨T, mT, rfl⟩ | ⟨c, hc, rfl⟩
      · rw [q] at h
        cases h
        exact ⟨y, .ref C, _, _, false, rfl, .own C, ty, h0.kit (h0.blt T mT), k ρ1 H1 _ P1 (by simp [VR])⟩
      · rw [q] at h
        cases h
        exact ⟨y, .ref C, _, _, sub c, rfl, .own C, ty, h0.kit (h0.own c hc), k ρ1 H1 _ P1 (by simp [VR])⟩
/-! ### == by an own __eq__ -/
variable {k : Nat} {fa' : Addr} {fd : FuncData} {ps : List Str} {sem : SemF}
def rEqO (g : Gh) (C : Addr) (sem : SemF) : R2 := fun x y H Q => ∃ a dx fs t, x = .ref a ∧ H a = some (.ins C dx fs) ∧ TyX g.K H y t ∧ PySem.W.notFirst g.K C t = true ∧ SpD g sem [x, y] H (fun z H' => (∃ b, z = .bl b) ∧ Q z H')
theorem op_eqO (x : XG g X) (F : FnG g X.prog X.w X.K X.mg X.base k fa' fd ps sem) (hr : Room k X.A) (hb : Binds X.K fd ps []) (hs : PySem.W.findIn g.K (.ref C) "__eq__" = some (some (.ref fa'))) (hf : PySem.W.isFn g.K (.ref fa') = true) :
    OpR X (compareOp .Eq) (rEqO g C sem) := by
  intro pins s σ H x' y v u Q I rx ry h
  obtain ⟨a, dx, fs, t, rfl, ha, ty, hn, hsp⟩ := h
  rw [← x.K] at ty hn hs hf
  cases rx
  obtain ⟨P, Z, p, _⟩ := kit_of I ry ty
  obtain ⟨mA, J, _⟩ := ins_get I.hok ha
  obtain ⟨od, J, _⟩ := J.look
  obtain ⟨m, hF⟩ := I.fr
  show wpAny (model X.prog X.w) X.A (richCompare .Eq (.ref a) u) (EP X pins σ Q) X.xe s
  refine PySem.W.cmp_K (op := .Eq) (tb := t) (by have := x.hu; omega) hF I.ok.mod.kin J (Z.ty _ _ I.kIn p) hn hs hf ?_
  refine wpAny_mono (run_g (us := [.ref a, u]) (vs := [.ref a, y]) x F hr hb I (.cons rfl (.cons ry .nil)) hsp) (fun r s' q => ?_) fun _ _ e => e
  obtain ⟨z, H', I', rz, ⟨b, eb⟩, q⟩ := q
  subst eb
  cases rz
  exact ⟨.bl b, H', I', rfl, q⟩
def okT (sub : Nat → Bool) (c : Nat) : Option (String ⊕ Nat) → Bool
  | some (.inl _) => true
  | some (.inr c') => decide (c' = c) || !sub c'
  | none => false
def blR (r : R D) : R D := match r with | .ok (.bl b) s => .ok (.bl b) s | _ => .bad
def eqOF (c : Nat) (sub : Nat → Bool) (sem : SemF) : F2 := fun x y s => if isC c x s = true ∧ okT sub c (tyO s y) = true then blR (sem [x, y] s) else .bad
theorem o_eqO (x : XG g X) (c : Nat) (hc : c < g.nc) (h0 : IsO g (g.cl c) sub) : Op2 g (rEqO g (g.cl c) sem) (eqOF c sub sem) := fun ρ st H d1 d2 x1 y1 v st' Q Rl r1 r2 q k => by
  unfold eqOF at q
  split at q
  · rename_i hz
    obtain ⟨l, dx, gs, fs, rfl, rfl, e3, _, rf⟩ := isC_ok Rl r1 hz.1
    have hz2 := hz.2
    cases qt : tyO st d2 with
    | none => rw [qt] at hz2; cases hz2
    | some n =>
      obtain ⟨ty, hn⟩ := tyO_ok h0 x.cls Rl r2 qt
      refine ⟨ρ l, dx, gs, _, rfl, e3, ty, ?_, ?_⟩
      · unfold PySem.W.notFirst
        rcases hn with ⟨T, mT, rfl⟩ | ⟨c', hc', rfl⟩
        · show (_ || PySem.W.subIn g.K (.type T) (.ref (g.cl c)) == some false) = true
          rw [h0.blt T mT]
          simp
        · rw [qt] at hz2
          have hz2 : (decide (c' = c) || !sub c') = true := hz2
          rw [Bool.or_eq_true] at hz2
          rcases hz2 with e | e
          · have e := of_decide_eq_true e
            subst e
            show ((Value.ref (g.cl c') == Value.ref (g.cl c')) || _) = true
            rw [beq_self_eq_true]
            rfl
          · show (_ || PySem.W.subIn g.K (.ref (g.cl c')) (.ref (g.cl c)) == some false) = true
            rw [h0.own c' hc']
            have : sub c' = false := by simpa using e
            rw [this]
            simp
      · cases es : sem [.loc l, d2] st with
        | bad => rw [es] at q; cases q
        | ok w s' =>
          rw [es] at q
          cases w with
          | bl b =>
            cases q
            refine ⟨ρ, st, [.loc l, d2], .bl b, _, Rl, .cons r1 (.cons r2 .nil), es, fun ρ' H' z P rz => ?_⟩
            have ez : z = .bl b := by simpa [VR] using rz
            exact ⟨⟨b, ez⟩, k ρ' H' z P rz⟩
          | _ => cases q
  · cases q
theorem e_eqO (x : XG g X) (c : Nat) (hc : c < g.nc) (h0 : IsO g (g.cl c) sub) (F : FnG g X.prog X.w X.K X.mg X.base k fa' fd ps sem) (hr : Room k X.A) (hb : Binds X.K fd ps []) (hs : PySem.W.findIn g.K (.ref (g.cl c)) "__eq__" = some (some (.ref fa'))) (hf : PySem.W.isFn g.K (.ref fa') = true)
    (ha : EV g X a fa) (hb' : EV g X b fb) : EV g X (.Compare a [.Eq] [b] pos) (eBin (eqOF c sub sem) fa fb) := e_cmp (op_eqO x F hr hb hs hf) (o_eqO x c hc h0) ha hb' (nomark _)
theorem t_eqO (x : XG g X) (c : Nat) (hc : c < g.nc) (h0 : IsO g (g.cl c) sub) (F : FnG g X.prog X.w X.K X.mg X.base k fa' fd ps sem) (hr : Room k X.A) (hb : Binds X.K fd ps []) (hs : PySem.W.findIn g.K (.ref (g.cl c)) "__eq__" = some (some (.ref fa'))) (hf : PySem.W.isFn g.K (.ref fa') = true)
    (ha : EV g X a fa) (hb' : EV g X b fb) : TV g X (.Compare a [.Eq] [b] pos) (tfB (eBin (eqOF c sub sem) fa fb)) := t_cmp (op_eqO x F hr hb hs hf) (o_eqO x c hc h0) ha hb' (nomark _)
end
/-! ### reckoning -/
section
variable {env : EEnv} {st s : Store} {f : Ef} {fl fh fs : Of} {d x y : D} {l : Nat} {lo hi sx : Option Int} {xs : List D} {sub : Nat → Bool} {c c' : Nat} {sem : SemF} {b : Bool} {n : String ⊕ Nat} {T : String} {ffs : List (Nat × D)} {kvs : List (Key × D)}
def kS4 (d : D) (lo hi sx : Option Int) (s : Store) : R Mv := sl3F d lo hi sx s
def kS3 (fs : Of) (env : EEnv) (d : D) (lo hi : Option Int) (s : Store) : R Mv := (fs env s).bind (kS4 d lo hi)
def kS2 (fh fs : Of) (env : EEnv) (d : D) (lo : Option Int) (s : Store) : R Mv := (fh env s).bind (kS3 fs env d lo)
def kS1 (fl fh fs : Of) (env : EEnv) (d : D) (s : Store) : R Mv := (fl env s).bind (kS2 fh fs env d)
@[simp] theorem ev_mSl3 : mSl3 f fl fh fs env st = (f env st).bind (kS1 fl fh fs env) := rfl
@[simp] theorem ev_kS1 : kS1 fl fh fs env d s = (fl env s).bind (kS2 fh fs env d) := rfl
@[simp] theorem ev_kS2 : kS2 fh fs env d lo s = (fh env s).bind (kS3 fs env d lo) := rfl
@[simp] theorem ev_kS3 : kS3 fs env d lo hi s = (fs env s).bind (kS4 d lo hi) := rfl
@[simp] theorem ev_kS4 : kS4 (.loc l) lo hi sx s = sl3G (s[l]?) lo hi sx s := rfl
@[simp] theorem ev_sl3G : sl3G (some (.lst xs)) lo hi sx s = if sx = some 0 then .bad else .ok (.l (pickS xs lo hi sx)) s := rfl
def kIsO (sub : Nat → Bool) (o : Option (String ⊕ Nat)) (s : Store) : R D := match o with
  | some (.inl _) => .ok (.bl false) s
  | some (.inr c) => .ok (.bl (sub c)) s
  | none => .bad
@[simp] theorem ev_eIsO : eIsO sub f env st = (f env st).bind (isOF sub) := rfl
@[simp] theorem ev_isOF : isOF sub d s = kIsO sub (tyO s d) s := rfl
@[simp] theorem ev_kIsOl : kIsO sub (some (.inl T)) s = .ok (.bl false) s := rfl
@[simp] theorem ev_kIsOr : kIsO sub (some (.inr c)) s = .ok (.bl (sub c)) s := rfl
def tyG (o : Option O) : Option (String ⊕ Nat) := match o with
  | some (.lst _) => some (.inl "list")
  | some (.ro _) => some (.inl "list")
  | some (.dic _) => some (.inl "dict")
  | some (.ins c _) => some (.inr c)
  | _ => none
@[simp] theorem ev_tyL : tyO s (.loc l) = tyG (s[l]?) := rfl
@[simp] theorem ev_tyGi : tyG (some (.ins c ffs)) = some (.inr c) := rfl
@[simp] theorem ev_tyGd : tyG (some (.dic kvs)) = some (.inl "dict") := rfl
@[simp] theorem ev_tyGl : tyG (some (.lst xs)) = some (.inl "list") := rfl
@[simp] theorem ev_tyN : tyO s .non = some (.inl "NoneType") := rfl
@[simp] theorem ev_tyB : tyO s (.bl b) = some (.inl "bool") := rfl
@[simp] theorem ev_tyI {i : Int} : tyO s (.int i) = some (.inl "int") := rfl
@[simp] theorem ev_tyS {z : Str} : tyO s (.str z) = some (.inl "str") := rfl
@[simp] theorem ev_tyT : tyO s (.tup xs) = some (.inl "tuple") := rfl
@[simp] theorem ev_eqO : eqOF c sub sem x y s = if isC c x s = true ∧ okT sub c (tyO s y) = true then blR (sem [x, y] s) else .bad := rfl
@[simp] theorem ev_okTl : okT sub c (some (.inl T)) = true := rfl
@[simp] theorem ev_okTr : okT sub c (some (.inr c')) = (decide (c' = c) || !sub c') := rfl
@[simp] theorem ev_blR : blR (.ok (.bl b) s) = .ok (.bl b) s := rfl
end
end Ev

/-! Ev15: x in a list of data of any depth; len(set(texts)), all alike. -/
namespace Ev
open PySem L2
open PyProof.Rows hiding St
section
variable {g : Gh} {X : Cx} {e a b : Expr} {pos : Pos} {f fa fb : Ef}
/-- x in y, y a list of data -/
def inDF (neg : Bool) : F2 := fun x y st => match pd st x, pd st y with
  | some d, some (.list ds) => if SeqAt.shaped d = true ∧ SeqAt.shaped (.list ds) = true then .ok (.bl (if neg then !ds.any fun z => PyData.eqv z d else ds.any fun z => PyData.eqv z d)) st else .bad
  | _, _ => .bad
theorem o_inD (x : XG g X) : Op2 g (rInD X.K) (inDF false) := fun ρ st H d1 d2 x1 y1 v st' Q Rl r1 r2 q k => by
  unfold inDF at q
  split at q
  · rename_i d ds e1 e2
    split at q
    · rename_i hz
      cases q
      rw [x.K]
      exact ⟨d, ds, pd_dp Rl r1 e1, pd_dp Rl r2 e2, hz.1, hz.2, k ρ H _ (Post.refl Rl) (by simp [VR])⟩
    · cases q
  · cases q
theorem o_notInD (x : XG g X) : Op2 g (rNotInD X.K) (inDF true) := fun ρ st H d1 d2 x1 y1 v st' Q Rl r1 r2 q k => by
  unfold inDF at q
  split at q
  · rename_i d ds e1 e2
    split at q
    · rename_i hz
      cases q
      rw [x.K]
      exact ⟨d, ds, pd_dp Rl r1 e1, pd_dp Rl r2 e2, hz.1, hz.2, k ρ H _ (Post.refl Rl) (by simp [VR])⟩
    · cases q
  · cases q
theorem e_inD (x : XG g X) (ha : EV g X a fa) (hb : EV g X b fb) (hm : behindInMarks .In b = false := by rfl) : EV g X (.Compare a [.In] [b] pos) (eBin (inDF false) fa fb) := e_cmp (op_inD (by have := x.hu; omega)) (o_inD x) ha hb hm
theorem e_notInD (x : XG g X) (ha : EV g X a fa) (hb : EV g X b fb) (hm : behindInMarks .NotIn b = false := by rfl) : EV g X (.Compare a [.NotIn] [b] pos) (eBin (inDF true) fa fb) := e_cmp (op_notInD (by have := x.hu; omega)) (o_notInD x) ha hb hm
theorem t_inD (x : XG g X) (ha : EV g X a fa) (hb : EV g X b fb) (hm : behindInMarks .In b = false := by rfl) : TV g X (.Compare a [.In] [b] pos) (tfB (eBin (inDF false) fa fb)) := t_cmp (op_inD (by have := x.hu; omega)) (o_inD x) ha hb hm
theorem t_notInD (x : XG g X) (ha : EV g X a fa) (hb : EV g X b fb) (hm : behindInMarks .NotIn b = false := by rfl) : TV g X (.Compare a [.NotIn] [b] pos) (tfB (eBin (inDF true) fa fb)) := t_cmp (op_notInD (by have := x.hu; omega)) (o_notInD x) ha hb hm
end

/-! ### a set of one text, met again and again -/
section
variable {prog : Program} {w : World} {A : Around} {E : Value → Shared → Prop} {s : Shared}
/-- how the set stands behind i of the texts -/
abbrev OneSet (prog : Program) (w : World) (h : Heap) (S : Addr) (z : Str) (i : Nat) : Prop := h.SetOf (PySem.strKind prog w) S (fun k => decide (0 < i) && decide (k = z)) (min i 1)
theorem one_loop {R : Result → Shared → Prop} {I : Addr} {fp wr : List Addr} {G : Array GenState → Array GenState → Prop} {n : Nat} {P : Nat → Value → Prop} {St : Nat → Shared → Prop} (W : WalksS prog w A.in1 I fp wr G n P St) (S : Addr) (hSf : S ∉ fp) (z : Str) (hval : ∀ i v, P i v → ∃ t, v = .str z t) :
    ∀ (k i : Nat) (s : Shared), n - i = k → i ≤ n → St i s → OneSet prog w s.heap S z i → (∀ s', Moved (S :: wr) G s s' → OneSet prog w s'.heap S z n → R (.ok (.ret .none)) s') →
      codeAny (model prog w) A (.builtin "set.update.loop" ⟨[.ref S, .ref I], []⟩) R s := by
  have out : S ∉ wr := fun h => hSf (W.sub _ h)
  have more : ∀ b ∈ wr, b ∈ S :: wr := fun b hb => List.mem_cons_of_mem _ hb
  have stay : ∀ {s s' : Shared} {i : Nat}, Moved wr G s s' → OneSet prog w s.heap S z i → OneSet prog w s'.heap S z i := fun hm hS => by
    obtain ⟨o, es, ep, tb, ho, rest⟩ := hS
    exact ⟨o, es, ep, tb, hm.heap S _ out ho, rest⟩
  intro k
  induction k with
  | zero =>
    intro i s hk hi hst hS hR
    obtain rfl : i = n := by omega
    refine codeAny_builtin PyProof.Rows.F.entry_set_update_loop ?_
    rw [Around.under_plainId PyProof.Rows.F.plain_set_update_loop _]
    show wpAny _ A.in1 (pyNext (.ref I) >>= _) _ _ s
    refine wpAny_bind (W.done s _ _ hst fun s' hm => ?_)
    show wpAny _ A.in1 (ret Value.none) _ _ s'
    exact wpAny_pure (hR s' (hm.mono more) (stay hm hS))
  | succ k ih =>
    intro i s hk hi hst hS hR
    have hlt : i < n := by omega
    refine codeAny_builtin PyProof.Rows.F.entry_set_update_loop ?_
    rw [Around.under_plainId PyProof.Rows.F.plain_set_update_loop _]
    show wpAny _ A.in1 (pyNext (.ref I) >>= _) _ _ s
    refine wpAny_bind (W.item i s _ _ hlt hst fun v s' hP hst' hm => ?_)
    obtain ⟨t, rfl⟩ := hval i v hP
    have hS' := stay hm hS
    show wpAny _ A.in1 (holding [Value.str z t] (setAdd S (.str z t)) >>= _) _ _ s'
    refine wpAny_bind (wpAny_holding ?_)
    unfold setAdd
    refine wpAny_holding ?_
    refine wpAny_bind ((PySem.strKind prog w).pyHash (k := z) (strKind_is _ _ _ _) ?_)
    have room : min i 1 + 1 < scanBound := by unfold scanBound; omega
    refine wpAny_setAddHashed_of (knd := PySem.strKind prog w) (s := { s' with toks := s'.toks + 1 }) (strKind_is _ _ _ _) rfl hS' room fun h' hsb hS2 => ?_
    have next : OneSet prog w h' S z (i + 1) := by
      refine SetOf_congr hS2 (fun k' => ?_) ?_
      · by_cases e : k' = z <;> simp [e]
      · by_cases e : 0 < i
        · simp [e]; omega
        · simp [e]; omega
    refine wpAny_pure ⟨plainId_quiet PyProof.Rows.F.plain_set_update_loop _, ih (i + 1) _ (by omega) hlt (W.frame _ s' _ _ hst' (Nat.le_succ _) fun b hb o e => ?_) next fun s'' hm'' hS'' => ?_⟩
    · rw [hsb.2 b (fun h : b = S => hSf (h ▸ hb))]; exact e
    · refine hR s'' (Moved.trans W.gtrans ((hm.mono more).then_heap (Nat.le_succ _) fun b o hb e => ?_) hm'') hS''
      rw [hsb.2 b (fun h : b = S => hb (h ▸ List.mem_cons_self))]; exact e
set_option maxHeartbeats 3200000 in
/-- set(l), l a list of one text, met again and again -/
theorem call_oneSet {l : Addr} {items : Array Value} {z : Str} {Q : Value → Shared → Prop} (hh : A.handled = none) (hl : s.heap.IsList l items) (hi : ∀ (i : Nat) (v : Value), items[i]? = some v → ∃ t, v = .str z t)
    (h : ∀ (h' : Heap) (tk : Nat), OneSet prog w h' s.heap.objs.size z items.size → (∀ b o, b < s.heap.objs.size → s.heap.get? b = some o → h'.get? b = some o) → Q (.ref s.heap.objs.size) { s with heap := h', toks := tk }) :
    wpAny (model prog w) A (call (.type "set") [.ref l]) Q E s := by
  obtain ⟨c, tl, hmro⟩ := PySem.F.called_set.mro
  have hmade := PySem.F.called_set.made
  have hsub := PySem.F.called_set.sub
  refine wpAny_call (codeAny_of_tree ?_)
  show wpAny _ _ (callAny (.type "set") _) _ _ _
  refine wpAny_pure ⟨Code.quiet_builtin _ (by decide +kernel), codeAny_builtin PySem.F.entry_type_call ?_⟩
  rw [Around.under_plain (weight_type_call_type "set" [.ref l] []) rfl]
  have h1 := PySem.F.called_set.notType
  have h2 := PySem.F.called_set.canCreate
  have hct := PySem.F.typeCall_set_1 (.ref l)
  repeat (any_goals (first | assumption | wp_step))
  refine codeAny_mono (code_set_new_1 (.ref l) (E := E) (Q₁ := fun obj s₁ => ∃ led : Bool, obj = .ref s.heap.objs.size ∧ s₁ = { s with heap := s.heap.push { cls := .type "set", dict := none, data := .set #[] 0 (.fresh 0 0 led) } }) fun led => ⟨led, rfl, rfl⟩) fun r s₁ hr => ?_
  cases r with
  | error e => exact hr
  | ok fl =>
    cases fl with
    | ret obj =>
      obtain ⟨led, rfl, rfl⟩ := hr
      generalize hN : s.heap.push { cls := .type "set", dict := none, data := .set #[] 0 (.fresh 0 0 led) } = N
      have sz : N.objs.size = s.heap.objs.size + 1 := by rw [← hN, Heap.size_push]
      have hS : N.get? s.heap.objs.size = some { cls := .type "set", dict := none, data := .set #[] 0 (.fresh 0 0 led) } := by rw [← hN]; exact Heap.get?_push_size _ rfl
      have kp : ∀ b o, s.heap.get? b = some o → N.get? b = some o := fun b o e => by rw [← hN]; exact Heap.get?_push_of_some _ e
      have hT : Shared.TypeIs { s with heap := N } (.ref s.heap.objs.size) "set" := ⟨_, hS, rfl⟩
      have hli := PySem.F.called_set.init.lookup
      have hbi := PySem.F.called_set.init.bind (.ref s.heap.objs.size)
      repeat (any_goals (first | assumption | wp_step))
      refine codeAny_mono (codeAny_call_builtin (R := wants (fun r s₂ => r = .none ∧ ∃ h' tk, s₂ = { s with heap := h', toks := tk } ∧ OneSet prog w h' s.heap.objs.size z items.size ∧ (∀ b o, b < s.heap.objs.size → s.heap.get? b = some o → h'.get? b = some o)) E)
        PySem.F.called_set.init.plain PySem.F.entry_set_init (check_set_init_1 hT ?_)) fun r₂ s₂ hr₂ => ?_
      · obtain ⟨⟨ocls, odict, odata, oslots⟩, hol, hcl, nl, hdl⟩ := hl
        simp only at hcl hdl
        subst hcl; subst hdl
        have hol' := kp _ _ hol
        have hsls := PySem.F.sub_list_set
        have hslf := PySem.F.sub_list_frozenset
        have hne : (Value.type "list" == Value.type "dict") = false := by decide
        have hl1 : N.IsList l items := ⟨_, hol', rfl, nl, rfl⟩
        unfold Builtin.«set.__init__» noKeywords Builtin.Frozenset.updateFrom
        generalize hPI : pyIter = PI
        wp_walk
        subst hPI
        refine wpAny_pyIter_list hl1 ?_
        refine wpAny_bind (wpAny_runValue ?_)
        have hlS : l < s.heap.objs.size := Heap.lt_size hol
        have hh3 : A.in1.in1.in1.handled = none := by simp [hh]
        have hneI : l ≠ N.objs.size := by rw [sz]; exact Nat.ne_of_lt (Nat.lt_succ_of_lt hlS)
        have hSf : s.heap.objs.size ∉ [N.objs.size, l] := by
          rw [sz]
          simp only [List.mem_cons, List.not_mem_nil, or_false, not_or]
          exact ⟨Nat.ne_of_lt (Nat.lt_succ_self _), Nat.ne_of_gt hlS⟩
        refine one_loop ((Walks.list hh3 _ l hneI items).toS) s.heap.objs.size hSf z (fun i v hv => hi i v hv) (items.size - 0) 0 _ (by omega) (Nat.zero_le _) ⟨⟨_, Heap.get?_push_size _ rfl, rfl, rfl⟩, (hl1.push _)⟩ ?hS0 ?hR
        case hS0 =>
          have hget : (N.push { cls := .type "list_iterator", data := .fields #[.ref l, .int 0 0] }).get? s.heap.objs.size = some { cls := .type "set", dict := none, data := .set #[] 0 (.fresh 0 0 led) } := Heap.get?_push_of_some _ hS
          exact SetOf_congr ((setObjOf_fresh (knd := PySem.strKind prog w) led).setOf hget (by unfold scanBound; omega)) (fun _ => rfl) rfl
        case hR =>
          intro s' hm hS'
          obtain ⟨h', g', d', tk', os'⟩ := s'
          have eg : g' = s.gens := hm.gens
          have ed : d' = s.drawn := hm.drawn
          have eo : os' = s.os := hm.os
          subst eg; subst ed; subst eo
          show wpAny _ _ _ _ _ _
          refine wpAny_pure ?_
          show wpAny _ _ (ret Value.none) _ _ _
          refine wpAny_pure ⟨rfl, h', tk', rfl, hS', fun b o hb e => ?_⟩
          refine hm.heap b o ?_ (Heap.get?_push_of_some _ (kp _ _ e))
          rw [sz]
          simp only [List.mem_cons, List.not_mem_nil, or_false, not_or]
          exact ⟨Nat.ne_of_lt hb, Nat.ne_of_lt (Nat.lt_succ_of_lt hb)⟩
      · cases r₂ with
        | error e => exact hr₂
        | ok fl₂ =>
          cases fl₂ with
          | ret r =>
            obtain ⟨rfl, h', tk, rfl, hS', hk'⟩ := hr₂
            repeat (any_goals (first | assumption | wp_step))
            exact h _ _ hS' hk'
          | _ => exact hr₂.elim
    | _ => exact hr.elim
end
end Ev

/-! Ev16: len(set(texts)), all alike; how simp reckons it and x in data. -/
namespace Ev
open PySem L2
open PyProof.Rows hiding St
section
variable {g : Gh} {X : Cx} {e a b : Expr} {pos p p2 q : Pos} {f fa fb : Ef} {t : Af}
def tOneSet (K : PySem.W.Frag) (ta : TE) : TE := fun σ H Q => ta σ H fun x H1 => ∃ l z n, x = .ref l ∧ SqL K H1 l (List.replicate n (V.str z)) ∧ Q (.int (min n 1 : Nat)) H1
theorem pe_oneSet {ta : TE} (hc : X.calm = true) (hg : Gl X "len") (hm : X.mg "len" = none) (hg2 : Gl X "set") (hm2 : X.mg "set" = none) (ha : PE X a ta)
    (na : starEach [a] X.env = (false, eval a X.env) :: starEach [] X.env := by rfl) : PE X (.Call (.Name "len" p) [.Call (.Name "set" p2) [a] [] q] [] pos) (tOneSet X.K ta) := by
  refine ⟨fun pins s σ H Q I h => ?_⟩
  refine Call_ (ld_blt I hg hm PySem.boot_len ?_)
  refine callWith_builtin1 (args_cons ?_ rfl) rfl rfl
  refine Call_ (ld_blt I hg2 hm2 PyProof.Rows.boot_set ?_)
  refine callWith_type1 (args_cons (thn (ha.run pins s σ H _ I h) fun v s1 ⟨x, H1, I1, r1, q1⟩ => args_nil ?_) na) na rfl
  obtain ⟨l, z, n, rfl, hq, q1⟩ := q1
  cases r1
  obtain ⟨its, r, pl, hz⟩ := I1.list hq
  have hl : its.toArray.size = n := by rw [List.size_toArray, ← r.length, List.length_replicate]
  refine call_oneSet (z := z) (I1.ok.hd hc) pl.isList (fun i v hv => ?_) fun h' tk hS hk => ?_
  · have hv' : its[i]? = some v := by simpa using hv
    have hi := (List.getElem?_eq_some_iff.mp hv').1
    have hi' : i < n := by rw [← List.length_replicate (n := n) (a := V.str z), r.length]; exact hi
    obtain ⟨u, e, ru⟩ := r.get (i := i) (List.getElem?_replicate_of_lt hi')
    rw [hv'] at e
    cases e
    exact ru
  · rw [hl] at hS
    refine args_nil ?_
    obtain ⟨o, es, ep, tb, ho, hex, hd, _, _, _, hf, hn⟩ := hS
    have I2 : Inv X pins σ H1 { s1 with heap := h', toks := tk } := I1.kept fun b o e => hk b o (Heap.lt_size e) e
    refine call_len_set ho hex hd hf (by rw [hn]; omega) ⟨.int (min n 1 : Nat), H1, I2.tok _, ⟨_, by rw [hn]⟩, q1⟩
def lenSetQ : FQ := fun xs s => match xs with
  | [] => .ok (.int 0) s
  | .str z :: r => if r.all (fun d => D.eqb d (.str z)) = true then .ok (.int 1) s else .bad
  | _ => .bad
theorem vr_one {K : PySem.W.Frag} {ρ : Nat → Addr} {n : Nat} {H : Hp} {z : Str} : ∀ {r : List D} {vs : List V}, VRs K ρ n H r vs → r.all (fun d => D.eqb d (.str z)) = true → vs = List.replicate r.length (V.str z)
  | [], vs, h, _ => by unfold VRs at h; subst h; rfl
  | d :: r, vs, h, q => by
    unfold VRs at h
    obtain ⟨y, zs, rfl, r1, rs⟩ := h
    rw [List.all_cons, Bool.and_eq_true] at q
    have e := D.eqb_eq q.1
    subst e
    simp only [VR] at r1
    subst r1
    rw [vr_one rs q.2]
    rfl
theorem e_lenSet (x : XG g X) (h : LV g X a t) (hg : Gl X "len" := by rfl) (hg2 : Gl X "set" := by rfl) (na : starEach [a] X.env = (false, eval a X.env) :: starEach [] X.env := by rfl) : EV g X (.Call (.Name "len" p) [.Call (.Name "set" p2) [a] [] q] [] pos) (eCall lenSetQ t) :=
  pe_imp (pe_oneSet x.calm hg (x.mg "len") hg2 (x.mg "set") h na) fun σ H Q ⟨ρ, st, env, v, st', Rl, E, h, k⟩ => by
    obtain ⟨xs, s1, e1, h⟩ := R.bind_eq h
    refine ⟨ρ, st, env, xs, s1, Rl, E, e1, fun ρ1 H1 p ys P1 sq r1 => ?_⟩
    rw [x.K]
    unfold lenSetQ at h
    split at h
    · cases h
      unfold VRs at r1
      subst r1
      exact ⟨p, Str.empty, 0, rfl, sq, k ρ1 H1 _ P1 (by simp [VR])⟩
    · rename_i z r
      split at h
      · rename_i hz
        cases h
        unfold VRs at r1
        obtain ⟨y, zs, rfl, r1, rs⟩ := r1
        simp only [VR] at r1
        subst r1
        have e := vr_one rs hz
        subst e
        exact ⟨p, z, r.length + 1, rfl, sq, k ρ1 H1 _ P1 (by simp [VR])⟩
      · cases h
    · cases h
end
section
variable {s : Store} {x y : D} {neg : Bool} {z : Str} {r : List D}
@[simp] theorem ev_lenSetN : lenSetQ [] s = .ok (.int 0) s := rfl
@[simp] theorem ev_lenSetC : lenSetQ (.str z :: r) s = if r.all (fun d => D.eqb d (.str z)) = true then .ok (.int 1) s else .bad := rfl
theorem inD_ok {ds : List PyData} {d : PyData} (h1 : pdW (pdN s 3) x = some d) (h2 : pdW (pdN s 3) y = some (.list ds)) (s1 : SeqAt.shaped d = true) (s2 : SeqAt.shaped (.list ds) = true) :
    inDF neg x y s = .ok (.bl (if neg then !ds.any fun z => PyData.eqv z d else ds.any fun z => PyData.eqv z d)) s := by
  unfold inDF pd
  rw [h1, h2]
  exact if_pos ⟨s1, s2⟩
end
end Ev

/-! Ev27: texts: join, split, partition, str of an int, a walk over the signs, in, index. -/
namespace Ev
open PySem L2
open PyProof.Rows hiding St
def strsD : List D → Option (List Str)
  | [] => some []
  | .str z :: r => (strsD r).map (z :: ·)
  | _ => none
theorem strsD_vrs {K : PySem.W.Frag} {ρ : Nat → Addr} {n : Nat} {H : Hp} : ∀ {xs : List D} {vs : List V} {zs : List Str}, VRs K ρ n H xs vs → strsD xs = some zs → vs = zs.map V.str
  | [], vs, zs, r, h => by
    cases h
    unfold VRs at r
    exact r
  | x :: xs, vs, zs, r, h => by
    unfold VRs at r
    obtain ⟨y, ys, rfl, r1, rs⟩ := r
    cases x <;> simp only [strsD] at h <;> (try cases h)
    rename_i z
    rw [Option.map_eq_some_iff] at h
    obtain ⟨r', h1, rfl⟩ := h
    simp only [VR] at r1
    subst r1
    rw [strsD_vrs rs h1]
    rfl
theorem strs_vrs {K : PySem.W.Frag} {ρ : Nat → Addr} {n : Nat} {H : Hp} : ∀ {zs : List Str}, VRs K ρ n H (zs.map D.str) (zs.map V.str)
  | [] => .nil
  | z :: zs => .cons (by simp [VR]) strs_vrs
section
variable {g : Gh} {X : Cx} {o e a b : Expr} {apos pos p : Pos} {fo f fa fb : Ef} {t : Af} {tg : Expr}
def joinF (a : D) (xs : List D) (s : Store) : R D := match a, strsD xs with
  | .str z, some ys => if (ys.map (·.length)).sum + ys.length * z.length ≤ 16777216 then .ok (.str (Txt.join z ys)) s else .bad
  | _, _ => .bad
def eJoin (fo : Ef) (t : Af) : Ef := fun env st => (fo env st).bind fun a s1 => (t env s1).bind fun xs s2 => joinF a xs s2
theorem e_join (x : XG g X) (ho : EV g X o fo) (he : QV g X e t) (hs : starEach [e] X.env = [(false, eval e X.env)] := by rfl) (hbase : attributeBase o "join" X.env (eval o X.env) = eval o X.env := by rfl) (hline : (apos.endLine == pos.line) = true := by rfl) :
    EV g X (.Call (.Attribute o "join" apos) [e] [] pos) (eJoin fo t) := pe_imp (pe_join ho he hs hbase hline) fun σ H Q ⟨ρ, st, env, v, st', Rl, E, h, k⟩ => by
  obtain ⟨d, s1, e1, h⟩ := R.bind_eq h
  obtain ⟨xs, s2, e2, h⟩ := R.bind_eq h
  refine ⟨ρ, st, env, d, s1, Rl, E, e1, fun ρ1 H1 y P1 r1 => ?_⟩
  unfold joinF at h
  split at h
  · rename_i ys hz _
    simp only [VR] at r1
    subst r1
    refine ⟨⟨_, rfl⟩, ρ1, s1, env, xs, s2, P1.rel, P1.envr Rl E, e2, fun ρ2 H2 p us P2 sq r2 => ?_⟩
    split at h
    · rename_i hl
      cases h
      have ev := strsD_vrs r2 hz
      subst ev
      rw [x.K]
      exact ⟨_, p, ys, rfl, rfl, sq, hl, k ρ2 H2 _ (P1.trans P2) (by simp [VR])⟩
    · cases h
  · cases h
def splitF (a b : D) (s : Store) : R (List D) := match a, b with
  | .str z, .str y => if (y.length == 0) = false ∧ z.length + 2 ≤ sizeLine then .ok ((Txt.split z y).map D.str) s else .bad
  | _, _ => .bad
def nSplit (fo f : Ef) : Af := fun env st => (fo env st).bind fun a s1 => (f env s1).bind fun b s2 => splitF a b s2
theorem n_split (x : XG g X) (ho : EV g X o fo) (he : EV g X e f) (hs : starEach [e] X.env = [(false, eval e X.env)] := by rfl) (hbase : attributeBase o "split" X.env (eval o X.env) = eval o X.env := by rfl) (hline : (apos.endLine == pos.line) = true := by rfl) :
    NV g X (.Call (.Attribute o "split" apos) [e] [] pos) (nSplit fo f) := pe_imp (pe_split ho he hs hbase hline) fun σ H Q ⟨ρ, st, env, v, st', Rl, E, h, k⟩ => by
  obtain ⟨d, s1, e1, h⟩ := R.bind_eq h
  obtain ⟨d2, s2, e2, h⟩ := R.bind_eq h
  refine ⟨ρ, st, env, d, s1, Rl, E, e1, fun ρ1 H1 y P1 r1 => ?_⟩
  unfold splitF at h
  split at h
  · rename_i z w _
    simp only [VR] at r1
    subst r1
    refine ⟨⟨_, rfl⟩, ρ1, s1, env, _, s2, P1.rel, P1.envr Rl E, e2, fun ρ2 H2 y2 P2 r2 => ?_⟩
    simp only [VR] at r2
    subst r2
    split at h
    · rename_i hl
      cases h
      refine ⟨_, _, rfl, rfl, hl.1, hl.2, fun p hp => ?_⟩
      have P3 := P2.rel.tup (u := HO.lst ((Txt.split z w).map V.str)) hp
      refine k ρ2 _ p _ ((P1.trans P2).trans P3) upd_same (fun j m q => ?_) ((P1.trans P2).freeB hp) strs_vrs
      obtain ⟨u, e3, _⟩ := P2.rel.mutSome m
      rw [q, hp] at e3
      cases e3
    · cases h
  · cases h
def partF (a b : D) (s : Store) : R D := match a, b with
  | .str z, .str y => if (y.length == 0) = false ∧ z.length ≤ sizeLine then .ok (.tup [.str (Txt.partition z y).1, .str (Txt.partition z y).2.1, .str (Txt.partition z y).2.2]) s else .bad
  | _, _ => .bad
def ePart (fo f : Ef) : Ef := fun env st => (fo env st).bind fun a s1 => (f env s1).bind fun b s2 => partF a b s2
theorem e_part (x : XG g X) (ho : EV g X o fo) (he : EV g X e f) (hs : starEach [e] X.env = [(false, eval e X.env)] := by rfl) (hbase : attributeBase o "partition" X.env (eval o X.env) = eval o X.env := by rfl) (hline : (apos.endLine == pos.line) = true := by rfl) :
    EV g X (.Call (.Attribute o "partition" apos) [e] [] pos) (ePart fo f) := pe_imp (pe_partition ho he hs hbase hline) fun σ H Q ⟨ρ, st, env, v, st', Rl, E, h, k⟩ => by
  obtain ⟨d, s1, e1, h⟩ := R.bind_eq h
  obtain ⟨d2, s2, e2, h⟩ := R.bind_eq h
  refine ⟨ρ, st, env, d, s1, Rl, E, e1, fun ρ1 H1 y P1 r1 => ?_⟩
  unfold partF at h
  split at h
  · rename_i z w _
    simp only [VR] at r1
    subst r1
    refine ⟨⟨_, rfl⟩, ρ1, s1, env, _, s2, P1.rel, P1.envr Rl E, e2, fun ρ2 H2 y2 P2 r2 => ?_⟩
    simp only [VR] at r2
    subst r2
    split at h
    · rename_i hl
      cases h
      refine ⟨_, _, rfl, rfl, hl.1, hl.2, fun p hp => ?_⟩
      obtain ⟨P3, r3⟩ := VR.tupMade (xs := [D.str (Txt.partition z w).1, D.str (Txt.partition z w).2.1, D.str (Txt.partition z w).2.2]) P2.rel hp (strs_vrs (zs := [(Txt.partition z w).1, (Txt.partition z w).2.1, (Txt.partition z w).2.2]))
      exact k ρ2 _ _ ((P1.trans P2).trans P3) r3
    · cases h
  · cases h
/-- str(an int) -/
def intS (i : Int) : Str := toString i
def strF : FA := fun ds st => match ds with | [.int i] => if i.natAbs.log2 < 1920 then .ok (.str (intS i)) st else .bad | _ => .bad
theorem o_str : OpA g (fun xs H Q => ∃ i, xs = [.int i] ∧ i.natAbs.log2 < 1920 ∧ Q (.str (toString i)) H) strF := fun ρ st H ds vs v st' Q Rl r h k => by
  unfold strF at h
  split at h
  · split at h
    · rename_i hz
      cases h
      obtain ⟨y, rfl, r1⟩ := vrs1 r
      simp only [VR] at r1
      subst r1
      exact ⟨_, rfl, hz, k ρ H _ (Post.refl Rl) (by simp [VR, intS])⟩
    · cases h
  · cases h
theorem e_strI (x : XG g X) (h : EV g X e f) (hg : Gl X "str" := by rfl) (he : starEach [e] X.env = (false, eval e X.env) :: starEach [] X.env := by rfl) : EV g X (.Call (.Name "str" p) [e] [] pos) (eCall strF (aCons f aNil)) :=
  e_callT call_str_int o_str (x.mg "str") (a_cons h a_nil he) hg (by decide +kernel) (by decide) (by decide) he rfl
/-- the signs of a text, one by one -/
def signs (z : Str) : List D := z.cps.toList.map fun c => D.str ⟨#[c]⟩
def iSigns (f : Ef) : If := fun env st => (f env st).bind fun d s => match d with | .str z => .ok ⟨signs z, []⟩ s | _ => .bad
theorem walkSg {ρ : Nat → Addr} {st : Store} {H : Hp} {z : Str} : WalkD g ρ st H (Its z) ⟨signs z, []⟩ (fun _ => True) (fun i H v H' => H' = H ∧ ∃ c, z.cps[i]? = some c ∧ v = .str ⟨#[c]⟩) where
  walk := ⟨fun i H hi _ => by
      have h : i < (signs z).length := hi
      unfold signs at h
      rw [List.length_map, Array.length_toList] at h
      exact h,
    fun H _ => by
      show z.cps.size ≤ (signs z).length
      unfold signs
      rw [List.length_map, Array.length_toList]
      exact Nat.le_refl _, fun i H x H' hi _ y => y⟩
  stay := fun _ _ _ _ _ => trivial
  gives := fun i H2 x H3 ρ2 st2 P w hi ⟨eH, c, ec, ex⟩ => by
    subst eH
    subst ex
    refine ⟨.str ⟨#[c]⟩, ?_, Post.refl P.rel, by simp [VR]⟩
    show (signs z)[i]? = _
    unfold signs
    rw [List.getElem?_map, Array.getElem?_toList, ec]
    rfl
theorem i_signs (x : XG g X) (h : EV g X e f) : IV g X tg e (iSigns f) := pi_imp (pi_str h) fun σ H Rw ⟨ρ, st, env, s, st', Rl, E, h, k⟩ => by
  obtain ⟨d, s1, e1, h⟩ := R.bind_eq h
  refine ⟨ρ, st, env, d, s1, Rl, E, e1, fun ρ1 H1 y P1 r1 => ?_⟩
  cases d with
  | str z =>
    cases h
    simp only [VR] at r1
    exact ⟨z, r1, k ρ1 H1 _ _ _ P1 walkSg⟩
  | _ => cases h
/-- a text within a text -/
def inS (z w : Str) : Bool := !(PySem.Builtin.Str.occurrences w z 0 w.length 1).isEmpty
def inSF : F2 := fun x y st => match x, y with | .str z, .str w => .ok (.bl (inS z w)) st | _, _ => .bad
theorem o_inS : Op2 g (fun x y H Q => ∃ i j, x = .str i ∧ y = .str j ∧ Q (.bl (!(PySem.Builtin.Str.occurrences j i 0 j.length 1).isEmpty)) H) inSF := fun ρ st H d1 d2 x1 y1 v st' Q Rl r1 r2 q k => by
  unfold inSF at q
  split at q
  · cases q
    simp only [VR] at r1 r2
    subst r1; subst r2
    exact ⟨_, _, rfl, rfl, k ρ H _ (Post.refl Rl) (by simp [VR, inS])⟩
  · cases q
theorem e_inS (x : XG g X) (ha : EV g X a fa) (hb : EV g X b fb) (hm : behindInMarks .In b = false := by rfl) : EV g X (.Compare a [.In] [b] pos) (eBin inSF fa fb) := e_cmp op_in_str o_inS ha hb hm
theorem t_inS (x : XG g X) (ha : EV g X a fa) (hb : EV g X b fb) (hm : behindInMarks .In b = false := by rfl) : TV g X (.Compare a [.In] [b] pos) (tfB (eBin inSF fa fb)) := t_cmp op_in_str o_inS ha hb hm
/-- text.index(text) -/
def sidxF (a b : D) (s : Store) : R D := match a, b with
  | .str z, .str y => match PySem.Builtin.Str.occurrences z y 0 z.length 1 with | i :: _ => .ok (.int (i : Nat)) s | [] => .bad
  | _, _ => .bad
def eSIdx (fo f : Ef) : Ef := fun env st => (fo env st).bind fun a s1 => (f env s1).bind fun b s2 => sidxF a b s2
theorem e_sidx (x : XG g X) (ho : EV g X o fo) (he : EV g X e f) (hs : starEach [e] X.env = [(false, eval e X.env)] := by rfl) (hbase : attributeBase o "index" X.env (eval o X.env) = eval o X.env := by rfl) (hline : (apos.endLine == pos.line) = true := by rfl) :
    EV g X (.Call (.Attribute o "index" apos) [e] [] pos) (eSIdx fo f) := pe_imp (pe_m1 PySem.F.slot_str_index PySem.F.type_str_index mt_sindex ho he hs hbase hline) fun σ H Q ⟨ρ, st, env, v, st', Rl, E, h, k⟩ => by
  obtain ⟨d, s1, e1, h⟩ := R.bind_eq h
  obtain ⟨d2, s2, e2, h⟩ := R.bind_eq h
  refine ⟨ρ, st, env, d, s1, Rl, E, e1, fun ρ1 H1 y P1 r1 => ?_⟩
  unfold sidxF at h
  split at h
  · rename_i z w _
    simp only [VR] at r1
    subst r1
    refine ⟨⟨_, rfl⟩, ρ1, s1, env, _, s2, P1.rel, P1.envr Rl E, e2, fun ρ2 H2 y2 P2 r2 => ?_⟩
    simp only [VR] at r2
    subst r2
    split at h
    · rename_i i rest ho
      cases h
      exact ⟨_, _, i, rest, rfl, rfl, ho, k ρ2 H2 _ (P1.trans P2) (by simp [VR])⟩
    · cases h
  · cases h
end
/-! ### reckoning -/
section
variable {env : EEnv} {st s : Store} {fo f fa fb : Ef} {t : Af} {d x y : D} {z w : Str} {xs : List D} {i : Int}
def kJoin (a : D) (xs : List D) (s : Store) : R D := joinF a xs s
def kJoin1 (t : Af) (env : EEnv) (a : D) (s : Store) : R D := (t env s).bind (kJoin a)
@[simp] theorem ev_eJoin : eJoin fo t env st = (fo env st).bind (kJoin1 t env) := rfl
@[simp] theorem ev_kJoin1 : kJoin1 t env x s = (t env s).bind (kJoin x) := rfl
theorem kJoin_ok {ys : List Str} (h : strsD xs = some ys) (hl : (ys.map (·.length)).sum + ys.length * z.length ≤ 16777216) : kJoin (.str z) xs s = .ok (.str (Txt.join z ys)) s := by
  unfold kJoin joinF
  rw [h]
  exact if_pos hl
def kSplit (a : D) (b : D) (s : Store) : R (List D) := splitF a b s
def kSplit1 (f : Ef) (env : EEnv) (a : D) (s : Store) : R (List D) := (f env s).bind (kSplit a)
@[simp] theorem ev_nSplit : nSplit fo f env st = (fo env st).bind (kSplit1 f env) := rfl
@[simp] theorem ev_kSplit1 : kSplit1 f env x s = (f env s).bind (kSplit x) := rfl
theorem kSplit_ok (h : (w.length == 0) = false ∧ z.length + 2 ≤ sizeLine) : kSplit (.str z) (.str w) s = .ok ((Txt.split z w).map D.str) s := by
  unfold kSplit splitF
  exact if_pos h
def kPart (a : D) (b : D) (s : Store) : R D := partF a b s
def kPart1 (f : Ef) (env : EEnv) (a : D) (s : Store) : R D := (f env s).bind (kPart a)
@[simp] theorem ev_ePart : ePart fo f env st = (fo env st).bind (kPart1 f env) := rfl
@[simp] theorem ev_kPart1 : kPart1 f env x s = (f env s).bind (kPart x) := rfl
theorem kPart_ok (h : (w.length == 0) = false ∧ z.length ≤ sizeLine) : kPart (.str z) (.str w) s = .ok (.tup [.str (Txt.partition z w).1, .str (Txt.partition z w).2.1, .str (Txt.partition z w).2.2]) s := by
  unfold kPart partF
  exact if_pos h
@[simp] theorem ev_strF : strF [.int i] s = if i.natAbs.log2 < 1920 then .ok (.str (intS i)) s else .bad := rfl
def kSigns (d : D) (s : Store) : R Src := match d with | .str z => .ok ⟨signs z, []⟩ s | _ => .bad
@[simp] theorem ev_iSigns : iSigns f env st = (f env st).bind kSigns := rfl
@[simp] theorem ev_kSigns : kSigns (.str z) s = .ok ⟨signs z, []⟩ s := rfl
@[simp] theorem ev_inSF : inSF (.str z) (.str w) s = .ok (.bl (inS z w)) s := rfl
def kSIdx (a : D) (b : D) (s : Store) : R D := sidxF a b s
def kSIdx1 (f : Ef) (env : EEnv) (a : D) (s : Store) : R D := (f env s).bind (kSIdx a)
@[simp] theorem ev_eSIdx : eSIdx fo f env st = (fo env st).bind (kSIdx1 f env) := rfl
@[simp] theorem ev_kSIdx1 : kSIdx1 f env x s = (f env s).bind (kSIdx x) := rfl
end
end Ev

/-! Ev28: sorted(set(..)), len(set(..)) of ints, of rows of ints. -/
namespace Ev
open PySem L2
open PyProof.Rows hiding St
/-! ### a list in strict sequence, no two alike -/
structure SO (A : Type) [LT A] : Prop where
  irr : ∀ a : A, ¬ a < a
  tr : ∀ a b c : A, a < b → b < c → a < c
  tot : ∀ a b : A, a < b ∨ a = b ∨ b < a
theorem so_int : SO Int := ⟨fun a h => by omega, fun a b c h1 h2 => by omega, fun a b => by omega⟩
theorem so_list : SO (List Int) := ⟨fun a => List.lt_irrefl a, fun a b c h1 h2 => List.lt_trans h1 h2, fun a b => by
  rcases Classical.em (a < b) with h | h
  · exact .inl h
  · rcases Classical.em (b < a) with h' | h'
    · exact .inr (.inr h')
    · exact .inr (.inl (List.le_antisymm (List.not_lt.mp h') (List.not_lt.mp h)))⟩
section
variable {A : Type} [LT A] [DecidableEq A] [DecidableRel (α := A) (· < ·)]
def insG (a : A) : List A → List A
  | [] => [a]
  | b :: l => if a < b then a :: b :: l else if a = b then b :: l else b :: insG a l
def sdG : List A → List A
  | [] => []
  | a :: l => insG a (sdG l)
theorem mem_insG (a x : A) : ∀ l : List A, x ∈ insG a l ↔ x = a ∨ x ∈ l
  | [] => by simp [insG]
  | b :: l => by
    unfold insG
    by_cases h1 : a < b
    · rw [if_pos h1]; simp
    · rw [if_neg h1]
      by_cases h2 : a = b
      · rw [if_pos h2]; subst h2; simp
      · rw [if_neg h2, List.mem_cons, mem_insG a x l, List.mem_cons]
        constructor
        · rintro (h | h | h)
          · exact .inr (.inl h)
          · exact .inl h
          · exact .inr (.inr h)
        · rintro (h | h | h)
          · exact .inr (.inl h)
          · exact .inl h
          · exact .inr (.inr h)
theorem mem_sdG (x : A) : ∀ l : List A, x ∈ sdG l ↔ x ∈ l
  | [] => Iff.rfl
  | a :: l => by
    unfold sdG
    rw [mem_insG, mem_sdG x l, List.mem_cons]
theorem insG_sorted (so : SO A) (a : A) : ∀ {l : List A}, l.Pairwise (· < ·) → (insG a l).Pairwise (· < ·)
  | [], _ => by simp [insG]
  | b :: l, h => by
    obtain ⟨h1, h2⟩ := List.pairwise_cons.mp h
    unfold insG
    by_cases e1 : a < b
    · rw [if_pos e1]
      refine List.pairwise_cons.mpr ⟨fun x hx => ?_, h⟩
      rcases List.mem_cons.mp hx with rfl | hx
      · exact e1
      · exact so.tr _ _ _ e1 (h1 x hx)
    · rw [if_neg e1]
      by_cases e2 : a = b
      · rw [if_pos e2]; exact h
      · rw [if_neg e2]
        refine List.pairwise_cons.mpr ⟨fun x hx => ?_, insG_sorted so a h2⟩
        rcases (mem_insG a x l).mp hx with rfl | hx
        · rcases so.tot x b with h | h | h
          · exact absurd h e1
          · exact absurd h e2
          · exact h
        · exact h1 x hx
theorem sdG_sorted (so : SO A) : ∀ l : List A, (sdG l).Pairwise (· < ·)
  | [] => List.Pairwise.nil
  | a :: l => insG_sorted so a (sdG_sorted so l)
theorem so_nodup (so : SO A) {l : List A} (h : l.Pairwise (· < ·)) : l.Nodup := by
  show l.Pairwise (· ≠ ·)
  refine h.imp ?_
  intro a b q z
  subst z
  exact so.irr _ q
theorem sd_one (so : SO A) {l l' : List A} (h : l.Pairwise (· < ·)) (h' : l'.Pairwise (· < ·)) (e : ∀ a, a ∈ l ↔ a ∈ l') : l = l' := by
  have n : l.Nodup := so_nodup so h
  have n' : l'.Nodup := so_nodup so h'
  have p : l.Perm l' := (List.perm_ext_iff_of_nodup n n').mpr e
  exact List.Perm.eq_of_pairwise (fun a b _ _ h1 h2 => absurd (so.tr _ _ _ h1 h2) (so.irr a)) h h' p
theorem sdG_one (so : SO A) {l l' : List A} (h : l'.Pairwise (· < ·)) (e : ∀ a, a ∈ l' ↔ a ∈ l) : l' = sdG l := sd_one so h (sdG_sorted so l) fun a => (e a).trans (mem_sdG a l).symm
theorem sdG_id (so : SO A) {l : List A} (h : l.Pairwise (· < ·)) : sdG l = l := (sdG_one so h fun _ => Iff.rfl).symm
theorem sdG_congr (so : SO A) {l l' : List A} (h : ∀ a, a ∈ l ↔ a ∈ l') : sdG l = sdG l' := sdG_one so (sdG_sorted so l) fun a => (mem_sdG a l).trans (h a)
theorem sdG_nodup (so : SO A) (l : List A) : (sdG l).Nodup := so_nodup so (sdG_sorted so l)
theorem sdG_len (so : SO A) {l : List A} {es : List A} (n : es.Nodup) (h : ∀ a, a ∈ es ↔ a ∈ l) : es.length = (sdG l).length :=
  ((List.perm_ext_iff_of_nodup n (sdG_nodup so l)).mpr fun a => (h a).trans (mem_sdG a l).symm).length_eq
theorem sdG_le (l : List A) : (sdG l).length ≤ l.length := by
  have ins : ∀ (a : A) (l : List A), (insG a l).length ≤ l.length + 1 := fun a l => by
    induction l with
    | nil => simp [insG]
    | cons b l ih =>
      unfold insG
      split
      · simp
      · split
        · simp
        · simp only [List.length_cons]; omega
  induction l with
  | nil => exact Nat.le_refl _
  | cons a l ih =>
    have := ins a (sdG l)
    show (insG a (sdG l)).length ≤ _
    simp only [List.length_cons]; omega
end
end Ev
namespace L2
open PySem PySem.Spec PyProof.Rows
section
variable {P : Program} {w : World} {A : Around} {E : Value → Shared → Prop} {s : Shared}
set_option maxRecDepth 100000 in
set_option maxHeartbeats 3200000 in
theorem call_set_listI {l : Addr} {items : Array Value} (ns : List Int) {Q : Value → Shared → Prop} (hh : A.handled = none) (hl : s.heap.IsList l items) (hit : IntsAre items.toList ns) (hb : ns.length + 1 < scanBound)
    (h : ∀ (h' : Heap) (tk c : Nat), SetR w h' s.heap.objs.size (fun j => decide (j ∈ ns)) c → c ≤ ns.length → (∀ b o, s.heap.get? b = some o → h'.get? b = some o) → Q (.ref s.heap.objs.size) { s with heap := h', toks := tk }) :
    wpAny (model P w) A (call (.type "set") [.ref l]) Q E s := by
  have hisz : items.size = ns.length := by
    have q := IntsAre.length hit
    rw [Array.length_toList] at q
    exact q
  obtain ⟨c, tl, hmro⟩ := F.called_set.mro
  have hmade := F.called_set.made
  have hsub := F.called_set.sub
  refine wpAny_call (codeAny_of_tree ?_)
  show wpAny _ _ (callAny (.type "set") _) _ _ _
  refine wpAny_pure ⟨Code.quiet_builtin _ (by decide +kernel), codeAny_builtin F.entry_type_call ?_⟩
  rw [Around.under_plain (weight_type_call_type "set" [.ref l] []) rfl]
  have h1 := F.called_set.notType
  have h2 := F.called_set.canCreate
  have hct := F.typeCall_set_1 (.ref l)
  repeat (any_goals (first | assumption | wp_step))

  refine codeAny_mono (code_set_led1 (.ref l) (E := E) (Q₁ := fun obj s₁ => obj = .ref s.heap.objs.size ∧ s₁ = { s with heap := s.heap.push { cls := .type "set", dict := none, data := .set #[] 0 (.fresh 0 0 (!w.params.followText "set-order")) } }) ⟨rfl, rfl⟩) fun r s₁ hr => ?_
  cases r with
  | error e => exact hr
  | ok fl =>
    cases fl with
    | ret obj =>
      obtain ⟨rfl, rfl⟩ := hr
      have hS : (s.heap.push { cls := .type "set", dict := none, data := .set #[] 0 (.fresh 0 0 (!w.params.followText "set-order")) }).get? s.heap.objs.size = some { cls := .type "set", dict := none, data := .set #[] 0 (.fresh 0 0 (!w.params.followText "set-order")) } := Heap.get?_push_size _ rfl
      have hT : Shared.TypeIs { s with heap := s.heap.push { cls := .type "set", dict := none, data := .set #[] 0 (.fresh 0 0 (!w.params.followText "set-order")) } } (.ref s.heap.objs.size) "set" := ⟨_, hS, rfl⟩
      have hli := F.called_set.init.lookup
      have hbi := F.called_set.init.bind (.ref s.heap.objs.size)
      repeat (any_goals (first | assumption | wp_step))

      refine codeAny_mono (codeAny_call_builtin (R := wants (fun r s₂ => r = .none ∧ ∃ h' tk c, s₂ = { s with heap := h', toks := tk } ∧ SetR w h' s.heap.objs.size (fun j => decide (j ∈ ns)) c ∧ c ≤ ns.length ∧
          (∀ b o, s.heap.get? b = some o → h'.get? b = some o)) E) F.called_set.init.plain F.entry_set_init (check_set_init_1 hT ?_)) fun r₂ s₂ hr₂ => ?_
      · obtain ⟨ol, hol, hcl, nl, hdl⟩ := hl
        obtain ⟨ocls, odict, odata, oslots⟩ := ol
        simp only at hcl hdl
        subst hcl; subst hdl
        have hol' : (s.heap.push { cls := .type "set", dict := none, data := .set #[] 0 (.fresh 0 0 (!w.params.followText "set-order")) }).get? l = some { cls := .type "list", dict := odict, data := .seq items nl, slots := oslots } := Heap.get?_push_of_some _ hol
        have hsls := F.sub_list_set
        have hslf := F.sub_list_frozenset
        have hne : (Value.type "list" == Value.type "dict") = false := by decide
        have hl1 : (s.heap.push { cls := .type "set", dict := none, data := .set #[] 0 (.fresh 0 0 (!w.params.followText "set-order")) }).IsList l items := ⟨_, hol', rfl, nl, rfl⟩
        unfold Builtin.«set.__init__» noKeywords Builtin.Frozenset.updateFrom
        generalize hPI : pyIter = PI
        wp_walk
        subst hPI

        refine wpAny_pyIter_list hl1 ?_
        refine wpAny_bind (wpAny_runValue ?_)
        have hlS : l < s.heap.objs.size := Heap.lt_size hol
        have hh3 : A.in1.in1.in1.handled = none := by simp [hh]
        have hz1 : (s.heap.push { cls := .type "set", dict := none, data := .set #[] 0 (.fresh 0 0 (!w.params.followText "set-order")) }).objs.size = s.heap.objs.size + 1 := Heap.size_push ..
        have hneI : l ≠ (s.heap.push { cls := .type "set", dict := none, data := .set #[] 0 (.fresh 0 0 (!w.params.followText "set-order")) }).objs.size := by
          rw [Heap.size_push]; exact Nat.ne_of_lt (Nat.lt_succ_of_lt hlS)
        have hSf : s.heap.objs.size ∉ [(s.heap.push { cls := .type "set", dict := none, data := .set #[] 0 (.fresh 0 0 (!w.params.followText "set-order")) }).objs.size, l] := by
          rw [Heap.size_push]; simp only [List.mem_cons, List.mem_singleton, List.not_mem_nil, or_false, not_or]
          exact ⟨Nat.ne_of_lt (Nat.lt_succ_self _), Nat.ne_of_gt hlS⟩
        have hval : ∀ (i : Nat) (v : Value), items[i]? = some v → ∃ k t, ns[i]? = some k ∧ v = .int k t := fun i v hv => by
          have hi : i < ns.length := by rw [← hisz]; exact (Array.getElem?_eq_some_iff.mp hv).1
          obtain ⟨t, e⟩ := PyProof.Rows.IntsAre.int_at hit i v (by rw [Array.getElem?_toList]; exact hv)
          refine ⟨ns[i], t, List.getElem?_eq_getElem hi, ?_⟩
          rw [e, List.getD_eq_getElem?_getD, List.getElem?_eq_getElem hi] <;> rfl
        refine set_update_ints ((Walks.list hh3 _ l hneI items).toS) s.heap.objs.size
          hSf ns hisz hb hval (items.size - 0) 0 _ (by omega) (Nat.zero_le _)
          ⟨⟨_, Heap.get?_push_size _ rfl, rfl, rfl⟩, (hl1.push _)⟩ ?hS0 ?hR
        case hS0 =>
          have hget : ((s.heap.push { cls := .type "set", dict := none, data := .set #[] 0 (.fresh 0 0 (!w.params.followText "set-order")) }).push { cls := .type "list_iterator", data := .fields #[.ref l, .int 0 0] }).get? s.heap.objs.size
              = some { cls := .type "set", dict := none, data := .set #[] 0 (.fresh 0 0 (!w.params.followText "set-order")) } := Heap.get?_push_of_some _ hS
          exact ⟨0, Nat.le_refl 0, setR_new_at hget⟩
        case hR =>
          intro s' c' hm hc' hS'
          obtain ⟨h', g2, d', tk', os'⟩ := s'
          have eg : g2 = s.gens := hm.gens
          have ed : d' = s.drawn := hm.drawn
          have eo : os' = s.os := hm.os
          subst eg; subst ed; subst eo
          show wpAny _ _ _ _ _ _
          refine wpAny_pure ?_
          show wpAny _ _ (ret Value.none) _ _ _
          rw [hisz] at hc'
          refine wpAny_pure ⟨rfl, h', tk', c', rfl, hS', hc', fun b o e => ?_⟩
          have hb0 : b < s.heap.objs.size := Heap.lt_size e
          have hb1 : b ≠ s.heap.objs.size := Nat.ne_of_lt hb0
          have hb2 : b ≠ (s.heap.push { cls := .type "set", dict := none, data := .set #[] 0 (.fresh 0 0 (!w.params.followText "set-order")) }).objs.size := by
            rw [Heap.size_push]; exact Nat.ne_of_lt (Nat.lt_succ_of_lt hb0)
          exact hm.heap b o (by simp only [List.mem_cons, List.mem_singleton, List.not_mem_nil, or_false, not_or]; exact ⟨hb1, hb2⟩) (Heap.get?_push_of_some _ (Heap.get?_push_of_some _ e))

      · cases r₂ with
        | error e => exact hr₂
        | ok fl₂ =>
          cases fl₂ with
          | ret r =>
            obtain ⟨rfl, h', tk, c', rfl, hS', hc', hk'⟩ := hr₂
            repeat (any_goals (first | assumption | wp_step))
            exact h _ _ _ hS' hc' hk'
          | _ => exact hr₂.elim
    | _ => exact hr.elim
end
end L2

/-! Ev29: sorted(set(..)) of rows of ints, the layer's words. -/
namespace L2
open PySem PySem.Spec PyProof.Rows
theorem each_refs : ∀ L : List (Addr × List Int), PySem.W.EachIs (fun v (q : Addr × List Int) => v = Value.ref q.1) (L.map fun q => Value.ref q.1) L
  | [] => .nil
  | q :: L => .cons rfl (each_refs L)
theorem each_refsM {R : Value → Addr × List Int → Prop} : ∀ L : List (Addr × List Int), (∀ q ∈ L, R (Value.ref q.1) q) → PySem.W.EachIs R (L.map fun q => Value.ref q.1) L
  | [], _ => .nil
  | q :: L, h => .cons (h q List.mem_cons_self) (each_refsM L fun r hr => h r (List.mem_cons_of_mem _ hr))
theorem refs_each : ∀ {out : List Value} {L : List (Addr × List Int)}, PySem.W.EachIs (fun v (q : Addr × List Int) => v = Value.ref q.1) out L → out = L.map fun q => Value.ref q.1
  | _, _, .nil => rfl
  | _, _, .cons h t => by rw [List.map_cons, h, refs_each t]
theorem reads_ints {h : Heap} {P : Program} {w : World} : ∀ {k : List Int} {vs : List Value}, ItemsAre (intKind P w) k vs → ReadsAll h vs (k.map PyData.int) []
  | _, _, .nil => .nil
  | _, _, .cons (k := k0) h1 t => by
    obtain ⟨tk, rfl⟩ := Value.isInt_shape h1
    exact ReadsAll.cons (as := []) (bs := []) (.int _ _) (reads_ints t)
theorem reads_isT {h : Heap} {P : Program} {w : World} {k : List Int} {b : Addr} (x : IsT P w h k b) : Reads h (.ref b) (PyData.tuple (k.map .int)) [] := by
  obtain ⟨o, items, n, ho, hc, hd, hi⟩ := x
  exact .tuple ho hc hd (reads_ints (by simpa using hi))
theorem dataLe_tups (q r : Addr × List Int) : PySem.W.dataLe false (fun q : Addr × List Int => PyData.tuple (q.2.map .int)) q r = decide (q.2 ≤ r.2) := by
  rw [PySem.W.dataLe_eq]
  show (!PySem.W.dataLt (PyData.tuple (r.2.map .int)) (PyData.tuple (q.2.map .int))) = _
  rw [PySem.W.dataLt_tuple]
  show (!PySem.W.rowLt (r.2.map .int) (q.2.map .int)) = _
  rw [PySem.W.dataLt_ints]
  by_cases h : r.2 < q.2
  · have h' : ¬ q.2 ≤ r.2 := fun z => List.not_lt.mpr z h
    simp [h, h']
  · have h' : q.2 ≤ r.2 := List.not_lt.mp h
    simp [h, h']
theorem sorted_rows (L : List (Addr × List Int)) : (L.mergeSort (PySem.W.dataLe false fun q : Addr × List Int => PyData.tuple (q.2.map .int))).Pairwise (fun q r => q.2 ≤ r.2) := by
  have s := List.pairwise_mergeSort (le := PySem.W.dataLe false fun q : Addr × List Int => PyData.tuple (q.2.map .int))
    (fun a b c h1 h2 => by
      rw [dataLe_tups] at h1 h2 ⊢
      exact decide_eq_true (List.le_trans (of_decide_eq_true h1) (of_decide_eq_true h2)))
    (fun a b => by
      rw [dataLe_tups, dataLe_tups, Bool.or_eq_true]
      rcases List.le_total a.2 b.2 with h | h
      · exact .inl (decide_eq_true h)
      · exact .inr (decide_eq_true h)) L
  exact s.imp fun h => by rw [dataLe_tups] at h; exact of_decide_eq_true h
section
variable {P : Program} {w : World} {A : Around} {E : Value → Shared → Prop} {s : Shared}
set_option maxHeartbeats 3200000 in
theorem sorted_setD {a : Addr} {L : List (Addr × List Int)} {es : Array (Int × Value)} {ep : Nat} {t : SetTable} {Q : Value → Shared → Prop} (R : SetTR P w s.heap a L es ep t) (hh : A.handled = none)
    (hne : ∀ p ∈ L, p.2 ≠ []) (hu : A.units + 10 < cLine)
    (hQ : ∀ s' p (out : Array Value) (c : Nat) (L' : List (Addr × List Int)), (∀ b o, s.heap.get? b = some o → s'.heap.get? b = some o) → s'.gens = s.gens → s'.os = s.os → s.heap.objs.size ≤ p →
      s'.heap.get? p = some (seqObj "list" out c) → out.toList = L'.map (fun q => Value.ref q.1) → L'.Perm L → L'.Pairwise (fun q r => q.2 ≤ r.2) → Q (.ref p) s') :
    wpAny (model P w) A (call (.builtin "sorted") [.ref a]) Q E s := by
  obtain ⟨o, ho, hex, hd⟩ := R.ob
  have hsz := R.size
  have hfew := R.few
  refine Calls.call_function_entry kind_sorted plain_sorted entry_sorted (args_sorted1 _) ?_
  unfold Builtin.«sorted»
  refine wpAny_bind (m := checkCount "sorted" 1 1 _) (wpAny_pure ?_)
  refine wpAny_bind (collect_set (A := A.in1) hh ⟨o, ho, hex.1, hd⟩ R.fits (by unfold scanBound; omega) R.tab.ris R.led fun s1 vs k1 hz g1 o1 pm => ?_)
  have hes : es.toList.map (·.2) = L.map fun q => Value.ref q.1 := by
    rw [R.rows]
    unfold rowsOf
    rw [List.map_map] <;> rfl
  rw [hes] at pm
  -- the values are the addresses of the rows, in some order
  have ord : ∀ vs : List Value, (∀ v ∈ vs, ∃ q ∈ L, v = Value.ref q.1) → ∃ L1 : List (Addr × List Int), vs = L1.map (fun q => Value.ref q.1) ∧ ∀ q ∈ L1, q ∈ L := by
    intro vs
    induction vs with
    | nil => intro _; exact ⟨[], rfl, fun q hq => (by cases hq)⟩
    | cons v vs ih =>
      intro hv
      obtain ⟨q, hq, e⟩ := hv v List.mem_cons_self
      obtain ⟨L1, e1, hs⟩ := ih fun u hu => hv u (List.mem_cons_of_mem _ hu)
      refine ⟨q :: L1, by rw [List.map_cons, e, e1], fun r hr => ?_⟩
      rcases List.mem_cons.mp hr with z | z
      · rw [z]; exact hq
      · exact hs r z
  -- an address has one key
  have one : ∀ q ∈ L, ∀ r ∈ L, q.1 = r.1 → q = r := fun q hq r hr e => by
    have a1 := R.tup q hq
    have a2 := R.tup r hr
    rw [e] at a1
    have e2 : q.2 = r.2 := a1.inj a2
    exact Prod.ext e e2
  have perm_of : ∀ L1 : List (Addr × List Int), (∀ q ∈ L1, q ∈ L) → (L1.map (fun q => Value.ref q.1)).Perm (L.map fun q => Value.ref q.1) → L1.Perm L := by
    intro L1 hs pm1
    have nL : L.Nodup := nodup_of_map R.nd
    have nref : (L.map fun q => Value.ref q.1).Nodup := by
      refine List.pairwise_map.mpr (List.Pairwise.imp_of_mem (fun {q r} hq hr hne e => ?_) nL)
      injection e with e
      exact hne (one q hq r hr e)
    have n1 : L1.Nodup := nodup_of_map (pm1.nodup_iff.mpr nref)
    refine (List.perm_ext_iff_of_nodup n1 nL).mpr fun q => ⟨hs q, fun hq => ?_⟩
    have hm : Value.ref q.1 ∈ L1.map (fun q => Value.ref q.1) := pm1.mem_iff.mpr (List.mem_map.mpr ⟨q, hq, rfl⟩)
    obtain ⟨r, hr, e⟩ := List.mem_map.mp hm
    injection e with e
    rw [← one r (hs r hr) q hq e]
    exact hr
  have hvl : vs.length < 64 := by rw [pm.length_eq, List.length_map]; exact hfew
  refine wpAny_bind (wpAny_newList ?_ (by rw [sizeLine_eq]; omega))
  have hoL : (s1.heap.push (seqObj "list" vs.toArray 0)).get? s1.heap.objs.size = some (seqObj "list" vs.toArray 0) := Heap.get?_push_size _ rfl
  obtain ⟨L1, eL1, hs1⟩ := ord vs fun v hv => by
    obtain ⟨q, hq, e⟩ := List.mem_map.mp (pm.mem_iff.mp hv)
    exact ⟨q, hq, e.symm⟩
  have pL1 : L1.Perm L := perm_of L1 hs1 (by rw [← eL1]; exact pm)
  have e0 : PySem.W.EachIs (fun v (q : Addr × List Int) => v = Value.ref q.1) vs L1 := by
    rw [eL1]
    exact each_refs L1
  have er : PySem.W.EachIs (fun v (q : Addr × List Int) => ∃ as, Reads (s1.heap.push (seqObj "list" vs.toArray 0)) v (PyData.tuple (q.2.map .int)) as ∧ s1.heap.objs.size ∉ as) vs L1 := by
    rw [eL1]
    refine each_refsM L1 fun q hq => ⟨[], ?_, by simp⟩
    exact reads_isT (P := P) (w := w) (isT_keep (R.tup q (hs1 q hq)) fun b u e => Heap.get?_push_of_some _ (k1 b u e))
  refine wpAny_bind (wpAny_holding (PySem.W.list_sort_data (s := { s1 with heap := s1.heap.push (seqObj "list" vs.toArray 0) }) (bs := L1) (enc := fun q => PyData.tuple (q.2.map .int)) (R := fun v q => v = Value.ref q.1) hoL e0 er
    (PySem.W.AllAlike.of fun b b' => by simp only [PySem.W.alike]; exact PySem.W.alike_ints _ _)
    (.inl fun d hd => by
      obtain ⟨q, hq, rfl⟩ := List.mem_map.mp hd
      cases e : q.2 with
      | nil => exact absurd e (hne q (hs1 q hq))
      | cons x r => exact ⟨_, _, rfl⟩)
    (by rw [pL1.length_eq, sizeLine_eq]; omega)
    (fun b _ => by
      show A.in1.units + 1 + (PyData.tuple (b.2.map .int)).depth < cLine
      have e1 : (PyData.tuple (b.2.map .int)).depth ≤ 1 := by
        simp only [PyData.depth]
        rw [PySem.W.depth_ints]
        omega
      have e2 : A.in1.units ≤ A.units + 3 := by first | exact Nat.le_refl _ | (simp [Around.in1]; omega) | simp [Around.units, Around.in1]
      omega)
    fun out ho eo => ?_))
  obtain ⟨c, hc⟩ := sortedHeap_at (vs := vs) (out := out.toArray) hoL
  have e' : out.toArray.toList = (L1.mergeSort (PySem.W.dataLe false fun q : Addr × List Int => PyData.tuple (q.2.map .int))).map (fun q => Value.ref q.1) := by
    rw [List.toList_toArray]
    exact refs_each eo
  have pL : (L1.mergeSort (PySem.W.dataLe false fun q : Addr × List Int => PyData.tuple (q.2.map .int))).Perm L := (List.mergeSort_perm _ _).trans pL1
  have pw : (L1.mergeSort (PySem.W.dataLe false fun q : Addr × List Int => PyData.tuple (q.2.map .int))).Pairwise (fun q r => q.2 ≤ r.2) := sorted_rows L1
  refine wpAny_pure ⟨_, rfl, hQ _ s1.heap.objs.size out.toArray c _ (fun b u e => ?_) g1 o1 hz hc e' pL pw⟩
  have q := k1 b u e
  have hlt := Heap.lt_size q
  show (sortedHeap (s1.heap.push (seqObj "list" vs.toArray 0)) s1.heap.objs.size vs out.toArray).get? b = some u
  rw [sortedHeap_old (Nat.ne_of_lt hlt) (by rw [size_push']; exact Nat.lt_succ_of_lt hlt)]
  exact Heap.get?_push_of_some _ q
end
end L2

/-! Ev30: the layer's words for sorted(set(..)), len(set(..)). -/
namespace L2
open PySem PySem.Spec PyProof.Rows
section
variable {X : Cx}
theorem setR_card {w : World} {h : Heap} {a : Addr} {ns : List Int} {c : Nat} (R : SetR w h a (fun j => decide (j ∈ ns)) c) : c = (Ev.sdG ns).length := by
  obtain ⟨o, es, ep, t, ho, hex, hd, g, nd, hm, hb, hf, hn, hr, hl⟩ := R
  rw [← Ev.sdG_len Ev.so_int nd fun k => by rw [← hm k]; simp, List.length_map, Array.length_toList]
  exact hn.symm
/-- set(xs), a list or a tuple of ints -/
def rSetI (K : PySem.W.Frag) (w : World) : List V → Hp → VK → Prop := fun xs H Q => ∃ (l : Addr) (ns : List Int), xs = [V.ref l] ∧ (SqL K H l (ns.map V.int) ∨ SqT K H l (ns.map V.int)) ∧ ns.length < 4000 ∧
  ∀ a, H a = none → Q (.ref a) (upd H a (SetO w a (fun j => decide (j ∈ ns)) (Ev.sdG ns).length))
theorem cr_setI (hc : X.calm = true) : CallR X (.type "set") (rSetI X.K X.w) := by
  intro pins s σ H xs us Q I r h
  obtain ⟨l, ns, rfl, hl, hf, q⟩ := h
  rw [Vals.ref1 r]
  have hn : H s.heap.objs.size = none := I.hok.fresh (Nat.le_refl _)
  have fin : ∀ (h' : Heap) (tk c : Nat), SetR X.w h' s.heap.objs.size (fun j => decide (j ∈ ns)) c → c ≤ ns.length → (∀ b o, s.heap.get? b = some o → h'.get? b = some o) → EP X pins σ Q (.ref s.heap.objs.size) { s with heap := h', toks := tk } := fun h' tk c R _ k => by
    have ec := setR_card R
    subst ec
    exact ⟨.ref s.heap.objs.size, upd H s.heap.objs.size (SetO X.w s.heap.objs.size (fun j => decide (j ∈ ns)) (Ev.sdG ns).length), I.laid (t' := tk) k (Nat.le_refl _) (setO_new R), rfl, q _ hn⟩
  rcases hl with hl | hl
  · obtain ⟨its, rv, pl, hz⟩ := I.list hl
    exact call_set_listI (P := X.prog) ns (I.ok.hd hc) pl.isList (by simpa using rv.ints) (by unfold scanBound; omega) fin
  · obtain ⟨its, rv, pl, hz⟩ := I.tuple hl
    exact call_set_tupI (P := X.prog) ns (I.ok.hd hc) pl (by simpa using rv.ints) (by unfold scanBound; omega) fin
/-- len(set of ints) -/
def rLenSetO (w : World) : List V → Hp → VK → Prop := fun vs H Q => ∃ (a : Addr) (S : Int → Bool) (n : Nat), vs = [V.ref a] ∧ H a = some (SetO w a S n) ∧ n < 64 ∧ Q (.int (n : Nat)) H
theorem cr_lenSetO : CallR X (.builtin "len") (rLenSetO X.w) := by
  intro pins s σ H vs us Q I r h
  obtain ⟨a, S, n, rfl, ha, h64, q⟩ := h
  have R := setO_get I ha
  rw [Vals.ref1 r]
  obtain ⟨o, es, ep, t, ho, hex, hd, g, nd, hm, hb, hf, hn, hr, hl⟩ := R
  refine call_len_set ho hex hd hf (by rw [hn]; omega) ⟨.int (n : Nat), H, I.tok _, ⟨_, by rw [hn]⟩, q⟩
/-- sorted(set of rows) -/
def rSortedTD (K : PySem.W.Frag) (P : Program) (w : World) : List V → Hp → VK → Prop := fun vs H Q => ∃ (a : Addr) (L : List (Addr × List Int)), vs = [V.ref a] ∧ H a = some (SetTO P w a L) ∧ (∀ p ∈ L, SqT K H p.1 (p.2.map V.int)) ∧ (∀ p ∈ L, p.2 ≠ []) ∧
  ∀ (L' : List (Addr × List Int)) (p : Addr), L'.Perm L → (L'.map (·.2)).Nodup → L'.Pairwise (fun q r => q.2 ≤ r.2) → H p = none → Q (.ref p) (upd H p (.lst (L'.map fun q => V.ref q.1)))
theorem cr_sortedTD (hc : X.calm = true) (hu : X.A.units + 10 < cLine) : CallR X (.builtin "sorted") (rSortedTD X.K X.prog X.w) := by
  intro pins s σ H vs us Q I r h
  obtain ⟨a, L, rfl, ha, hk, hB, q⟩ := h
  have R0 : SetT0 X.prog X.w s.heap a L := (I.hok a _ ha).1
  obtain ⟨es, ep, t, R⟩ := R0.full fun p hp => I.isT (hk p hp)
  rw [Vals.ref1 r]
  refine sorted_setD R (I.ok.hd hc) hB hu fun s' p out c L' k g o hp hg hout pm pw => ?_
  have hfew : L'.length < 64 := by rw [pm.length_eq]; exact R.few
  have hlen : (L'.map fun q => V.ref q.1).length ≤ sizeLine := by rw [List.length_map, sizeLine_eq]; omega
  have hn : H p = none := I.hok.fresh hp
  have hv : Vals (L'.map fun q => V.ref q.1) out.toList := by rw [hout]; exact vals_of_refs L'
  have J : Inv X pins σ (upd H p (.lst (L'.map fun q => V.ref q.1))) { s with heap := s'.heap, gens := s'.gens, drawn := s'.drawn, toks := s'.toks } :=
    I.call (ch := []) (Un.laid k hp hn) (I.hok.laid k hp ⟨hlen, out.toList, c, hv, hg⟩) (by rw [g]; exact I.bare) (fun _ z => nomatch z)
  have e : s' = { s with heap := s'.heap, gens := s'.gens, drawn := s'.drawn, toks := s'.toks } := by
    cases s'
    cases s
    cases o
    rfl
  rw [e]
  exact ⟨.ref p, _, J, rfl, q L' p pm ((pm.map (·.2)).nodup_iff.mpr R.nd) pw hn⟩
end
end L2
namespace Ev
open PySem L2
open PyProof.Rows hiding St
/-- rows of ints -/
def rowsD : List D → Option (List (List Int))
  | [] => some []
  | .tup ds :: r => (intsD ds).bind fun k => (rowsD r).map (k :: ·)
  | _ => none
def rowD (k : List Int) : D := .tup (k.map .int)
theorem rowsD_rows : ∀ ks : List (List Int), rowsD (ks.map rowD) = some ks
  | [] => rfl
  | k :: ks => by
    have e : ∀ k : List Int, intsD (k.map D.int) = some k := fun k => by
      induction k with
      | nil => rfl
      | cons a k ih =>
        rw [List.map_cons]
        unfold intsD
        rw [ih]
        rfl
    show rowsD (D.tup (k.map .int) :: ks.map rowD) = _
    simp only [rowsD, e, rowsD_rows ks]
    rfl
section
variable {g : Gh} {X : Cx} {a : Expr} {p p2 q pos : Pos} {t : Af}
theorem rows_vrs {ρ : Nat → Addr} {n : Nat} {H : Hp} : ∀ {xs : List D} {vs : List V} {ks : List (List Int)}, VRs g.K ρ n H xs vs → rowsD xs = some ks → ∃ L : List (Addr × List Int), L.map (·.2) = ks ∧ vs = L.map (fun p => V.ref p.1) ∧ ∀ p ∈ L, SqT g.K H p.1 (p.2.map V.int)
  | [], vs, ks, r, h => by
    cases h
    unfold VRs at r
    exact ⟨[], rfl, r, fun _ m => nomatch m⟩
  | x :: xs, vs, ks, r, h => by
    unfold VRs at r
    obtain ⟨y, ys, rfl, r1, rs⟩ := r
    cases x <;> simp only [rowsD] at h <;> (try cases h)
    rename_i ds
    obtain ⟨k, e1, h⟩ := Option.bind_eq_some_iff.mp h
    rw [Option.map_eq_some_iff] at h
    obtain ⟨ks', e2, rfl⟩ := h
    unfold VR at r1
    obtain ⟨c, zs, rfl, sq, rz⟩ := r1
    have e3 := intsD_vrs rz e1
    subst e3
    obtain ⟨L, f1, f2, f3⟩ := rows_vrs rs e2
    refine ⟨(c, k) :: L, by rw [List.map_cons, f1], by rw [List.map_cons, f2], fun p m => ?_⟩
    rcases List.mem_cons.mp m with rfl | m
    · exact sq
    · exact f3 p m
theorem vrs_rows {ρ : Nat → Addr} {n : Nat} {H : Hp} : ∀ {L : List (Addr × List Int)}, (∀ p ∈ L, SqT g.K H p.1 (p.2.map V.int)) → VRs g.K ρ n H ((L.map (·.2)).map rowD) (L.map fun p => V.ref p.1)
  | [], _ => .nil
  | p :: L, h => .cons (by
      show VR g.K ρ n H (rowD p.2) (V.ref p.1)
      unfold rowD VR
      exact ⟨p.1, _, rfl, h p List.mem_cons_self, VRs.ints⟩) (vrs_rows fun r hr => h r (List.mem_cons_of_mem _ hr))
/-- sorted(set(ints)) -/
def sortSetI (xs : List D) (s : Store) : R (List D) := match intsD xs with
  | some ns => if ns.length < 4000 ∧ (sdG ns).length < 63 then .ok ((sdG ns).map D.int) s else .bad
  | none => .bad
def nSortSetI (t : Af) : Af := fun env st => (t env st).bind sortSetI
theorem n_sortSetI (x : XG g X) (h : QV g X a t) (hg : Gl X "sorted" := by rfl) (hg2 : Gl X "set" := by rfl) (na : starEach [a] X.env = (false, eval a X.env) :: starEach [] X.env := by rfl)
    (nb : starEach [.Call (.Name "set" p2) [a] [] q] X.env = (false, eval (.Call (.Name "set" p2) [a] [] q) X.env) :: starEach [] X.env := by rfl) :
    NV g X (.Call (.Name "sorted" p) [.Call (.Name "set" p2) [a] [] q] [] pos) (nSortSetI t) :=
  pe_imp (pe_callB (cr_sortedSet x.calm) hg (x.mg "sorted") (by decide +kernel) (pa_cons (pe_callTy (cr_setI x.calm) hg2 (x.mg "set") (by decide +kernel) (pa_cons h pa_nil na) (by decide) (by decide) na rfl) pa_nil nb) (by decide) (by decide) nb rfl) fun σ H Q ⟨ρ, st, env, v, st', Rl, E, h, k⟩ => by
    obtain ⟨xs, s1, e1, h⟩ := R.bind_eq h
    refine ⟨ρ, st, env, xs, s1, Rl, E, e1, fun ρ1 H1 p ys P1 sq r1 => ?_⟩
    unfold sortSetI at h
    split at h
    · rename_i ns hns
      split at h
      · rename_i hz
        cases h
        have ey := intsD_vrs r1 hns
        subst ey
        rw [x.K]
        refine ⟨p, ns, rfl, sq, by omega, fun b hb => ?_⟩
        have Pb := P1.rel.tup (u := SetO X.w b (fun j => decide (j ∈ ns)) (sdG ns).length) hb
        refine ⟨b, _, _, rfl, upd_same, by omega, fun ms c hs hm hl hc => ?_⟩
        have em : ms = sdG ns := sdG_one so_int hs fun k => by rw [hm k]; simp
        subst em
        have Pc := Pb.rel.tup (u := HO.lst ((sdG ns).map V.int)) hc
        refine k ρ1 _ c _ ((P1.trans Pb).trans Pc) upd_same (fun j m z => ?_) ((P1.trans Pb).freeB hc) VRs.ints
        obtain ⟨u, e2, _⟩ := Pb.rel.mutSome m
        rw [z, hc] at e2
        cases e2
      · cases h
    · cases h
/-- sorted(set(rows)) -/
def sortSetR (xs : List D) (s : Store) : R (List D) := match rowsD xs with
  | some ks => if ks.length < 63 ∧ ks.all (fun k => !k.isEmpty) = true then .ok ((sdG ks).map rowD) s else .bad
  | none => .bad
def nSortSetR (t : Af) : Af := fun env st => (t env st).bind sortSetR
theorem n_sortSetR (x : XG g X) (h : LV g X a t) (hg : Gl X "sorted" := by rfl) (hg2 : Gl X "set" := by rfl) (na : starEach [a] X.env = (false, eval a X.env) :: starEach [] X.env := by rfl)
    (nb : starEach [.Call (.Name "set" p2) [a] [] q] X.env = (false, eval (.Call (.Name "set" p2) [a] [] q) X.env) :: starEach [] X.env := by rfl) :
    NV g X (.Call (.Name "sorted" p) [.Call (.Name "set" p2) [a] [] q] [] pos) (nSortSetR t) :=
  pe_imp (pe_callB (cr_sortedTD x.calm (by have := x.hu; omega)) hg (x.mg "sorted") (by decide +kernel) (pa_cons (pe_callTy (cr_setOfT x.calm (by have := x.hu; omega)) hg2 (x.mg "set") (by decide +kernel) (pa_cons h pa_nil na) (by decide) (by decide) na rfl) pa_nil nb) (by decide) (by decide) nb rfl) fun σ H Q ⟨ρ, st, env, v, st', Rl, E, h, k⟩ => by
    obtain ⟨xs, s1, e1, h⟩ := R.bind_eq h
    refine ⟨ρ, st, env, xs, s1, Rl, E, e1, fun ρ1 H1 p ys P1 sq r1 => ?_⟩
    unfold sortSetR at h
    split at h
    · rename_i ks hks
      split at h
      · rename_i hz
        cases h
        obtain ⟨L0, f1, rfl, f3⟩ := rows_vrs r1 hks
        rw [x.K]
        have hln : L0.length < 63 := by rw [← List.length_map (f := fun p : Addr × List Int => p.2), f1]; exact hz.1
        refine ⟨p, L0, rfl, sq, f3, by omega, fun b L hb sub all => ?_⟩
        have Pb := P1.rel.tup (u := SetTO X.prog X.w b L) hb
        have f4 : ∀ p ∈ L, SqT g.K (upd H1 b (SetTO X.prog X.w b L)) p.1 (p.2.map V.int) := fun p hp => Pb.tk P1.rel _ _ (f3 p (sub p hp))
        refine ⟨b, L, rfl, upd_same, f4, fun r hr => ?_, fun L' c pm nd pw hc => ?_⟩
        · have m : r.2 ∈ ks := by rw [← f1]; exact List.mem_map.mpr ⟨r, sub r hr, rfl⟩
          have := List.all_eq_true.mp hz.2 r.2 m
          intro e
          rw [e] at this
          cases this
        · have Pc := Pb.rel.tup (u := HO.lst (L'.map fun q => V.ref q.1)) hc
          have em : L'.map (·.2) = sdG ks := by
            refine sdG_one so_list ?_ fun k => ?_
            · have pw' : (L'.map (·.2)).Pairwise (· ≤ ·) := List.pairwise_map.mpr pw
              have nd' : (L'.map (·.2)).Pairwise (· ≠ ·) := nd
              refine (pw'.and nd').imp ?_
              intro u w hq
              rcases so_list.tot u w with z | z | z
              · exact z
              · exact absurd z hq.2
              · exact absurd hq.1 (fun y => List.not_lt.mpr y z)
            · rw [(pm.map (·.2)).mem_iff, ← f1]
              constructor
              · intro m
                obtain ⟨r, hr, rfl⟩ := List.mem_map.mp m
                exact List.mem_map.mpr ⟨r, sub r hr, rfl⟩
              · intro m
                obtain ⟨r, hr, rfl⟩ := List.mem_map.mp m
                exact all r hr
          have rv : VRs g.K ρ1 st'.length (upd (upd H1 b (SetTO X.prog X.w b L)) c (.lst (L'.map fun q => V.ref q.1))) ((sdG ks).map rowD) (L'.map fun q => V.ref q.1) := by
            rw [← em]
            exact vrs_rows fun p hp => Pc.tk Pb.rel _ _ (f4 p (pm.mem_iff.mp hp))
          refine k ρ1 _ c _ ((P1.trans Pb).trans Pc) upd_same (fun j m z => ?_) ((P1.trans Pb).freeB hc) rv
          obtain ⟨u, e2, _⟩ := Pb.rel.mutSome m
          rw [z, hc] at e2
          cases e2
      · cases h
    · cases h
/-- len(set(ints)) -/
def lenSetI : FQ := fun xs s => match intsD xs with
  | some ns => if ns.length < 63 then .ok (.int (sdG ns).length) s else .bad
  | none => .bad
theorem e_lenSetI (x : XG g X) (h : QV g X a t) (hg : Gl X "len" := by rfl) (hg2 : Gl X "set" := by rfl) (na : starEach [a] X.env = (false, eval a X.env) :: starEach [] X.env := by rfl)
    (nb : starEach [.Call (.Name "set" p2) [a] [] q] X.env = (false, eval (.Call (.Name "set" p2) [a] [] q) X.env) :: starEach [] X.env := by rfl) :
    EV g X (.Call (.Name "len" p) [.Call (.Name "set" p2) [a] [] q] [] pos) (eCall lenSetI t) :=
  pe_imp (pe_callB cr_lenSetO hg (x.mg "len") (by decide +kernel) (pa_cons (pe_callTy (cr_setI x.calm) hg2 (x.mg "set") (by decide +kernel) (pa_cons h pa_nil na) (by decide) (by decide) na rfl) pa_nil nb) (by decide) (by decide) nb rfl) fun σ H Q ⟨ρ, st, env, v, st', Rl, E, h, k⟩ => by
    obtain ⟨xs, s1, e1, h⟩ := R.bind_eq h
    refine ⟨ρ, st, env, xs, s1, Rl, E, e1, fun ρ1 H1 p ys P1 sq r1 => ?_⟩
    unfold lenSetI at h
    split at h
    · rename_i ns hns
      split at h
      · rename_i hz
        cases h
        have ey := intsD_vrs r1 hns
        subst ey
        rw [x.K]
        refine ⟨p, ns, rfl, sq, by omega, fun b hb => ?_⟩
        have Pb := P1.rel.tup (u := SetO X.w b (fun j => decide (j ∈ ns)) (sdG ns).length) hb
        exact ⟨b, _, _, rfl, upd_same, by have := sdG_le ns; omega, k ρ1 _ _ (P1.trans Pb) (by simp [VR])⟩
      · cases h
    · cases h
end
section
variable {env : EEnv} {st s : Store} {t : Af} {xs : List D} {ns : List Int} {ks : List (List Int)}
@[simp] theorem ev_nSortSetI : nSortSetI t env st = (t env st).bind sortSetI := rfl
@[simp] theorem ev_nSortSetR : nSortSetR t env st = (t env st).bind sortSetR := rfl
theorem intsD_ints : ∀ k : List Int, intsD (k.map D.int) = some k
  | [] => rfl
  | a :: k => by
    rw [List.map_cons]
    unfold intsD
    rw [intsD_ints k]
    rfl
theorem sortSetI_ok' (h : ns.length < 4000) (h' : (sdG ns).length < 63) : sortSetI (ns.map D.int) s = .ok ((sdG ns).map D.int) s := by
  unfold sortSetI
  rw [intsD_ints]
  exact if_pos ⟨h, h'⟩
theorem sortSetI_ok (h : ns.length < 63) : sortSetI (ns.map D.int) s = .ok ((sdG ns).map D.int) s := sortSetI_ok' (by omega) (by have := sdG_le ns; omega)
theorem sortSetR_ok (h : ks.length < 63) (h' : ks.all (fun k => !k.isEmpty) = true) : sortSetR (ks.map rowD) s = .ok ((sdG ks).map rowD) s := by
  unfold sortSetR
  rw [rowsD_rows]
  exact if_pos ⟨h, h'⟩
theorem lenSetI_ok (h : ns.length < 63) : lenSetI (ns.map D.int) s = .ok (.int (sdG ns).length) s := by
  unfold lenSetI
  rw [intsD_ints]
  exact if_pos h
end
end Ev

/-! Ev31: dict comprehensions with text or int keys; d.update(of one just made). -/
namespace L2
open PySem PySem.Spec PyProof.Rows
section
variable {J : It} {n : Nat} {G : Hp → Prop} {Y : Nat → Hp → V → Hp → Prop}
theorem dc_it (w : Walk J n G Y) {g : TG} {tt : TT} {tk tv : TE} {vs : List Nat} {σ : St} {H1 : Hp} {D : Addr} {Qd : Hp → Prop} (Pv : Nat → Hp → Prop) (h0 : Pv 0 (upd H1 D (.dK []))) (hG : ∀ i H, i ≤ n → Pv i H → G H)
    (hs : ∀ i x H H', i < n → Pv i H → Y i H x H' → g x (wipe σ vs) H' fun σ2 H2 => wipe σ2 vs = wipe σ vs ∧ tt σ2 H2 fun b H3 =>
      if b = true then tk σ2 H3 fun y H4 => tv σ2 H4 fun z H5 => ∃ kvs k, y = kV k ∧ H5 D = some (.dK kvs) ∧ kvs.length < sizeLine ∧ Pv (i + 1) (upd H5 D (.dK (putK kvs k z))) else Pv (i + 1) H3) (hd : ∀ H, Pv n H → Qd H) :
    ∃ W : Nat → Nat → Hp → Prop, (∃ m, W 0 m (upd H1 D (.dK []))) ∧ ∀ i m H, W i m H →
      (J.stop i H ∧ Qd H) ∨ (J.go i H ∧ ∃ Nx : Hp → Prop, (∀ H', Nx H' → ∃ m', m' < m ∧ W (i + 1) m' H') ∧ ∀ x H', J.yld i H x H' → g x (wipe σ vs) H' fun σ2 H2 => wipe σ2 vs = wipe σ vs ∧ tt σ2 H2 fun b H3 =>
        if b = true then tk σ2 H3 fun y H4 => tv σ2 H4 fun z H5 => ∃ kvs k, y = kV k ∧ H5 D = some (.dK kvs) ∧ kvs.length < sizeLine ∧ Nx (upd H5 D (.dK (putK kvs k z))) else Nx H3) := by
  refine ⟨fun i m H => m = n - i ∧ i ≤ n ∧ Pv i H, ⟨n, by simp, Nat.zero_le _, h0⟩, ?_⟩
  rintro i m H ⟨rfl, hi, p⟩
  have q := hG i H hi p
  by_cases hlt : i < n
  · refine .inr ⟨w.goes i H hlt q, Pv (i + 1), fun H' p' => ⟨n - (i + 1), by omega, rfl, hlt, p'⟩, fun x H' y => hs i x H H' hlt p (w.yields i H x H' hlt q y)⟩
  · have e : i = n := by omega
    subst e
    exact .inl ⟨w.stops H q, hd H p⟩
end
section
variable {X : Cx}
/-- d.update(of another dict) -/
def rUpdK : V → List V → Hp → VK → Prop := fun x xs H Q => ∃ (a b : Addr) (kvs more : List (Key × V)), x = .ref a ∧ xs = [.ref b] ∧ a ≠ b ∧ H a = some (.dK kvs) ∧ H b = some (.dK more) ∧ kvs.length + more.length ≤ sizeLine ∧ Q .non (upd H a (.dK (mergeK kvs more)))
theorem merge_kv : ∀ {more : List (Key × V)} {ms : List (Key × Value)} {kvs : List (Key × V)} {vs : List (Key × Value)}, KV more ms → KV kvs vs → KV (mergeK kvs more) (merged vs ms)
  | _, _, kvs, vs, .nil, r => r
  | _, _, kvs, vs, .cons (a := p) (b := q) h t, r => by
    obtain ⟨e, rv⟩ := h
    show KV (mergeK (putK kvs p.1 p.2) _) (merged (stored vs q.1 q.2) _)
    rw [← e]
    exact merge_kv t (r.put p.1 rv)
theorem mergeK_len : ∀ (more kvs : List (Key × V)), (mergeK kvs more).length ≤ kvs.length + more.length
  | [], kvs => Nat.le_refl _
  | p :: more, kvs => by
    have h1 := mergeK_len more (putK kvs p.1 p.2)
    have h2 := length_putK kvs p.1 p.2
    show (mergeK (putK kvs p.1 p.2) more).length ≤ kvs.length + (more.length + 1)
    omega
theorem mt_updK : MtR X "dict.update" rUpdK := by
  intro pins s σ H x xs v us Q I rx rs h
  obtain ⟨a, b, kvs, more, rfl, rfl, hab, ha, hb, hz, q⟩ := h
  cases rx
  cases rs with
  | cons r1 rs =>
    cases rs
    cases r1
    obtain ⟨z1, hd1, vs, rel1, dd1⟩ := dk_of I.hok ha
    obtain ⟨z2, hd2, ms, rel2, dd2⟩ := dk_of I.hok hb
    have l1 := rel1.length
    have l2 := rel2.length
    refine call_meetsIn PySem.F.slot_dict_update dd1.typeIs PySem.F.entry_dict_update (PySem.F.args_dict_update_2 _ _) (meets_dict_update (mixKind X.prog X.w) a b hab hd2) ?_
    refine ⟨vs, ms, dd1, dd2, by omega, fun h' d1 d2 sb => ?_⟩
    have hl := mergeK_len more kvs
    have he : ∃ q, h'.get? a = some q := let ⟨q, _, _, hq, _⟩ := d1; ⟨q, hq⟩
    exact ⟨.non, _, d_write I (t' := s.toks) (by rw [ha]; exact True.intro) sb he (dk_new (by omega) hd1 (merge_kv rel2 rel1) d1), rfl, q⟩
end
end L2
namespace Ev
open PySem L2
open PyProof.Rows hiding St
section
variable {g : Gh} {X : Cx}
/-- a dict just made, without a place -/
def tDv (g : Gh) (f : Pf) : TE := fun σ H Q => ∃ ρ st env v st', Rel g ρ st H ∧ EnvR g.K ρ st.length H env σ ∧ f env st = .ok v st' ∧
  ∀ ρ' H' p gs, Post g ρ st H ρ' st' H' → H' p = some (.dK gs) → (∀ l, mutAt st' l → ρ' l ≠ p) → H p = none → KR g.K ρ' st'.length H' v gs → Q (.ref p) H'
abbrev DV (g : Gh) (X : Cx) (e : Expr) (f : Pf) : Prop := PE X e (tDv g f)
def compD (ws : Wt) (gf : Gf) (tf : Tf) (kf vf : Ef) (env : EEnv) : List D → List (Key × D) → Store → R (List (Key × D))
  | [], acc, st => if wOk st ws = true then .ok acc st else .bad
  | d :: ds, acc, st => if wOk st ws = true then (gf d env st).bind fun e s => (tf e s).bind fun b s2 => if b = true then (kf e s2).bind fun k s3 => (vf e s3).bind fun v s4 => (match keyD k with | some kk => compD ws gf tf kf vf env ds (putD acc kk v) s4 | none => .bad) else compD ws gf tf kf vf env ds acc s2 else .bad
def dComp (vs : List Nat) (f : If) (gf : Gf) (tf : Tf) (kf vf : Ef) : Pf := fun env st => (f env st).bind fun s s1 => if s.items.length ≤ sizeLine then compD s.ws gf tf kf vf (wipeE env vs) s.items [] s1 else .bad
theorem putD_len (kvs : List (Key × D)) (k : Key) (d : D) : (putD kvs k d).length ≤ kvs.length + 1 := by
  unfold putD
  split
  · rw [List.length_map]; omega
  · rw [List.length_append]; exact Nat.le_refl _
theorem dc_of {fi : If} {ws : List Nat} {gf : Gf} {tf : Tf} {kf vf : Ef} {vs : List Nat} (hws : ∀ j ∈ ws, j ∈ vs) : ∀ σ H Q, tDv g (dComp vs fi gf tf kf vf) σ H Q → tDc (tI g fi) (tG g ws gf) (tT g tf) (tE g kf) (tE g vf) vs σ H Q :=
  fun σ H Q ⟨ρ, st, env, fin, stF, Rl, E, h, k⟩ => by
    obtain ⟨s, s1, e1, h⟩ := R.bind_eq h
    split at h
    · rename_i hz
      refine ⟨ρ, st, env, s, s1, Rl, E, e1, fun ρ1 H1 J G Y P1 W => fun Da hD => ?_⟩
      refine dc_it W.walk (fun i H' => ∃ ρ2 st2 acc gs, Post g ρ1 s1 H1 ρ2 st2 H' ∧ H' Da = some (.dK gs) ∧ (∀ l, mutAt st2 l → ρ2 l ≠ Da) ∧ KR g.K ρ2 st2.length H' acc gs ∧ acc.length ≤ i ∧
          compD s.ws gf tf kf vf (wipeE env vs) (s.items.drop i) acc st2 = .ok fin stF)
        ⟨ρ1, s1, [], [], P1.rel.tup hD, upd_same, fun l m q => ?_, rfl, Nat.le_refl _, by rw [List.drop_zero]; exact h⟩
        (fun i H' hi ⟨ρ2, st2, acc, gs, P2, hl, hn, ra, la, hc⟩ => ?_) (fun i v H' H'' hi ⟨ρ2, st2, acc, gs, P2, hl, hn, ra, la, hc⟩ y => ?_) (fun H' ⟨ρ2, st2, acc, gs, P2, hl, hn, ra, la, hc⟩ => ?_)
      · obtain ⟨u, e2, _⟩ := P1.rel.mutSome m
        rw [q, hD] at e2
        cases e2
      · refine W.stay ρ2 st2 H' P2 ?_
        cases hd : s.items.drop i with
        | nil =>
          rw [hd] at hc
          unfold compD at hc
          by_cases w : wOk st2 s.ws = true
          · exact w
          · rw [if_neg w] at hc; cases hc
        | cons d ds =>
          rw [hd] at hc
          unfold compD at hc
          by_cases w : wOk st2 s.ws = true
          · exact w
          · rw [if_neg w] at hc; cases hc
      · have hdr : s.items.drop i = s.items[i] :: s.items.drop (i + 1) := List.drop_eq_getElem_cons hi
        rw [hdr] at hc
        unfold compD at hc
        by_cases w : wOk st2 s.ws = true
        · rw [if_pos w] at hc
          obtain ⟨d, ed, P3, r3⟩ := W.gives i H' v H'' ρ2 st2 P2 w hi y
          rw [List.getElem?_eq_getElem hi] at ed
          cases ed
          obtain ⟨e4, s4, q4, hc⟩ := R.bind_eq hc
          obtain ⟨b5, s5, q5, hc⟩ := R.bind_eq hc
          have E2 : EnvR g.K ρ2 st2.length H'' env σ := P3.envr P2.rel (P2.envr P1.rel (P1.envr Rl E))
          refine ⟨ρ2, st2, wipeE env vs, _, e4, s4, P3.rel, E2.wipe vs, r3, q4, fun ρ4 H4 σ4 P4 E4 o4 => ?_⟩
          have ew : wipe σ4 vs = wipe σ vs := by
            have q := o4.wipe hws
            rw [q]
            exact (Off.wipe (ws := vs) ⟨wipe_length σ vs, fun j hj => wipe_out hj⟩ (fun _ h => h))
          refine ⟨ew, ρ4, s4, e4, b5, s5, P4.rel, E4, q5, fun ρ5 H5 P5 => ?_⟩
          have P35 := (P3.trans P4).trans P5
          have P25 := P2.trans P35
          have nn : ∀ {ρ' : Nat → Addr} {st' : Store} {H' : Hp}, Post g ρ1 s1 H1 ρ' st' H' → Post g ρ2 st2 H'' ρ' st' H' → H'' Da = some (.dK gs) → ∀ l, mutAt st' l → ρ' l ≠ Da := fun {ρ' st' H'} Pa Pb hd l m q => by
            by_cases hl' : l < st2.length
            · rw [Pb.old l hl'] at q
              exact hn l (Pb.mutB m hl') q
            · have := Pb.fresh l (Nat.le_of_not_lt hl') (mutAt_lt m)
              rw [q, hd] at this
              cases this
          have d3 : H'' Da = some (.dK gs) := P3.keep Da _ hl hn
          have d5 : H5 Da = some (.dK gs) := P35.keep Da _ hl hn
          cases b5 with
          | true =>
            rw [if_pos rfl] at hc
            obtain ⟨k6, s6, q6, hc⟩ := R.bind_eq hc
            obtain ⟨v7, s7, q7, hc⟩ := R.bind_eq hc
            split at hc
            · rename_i kk hk
              refine iteT ⟨ρ5, s5, e4, k6, s6, P5.rel, P5.envr P4.rel E4, q6, fun ρ6 H6 y6 P6 r6 => ?_⟩
              refine ⟨ρ6, s6, e4, v7, s7, P6.rel, P6.envr P5.rel (P5.envr P4.rel E4), q7, fun ρ7 H7 y7 P7 r7 => ?_⟩
              have P37 := (P35.trans P6).trans P7
              have P27 := P2.trans P37
              have d7 : H7 Da = some (.dK gs) := P37.keep Da _ hl hn
              have n7 : ∀ l, mutAt s7 l → ρ7 l ≠ Da := nn P27 ((((P4.trans P5).trans P6)).trans P7) d3
              have ey := key_vr r6 hk
              obtain ⟨P8, t8⟩ := P27.tempD (zs := putK gs kk y7) hD n7 d7
              have ra7 : KR g.K ρ7 s7.length H7 acc gs := ra.mono P37.old P37.len (P37.tk P2.rel)
              refine ⟨gs, kk, ey, d7, ?_, ρ7, s7, putD acc kk v7, putK gs kk y7, P8, upd_same, n7, ?_, ?_, hc⟩
              · rw [ra.length]
                omega
              · exact (ra7.put r7).mono (fun _ _ => rfl) (Nat.le_refl _) t8
              · have := putD_len acc kk v7; omega
            · cases hc
          | false =>
            rw [if_neg Bool.false_ne_true] at hc
            refine iteF ⟨ρ5, s5, acc, gs, P25, d5, nn P25 (P4.trans P5) d3, ra.mono P35.old P35.len (P35.tk P2.rel), Nat.le_succ_of_le la, hc⟩
        · rw [if_neg w] at hc; cases hc
      · rw [List.drop_of_length_le (Nat.le_refl _)] at hc
        unfold compD at hc
        by_cases w : wOk st2 s.ws = true
        · rw [if_pos w] at hc
          cases hc
          exact k ρ2 H' Da gs (P1.trans P2) hl hn (P1.freeB hD) ra
        · rw [if_neg w] at hc; cases hc
    · cases h
variable {kx vx tg iter : Expr} {ifs : List Expr} {scope : Scope} {own : List (Str × Nat)} {fi : If} {ws : List Nat} {gf : Gf} {tf : Tf} {kf vf : Ef} {pos apos cpos : Pos} {o e : Expr} {fo : Ef} {t : Pf}
theorem d_comp (x : XG g X) (own : List (Str × Nat)) (hi : IV g X tg iter fi) (ok : BlkOk X.N X.env.scope scope own)
    (hg : ∀ (s : Shared) (H : Hp) (C : Addr) (cl : List (Str × Addr)) (fp : List Addr), GV g (X.blk s H scope (compEnvC scope cl C X.env) fp) tg ws gf) (ht : ∀ (s : Shared) (H : Hp) (C : Addr) (cl : List (Str × Addr)) (fp : List Addr), Ptf g (X.blk s H scope (compEnvC scope cl C X.env) fp) ifs tf)
    (hk : ∀ (s : Shared) (H : Hp) (C : Addr) (cl : List (Str × Addr)) (fp : List Addr), EV g (X.blk s H scope (compEnvC scope cl C X.env) fp) kx kf)
    (he : ∀ (s : Shared) (H : Hp) (C : Addr) (cl : List (Str × Addr)) (fp : List Addr), EV g (X.blk s H scope (compEnvC scope cl C X.env) fp) vx vf) (hws : ∀ j ∈ ws, j ∈ own.map (·.2) := by decide) (hs : ∀ x, foldedSetIterable iter X.env x = pure x := by intro _; rfl) :
    DV g X (.DictComp kx vx [⟨tg, iter, ifs, 0⟩] scope pos) (dComp (own.map (·.2)) fi gf tf kf vf) := pe_imp (pe_dc x.calm x.nd hi ok hg ht hk he hs) (dc_of hws)
def eDNew (t : Pf) : Ef := fun env st => (t env st).bind fun kvs s => .ok (.loc s.length) (s ++ [.dic kvs])
theorem e_dnew (h : DV g X e t) : EV g X e (eDNew t) := pe_imp h fun σ H Q ⟨ρ, st, env, v, st', Rl, E, h, k⟩ => by
  obtain ⟨kvs, s1, e1, h⟩ := R.bind_eq h
  cases h
  refine ⟨ρ, st, env, kvs, s1, Rl, E, e1, fun ρ1 H1 p gs P1 hl hn hp r1 => ?_⟩
  have P2 := P1.named (o := .dic kvs) hn hp ⟨gs, hl, r1⟩
  refine k _ H1 _ P2 ?_
  unfold VR
  exact ⟨by simp, by rw [nxt_same]⟩
/-- d.update(a dict just made) -/
def updF (d : D) (more : List (Key × D)) (s : Store) : R D := match d with
  | .loc l => match s[l]? with
    | some (.dic kvs) => if kvs.length + more.length ≤ sizeLine then .ok .non (s.set l (.dic (mergeD kvs more))) else .bad
    | _ => .bad
  | _ => .bad
def isDic (d : D) (s : Store) : Bool := match d with
  | .loc l => match s[l]? with
    | some (.dic _) => true
    | _ => false
  | _ => false
def eUpd (fo : Ef) (t : Pf) : Ef := fun env st => (fo env st).bind fun d s1 => if isDic d s1 = true then (t env s1).bind fun more s2 => updF d more s2 else .bad
theorem e_upd (x : XG g X) (ho : EV g X o fo) (ha : DV g X e t) (hbase : attributeBase o "update" X.env (eval o X.env) = eval o X.env := by rfl)
    (hfew : ((backTo cpos (starEach [e] X.env)).all (fun x => !x.1) && (backToKw cpos (keywordEach [] X.env)).all (fun x => x.1.isSome) && decide ([e].length + ([] : List Keyword).length + (if ([] : List Keyword).isEmpty then 0 else 1) < 30)) = true := by rfl)
    (hline : (apos.endLine == cpos.line) = true := by rfl) (hs : starEach [e] X.env = (false, eval e X.env) :: starEach [] X.env := by rfl) :
    EV g X (.Call (.Attribute o "update" apos) [e] [] cpos) (eUpd fo t) :=
  pe_imp (pe_bm PySem.F.plainAttrs_dict PySem.F.slot_dict_update PySem.F.type_dict_update mt_updK ho (pa_cons ha pa_nil hs) hbase hfew hline hs rfl) fun σ H Q ⟨ρ, st, env, v, st', Rl, E, h, k⟩ => by
    obtain ⟨d, s1, e1, h⟩ := R.bind_eq h
    split at h
    · rename_i hd
      obtain ⟨more, s2, e2, h⟩ := R.bind_eq h
      refine ⟨ρ, st, env, d, s1, Rl, E, e1, fun ρ1 H1 y P1 r1 => ?_⟩
      cases d with
      | loc l =>
        unfold VR at r1
        obtain ⟨hl, rfl⟩ := r1
        have tyk : ∃ gs, H1 (ρ1 l) = some (.dK gs) := by
          unfold isDic at hd
          cases q : s1[l]? with
          | none => simp [q] at hd
          | some oo =>
            cases oo with
            | dic kvs =>
              obtain ⟨gs, q1, _⟩ := P1.rel.obj l _ q
              exact ⟨gs, q1⟩
            | _ => simp [q] at hd
        obtain ⟨gs0, hgs0⟩ := tyk
        refine ⟨.inr (.inr (.inl ⟨rfl, .inl ⟨gs0, hgs0⟩⟩)), ρ1, s1, env, more, s2, P1.rel, P1.envr Rl E, e2, fun ρ2 H2 p ms P2 hm hn hp rm => ?_⟩
        unfold updF at h
        simp only at h
        split at h
        · rename_i kvs q
          split at h
          · rename_i hz
            cases h
            have hl2 : l < s2.length := lt_of_get q
            have old := P2.old l hl
            obtain ⟨gs, q1, rk⟩ := P2.rel.obj l _ q
            rw [old] at q1
            have ne : ρ1 l ≠ p := by
              rw [← old]
              exact hn l ⟨_, q, rfl⟩
            refine ⟨ρ1 l, p, gs, ms, rfl, rfl, ne, q1, hm, by rw [rk.length, rm.length]; exact hz, ?_⟩
            have Ps := P2.rel.set (o' := O.dic (mergeD kvs more)) (u := HO.dK (mergeK gs ms)) q rfl rfl ⟨mergeK gs ms, upd_same, ?_⟩
            · rw [old] at Ps
              exact k ρ2 _ _ ((P1.trans P2).trans Ps) (by simp [VR])
            · have t : TK g.K H2 (upd H2 (ρ2 l) (.dK (mergeK gs ms))) := TK.of fun b o e nm => by
                rw [upd_ne]
                · exact e
                · intro w
                  subst w
                  rw [old, q1] at e
                  cases e
                  exact nm trivial
              exact KR.mono (fun _ _ => rfl) (Nat.le_refl _) t (KR.merge rm rk)
          · cases h
        · cases h
      | _ => simp [isDic] at hd
    · cases h
end
end Ev

/-! Ev32: dict comprehensions whose keys are rows of ints: sorted, or made and not looked at. -/
set_option pp.maxSteps 200
namespace L2
open PySem PySem.Spec PyProof.Rows
/-- the dict at a: its keys and their tuples -/
def DR0 (P : Program) (w : World) (h : Heap) (a : Addr) (L : List (List Int × Addr)) : Prop := L.length ≤ sizeLine ∧ (a == sysModules) = false ∧ ∃ xs : List (List Int × Addr × Value), xs.map (fun x => (x.1, x.2.1)) = L ∧
  ∃ o es ep, h.get? a = some o ∧ o.ExactDict ∧ o.data = .dict es ep ∧ es.toList = xs.map (entryOfKey (tupleKind (intKind P w))) ∧ (xs.map (·.1)).Nodup
def DRO (P : Program) (w : World) (a : Addr) (L : List (List Int × Addr)) : HO := .ext fun h => DR0 P w h a L
theorem dro_new {P : Program} {w : World} {H : Hp} {h : Heap} {a : Addr} {L : List (List Int × Addr)} (R : DR0 P w h a L) : ObjOk P w H h a (DRO P w a L) := by
  have ⟨_, _, xs, _, o, es, ep, ho, _⟩ := R
  refine ⟨R, ⟨o, ho⟩, fun h1 h2 p k => ?_⟩
  have ⟨z, m, xs', e, o', es', ep', ho', r'⟩ := (show DR0 P w h1 a L from p)
  exact ⟨z, m, xs', e, o', es', ep', k o' ho', r'⟩
theorem dr_empty {P : Program} {w : World} {H : Hp} (h : Heap) (hb : sysModules < h.objs.size) : ObjOk P w H (h.push { cls := .type "dict", data := .dict #[] }) h.objs.size (DRO P w h.objs.size []) := by
  obtain ⟨o, es, ep, h1, h2, h3, h4, _, h5⟩ := Heap.DictOfH.new (knd := tupleKind (intKind P w)) h
  exact dro_new ⟨Nat.zero_le _, beq_eq_false_iff_ne.mpr (Nat.ne_of_gt hb), [], rfl, o, es, ep, h1, h2, h3, h4, h5⟩
def putR (L : List (List Int × Addr)) (k : List Int) (b : Addr) : List (List Int × Addr) := if k ∈ L.map (·.1) then L else L ++ [(k, b)]
theorem putR_len (L : List (List Int × Addr)) (k : List Int) (b : Addr) : (putR L k b).length ≤ L.length + 1 := by
  unfold putR
  split
  · omega
  · rw [List.length_append]; exact Nat.le_refl _
section
variable {X : Cx} {pins : List (Addr × Obj)} {σ : St} {H : Hp} {s : Shared}
theorem dro_full (I : Inv X pins σ H s) {a : Addr} {L : List (List Int × Addr)} (ha : H a = some (DRO X.prog X.w a L)) (all : ∀ p ∈ L, SqT X.K H p.2 (p.1.map V.int)) :
    L.length ≤ sizeLine ∧ (a == sysModules) = false ∧ ∃ xs : List (List Int × Addr × Value), xs.map (fun x => (x.1, x.2.1)) = L ∧ s.heap.DictOfH (tupleKind (intKind X.prog X.w)) a xs := by
  obtain ⟨z, m, xs, e, o, es, ep, h1, h2, h3, h4, h5⟩ := (show DR0 X.prog X.w s.heap a L from (I.hok a _ ha).1)
  refine ⟨z, m, xs, e, o, es, ep, h1, h2, h3, h4, fun x hx => ?_, h5⟩
  have mx : (x.1, x.2.1) ∈ L := by rw [← e]; exact List.mem_map.mpr ⟨x, hx, rfl⟩
  exact I.isT (all _ mx)
theorem stored_keys (xs : List (List Int × Addr × Value)) (k : List Int) (b : Addr) (v : Value) : (storedH xs k b v).map (fun x => (x.1, x.2.1)) = putR (xs.map fun x => (x.1, x.2.1)) k b := by
  have e1 : (xs.map fun x => (x.1, x.2.1)).map (·.1) = xs.map (·.1) := by rw [List.map_map]; rfl
  unfold putR
  rw [e1]
  unfold storedH
  by_cases h : k ∈ xs.map (·.1)
  · have hs : (atKey xs k).isSome = true := by
      cases q : atKey xs k with
      | some p => rfl
      | none =>
        unfold atKey at q
        rw [Option.map_eq_none_iff, List.find?_eq_none] at q
        obtain ⟨x, hx, hk⟩ := List.mem_map.mp h
        exact absurd (decide_eq_true hk) (q x hx)
    rw [if_pos hs, if_pos h, List.map_map]
    apply List.map_congr_left
    intro x _
    simp only [Function.comp, putAt]
    split <;> rfl
  · have hs : ¬ (atKey xs k).isSome = true := by
      cases q : atKey xs k with
      | none => simp
      | some p =>
        refine absurd ?_ h
        unfold atKey at q
        rw [Option.map_eq_some_iff] at q
        obtain ⟨x, q1, _⟩ := q
        have q2 := List.find?_some q1
        exact List.mem_map.mpr ⟨x, List.mem_of_find?_eq_some q1, by simpa using q2⟩
    rw [if_neg hs, if_neg h, List.map_append]
    rfl
theorem dr_dictSet {E : Value → Shared → Prop} {D b : Addr} {L : List (List Int × Addr)} {k : List Int} {u r : Value} {Q : Unit → Shared → Prop} (I : Inv X pins σ H s) (hu : X.A.units < cLine) (hD : H D = some (DRO X.prog X.w D L)) (sq : SqT X.K H b (k.map V.int))
    (all : ∀ p ∈ L, SqT X.K H p.2 (p.1.map V.int)) (hz : L.length < sizeLine) (ry : RelV (V.ref b) u) (h : ∀ s', Inv X pins σ (upd H D (DRO X.prog X.w D (putR L k b))) s' → Q () s') : wpAny (model X.prog X.w) X.A (dictSet D u r) Q E s := by
  cases ry
  obtain ⟨z, m, xs, e, dd⟩ := dro_full I hD all
  have hl : xs.length = L.length := by rw [← e, List.length_map]
  refine wpAny_dictSet_heap (knd := tupleKind (intKind X.prog X.w)) hu (I.isT sq) dd (fun h' dd' hs => h _ ?_) (by omega)
  have he : ∃ q, h'.get? D = some q := let ⟨q, _, _, hq, _⟩ := dd'; ⟨q, hq⟩
  refine d_write I (by rw [hD]; exact True.intro) hs he (dro_new ?_)
  obtain ⟨o, es, ep, h1, h2, h3, h4, _, h5⟩ := dd'
  have := putR_len L k b
  exact ⟨by omega, m, _, by rw [stored_keys, e], o, es, ep, h1, h2, h3, h4, h5⟩
/-- {row: v for target in iter if ..} -/
def tDcR (K : PySem.W.Frag) (P : Program) (w : World) (wi : TI) (g : TG) (tt : TT) (tk tv : TE) (vs : List Nat) : TE := fun σ H Q => wi σ H fun J H1 => ∀ D, H1 D = none → ∃ W : Nat → Nat → Hp → Prop, (∃ m, W 0 m (upd H1 D (DRO P w D []))) ∧ ∀ i m H, W i m H →
  (J.stop i H ∧ Q (.ref D) H) ∨ (J.go i H ∧ ∃ Nx : Hp → Prop, (∀ H', Nx H' → ∃ m', m' < m ∧ W (i + 1) m' H') ∧ ∀ x H', J.yld i H x H' → g x (wipe σ vs) H' fun σ2 H2 => wipe σ2 vs = wipe σ vs ∧ tt σ2 H2 fun b H3 =>
    if b = true then tk σ2 H3 fun y H4 => tv σ2 H4 fun z H5 => ∃ L k b, y = V.ref b ∧ SqT K H5 b (k.map V.int) ∧ H5 D = some (DRO P w D L) ∧ (∀ p ∈ L, SqT K H5 p.2 (p.1.map V.int)) ∧ L.length < sizeLine ∧ Nx (upd H5 D (DRO P w D (putR L k b))) else Nx H3)
end
section
variable {X : Cx}
theorem dr_core {pins : List (Addr × Obj)} {s : Shared} {σ : St} {H : Hp} {Q : VK} {kx vx tg iter : Expr} {ifs : List Expr} {scope : Scope} {own : List (Str × Nat)} {pos pos' : Pos} {wi : TI} {g : TG} {tt : TT} {tk tv : TE} {use : Option (Value → Sem Unit)} {Qf : Value → Shared → Prop}
    (hc : X.calm = true) (hu : X.A.units < cLine) (hN : X.N.Nodup) (I : Inv X pins σ H s) (hi : PI X tg iter wi) (ok : BlkOk X.N X.env.scope scope own)
    (hg : ∀ (s : Shared) (H : Hp) (C : Addr) (cl : List (Str × Addr)) (fp : List Addr), PG (X.blk s H scope (compEnvC scope cl C X.env) fp) tg g) (ht : ∀ (s : Shared) (H : Hp) (C : Addr) (cl : List (Str × Addr)) (fp : List Addr), PTs (X.blk s H scope (compEnvC scope cl C X.env) fp) ifs tt)
    (hk : ∀ (s : Shared) (H : Hp) (C : Addr) (cl : List (Str × Addr)) (fp : List Addr), PE (X.blk s H scope (compEnvC scope cl C X.env) fp) kx tk)
    (he : ∀ (s : Shared) (H : Hp) (C : Addr) (cl : List (Str × Addr)) (fp : List Addr), PE (X.blk s H scope (compEnvC scope cl C X.env) fp) vx tv) (hs : ∀ x, foldedSetIterable iter X.env x = pure x)
    (h : tDcR X.K X.prog X.w wi g tt tk tv (own.map (·.2)) σ H Q)
    (hRR : ∀ D C s' m H', Inv X pins σ H' s' → Q (.ref D) H' → s'.heap.Ns C m → FpOk X pins H' C → compPost (model X.prog X.w) X.A X.xe use Qf (.ref D) C (.ok .next) s') :
    wpAny (model X.prog X.w) X.A (comprehension (.DictComp kx vx [⟨tg, iter, ifs, 0⟩] scope pos) scope X.env pos' newDict false (eval iter X.env) use) Qf X.xe s := by
  have hfree : ∀ y ∈ scope.names, y.2 = .free → ∃ c, X.env.cells.lookup y.1 = some c := fun y hy e => by
    rcases ok.free y hy e with k | k
    · exact I.ok.has _ (.inl k)
    · exact I.ok.has _ (.inr k)
  refine wpAny_comprehension_free (use := use) rfl hs (closure_ok hfree) ok.kind (fun y hy e => by rw [ok.uniq y hy, e])
    (thn (hi.run pins s σ H _ I h) fun xv s1 hx => thn hx fun itv s2 h2 => ?_)
  obtain ⟨it, fp, tn, J, H2, e, I2, T, st2, f2, q⟩ := h2
  subst e
  refine wpAny_newObj_type (newEnv_comp ?_)
  generalize hD : s2.heap.objs.size = D
  have hDn : H2 D = none := I2.hok.fresh (Nat.le_of_eq hD)
  obtain ⟨W, ⟨m0, w0⟩, turn⟩ := q D hDn
  -- the new list
  generalize hs3 : ({ s2 with heap := s2.heap.push { cls := .type "dict", data := .dict #[] } } : Shared) = s3
  have I3 : Inv X pins σ (upd H2 D (DRO X.prog X.w D [])) s3 := by
    rw [← hs3]
    refine I2.laid (t' := s2.toks) (fun b o e => Heap.get?_push_of_some _ e) (Nat.le_of_eq hD) ?_
    rw [← hD]
    exact dr_empty s2.heap I2.big
  have h3 : s3.heap = s2.heap.push { cls := .type "dict", data := .dict #[] } := by rw [← hs3]
  have sz : ∀ b ∈ fp, b < s2.heap.objs.size := fun b hb => by
    obtain ⟨o, e, _⟩ := T.obj _ _ st2 b hb
    exact Heap.lt_size e
  have f3 : ∀ b ∈ fp, FpOk X pins (upd H2 D (DRO X.prog X.w D [])) b ∧ b < s3.heap.objs.size := fun b hb => by
    have hlt := sz b hb
    refine ⟨⟨?_, (f2 b hb).2⟩, by rw [h3, Heap.size_push]; exact Nat.lt_succ_of_lt hlt⟩
    rw [upd_ne (by rw [← hD]; exact Nat.ne_of_lt hlt)]
    exact (f2 b hb).1
  have st3 : tn 0 s3.heap := T.keep _ _ _ st2 fun b _ o e => by rw [h3]; exact Heap.get?_push_of_some _ e
  have I4 := block_start I3 ok hN f3
  have pg := hg s3 (upd H2 D (DRO X.prog X.w D [])) s3.heap.objs.size (cellsFrom (s3.heap.objs.size + 1) scope.names (cloFrom X.env.cells scope.names [])) fp
  have pt := ht s3 (upd H2 D (DRO X.prog X.w D [])) s3.heap.objs.size (cellsFrom (s3.heap.objs.size + 1) scope.names (cloFrom X.env.cells scope.names [])) fp
  have pk := hk s3 (upd H2 D (DRO X.prog X.w D [])) s3.heap.objs.size (cellsFrom (s3.heap.objs.size + 1) scope.names (cloFrom X.env.cells scope.names [])) fp
  have pe := he s3 (upd H2 D (DRO X.prog X.w D [])) s3.heap.objs.size (cellsFrom (s3.heap.objs.size + 1) scope.names (cloFrom X.env.cells scope.names [])) fp
  show codeAny _ _ (.compStart (.DictComp kx vx [⟨tg, iter, ifs, 0⟩] scope pos) 0 (.ref it) (.ref D) (compEnvC scope (cellsFrom (s3.heap.objs.size + 1) scope.names (cloFrom X.env.cells scope.names [])) s3.heap.objs.size X.env)) (compPost (model X.prog X.w) X.A X.xe use Qf (.ref D) s3.heap.objs.size) { s3 with heap := pushCells (s3.heap.push { cls := .type "dict", data := .dict #[] }) scope.names }
  have nfp : ∀ b ∈ fp, (upd H2 D (DRO X.prog X.w D [])) b = none := fun b hb => (f3 b hb).1.1
  generalize hce : compEnvC scope (cellsFrom (s3.heap.objs.size + 1) scope.names (cloFrom X.env.cells scope.names [])) s3.heap.objs.size X.env = ce at I4 pg pt pk pe ⊢
  have cL : ce.locals = s3.heap.objs.size := by subst hce; rfl
  generalize hH3 : upd H2 D (DRO X.prog X.w D []) = H3 at I3 I4 pg pt pk pe w0 nfp f3
  generalize hs4 : ({ s3 with heap := pushCells (s3.heap.push { cls := .type "dict", data := .dict #[] }) scope.names } : Shared) = s4 at I4 ⊢
  have st4 : tn 0 s4.heap := T.keep _ _ _ st3 fun b _ o e => by rw [← hs4]; exact pushCells_keeps _ _ _ _ (Heap.get?_push_of_some _ e)
  have stat : ∀ {σ' : St} {H' : Hp} {s' : Shared}, Inv (X.blk s3 H3 scope ce fp) [] σ' H' s' → (∀ b ∈ fp, H' b = none) → ∀ b ∈ fp, FpOk (X.blk s3 H3 scope ce fp) [] H' b := fun {σ' H' s'} I' hn b hb =>
    ⟨hn b hb, (I'.ok.exf b hb).1, I'.ok.exfs b hb, .inl hb, fun x c e => (I'.ok.exf b hb).2 x c e, fun p hp => absurd (show p ∈ ([] : List (Addr × Obj)) ++ [] from hp) (by simp)⟩
  have loop : codeAny (model X.prog X.w) X.A (.compLoop (.DictComp kx vx [⟨tg, iter, ifs, 0⟩] scope pos) 0 (.ref it) (.ref D) ce) (compPost (model X.prog X.w) X.A X.xe use Qf (.ref D) s3.heap.objs.size) s4 := by
    refine compLoop_anyD (fun n s' => ∃ i H', Inv (X.blk s3 H3 scope ce fp) [] (wipe σ (own.map (·.2))) H' s' ∧ tn i s'.heap ∧ (∀ b ∈ fp, H' b = none) ∧ W i n H') ?_ m0 ⟨0, H3, I4, st4, nfp, w0⟩
    rintro n s5 ⟨i, H5, I5, st5, n5, w5⟩
    rcases turn i n H5 w5 with ⟨stop, qq⟩ | ⟨go, Nx, hNx, step⟩
    · have td := T.done (X.blk s3 H3 scope ce fp) rfl rfl rfl hc i [] s5 _ H5 (fun _ _ => False) I5 (stat I5 n5) st5 stop
      refine thnF td fun r s6 ⟨hr, I6⟩ => ?_
      subst hr
      -- back in the def's context
      have I7 : Inv X pins σ H5 s6 := I3.call' (ch := fp) I6.os I6.base I6.hok I6.bare fun b hb => ⟨(f3 b hb).1.2.2.2.1, (f3 b hb).1.2.1, (f3 b hb).1.2.2.2.2.1, (f3 b hb).1.2.2.2.2.2⟩
      have nC : H5 s3.heap.objs.size = none := by
        have z : H5 ce.locals = none := I6.free
        rw [cL] at z
        exact z
      obtain ⟨m, hn, _⟩ := I6.loc
      have hn : s6.heap.Ns ce.locals m := hn
      rw [cL] at hn
      exact hRR D s3.heap.objs.size s6 m H5 I7 qq hn (I3.fpOk (Nat.le_refl _) nC)
    · have ti := T.item (X.blk s3 H3 scope ce fp) rfl rfl rfl hc i [] s5 _ H5 (fun _ _ => False) I5 (stat I5 n5) st5 go
      refine thnF ti fun r s6 ⟨u, hr, h6⟩ => ?_
      subst hr
      refine thnF h6 fun _ s7 ⟨x, H7, I7, r7, y7, st7, n7⟩ => ?_
      have I7' := I7.pinned (stat I7 n7) (T.obj _ _ st7)
      refine thnF (pg.run _ s7 _ H7 x u _ I7' r7 (step x H7 y7)) fun _ s8 ⟨σ8, H8, I8, hw8, q8⟩ => ?_
      refine thnF (pt.run _ s8 σ8 H8 _ I8 q8) fun b s9 ⟨H9, I9, q9⟩ => ?_
      -- the turn's end
      have fin : ∀ {s' : Shared} {H' : Hp}, Inv (X.blk s3 H3 scope ce fp) ([] ++ pinsAt fp s7.heap) σ8 H' s' → Nx H' → ∃ m, m < n ∧ ∃ i H', Inv (X.blk s3 H3 scope ce fp) [] (wipe σ (own.map (·.2))) H' s' ∧ tn i s'.heap ∧ (∀ b ∈ fp, H' b = none) ∧ W i m H' := fun {s' H'} I' nx => by
        obtain ⟨m', hm, w'⟩ := hNx H' nx
        have pin' : ∀ b ∈ fp, ∀ o, s7.heap.get? b = some o → s'.heap.get? b = some o ∧ H' b = none := fun b hb o e =>
          let z := I'.pin (b, o) (List.mem_append_right _ (List.mem_append_right _ (mem_pinsAt hb e)))
          ⟨z.1, z.2.1⟩
        have hl : (wipe σ (own.map (·.2))).length = σ8.length := by rw [← hw8, wipe_length]
        refine ⟨m', hm, i + 1, H', (I'.unpinned (pins := [])).weak hl (fun j v e => ?_), T.keep _ _ _ st7 fun b hb o e => (pin' b hb o e).1, fun b hb => ?_, w'⟩
        · rw [← hw8] at e
          exact (wipe_some e).1
        · obtain ⟨o, e, _⟩ := T.obj _ _ st7 b hb
          exact (pin' b hb o e).2
      cases b with
      | false =>
        simp only [Bool.false_eq_true, if_false] at q9 ⊢
        exact fin I9 q9
      | true =>
        simp only [if_true] at q9 ⊢
        refine thnF (pk.run _ s9 σ8 H9 _ I9 q9) fun z s10 ⟨yk, H10, I10, r10, q10⟩ => ?_
        refine thnF (pe.run _ s10 σ8 H10 _ I10 q10) fun z2 s11 ⟨yv, H11, I11, r11, L, k, b, ek, sq11, hD11, all11, hz11, nx⟩ => ?_
        subst ek
        exact dr_dictSet (X := X.blk s3 H3 scope ce fp) I11 hu hD11 sq11 all11 hz11 r10 fun s12 I12 => fin I12 nx
  exact codeAny_compStart_dict loop (T.self X.A 0 _ _ _ st4 loop)
theorem pe_dr {kx vx tg iter : Expr} {ifs : List Expr} {scope : Scope} {own : List (Str × Nat)} {pos : Pos} {wi : TI} {g : TG} {tt : TT} {tk tv : TE} (hc : X.calm = true) (hu : X.A.units < cLine) (hN : X.N.Nodup) (hi : PI X tg iter wi) (ok : BlkOk X.N X.env.scope scope own)
    (hg : ∀ (s : Shared) (H : Hp) (C : Addr) (cl : List (Str × Addr)) (fp : List Addr), PG (X.blk s H scope (compEnvC scope cl C X.env) fp) tg g) (ht : ∀ (s : Shared) (H : Hp) (C : Addr) (cl : List (Str × Addr)) (fp : List Addr), PTs (X.blk s H scope (compEnvC scope cl C X.env) fp) ifs tt)
    (hk : ∀ (s : Shared) (H : Hp) (C : Addr) (cl : List (Str × Addr)) (fp : List Addr), PE (X.blk s H scope (compEnvC scope cl C X.env) fp) kx tk)
    (he : ∀ (s : Shared) (H : Hp) (C : Addr) (cl : List (Str × Addr)) (fp : List Addr), PE (X.blk s H scope (compEnvC scope cl C X.env) fp) vx tv) (hs : ∀ x, foldedSetIterable iter X.env x = pure x := by intro _; rfl) :
    PE X (.DictComp kx vx [⟨tg, iter, ifs, 0⟩] scope pos) (tDcR X.K X.prog X.w wi g tt tk tv (own.map (·.2))) := by
  refine ⟨fun pins s σ H Q I h => ?_⟩
  rw [arm_eval_DictComp]
  refine dr_core hc hu hN I hi ok hg ht hk he hs h fun D C s' m H' I' q hn f => ⟨m, hn, fun h'' sb => ?_⟩
  obtain ⟨f0, f1, f2, f3, f4, f5⟩ := f
  exact ⟨.ref D, H', I'.turned (t' := s'.toks) (fun b o hb e => (sb.2 b hb).trans e) f0 f1 f3 f4 f5, rfl, q⟩

end
end L2

/-! Ev33: the layer's words for dicts whose keys are rows of ints. -/
namespace L2
open PySem PySem.Spec PyProof.Rows
section
variable {X : Cx}
/-- sorted(a dict with row keys) -/
def rSortedDR (K : PySem.W.Frag) (P : Program) (w : World) : List V → Hp → VK → Prop := fun vs H Q => ∃ (a : Addr) (L : List (List Int × Addr)), vs = [V.ref a] ∧ H a = some (DRO P w a L) ∧ (∀ p ∈ L, SqT K H p.2 (p.1.map V.int)) ∧ (∀ p ∈ L, p.1 ≠ []) ∧ L.length < 64 ∧
  ∀ (L' : List (Addr × List Int)) (p : Addr), L'.Perm (L.map fun p => (p.2, p.1)) → L'.Pairwise (fun q r => q.2 ≤ r.2) → H p = none → Q (.ref p) (upd H p (.lst (L'.map fun q => V.ref q.1)))
theorem cr_sortedDR (hc : X.calm = true) (hu : X.A.units + 10 < cLine) : CallR X (.builtin "sorted") (rSortedDR X.K X.prog X.w) := by
  intro pins s σ H vs us Q I r h
  obtain ⟨a, L, rfl, ha, hk, hne, h64, q⟩ := h
  rw [Vals.ref1 r]
  obtain ⟨z, lo, xs, eL, o, es, ep, ho, hx, hd, he, his, hn⟩ := dro_full I ha hk
  have hl : xs.length = L.length := by rw [← eL, List.length_map]
  have l1 : es.size = xs.length := size_of_entries he
  refine Calls.call_function_entry PyProof.Rows.kind_sorted PyProof.Rows.plain_sorted PyProof.Rows.entry_sorted (PyProof.Rows.args_sorted1 _) ?_
  unfold Builtin.«sorted»
  refine wpAny_bind (m := checkCount "sorted" 1 1 _) (wpAny_pure ?_)
  refine wpAny_bind (PySem.W.kdu_collect (A := X.A.in1) (kdl_raw lo hx hd) (I.ok.hd hc) ho (by omega) fun h' tk acc hkp it => ?_)
  generalize hM : L.map (fun p => (p.2, p.1)) = M at q
  have lM : M.length = L.length := by rw [← hM, List.length_map]
  have ea : acc.toList = M.map fun p => Value.ref p.1 := by
    have hl2 : acc.toList.length = xs.length := by rw [Array.length_toList, it.1]; exact l1
    have e3 : (M.map fun p => Value.ref p.1) = xs.map fun x => Value.ref x.2.1 := by
      rw [← hM, ← eL, List.map_map, List.map_map]
      rfl
    rw [e3]
    apply List.ext_getElem?
    intro j
    rw [List.getElem?_map]
    cases hj : acc.toList[j]? with
    | none =>
      have h1 := List.getElem?_eq_none_iff.mp hj
      rw [List.getElem?_eq_none (by omega)]
      rfl
    | some v =>
      obtain ⟨en, hen, hv⟩ := it.2 j v (by rw [← Array.getElem?_toList]; exact hj)
      have qe := entry_at he j
      rw [hen] at qe
      cases hb : xs[j]? with
      | none =>
        rw [hb] at qe
        exact nomatch (show some en = none from qe)
      | some b =>
        rw [hb] at qe
        have e2 : en = entryOfKey (tupleKind (intKind X.prog X.w)) b := Option.some.inj qe
        rw [hv, e2]
        rfl
  have I1 : Inv X pins σ H { s with heap := h', toks := tk } := I.kept hkp
  refine wpAny_bind (wpAny_newList ?_ (by rw [ea, List.length_map, lM, sizeLine_eq]; omega))
  have hoL : (h'.push (seqObj "list" acc.toList.toArray 0)).get? h'.objs.size = some (seqObj "list" acc.toList.toArray 0) := Heap.get?_push_size _ rfl
  show wpAny _ _ _ _ _ { s with heap := h'.push (seqObj "list" acc.toList.toArray 0), toks := tk }
  have mem : ∀ p ∈ M, SqT X.K H p.1 (p.2.map V.int) ∧ p.2 ≠ [] := fun p hp => by
    rw [← hM] at hp
    obtain ⟨r, hr, rfl⟩ := List.mem_map.mp hp
    exact ⟨hk r hr, hne r hr⟩
  have e0 : PySem.W.EachIs (fun v (q : Addr × List Int) => v = Value.ref q.1) acc.toList M := by
    rw [ea]
    exact each_refs M
  have er : PySem.W.EachIs (fun v (q : Addr × List Int) => ∃ as, Reads (h'.push (seqObj "list" acc.toList.toArray 0)) v (PyData.tuple (q.2.map .int)) as ∧ h'.objs.size ∉ as) acc.toList M := by
    rw [ea]
    refine each_refsM M fun q hq => ⟨[], ?_, by simp⟩
    exact reads_isT (P := X.prog) (w := X.w) (isT_keep (I1.isT (mem q hq).1) fun b u e => Heap.get?_push_of_some _ e)
  refine wpAny_bind (wpAny_holding (PySem.W.list_sort_data (s := { s with heap := h'.push (seqObj "list" acc.toList.toArray 0), toks := tk }) (bs := M) (enc := fun q => PyData.tuple (q.2.map .int)) (R := fun v q => v = Value.ref q.1) hoL e0 er
    (PySem.W.AllAlike.of fun b b' => by simp only [PySem.W.alike]; exact PySem.W.alike_ints _ _)
    (.inl fun d hd => by
      obtain ⟨q, hq, rfl⟩ := List.mem_map.mp hd
      cases e : q.2 with
      | nil => exact absurd e (mem q hq).2
      | cons x r => exact ⟨_, _, rfl⟩)
    (by rw [lM, sizeLine_eq]; omega)
    (fun b _ => by
      have e1 : (PyData.tuple (b.2.map .int)).depth ≤ 1 := by
        simp only [PyData.depth]
        rw [PySem.W.depth_ints]
        omega
      have e2 : X.A.in1.units ≤ X.A.units + 3 := by first | exact Nat.le_refl _ | (simp [Around.in1]; omega) | simp [Around.units, Around.in1]
      omega)
    fun out hol eo => ?_))
  obtain ⟨c, hcc⟩ := PyProof.Rows.sortedHeap_at (vs := acc.toList) (out := out.toArray) hoL
  have eo' := refs_each eo
  have pm : (M.mergeSort (PySem.W.dataLe false fun q : Addr × List Int => PyData.tuple (q.2.map .int))).Perm M := List.mergeSort_perm _ _
  have pw := sorted_rows M
  generalize hN : M.mergeSort (PySem.W.dataLe false fun q : Addr × List Int => PyData.tuple (q.2.map .int)) = N at eo' pm pw
  have lN : N.length = L.length := pm.length_eq.trans lM
  refine wpAny_pure ⟨_, rfl, .ref h'.objs.size, upd H h'.objs.size (.lst (N.map fun q => V.ref q.1)), I1.laid (t' := tk) (fun b u e => ?_) (Nat.le_refl _)
    (show ObjOk X.prog X.w _ _ _ (.lst (N.map fun q => V.ref q.1)) from ⟨by rw [List.length_map, lN, sizeLine_eq]; omega, out.toArray.toList, c, by rw [List.toList_toArray, eo']; exact vals_of_refs N, by rw [Array.toArray_toList]; exact hcc⟩), rfl, q N _ pm pw (I1.hok.fresh (Nat.le_refl _))⟩
  have hb : b < h'.objs.size := Heap.lt_size e
  rw [PyProof.Rows.sortedHeap_old (Nat.ne_of_lt hb) (by rw [size_push']; exact Nat.lt_succ_of_lt hb)]
  exact Heap.get?_push_of_some _ e
end
section
variable {J : It} {n : Nat} {G : Hp → Prop} {Y : Nat → Hp → V → Hp → Prop}
theorem dr_it (w : Walk J n G Y) {K : PySem.W.Frag} {P : Program} {wd : World} {g : TG} {tt : TT} {tk tv : TE} {vs : List Nat} {σ : St} {H1 : Hp} {D : Addr} {Qd : Hp → Prop} (Pv : Nat → Hp → Prop) (h0 : Pv 0 (upd H1 D (DRO P wd D []))) (hG : ∀ i H, i ≤ n → Pv i H → G H)
    (hs : ∀ i x H H', i < n → Pv i H → Y i H x H' → g x (wipe σ vs) H' fun σ2 H2 => wipe σ2 vs = wipe σ vs ∧ tt σ2 H2 fun b H3 =>
      if b = true then tk σ2 H3 fun y H4 => tv σ2 H4 fun z H5 => ∃ L k b, y = V.ref b ∧ SqT K H5 b (k.map V.int) ∧ H5 D = some (DRO P wd D L) ∧ (∀ p ∈ L, SqT K H5 p.2 (p.1.map V.int)) ∧ L.length < sizeLine ∧ Pv (i + 1) (upd H5 D (DRO P wd D (putR L k b))) else Pv (i + 1) H3) (hd : ∀ H, Pv n H → Qd H) :
    ∃ W : Nat → Nat → Hp → Prop, (∃ m, W 0 m (upd H1 D (DRO P wd D []))) ∧ ∀ i m H, W i m H →
      (J.stop i H ∧ Qd H) ∨ (J.go i H ∧ ∃ Nx : Hp → Prop, (∀ H', Nx H' → ∃ m', m' < m ∧ W (i + 1) m' H') ∧ ∀ x H', J.yld i H x H' → g x (wipe σ vs) H' fun σ2 H2 => wipe σ2 vs = wipe σ vs ∧ tt σ2 H2 fun b H3 =>
        if b = true then tk σ2 H3 fun y H4 => tv σ2 H4 fun z H5 => ∃ L k b, y = V.ref b ∧ SqT K H5 b (k.map V.int) ∧ H5 D = some (DRO P wd D L) ∧ (∀ p ∈ L, SqT K H5 p.2 (p.1.map V.int)) ∧ L.length < sizeLine ∧ Nx (upd H5 D (DRO P wd D (putR L k b))) else Nx H3) := by
  refine ⟨fun i m H => m = n - i ∧ i ≤ n ∧ Pv i H, ⟨n, by simp, Nat.zero_le _, h0⟩, ?_⟩
  rintro i m H ⟨rfl, hi, p⟩
  have q := hG i H hi p
  by_cases hlt : i < n
  · refine .inr ⟨w.goes i H hlt q, Pv (i + 1), fun H' p' => ⟨n - (i + 1), by omega, rfl, hlt, p'⟩, fun x H' y => hs i x H H' hlt p (w.yields i H x H' hlt q y)⟩
  · have e : i = n := by omega
    subst e
    exact .inl ⟨w.stops H q, hd H p⟩
end
end L2
namespace Ev
open PySem L2
open PyProof.Rows hiding St
abbrev Rf := EEnv → Store → R (List (List Int))
section
variable {g : Gh} {X : Cx}
/-- a dict with row keys just made, without a place -/
def tRv (X : Cx) (g : Gh) (f : Rf) : TE := fun σ H Q => ∃ ρ st env v st', Rel g ρ st H ∧ EnvR g.K ρ st.length H env σ ∧ f env st = .ok v st' ∧
  ∀ ρ' H' p L, Post g ρ st H ρ' st' H' → H' p = some (DRO X.prog X.w p L) → (∀ l, mutAt st' l → ρ' l ≠ p) → H p = none → L.map (·.1) = v → (∀ q ∈ L, SqT g.K H' q.2 (q.1.map V.int)) → Q (.ref p) H'
abbrev RV (g : Gh) (X : Cx) (e : Expr) (f : Rf) : Prop := PE X e (tRv X g f)
def rowK : D → Option (List Int)
  | .tup ds => intsD ds
  | _ => none
def addR (acc : List (List Int)) (k : List Int) : List (List Int) := if k ∈ acc then acc else acc ++ [k]
def compR (ws : Wt) (gf : Gf) (tf : Tf) (kf vf : Ef) (env : EEnv) : List D → List (List Int) → Store → R (List (List Int))
  | [], acc, st => if wOk st ws = true then .ok acc st else .bad
  | d :: ds, acc, st => if wOk st ws = true then (gf d env st).bind fun e s => (tf e s).bind fun b s2 => if b = true then (kf e s2).bind fun k s3 => (vf e s3).bind fun v s4 => (match rowK k with | some kk => compR ws gf tf kf vf env ds (addR acc kk) s4 | none => .bad) else compR ws gf tf kf vf env ds acc s2 else .bad
def rComp (vs : List Nat) (f : If) (gf : Gf) (tf : Tf) (kf vf : Ef) : Rf := fun env st => (f env st).bind fun s s1 => if s.items.length ≤ sizeLine then compR s.ws gf tf kf vf (wipeE env vs) s.items [] s1 else .bad
theorem addR_len (acc : List (List Int)) (k : List Int) : (addR acc k).length ≤ acc.length + 1 := by
  unfold addR
  split
  · omega
  · rw [List.length_append]; exact Nat.le_refl _
/-- what stands at p, that nothing of ours tells of, changed -/
theorem Post.tempG {ρ ρ' : Nat → Addr} {st st' : Store} {H H' : Hp} {p : Addr} {u u' : HO} (P : Post g ρ st H ρ' st' H') (hp : H p = none) (hn : ∀ l, mutAt st' l → ρ' l ≠ p) (hl : H' p = some u) (mu : Mut (some u)) :
    Post g ρ st H ρ' st' (upd H' p u') ∧ TK g.K H' (upd H' p u') := by
  have kn : ∀ b o, H' b = some o → ¬ Mut (some o) → upd H' p u' b = some o := fun b o e nm => by
    rw [upd_ne]
    · exact e
    · intro w
      subst w
      rw [hl] at e
      cases e
      exact nm mu
  have t : TK g.K H' (upd H' p u') := TK.of kn
  refine ⟨⟨⟨fun l o e => ?_, P.rel.inj⟩, P.len, P.old, fun b o e h => ?_, P.fresh, P.kind⟩, t⟩
  · have q := P.rel.obj l o e
    have ne : o.mut = true → ρ' l ≠ p := fun m => hn l ⟨o, e, m⟩
    cases o with
    | ro ns => exact RoL.of kn q
    | lst xs => obtain ⟨us, e1, r⟩ := q; exact ⟨us, by rw [upd_ne (ne rfl)]; exact e1, r.mono (fun _ _ => rfl) (Nat.le_refl _) t⟩
    | ins c fs => obtain ⟨hc, dx, gs, e1, r⟩ := q; exact ⟨hc, dx, gs, by rw [upd_ne (ne rfl)]; exact e1, r.mono (fun _ _ => rfl) (Nat.le_refl _) t⟩
    | dic kvs => obtain ⟨gs, e1, r⟩ := q; exact ⟨gs, by rw [upd_ne (ne rfl)]; exact e1, r.mono (fun _ _ => rfl) (Nat.le_refl _) t⟩
    | opq => obtain ⟨φ, e1⟩ := q; exact ⟨φ, by rw [upd_ne (ne rfl)]; exact e1⟩
  · rw [upd_ne (ne_of_none e hp)]
    exact P.keep b o e h
theorem rowK_vr {ρ : Nat → Addr} {n : Nat} {H : Hp} {d : D} {y : V} {k : List Int} (r : VR g.K ρ n H d y) (h : rowK d = some k) : ∃ b, y = V.ref b ∧ SqT g.K H b (k.map V.int) := by
  cases d <;> simp only [rowK] at h <;> (try cases h)
  unfold VR at r
  obtain ⟨c, zs, rfl, sq, rz⟩ := r
  have e3 := intsD_vrs rz h
  subst e3
  exact ⟨c, rfl, sq⟩
theorem dr_of (xK : X.K = g.K) {fi : If} {ws : List Nat} {gf : Gf} {tf : Tf} {kf vf : Ef} {vs : List Nat} (hws : ∀ j ∈ ws, j ∈ vs) : ∀ σ H Q, tRv X g (rComp vs fi gf tf kf vf) σ H Q → tDcR X.K X.prog X.w (tI g fi) (tG g ws gf) (tT g tf) (tE g kf) (tE g vf) vs σ H Q :=
  fun σ H Q ⟨ρ, st, env, fin, stF, Rl, E, h, k⟩ => by
    obtain ⟨s, s1, e1, h⟩ := R.bind_eq h
    split at h
    · rename_i hz
      refine ⟨ρ, st, env, s, s1, Rl, E, e1, fun ρ1 H1 J G Y P1 W => fun Da hD => ?_⟩
      rw [xK]
      refine dr_it W.walk (fun i H' => ∃ ρ2 st2 L, Post g ρ1 s1 H1 ρ2 st2 H' ∧ H' Da = some (DRO X.prog X.w Da L) ∧ (∀ l, mutAt st2 l → ρ2 l ≠ Da) ∧ (∀ p ∈ L, SqT g.K H' p.2 (p.1.map V.int)) ∧ L.length ≤ i ∧
          compR s.ws gf tf kf vf (wipeE env vs) (s.items.drop i) (L.map (·.1)) st2 = .ok fin stF)
        ⟨ρ1, s1, [], P1.rel.tup hD, upd_same, fun l m q => ?_, (fun _ m => nomatch m), Nat.le_refl _, by rw [List.drop_zero]; exact h⟩
        (fun i H' hi ⟨ρ2, st2, L, P2, hl, hn, ra, la, hc⟩ => ?_) (fun i v H' H'' hi ⟨ρ2, st2, L, P2, hl, hn, ra, la, hc⟩ y => ?_) (fun H' ⟨ρ2, st2, L, P2, hl, hn, ra, la, hc⟩ => ?_)
      · obtain ⟨u, e2, _⟩ := P1.rel.mutSome m
        rw [q, hD] at e2
        cases e2
      · refine W.stay ρ2 st2 H' P2 ?_
        cases hd : s.items.drop i with
        | nil =>
          rw [hd] at hc
          unfold compR at hc
          by_cases w : wOk st2 s.ws = true
          · exact w
          · rw [if_neg w] at hc; cases hc
        | cons d ds =>
          rw [hd] at hc
          unfold compR at hc
          by_cases w : wOk st2 s.ws = true
          · exact w
          · rw [if_neg w] at hc; cases hc
      · have hdr : s.items.drop i = s.items[i] :: s.items.drop (i + 1) := List.drop_eq_getElem_cons hi
        rw [hdr] at hc
        unfold compR at hc
        by_cases w : wOk st2 s.ws = true
        · rw [if_pos w] at hc
          obtain ⟨d, ed, P3, r3⟩ := W.gives i H' v H'' ρ2 st2 P2 w hi y
          rw [List.getElem?_eq_getElem hi] at ed
          cases ed
          obtain ⟨e4, s4, q4, hc⟩ := R.bind_eq hc
          obtain ⟨b5, s5, q5, hc⟩ := R.bind_eq hc
          have E2 : EnvR g.K ρ2 st2.length H'' env σ := P3.envr P2.rel (P2.envr P1.rel (P1.envr Rl E))
          refine ⟨ρ2, st2, wipeE env vs, _, e4, s4, P3.rel, E2.wipe vs, r3, q4, fun ρ4 H4 σ4 P4 E4 o4 => ?_⟩
          have ew : wipe σ4 vs = wipe σ vs := by
            have q := o4.wipe hws
            rw [q]
            exact (Off.wipe (ws := vs) ⟨wipe_length σ vs, fun j hj => wipe_out hj⟩ (fun _ h => h))
          refine ⟨ew, ρ4, s4, e4, b5, s5, P4.rel, E4, q5, fun ρ5 H5 P5 => ?_⟩
          have P35 := (P3.trans P4).trans P5
          have P25 := P2.trans P35
          have nn : ∀ {ρ' : Nat → Addr} {st' : Store} {H' : Hp}, Post g ρ1 s1 H1 ρ' st' H' → Post g ρ2 st2 H'' ρ' st' H' → H'' Da = some (DRO X.prog X.w Da L) → ∀ l, mutAt st' l → ρ' l ≠ Da := fun {ρ' st' H'} Pa Pb hd l m q => by
            by_cases hl' : l < st2.length
            · rw [Pb.old l hl'] at q
              exact hn l (Pb.mutB m hl') q
            · have := Pb.fresh l (Nat.le_of_not_lt hl') (mutAt_lt m)
              rw [q, hd] at this
              cases this
          have d3 : H'' Da = some (DRO X.prog X.w Da L) := P3.keep Da _ hl hn
          have d5 : H5 Da = some (DRO X.prog X.w Da L) := P35.keep Da _ hl hn
          cases b5 with
          | true =>
            rw [if_pos rfl] at hc
            obtain ⟨k6, s6, q6, hc⟩ := R.bind_eq hc
            obtain ⟨v7, s7, q7, hc⟩ := R.bind_eq hc
            split at hc
            · rename_i kk hk
              refine iteT ⟨ρ5, s5, e4, k6, s6, P5.rel, P5.envr P4.rel E4, q6, fun ρ6 H6 y6 P6 r6 => ?_⟩
              refine ⟨ρ6, s6, e4, v7, s7, P6.rel, P6.envr P5.rel (P5.envr P4.rel E4), q7, fun ρ7 H7 y7 P7 r7 => ?_⟩
              have P37 := (P35.trans P6).trans P7
              have P27 := P2.trans P37
              have d7 : H7 Da = some (DRO X.prog X.w Da L) := P37.keep Da _ hl hn
              have n7 : ∀ l, mutAt s7 l → ρ7 l ≠ Da := nn P27 ((((P4.trans P5).trans P6)).trans P7) d3
              obtain ⟨b, eb, sq⟩ := rowK_vr (P7.vr P6.rel r6) hk
              obtain ⟨P8, t8⟩ := P27.tempG (u' := DRO X.prog X.w Da (putR L kk b)) hD n7 d7 trivial
              have ra7 : ∀ p ∈ L, SqT g.K H7 p.2 (p.1.map V.int) := fun p hp => P37.tk P2.rel _ _ (ra p hp)
              have ek : (putR L kk b).map (·.1) = addR (L.map (·.1)) kk := by
                unfold putR addR
                split
                · rfl
                · rw [List.map_append]; rfl
              refine ⟨L, kk, b, eb, sq, d7, ra7, ?_, ρ7, s7, putR L kk b, P8, upd_same, n7, fun p hp => ?_, ?_, by rw [ek]; exact hc⟩
              · omega
              · unfold putR at hp
                split at hp
                · exact t8 _ _ (ra7 p hp)
                · rcases List.mem_append.mp hp with hp | hp
                  · exact t8 _ _ (ra7 p hp)
                  · rw [List.mem_singleton] at hp
                    subst hp
                    exact t8 _ _ sq
              · have := putR_len L kk b; omega
            · cases hc
          | false =>
            rw [if_neg Bool.false_ne_true] at hc
            refine iteF ⟨ρ5, s5, L, P25, d5, nn P25 (P4.trans P5) d3, fun p hp => P35.tk P2.rel _ _ (ra p hp), Nat.le_succ_of_le la, hc⟩
        · rw [if_neg w] at hc; cases hc
      · rw [List.drop_of_length_le (Nat.le_refl _)] at hc
        unfold compR at hc
        by_cases w : wOk st2 s.ws = true
        · rw [if_pos w] at hc
          injection hc with hc1 hc2
          subst hc2
          exact k ρ2 H' Da L (P1.trans P2) hl hn (P1.freeB hD) hc1 ra
        · rw [if_neg w] at hc; cases hc
    · cases h
variable {kx vx tg iter e : Expr} {ifs : List Expr} {scope : Scope} {own : List (Str × Nat)} {fi : If} {ws : List Nat} {gf : Gf} {tf : Tf} {kf vf : Ef} {p pos : Pos} {t : Rf}
theorem r_comp (x : XG g X) (own : List (Str × Nat)) (hi : IV g X tg iter fi) (ok : BlkOk X.N X.env.scope scope own)
    (hg : ∀ (s : Shared) (H : Hp) (C : Addr) (cl : List (Str × Addr)) (fp : List Addr), GV g (X.blk s H scope (compEnvC scope cl C X.env) fp) tg ws gf) (ht : ∀ (s : Shared) (H : Hp) (C : Addr) (cl : List (Str × Addr)) (fp : List Addr), Ptf g (X.blk s H scope (compEnvC scope cl C X.env) fp) ifs tf)
    (hk : ∀ (s : Shared) (H : Hp) (C : Addr) (cl : List (Str × Addr)) (fp : List Addr), EV g (X.blk s H scope (compEnvC scope cl C X.env) fp) kx kf)
    (he : ∀ (s : Shared) (H : Hp) (C : Addr) (cl : List (Str × Addr)) (fp : List Addr), EV g (X.blk s H scope (compEnvC scope cl C X.env) fp) vx vf) (hws : ∀ j ∈ ws, j ∈ own.map (·.2) := by decide) (hs : ∀ x, foldedSetIterable iter X.env x = pure x := by intro _; rfl) :
    RV g X (.DictComp kx vx [⟨tg, iter, ifs, 0⟩] scope pos) (rComp (own.map (·.2)) fi gf tf kf vf) := pe_imp (pe_dr x.calm (by have := x.hu; omega) x.nd hi ok hg ht hk he hs) (dr_of x.K hws)
/-- made, and not looked at -/
def eOpq (t : Rf) : Ef := fun env st => (t env st).bind fun _ s => .ok (.loc s.length) (s ++ [.opq])
theorem e_opq (h : RV g X e t) : EV g X e (eOpq t) := pe_imp h fun σ H Q ⟨ρ, st, env, v, st', Rl, E, h, k⟩ => by
  obtain ⟨ks, s1, e1, h⟩ := R.bind_eq h
  cases h
  refine ⟨ρ, st, env, ks, s1, Rl, E, e1, fun ρ1 H1 p L P1 hl hn hp hm all => ?_⟩
  have P2 := P1.named (o := .opq) hn hp ⟨_, hl⟩
  refine k _ H1 _ P2 ?_
  unfold VR
  exact ⟨by simp, by rw [nxt_same]⟩
/-- sorted(of one just made) -/
def sortDR (ks : List (List Int)) (s : Store) : R (List D) := if ks.length < 63 ∧ ks.all (fun k => !k.isEmpty) = true then .ok ((sdG ks).map rowD) s else .bad
def nSortDR (t : Rf) : Af := fun env st => (t env st).bind sortDR
theorem addR_nodup {acc : List (List Int)} {k : List Int} (h : acc.Nodup) : (addR acc k).Nodup := by
  unfold addR
  split
  · exact h
  · rename_i hk
    rw [List.nodup_append]
    exact ⟨h, by simp, fun a ha b hb e => hk (by rw [List.mem_singleton] at hb; rw [← hb, ← e]; exact ha)⟩
theorem compR_nodup {ws : Wt} {gf : Gf} {tf : Tf} {kf vf : Ef} {env : EEnv} : ∀ {ds : List D} {acc : List (List Int)} {st : Store} {v : List (List Int)} {st' : Store}, compR ws gf tf kf vf env ds acc st = .ok v st' → acc.Nodup → v.Nodup
  | [], acc, st, v, st', h, n => by
    unfold compR at h
    split at h
    · injection h with h1 _
      rw [← h1]
      exact n
    · cases h
  | d :: ds, acc, st, v, st', h, n => by
    unfold compR at h
    split at h
    · obtain ⟨e4, s4, q4, h⟩ := R.bind_eq h
      obtain ⟨b5, s5, q5, h⟩ := R.bind_eq h
      split at h
      · obtain ⟨k6, s6, q6, h⟩ := R.bind_eq h
        obtain ⟨v7, s7, q7, h⟩ := R.bind_eq h
        split at h
        · exact compR_nodup h (addR_nodup n)
        · cases h
      · exact compR_nodup h n
    · cases h
theorem n_sortDR {vs : List Nat} (x : XG g X) (h : RV g X e (rComp vs fi gf tf kf vf)) (hg : Gl X "sorted" := by rfl) (he : starEach [e] X.env = (false, eval e X.env) :: starEach [] X.env := by rfl) :
    NV g X (.Call (.Name "sorted" p) [e] [] pos) (nSortDR (rComp vs fi gf tf kf vf)) :=
  pe_imp (pe_callB (cr_sortedDR x.calm (by have := x.hu; omega)) hg (x.mg "sorted") (by decide +kernel) (pa_cons h pa_nil he) (by decide) (by decide) he rfl) fun σ H Q ⟨ρ, st, env, v, st', Rl, E, h, k⟩ => by
    obtain ⟨ks, s1, e1, h⟩ := R.bind_eq h
    have nd : ks.Nodup := by
      obtain ⟨w, s0, e0, e2⟩ := R.bind_eq e1
      split at e2
      · exact compR_nodup e2 List.nodup_nil
      · cases e2
    refine ⟨ρ, st, env, ks, s1, Rl, E, e1, fun ρ1 H1 p L P1 hl hn hp hm all => ?_⟩
    unfold sortDR at h
    split at h
    · rename_i hz
      cases h
      rw [x.K]
      have hln : L.length < 63 := by rw [← List.length_map (f := fun p : List Int × Addr => p.1), hm]; exact hz.1
      refine ⟨p, L, rfl, hl, all, fun r hr => ?_, by omega, fun L' c pm pw hc => ?_⟩
      · have m : r.1 ∈ ks := by rw [← hm]; exact List.mem_map.mpr ⟨r, hr, rfl⟩
        have := List.all_eq_true.mp hz.2 r.1 m
        intro e
        rw [e] at this
        cases this
      · have Pc := P1.rel.tup (u := HO.lst (L'.map fun q => V.ref q.1)) hc
        have p2 : (L'.map (·.2)).Perm ks := by
          have := pm.map (·.2)
          rw [List.map_map] at this
          rw [← hm]
          exact this
        have em : L'.map (·.2) = sdG ks := by
          refine sdG_one so_list ?_ fun k => p2.mem_iff
          have pw' : (L'.map (·.2)).Pairwise (· ≤ ·) := List.pairwise_map.mpr pw
          have nd' : (L'.map (·.2)).Pairwise (· ≠ ·) := p2.nodup_iff.mpr nd
          refine (pw'.and nd').imp ?_
          intro u w hq
          rcases so_list.tot u w with z | z | z
          · exact z
          · exact absurd z hq.2
          · exact absurd hq.1 (fun y => List.not_lt.mpr y z)
        have rv : VRs g.K ρ1 st'.length (upd H1 c (.lst (L'.map fun q => V.ref q.1))) ((sdG ks).map rowD) (L'.map fun q => V.ref q.1) := by
          rw [← em]
          refine vrs_rows fun p hp => Pc.tk P1.rel _ _ ?_
          obtain ⟨r, hr, e⟩ := List.mem_map.mp (pm.mem_iff.mp hp)
          rw [← e]
          exact all r hr
        refine k ρ1 _ c _ (P1.trans Pc) upd_same (fun j m z => ?_) (P1.freeB hc) rv
        obtain ⟨u, e2, _⟩ := P1.rel.mutSome m
        rw [z, hc] at e2
        cases e2
    · cases h
end
end Ev

/-! Ev34: list.extend of a tuple; max of a tuple of ints. -/
namespace PySem
open PySem PySem.AutoSeq1
theorem list_extend_tup (l : Addr) (items : Array Value) (n : Nat) (b : Addr) (dd : Option Addr) (sl : Array (Option Value)) (items2 : Array Value) (n2 : Nat) (hs0 : ¬(!items.isEmpty && Builtin.List.listTooLong (items.size + items2.size)) = true) (hs1 : items.size ≤ sizeLine) (hs2 : items.size + items2.size ≤ sizeLine + 1) :
    Meets (Builtin.«list.extend» ⟨[.ref l, .ref b], []⟩) (fun _ R s => s.heap.get? l = some { cls := .type "list", dict := none, data := .seq items n, slots := #[] } ∧ s.heap.get? b = some { cls := .type "tuple", dict := dd, data := .seq items2 n2, slots := sl } ∧ R (.ok (.ret Value.none)) { s with heap := s.heap.update l (Obj.mapSeq fun x => x ++ items2), toks := s.toks }) :=
  .of_wp fun prog w A R s h => by
    obtain ⟨hp, g, d, tk, os⟩ := s; obtain ⟨hl, hb, h⟩ := h; have f1 := idx_int; have f2 := sub_tuple_tuple; have f3 := sub_list_list; have f4 := sub_tuple_list; have f5 := sub_list_tuple;
    have hz' : (items ++ items2).size ≤ sizeLine + 1 := by rw [Array.size_append]; exact hs2
    wp_walk using (wpAny_updateSeq hl rfl (hz := hs1) (_hz' := hz')), wpAny_loadPart' hl, wpAny_loadPart' hb; exact ⟨_, rfl, h⟩
end PySem
namespace L2
open PySem PySem.Spec PyProof.Rows
section
variable {prog : Program} {w : World} {A : Around} {E : Value → Shared → Prop} {s : Shared} {l : Addr} {its : List Value} {ns : List Int}
theorem iter_anyTup {items : Array Value} {R : Value → Shared → Prop} (hl : s.heap.IsTuple l items)
    (h : ∀ s₂ : Shared, s₂ = { s with heap := s.heap.push { cls := .type "tuple_iterator", data := .fields #[.ref l, .int 0 0] } } → (s₂.heap.IsTupleIter s.heap.objs.size l 0 ∧ s₂.heap.IsTuple l items) → (∀ b ∈ [s.heap.objs.size, l], b < s₂.heap.objs.size) → l ≠ s.heap.objs.size → R (.ref s.heap.objs.size) s₂) :
    wpAny (model prog w) A (pyIter (.ref l)) R E s := by
  have hlt : l < s.heap.objs.size := by obtain ⟨_, e, _⟩ := hl; exact Heap.lt_size e
  refine wpAny_pyIter_tuple hl (h _ rfl ⟨⟨_, Heap.get?_push_size _ rfl, rfl, rfl⟩, hl.push _⟩ (fun b hb => ?_) (Nat.ne_of_lt hlt))
  show b < (s.heap.push _).objs.size
  rw [Heap.size_push]
  rcases List.mem_cons.mp hb with rfl | hb
  · exact Nat.lt_succ_self _
  · rcases List.mem_cons.mp hb with rfl | hb
    · exact Nat.lt_succ_of_lt hlt
    · cases hb
theorem max_tupRaw {Q : Value → Shared → Prop} (hh : A.handled = none) (hl : s.heap.IsTuple l its.toArray) (hi : IntsAre its ns) (hne : 0 < ns.length)
    (h : ∀ h' tk M t', (∀ b o, s.heap.get? b = some o → h'.get? b = some o) → M ∈ ns → (∀ a, a ∈ ns → a ≤ M) → Q (.int M t') { s with heap := h', toks := tk }) : wpAny (model prog w) A (call (.builtin "max") [.ref l]) Q E s := by
  obtain ⟨xs, e⟩ := hi.allInts.items
  have hn : numsOf (intItems xs).toList = ns := by rw [← e]; exact hi.numsOf
  rw [nums_intItems] at hn
  subst hn
  rw [e] at hl
  have hsz : 0 < xs.size := by simpa using hne
  refine call_max_walk (iter_anyTup hl fun s₂ e st hfp hlI => ?_)
  subst e
  refine ⟨_, _, _, _, _, _, _, rfl, Walks.tuple (A := A.in1) hh _ l hlI (intItems xs), st, hfp, by simpa [intItems] using hsz, CmpOf.ints_gt (numAt xs) (fun _ _ => intItems_at), fun v h' tk hP hkk => ?_⟩
  have hv : (intItems xs)[argBest (fun i j => decide (numAt xs i > numAt xs j)) (xs.size - 1)]? = some v := by simpa [intItems] using hP
  have hk : ∀ b o, s.heap.get? b = some o → h'.get? b = some o := fun b o e => by
    refine hkk b o (fun hm => ?_) (Heap.get?_push_of_some _ e)
    rcases List.mem_cons.mp hm with e1 | hm
    · exact absurd (e1 ▸ Heap.lt_size e) (Nat.lt_irrefl _)
    · cases hm
  obtain ⟨t, rfl⟩ := intItems_at hv
  obtain ⟨h1, h2⟩ := argBest_gt (numAt xs) (xs.size - 1)
  refine h h' tk _ t hk ?_ fun a ha => ?_
  · rw [numAt_eq]; exact PySem.getD_mem (by rw [List.length_map, Array.length_toList]; omega)
  · obtain ⟨j, hj, rfl⟩ := mem_getD ha
    rw [List.length_map, Array.length_toList] at hj
    rw [← numAt_eq]; exact h2 j (by omega)
end
section
variable {X : Cx}
def rMaxT (K : PySem.W.Frag) : List V → Hp → VK → Prop := fun vs H Q => ∃ (a : Addr) (ns : List Int), vs = [V.ref a] ∧ SqT K H a (ns.map V.int) ∧ 0 < ns.length ∧ ∀ m, m ∈ ns → (∀ y, y ∈ ns → y ≤ m) → Q (.int m) H
theorem cr_maxT (hc : X.calm = true) : CallR X (.builtin "max") (rMaxT X.K) := by
  intro pins s σ H vs us Q I r h
  obtain ⟨a, ns, rfl, hs, hne, q⟩ := h
  obtain ⟨its, rv, hl, _⟩ := I.tuple hs
  rw [Vals.ref1 r]
  exact max_tupRaw (I.ok.hd hc) hl rv.ints hne fun h' tk m t' hk h1 h2 => ⟨.int _, H, I.kept hk, ⟨_, rfl⟩, q m h1 h2⟩
/-- xs.extend(a tuple) -/
def rExtT (K : PySem.W.Frag) : V → List V → Hp → VK → Prop := fun x vs H Q => ∃ l b xs zs, x = .ref l ∧ vs = [.ref b] ∧ H l = some (.lst xs) ∧ SqT K H b zs ∧ xs.length + zs.length ≤ sizeLine ∧ Q .non (upd H l (.lst (xs ++ zs)))
theorem mt_extT : MtR X "list.extend" (rExtT X.K) := by
  intro pins s σ H x vs v us Q I rx rv h
  obtain ⟨l, b, xs, zs, rfl, rfl, hH, hB, hz, q⟩ := h
  cases rx
  obtain ⟨u, rfl, ru⟩ := rv.one
  cases ru
  obtain ⟨z, its, n, r, hl, e⟩ := I.lstM hH
  obtain ⟨its2, r2, ⟨o2, e2, hc2, n2, hd2⟩, hl2⟩ := I.tuple hB
  obtain ⟨c2, dd2, dat2, sl2⟩ := o2
  simp only at hc2 hd2
  subst hc2; subst hd2
  have l2 := r2.length
  have hsz : its.toArray.size + its2.toArray.size ≤ sizeLine := by rw [List.size_toArray, List.size_toArray]; omega
  have hlong : ¬ (!its.toArray.isEmpty && Builtin.List.listTooLong (its.toArray.size + its2.toArray.size)) = true := by
    rw [notLongL hsz, Bool.and_false]
    exact Bool.false_ne_true
  refine call_meets PySem.F.slot_list_extend ⟨_, e, rfl⟩ PySem.F.entry_list_extend (PySem.F.args_list_extend_2 _ _)
    (PySem.list_extend_tup l its.toArray n b dd2 sl2 its2.toArray n2 hlong (by rw [List.size_toArray]; omega) (by omega)) ⟨e, e2, ?_⟩
  refine ⟨.non, _, I.lset (its' := its ++ its2) hH e (by simp) (r.append r2) ?_, rfl, q⟩
  rw [List.length_append]
  omega
end
end L2
namespace Ev
open PySem L2
open PyProof.Rows hiding St
section
variable {g : Gh} {X : Cx} {o e : Expr} {apos cpos p pos : Pos} {fo f : Ef} {t : Af}
/-- max of one list or tuple of ints -/
def maxQ : FQ := fun xs st => match intsD xs with | some (n :: ns) => .ok (.int (maxI n ns)) st | _ => .bad
theorem maxI_le : ∀ (ns : List Int) (m : Int), m ≤ maxI m ns ∧ ∀ y ∈ ns, y ≤ maxI m ns
  | [], m => ⟨Int.le_refl _, by simp⟩
  | n :: ns, m => by
    have ih := maxI_le ns (if n > m then n else m)
    unfold maxI
    refine ⟨?_, fun y hy => ?_⟩
    · have := ih.1; split at this <;> split <;> omega
    · rcases List.mem_cons.mp hy with rfl | hy
      · have := ih.1; split at this <;> split <;> omega
      · exact ih.2 y hy
theorem maxI_mem : ∀ (ns : List Int) (m : Int), maxI m ns = m ∨ maxI m ns ∈ ns
  | [], m => .inl rfl
  | n :: ns, m => by
    unfold maxI
    rcases maxI_mem ns (if n > m then n else m) with h | h
    · rw [h]
      split
      · exact .inr List.mem_cons_self
      · exact .inl rfl
    · exact .inr (List.mem_cons_of_mem _ h)
theorem o_maxQ (x : XG g X) : OpQ g (fun vs H Q => rMax X.K vs H Q ∨ rMaxT X.K vs H Q) maxQ := fun ρ st H p ys xs v st' Q Rl sq r h k => by
  unfold maxQ at h
  split at h
  · rename_i n ns e
    cases h
    obtain rfl := intsD_vrs r e
    rw [x.K]
    have fin : ∀ m, m ∈ n :: ns → (∀ y, y ∈ n :: ns → y ≤ m) → Q (.int m) H := fun m hm hle => by
      have e2 : m = maxI n ns := by
        have h1 := hle (maxI n ns) (by rcases maxI_mem ns n with h | h; rw [h]; exact List.mem_cons_self; exact List.mem_cons_of_mem _ h)
        have h2 : m ≤ maxI n ns := by
          rcases List.mem_cons.mp hm with rfl | h
          · exact (maxI_le ns m).1
          · exact (maxI_le ns n).2 m h
        omega
      subst e2
      exact k ρ H _ (Post.refl Rl) (by simp [VR])
    rcases sq with sq | sq
    · exact .inl ⟨p, n :: ns, rfl, sq, by simp, fin⟩
    · exact .inr ⟨p, n :: ns, rfl, sq, by simp, fin⟩
  · cases h
theorem e_maxQ (x : XG g X) (h : QV g X e t) (hg : Gl X "max" := by rfl) (he : starEach [e] X.env = (false, eval e X.env) :: starEach [] X.env := by rfl) : EV g X (.Call (.Name "max" p) [e] [] pos) (eCall maxQ t) := e_callQ ((cr_max x.calm).or (cr_maxT x.calm)) (o_maxQ x) (x.mg "max") h hg (by decide +kernel) (by decide) (by decide) he
/-- xs.extend(a tuple, or a list with a place) -/
def extVF (d z : D) (s : Store) : R D := match z with
  | .tup zs => extF d zs s
  | .loc l => match s[l]? with
    | some (.lst zs) => extF d zs s
    | _ => .bad
  | _ => .bad
def eExtV (fo f : Ef) : Ef := fun env st => (fo env st).bind fun d s1 => if isL d s1 = true then (f env s1).bind fun z s2 => extVF d z s2 else .bad
theorem e_extV (x : XG g X) (ho : EV g X o fo) (ha : EV g X e f) (hbase : attributeBase o "extend" X.env (eval o X.env) = eval o X.env := by rfl)
    (hfew : ((backTo cpos (starEach [e] X.env)).all (fun x => !x.1) && (backToKw cpos (keywordEach [] X.env)).all (fun x => x.1.isSome) && decide ([e].length + ([] : List Keyword).length + (if ([] : List Keyword).isEmpty then 0 else 1) < 30)) = true := by rfl)
    (hline : (apos.endLine == cpos.line) = true := by rfl) (hs : starEach [e] X.env = (false, eval e X.env) :: starEach [] X.env := by rfl) :
    EV g X (.Call (.Attribute o "extend" apos) [e] [] cpos) (eExtV fo f) :=
  pe_imp (pe_bm PySem.F.plainAttrs_list PySem.F.slot_list_extend PySem.F.type_list_extend (MtR.or mt_extend mt_extT) ho (pa_cons ha pa_nil hs) hbase hfew hline hs rfl) fun σ H Q ⟨ρ, st, env, v, st', Rl, E, h, k⟩ => by
    obtain ⟨d, s1, e1, h⟩ := R.bind_eq h
    split at h
    · rename_i hL
      obtain ⟨zd, s2, e2, h⟩ := R.bind_eq h
      refine ⟨ρ, st, env, d, s1, Rl, E, e1, fun ρ1 H1 y P1 r1 => ⟨by rw [x.K]; exact isL_ok P1.rel r1 hL, ρ1, s1, env, zd, s2, P1.rel, P1.envr Rl E, e2, fun ρ2 H2 zv P2 r2 => ?_⟩⟩
      have r1' := P2.vr P1.rel r1
      have core : ∀ (zs : List D) (b : Addr) (us : List V), zv = .ref b → VRs g.K ρ2 s2.length H2 zs us → extF d zs s2 = .ok v st' → (H2 b = some (.lst us) ∨ SqT g.K H2 b us) → rExtend y [zv] H2 Q ∨ rExtT X.K y [zv] H2 Q := fun zs b us ez rs2 hx hb => by
        subst ez
        cases d with
        | loc l =>
          simp only [extF] at hx
          split at hx
          · rename_i xs q
            split at hx
            · rename_i hz
              cases hx
              unfold VR at r1'
              obtain ⟨hl, rfl⟩ := r1'
              obtain ⟨ys, q1, rs⟩ := P2.rel.obj l _ q
              obtain ⟨P, _⟩ := P2.rel.setLst q q1 (rs.append rs2)
              have fin := k ρ2 _ V.non ((P1.trans P2).trans P) (by simp [VR])
              have hz' : ys.length + us.length ≤ sizeLine := by rw [← rs.length, ← rs2.length]; exact hz
              rcases hb with hb | hb
              · exact .inl ⟨ρ2 l, b, ys, us, rfl, rfl, q1, hb, hz', fin⟩
              · refine .inr ⟨ρ2 l, b, ys, us, rfl, rfl, q1, ?_, hz', fin⟩
                rw [x.K]
                exact hb
            · cases hx
          · cases hx
        | _ => cases hx
      cases zd with
      | tup zs =>
        unfold VR at r2
        obtain ⟨b, us, rfl, sq, rs2⟩ := r2
        exact core zs b us rfl rs2 h (.inr sq)
      | loc l =>
        unfold VR at r2
        obtain ⟨hl, rfl⟩ := r2
        unfold extVF at h
        simp only at h
        split at h
        · rename_i zs q
          obtain ⟨us, q1, rs2⟩ := P2.rel.obj l _ q
          exact core zs _ us rfl rs2 h (.inl q1)
        · cases h
      | _ => cases h
    · cases h
end
section
variable {env : EEnv} {st s : Store} {fo f : Ef} {d : D} {l : Nat} {zs : List D}
def kExtV2 (d z : D) (s : Store) : R D := extVF d z s
def kExtV (f : Ef) (env : EEnv) (d : D) (s : Store) : R D := if isL d s = true then (f env s).bind (kExtV2 d) else .bad
@[simp] theorem ev_eExtV : eExtV fo f env st = (fo env st).bind (kExtV f env) := rfl
@[simp] theorem ev_kExtVt : kExtV2 d (.tup zs) s = extF d zs s := rfl
def extVG (d : D) (o : Option O) (s : Store) : R D := match o with | some (.lst zs) => extF d zs s | _ => .bad
@[simp] theorem ev_kExtVl : kExtV2 d (.loc l) s = extVG d (s[l]?) s := rfl
@[simp] theorem ev_extVG : extVG d (some (.lst zs)) s = extF d zs s := rfl
end
end Ev
namespace Ev
open PySem L2
open PyProof.Rows hiding St
section
variable {g : Gh} {X : Cx} {a b c : Expr} {pos : Pos} {fa fb fc : Ef}
/-- a chain of two as a test -/
theorem t_lele (ha : EV g X a fa) (hb : EV g X b fb) (hc : EV g X c fc) (hm : lastMarks [.LtE, .LtE] [b, c] = false := by with_unfolding_all rfl) : TV g X (.Compare a [.LtE, .LtE] [b, c] pos) (tfB (eChain leF leF fa fb fc)) :=
  pt_imp (pt_chain op_leA op_leA ha hb hc hm) fun σ H Q ⟨ρ, st, env, v, st', Rl, E, q, k⟩ => by
    refine ch_of (c := c) o_le o_le σ H _ ⟨ρ, st, env, .bl v, st', Rl, E, toB_eq q, fun ρ1 H1 y1 P1 r1 => ?_⟩
    simp only [VR] at r1
    exact ⟨v, r1, k ρ1 H1 P1⟩
end
end Ev

/-! Ev36: sorted of a tuple (or a list) of data. -/
namespace Ev
open PySem L2
open PyProof.Rows hiding St
section
variable {prog : Program} {w : World} {A : Around} {E : Value → Shared → Prop} {s : Shared}
/-- the items of a tuple, gathered in a list: the heap told in full -/
theorem collect_tup {Q : List Value → Shared → Prop} {it : Addr} {vs : List Value} (hl : IsTup s.heap it vs.toArray)
    (hQ : Q vs { s with heap := (s.heap.push (seqObj "list" #[] 0)).update s.heap.objs.size (Obj.mapSeq (· ++ vs.toArray)) }) (hsz : vs.length ≤ sizeLine) :
    wpAny (model prog w) A (collect (.ref it)) Q E s := by
  obtain ⟨o, ho, hc, n, hd⟩ := hl
  have hz : vs.toArray.size ≤ sizeLine := by simpa using hsz
  unfold collect
  refine wpAny_bind (wpAny_runValue (codeAny_builtin F.entry_proto_collect ?_))
  rw [Around.under_plainId F.plain_proto_collect _]
  show wpAny _ A.in1 (newList [] >>= fun l => again (.builtin "list.__iadd__" ⟨[l, .ref it], []⟩)) _ _ s
  refine wpAny_bind (wpAny_newObj_type ?_)
  refine wpAny_pure ⟨plainId_quiet F.plain_list_iadd _, codeAny_builtin F.entry_list_iadd ?_⟩
  rw [Around.under_plainId F.plain_list_iadd _]
  show wpAny _ A.in1 (Builtin.List.listExtendWith (.ref s.heap.objs.size) (.ref it) (.ref s.heap.objs.size)) _ _ _
  have hS : (s.heap.push { cls := .type "list", data := .seq ([] : List Value).toArray }).get? s.heap.objs.size = some { cls := .type "list", data := .seq #[] 0 } := Heap.get?_push_size _ rfl
  have hS₂ := Heap.get?_update_self (Obj.mapSeq (· ++ vs.toArray)) hS rfl
  have fin' : wpAny (model prog w) A (match Value.ref s.heap.objs.size with
      | Value.ref a => do
        match (← load a).data with
          | Data.seq xs _ => pure xs.toList
          | _ => unsupported "internal:collect"
      | _ => unsupported "internal:collect") Q E { s with heap := (s.heap.push { cls := .type "list", data := .seq ([] : List Value).toArray }).update s.heap.objs.size (Obj.mapSeq (· ++ vs.toArray)) } := by
    show wpAny _ A (load s.heap.objs.size >>= _) _ _ _
    refine wpAny_bind (wpAny_load hS₂ ?_)
    refine wpAny_pure ?_
    have e : ((#[] : Array Value) ++ vs.toArray).toList = vs := by simp
    show Q ((#[] : Array Value) ++ vs.toArray).toList _
    rw [e]
    exact hQ
  refine wpAny_mono (wpAny_extend_seq (hsz := hz) (A := A) (R := fun r s' => r = .ok (.ret (.ref s.heap.objs.size)) ∧ s' = { s with heap := (s.heap.push { cls := .type "list", data := .seq ([] : List Value).toArray }).update s.heap.objs.size (Obj.mapSeq (· ++ vs.toArray)) })
    (s := { s with heap := s.heap.push { cls := .type "list", data := .seq ([] : List Value).toArray } }) _ it _ 0 (.inr rfl) hS (Heap.get?_push_of_some _ ho) hc hd ⟨rfl, rfl⟩) (fun fin s' h => ?_) (fun e s' h => ?_)
  · cases fin with
    | done f =>
      obtain ⟨e, rfl⟩ := h
      cases e
      exact fin'
    | again c' => exact ⟨h.1, codeAny_mono h.2 fun r s'' hr => by obtain ⟨rfl, rfl⟩ := hr; exact fin'⟩
  · exact absurd h.1 (by simp)
open PySem.W PySem.Calls in
theorem sorted_dataT {β : Type} {vs : List Value} {bs : List β} {enc : β → PyData} {R : Value → β → Prop} {l : Addr} {Q : Value → Shared → Prop} (hl : IsTup s.heap l vs.toArray) (e : EachIs R vs bs) (er : EachIs (fun v b => ∃ as, Reads s.heap v (enc b) as) vs bs) (hal : AllAlike (bs.map enc)) (hk : Sortable (bs.map enc)) (hL : bs.length ≤ sizeLine)
    (hu : ∀ b, b ∈ bs → A.units + 2 + (enc b).depth < cLine) (h : ∀ out, out.length = bs.length → EachIs R out (bs.mergeSort (dataLe false enc)) → Q (.ref (s.heap.objs.size + 1)) { s with heap := sortedAll s.heap vs (List.toArray out) }) :
    wpAny (model prog w) A (call (.builtin "sorted") [.ref l]) Q E s := by
  have er' : EachIs (fun v b => ∃ as, Reads (sortingHeap (copyHeap s.heap vs) (s.heap.objs.size + 1) vs) v (enc b) as) vs bs := er.mono fun _ _ ⟨as, r⟩ => ⟨as, PyProof.Rows.Reads.keeps (fun _ _ => sorting_copy_old) r⟩
  have hL' : vs.length ≤ sizeLine := by rw [e.length]; exact hL
  have S := SortsAt.data (prog := prog) (w := w) (A := A.in1.in1) (s := { s with heap := sortingHeap (copyHeap s.heap vs) (s.heap.objs.size + 1) vs }) (each_map (R := fun v d => ∃ as, Reads (sortingHeap (copyHeap s.heap vs) (s.heap.objs.size + 1) vs) v d as) enc er') hal hk (bound_map hu)
  have hq := h _ (by rw [sortVals_length false rfl]; exact e.length) (sortVals_data false e er' hal)
  refine call_function_entry_kw kind_sorted plain_sorted entry_sorted (args_sorted1 _) ?_
  unfold Builtin.«sorted»
  refine wpAny_bind (m := checkCount "sorted" 1 1 _) (wpAny_pure ?_)
  refine wpAny_bind (collect_tup hl ?_ hL')
  refine wpAny_bind (wpAny_newList ?_ hL')
  have hsz : ((s.heap.push (seqObj "list" #[] 0)).update s.heap.objs.size (Obj.mapSeq (· ++ vs.toArray))).objs.size = s.heap.objs.size + 1 := by
    rw [Heap.size_update, size_push']
  show wpAny _ _ _ _ _ { s with heap := copyHeap s.heap vs }
  rw [hsz]
  refine wpAny_bind (wpAny_holding (wpAny_call_entry_kw slot_list_sort ⟨_, copyHeap_at s.heap vs, rfl⟩ entry_list_sort ?body (args_list_sort _)))
  case body =>
    show wpAny (model prog w) A.in1.in1 (Builtin.«list.sort» ⟨[.ref (s.heap.objs.size + 1)], []⟩) _ _ _
    exact list_sort_vals (s := { s with heap := copyHeap s.heap vs }) (copyHeap_at s.heap vs) S hL' ⟨_, rfl, wpAny_pure ⟨_, rfl, hq⟩⟩
end
theorem call_sortedQ {X : Cx} (hu : X.A.units + 200 < cLine) : CallR X (.builtin "sorted") (fun xs H Q => ∃ p, ∃ zs : List (V × PyData), xs = [.ref p] ∧ (SqL X.K H p (zs.map Prod.fst) ∨ SqT X.K H p (zs.map Prod.fst)) ∧ (∀ z ∈ zs, Dp X.K H z.1 z.2) ∧ PySem.W.AllAlike (zs.map Prod.snd) ∧ PySem.W.Sortable (zs.map Prod.snd) ∧ (∀ z ∈ zs, z.2.depth ≤ 60) ∧
    ∀ l, H l = none → Q (.ref l) (upd H l (.lst (sortV zs)))) := by
  intro pins s σ H xs us Q I r h
  obtain ⟨p, zs, rfl, hq, hd, ha, hs, hdp, q⟩ := h
  rcases hq with hq | hq
  · exact call_sorted hu pins s σ H _ us Q I r ⟨p, zs, rfl, hq, hd, ha, hs, hdp, q⟩
  obtain ⟨u, rfl, rx⟩ := vals1 r
  cases rx
  obtain ⟨its, r', pl, hz⟩ := I.tuple hq
  have e := each_vals r'
  have lz : zs.length ≤ sizeLine := by rw [List.length_map] at hz; exact hz
  refine sorted_dataT (bs := zs) (enc := Prod.snd) (R := fun v (b : V × PyData) => RelV b.1 v) pl e ?_ ha hs lz (fun b hb => ?_) fun out hl eo => ?_
  · exact ((PySem.W.each_mem e).mono fun v b ⟨h1, h2⟩ => Dp.reads I _ _ v (hd b h2) h1)
  · have := hdp b hb
    omega
  · obtain ⟨c, hc⟩ := sortedAll_at s.heap its out.toArray
    have lo : (sortV zs).length ≤ sizeLine := by
      rw [List.length_map, List.length_mergeSort]
      exact lz
    exact ⟨.ref (s.heap.objs.size + 1), _, I.laid (t' := s.toks) (fun b o e => sortedAll_old e) (Nat.le_succ _) (show ObjOk X.prog X.w _ _ _ (.lst (sortV zs)) from ⟨lo, out, c, vals_each eo, hc⟩), rfl, q _ (I.hok.fresh (Nat.le_succ _))⟩
section
variable {g : Gh} {X : Cx} {a : Expr} {pos p : Pos} {t : Af} {env : EEnv} {st s : Store}
theorem n_sortedQ (x : XG g X) (h : QV g X a t) (hg : Gl X "sorted" := by rfl) (he : starEach [a] X.env = (false, eval a X.env) :: starEach [] X.env := by rfl) : NV g X (.Call (.Name "sorted" p) [a] [] pos) (nSorted t) :=
  pe_imp (pe_callB (call_sortedQ x.hu) hg (x.mg "sorted") (by decide +kernel) (pa_cons h pa_nil he) (by decide) (by decide) he rfl) fun σ H Q ⟨ρ, st, env, v, st', Rl, E, h, k⟩ => by
    obtain ⟨xs, s1, e1, h⟩ := R.bind_eq h
    split at h
    · rename_i ok
      cases h
      refine ⟨ρ, st, env, xs, _, Rl, E, e1, fun ρ1 H1 p ys P1 sq r => ?_⟩
      unfold sortOk at ok
      simp only [Bool.and_eq_true] at ok
      obtain ⟨⟨⟨fl, al⟩, so⟩, dp⟩ := ok
      obtain ⟨lz, rz⟩ := vrs_zip r
      obtain ⟨ws, hws⟩ : ∃ ws, ws = xs.zip ys := ⟨_, rfl⟩
      rw [← hws] at rz
      have w1 : ws.map Prod.fst = xs := by rw [hws, List.map_fst_zip (by omega)]
      have w2 : ws.map Prod.snd = ys := by rw [hws, List.map_snd_zip (by omega)]
      have mw : ∀ q ∈ ws, q.1 ∈ xs := fun q m => by rw [← w1]; exact List.mem_map.mpr ⟨q, m, rfl⟩
      obtain ⟨f, hf⟩ : ∃ f : D × V → V × PyData, ∀ q, f q = (q.2, q.1.dat) := ⟨fun q => (q.2, q.1.dat), fun _ => rfl⟩
      have z1 : (ws.map f).map Prod.fst = ys := by
        rw [List.map_map, ← w2]
        apply List.map_congr_left
        intro q _
        simp [hf]
      have z2 : (ws.map f).map Prod.snd = xs.map D.dat := by
        rw [List.map_map, ← w1, List.map_map]
        apply List.map_congr_left
        intro q _
        simp [hf]
      refine ⟨p, ws.map f, rfl, by rw [z1, x.K]; exact sq, fun z mz => ?_, ?_, ?_, fun z mz => ?_, fun l hl => ?_⟩
      · obtain ⟨q, mq, rfl⟩ := List.mem_map.mp mz
        rw [hf, x.K]
        exact pd_dp P1.rel (rz q mq) (pdW_flat (flats_mem fl _ (mw q mq)))
      · rw [z2]
        intro d md d' md'
        obtain ⟨u, mu, rfl⟩ := List.mem_map.mp md
        obtain ⟨u', mu', rfl⟩ := List.mem_map.mp md'
        exact List.all_eq_true.mp (List.all_eq_true.mp al u mu) u' mu'
      · rw [z2]
        rw [Bool.or_eq_true] at so
        rcases so with so | so
        · refine .inl fun d md => ?_
          obtain ⟨u, mu, rfl⟩ := List.mem_map.mp md
          have := List.all_eq_true.mp so u mu
          split at this
          · exact ⟨_, _, rfl⟩
          · cases this
        · refine .inr fun d md => ?_
          obtain ⟨u, mu, rfl⟩ := List.mem_map.mp md
          have := List.all_eq_true.mp so u mu
          cases u <;> simp at this <;> exact ⟨by simp [D.dat], fun xs => by simp [D.dat]⟩
      · obtain ⟨q, mq, rfl⟩ := List.mem_map.mp mz
        rw [hf]
        exact of_decide_eq_true (List.all_eq_true.mp dp _ (mw q mq))
      · have e3 : (ws.mergeSort fun p q => lexD p.1 q.1).map Prod.fst = sortD xs := by
          rw [PySem.W.sort_maps (s := lexD) Prod.fst (fun _ _ _ _ => rfl), w1]
          rfl
        have e4 : (ws.mergeSort fun p q => lexD p.1 q.1).map f = (ws.map f).mergeSort (PySem.W.dataLe false Prod.snd) :=
          PySem.W.sort_maps (s := PySem.W.dataLe false Prod.snd) f (fun u _ u' _ => by
            show PySem.W.dataLe false D.dat u.1 u'.1 = PySem.W.dataLe false Prod.snd (f u) (f u')
            rw [PySem.W.dataLe_eq, PySem.W.dataLe_eq]
            simp only [hf])
        have e5 : sortV (ws.map f) = (ws.mergeSort fun p q => lexD p.1 q.1).map Prod.snd := by
          unfold sortV
          rw [← e4, List.map_map]
          apply List.map_congr_left
          intro q _
          simp [hf]
        rw [e5]
        have P2 := P1.rel.tup (u := HO.lst ((ws.mergeSort fun p q => lexD p.1 q.1).map Prod.snd)) hl
        have rv := zip_vrs (K := g.K) (ρ := ρ1) (n := st'.length) (H := H1) (ps := ws.mergeSort fun p q => lexD p.1 q.1) fun q m => rz q ((List.mergeSort_perm _ _).mem_iff.mp m)
        rw [e3] at rv
        refine k ρ1 _ l _ (P1.trans P2) upd_same (fun j m q => ?_) (P1.freeB hl) (P2.vrs P1.rel rv)
        obtain ⟨u, e2, _⟩ := P1.rel.mutSome m
        rw [q, hl] at e2
        cases e2
    · cases h
end
end Ev

/-! Ev37: list(zip(one, other)) of two lists. -/
namespace Ev
open PySem L2
open PyProof.Rows hiding St
theorem nolen_zip : typeLookup (.type "zip") "__len__" = pure none := by rw [typeLookup_type, builtinLookup_eq_fast]; kernel_rfl
theorem nohint_zip : typeLookup (.type "zip") "__length_hint__" = pure none := by rw [typeLookup_type, builtinLookup_eq_fast]; kernel_rfl
/-- the pairs made so far -/
structure MadeZ (xs ys : Array Value) (lo : Addr) (h : Heap) (as : List Addr) : Prop where
  rise : as.Pairwise (· < ·)
  above : ∀ a ∈ as, lo ≤ a
  pairs : ∀ (j : Nat) (a : Addr), as[j]? = some a → ∃ x y, xs[j]? = some x ∧ ys[j]? = some y ∧ h.get? a = some { cls := .type "tuple", data := .seq #[x, y] }
def StZ (S z TI TO i1 i2 l1 l2 : Addr) (xs ys : Array Value) (i : Nat) (h : Heap) : Prop :=
  IsPair h TI (.ref i1) (.ref i2) ∧ h.IsListIter i1 l1 i ∧ h.IsListIter i2 l2 i ∧ h.IsList l1 xs ∧ h.IsList l2 ys ∧
    ((IsZip h z TI TO .none ∧ ∃ a b, IsPair h TO a b) ∨ ∃ T f oT, PySem.IsZipHeld h z TI TO T f ∧ h.get? T = some oT ∧ T ≠ z ∧ T ≠ i1 ∧ T ≠ i2 ∧ T ≠ S)
structure ApartS (S z TI TO i1 i2 l1 l2 lo : Addr) : Prop where
  nz : S ≠ z
  nTI : S ≠ TI
  nTO : S ≠ TO
  ni1 : S ≠ i1
  ni2 : S ≠ i2
  nl1 : S ≠ l1
  nl2 : S ≠ l2
  lS : S < lo
  lz : z < lo
  lO : TO < lo
  l3 : i1 < lo
  l4 : i2 < lo
theorem StZ.keep {S z TI TO i1 i2 l1 l2 lo : Addr} {xs ys : Array Value} {i : Nat} {h h' : Heap} (B : ApartS S z TI TO i1 i2 l1 l2 lo) (st : StZ S z TI TO i1 i2 l1 l2 xs ys i h) (hk : ∀ b o, b ≠ S → h.get? b = some o → h'.get? b = some o) : StZ S z TI TO i1 i2 l1 l2 xs ys i h' := by
  obtain ⟨hTI, h1, h2, hl1, hl2, hz⟩ := st
  refine ⟨hk _ _ (Ne.symm B.nTI) hTI, h1.at fun o e => hk _ o (Ne.symm B.ni1) e, h2.at fun o e => hk _ o (Ne.symm B.ni2) e, hl1.at fun o e => hk _ o (Ne.symm B.nl1) e, hl2.at fun o e => hk _ o (Ne.symm B.nl2) e, ?_⟩
  rcases hz with ⟨hz, a, b, hTO⟩ | ⟨T, f, oT, hz, hT, r1, r2, r3, r4⟩
  · exact .inl ⟨hk _ _ (Ne.symm B.nz) hz, a, b, hk _ _ (Ne.symm B.nTO) hTO⟩
  · exact .inr ⟨T, f, oT, hk _ _ (Ne.symm B.nz) hz, hk _ _ r4 hT, r1, r2, r3, r4⟩
section
variable {prog : Program} {w : World} {A : Around} {E : Value → Shared → Prop} {s : Shared} {R : Result → Shared → Prop} {xs ys : Array Value} {S z TI TO i1 i2 l1 l2 lo : Addr}
theorem nxtZ (D : ZipApart z TI TO i1 i2 l1 l2) (B : ApartS S z TI TO i1 i2 l1 l2 lo) {i : Nat} {Q : Option Value → Shared → Prop} (hS : S < s.heap.objs.size) (st : StZ S z TI TO i1 i2 l1 l2 xs ys i s.heap) {x y : Value} (ex : xs[i]? = some x) (ey : ys[i]? = some y)
    (hQ : ∀ h', StZ S z TI TO i1 i2 l1 l2 xs ys (i + 1) h' → IsPair h' s.heap.objs.size x y → h'.objs.size = s.heap.objs.size + 1 → (∀ c o, c ≠ z → c ≠ TO → c ≠ i1 → c ≠ i2 → s.heap.get? c = some o → h'.get? c = some o) → Q (some (.ref s.heap.objs.size)) { s with heap := h' }) :
    wpAny (model prog w) A (pyNext (.ref z)) Q E s := by
  obtain ⟨hTI, h1, h2, hl1, hl2, hz⟩ := st
  have lt : ∀ {c o}, s.heap.get? c = some o → s.heap.objs.size ≠ c := fun e => Nat.ne_of_gt (Heap.lt_size e)
  have n1 : s.heap.objs.size ≠ i1 := let ⟨_, e, _⟩ := h1; lt e
  have n2 : s.heap.objs.size ≠ i2 := let ⟨_, e, _⟩ := h2; lt e
  rcases hz with ⟨hz, a, b, hTO⟩ | ⟨T, f, oT, hz, hT, r1, r2, r3, r4⟩
  · refine wpAny_pyNext_zip_item D hz hTI hTO h1 h2 hl1 hl2 ex ey fun h' a1 a2 a3 a4 a5 a6 hk => ?_
    exact hQ h' ⟨hk _ _ D.TIz D.TITO D.TIi1 D.TIi2 hTI, a3, a4, hl1.at fun o e => hk _ o D.l1z D.l1TO D.l1i1 D.l1i2 e, hl2.at fun o e => hk _ o D.l2z D.l2TO D.l2i1 D.l2i2 e, .inr ⟨s.heap.objs.size, false, _, a1, a5, lt hz, n1, n2, Nat.ne_of_gt hS⟩⟩ a5 a6 hk
  · refine PySem.wpAny_pyNext_zip_item_held D hz hT hTI h1 h2 hl1 hl2 ex ey fun h' a1 a3 a4 a5 a6 hk => ?_
    exact hQ h' ⟨hk _ _ D.TIz D.TIi1 D.TIi2 hTI, a3, a4, hl1.at fun o e => hk _ o D.l1z D.l1i1 D.l1i2 e, hl2.at fun o e => hk _ o D.l2z D.l2i1 D.l2i2 e, .inr ⟨T, true, oT, a1, hk _ _ r1 r2 r3 hT, r1, r2, r3, r4⟩⟩ a5 a6 fun c o c1 _ c3 c4 e => hk c o c1 c3 c4 e
theorem endZ (hh : A.handled = none) (D : ZipApart z TI TO i1 i2 l1 l2) {i : Nat} {Q : Option Value → Shared → Prop} (st : StZ S z TI TO i1 i2 l1 l2 xs ys i s.heap) (hi : xs[i]? = none ∨ ys[i]? = none)
    (hQ : ∀ h', (∀ c o, c ≠ z → c ≠ TO → c ≠ i1 → c ≠ i2 → s.heap.get? c = some o → h'.get? c = some o) → Q none { s with heap := h' }) : wpAny (model prog w) A (pyNext (.ref z)) Q E s := by
  obtain ⟨hTI, h1, h2, hl1, hl2, hz⟩ := st
  rcases hz with ⟨hz, a, b, hTO⟩ | ⟨T, f, oT, hz, hT, r1, r2, r3, r4⟩
  · exact wpAny_pyNext_zip_end hh D hz hTI hTO h1 h2 hl1 hl2 hi hQ
  · exact PySem.wpAny_pyNext_zip_end_held hh D hz hT hTI h1 h2 hl1 hl2 hi fun h' hk => hQ h' fun c o c1 _ c3 c4 e => hk c o c1 c3 c4 e
theorem loopZ (hh : A.handled = none) (D : ZipApart z TI TO i1 i2 l1 l2) (B : ApartS S z TI TO i1 i2 l1 l2 lo) {n : Nat} (hn : n ≤ sizeLine) (hx : n = min xs.size ys.size) (res : Value) {h₁ : Heap}
    (hR : ∀ h' tk acc c as, (∀ b o, b ≠ S → b ≠ z → b ≠ TO → b ≠ i1 → b ≠ i2 → h₁.get? b = some o → h'.get? b = some o) → h'.get? S = some { cls := .type "list", dict := none, data := .seq acc c, slots := #[] } → as.length = n → MadeZ xs ys lo h' as →
      acc.toList = as.map Value.ref → R (.ok (.ret res)) { s with heap := h', toks := tk }) :
    ∀ (k i : Nat) (h : Heap) (tk c : Nat) (acc : Array Value) (as : List Addr), n - i = k → i ≤ n → StZ S z TI TO i1 i2 l1 l2 xs ys i h → (∀ b o, b ≠ S → b ≠ z → b ≠ TO → b ≠ i1 → b ≠ i2 → h₁.get? b = some o → h.get? b = some o) →
      h.get? S = some { cls := .type "list", dict := none, data := .seq acc c, slots := #[] } → acc.toList = as.map Value.ref → as.length = i → MadeZ xs ys lo h as → lo ≤ h.objs.size →
      codeAny (model prog w) A (.builtin "list.extend.loop" ⟨[.ref S, .ref z, res], []⟩) R { s with heap := h, toks := tk } := by
  intro k
  induction k with
  | zero =>
    intro i h tk c acc as hk hi hst hkeep hS hacc hal hG hlo
    have hin : i = n := by omega
    have hend : xs[i]? = none ∨ ys[i]? = none := by
      rcases Nat.le_total xs.size ys.size with q | q
      · exact .inl (Array.getElem?_eq_none (by omega))
      · exact .inr (Array.getElem?_eq_none (by omega))
    refine codeAny_builtin PySem.F.entry_extend_loop ?_
    rw [Around.under_plainId PySem.F.plain_extend_loop _]
    show wpAny _ A.in1 (pyNext (.ref z) >>= _) _ _ _
    refine wpAny_bind (endZ (s := { s with heap := h, toks := tk }) (A := A.in1) hh D hst hend fun h' he => ?_)
    refine wpAny_pure (hR h' tk acc c as (fun b o h1 h2 h3 h4 h5 e => he b o h2 h3 h4 h5 (hkeep b o h1 h2 h3 h4 h5 e)) (he S _ B.nz B.nTO B.ni1 B.ni2 hS) (by omega) ⟨hG.rise, hG.above, fun j a hj => ?_⟩ hacc)
    obtain ⟨x, y, e1, e2, e3⟩ := hG.pairs j a hj
    have ha := hG.above a (List.mem_of_getElem? hj)
    have hne : ∀ {c : Addr}, c < lo → a ≠ c := fun hc e => by rw [e] at ha; exact absurd hc (Nat.not_lt.mpr ha)
    exact ⟨x, y, e1, e2, he a _ (hne B.lz) (hne B.lO) (hne B.l3) (hne B.l4) e3⟩
  | succ k ih =>
    intro i h tk c acc as hk hi hst hkeep hS hacc hal hG hlo
    have hlt : i < n := by omega
    have hsz : acc.size = i := by rw [← Array.length_toList, hacc, List.length_map, hal]
    have ex : xs[i]? = some xs[i] := Array.getElem?_eq_getElem (by omega)
    have ey : ys[i]? = some ys[i] := Array.getElem?_eq_getElem (by omega)
    refine codeAny_builtin PySem.F.entry_extend_loop ?_
    rw [Around.under_plainId PySem.F.plain_extend_loop _]
    show wpAny _ A.in1 (pyNext (.ref z) >>= _) _ _ _
    refine wpAny_bind (nxtZ (s := { s with heap := h, toks := tk }) D B (Heap.lt_size hS) hst ex ey fun h' hst' ht hz hkp => ?_)
    dsimp only at ht hz hkp ⊢
    have hS' := hkp S _ B.nz B.nTO B.ni1 B.ni2 hS
    have hSl : S < h.objs.size := Heap.lt_size hS
    have up : ∀ b o, b ≠ S → h'.get? b = some o → (h'.update S (Obj.mapSeq (·.push (Value.ref h.objs.size)))).get? b = some o := fun b o hb e => (Heap.get?_update_other _ _ (Ne.symm hb)).trans e
    show wpAny _ A.in1 (updateSeq S (·.push (Value.ref h.objs.size)) >>= _) _ _ _
    refine wpAny_bind ?_
    refine wpAny_updateSeq hS' rfl (wpAny_pure ⟨plainId_quiet PySem.F.plain_extend_loop _, ih (i + 1) _ tk _ (acc.push (Value.ref h.objs.size)) (as ++ [h.objs.size]) (by omega) hlt (hst'.keep B up)
      (fun b o h1 h2 h3 h4 h5 e => up b o h1 (hkp b o h2 h3 h4 h5 (hkeep b o h1 h2 h3 h4 h5 e))) (Heap.get?_update_self _ hS' rfl) (by rw [Array.toList_push, hacc, List.map_append]; rfl) (by rw [List.length_append, hal]; rfl) ⟨?_, ?_, ?_⟩ ?_⟩) (by rw [hsz]; omega) (by show (acc.push (Value.ref h.objs.size)).size ≤ sizeLine + 1; rw [Array.size_push]; omega)
    · refine List.pairwise_append.mpr ⟨hG.rise, List.pairwise_singleton _ _, fun a ha b hb => ?_⟩
      rw [List.mem_singleton.mp hb]
      obtain ⟨j, hj⟩ := List.mem_iff_getElem?.mp ha
      obtain ⟨x, y, _, _, e3⟩ := hG.pairs j a hj
      exact Heap.lt_size e3
    · intro a ha
      rcases List.mem_append.mp ha with ha | ha
      · exact hG.above a ha
      · rw [List.mem_singleton.mp ha]; exact hlo
    · intro j b hj
      rcases Nat.lt_trichotomy j as.length with h1 | h1 | h1
      · rw [List.getElem?_append_left h1] at hj
        obtain ⟨x, y, e1, e2, e3⟩ := hG.pairs j b hj
        have ha := hG.above b (List.mem_of_getElem? hj)
        have hne : ∀ {c : Addr}, c < lo → b ≠ c := fun hc e => by rw [e] at ha; exact absurd hc (Nat.not_lt.mpr ha)
        exact ⟨x, y, e1, e2, up b _ (hne B.lS) (hkp b _ (hne B.lz) (hne B.lO) (hne B.l3) (hne B.l4) e3)⟩
      · subst h1
        have hb : h.objs.size = b := by simpa using hj
        subst hb
        subst hal
        exact ⟨_, _, ex, ey, up _ _ (Nat.ne_of_gt hSl) ht⟩
      · have hnone : (as ++ [h.objs.size])[j]? = none := List.getElem?_eq_none (by rw [List.length_append, List.length_singleton]; omega)
        rw [hnone] at hj; cases hj
    · rw [Heap.size_update, hz]
      exact Nat.le_succ_of_le hlo
theorem extZ (hh : A.handled = none) (D : ZipApart z TI TO i1 i2 l1 l2) (B : ApartS S z TI TO i1 i2 l1 l2 lo) {n : Nat} (hn : n ≤ sizeLine) (hx : n = min xs.size ys.size) (res : Value) (c₀ : Nat) (hS : s.heap.get? S = some { cls := .type "list", data := .seq #[] c₀ }) (st : StZ S z TI TO i1 i2 l1 l2 xs ys 0 s.heap) (hlo : lo ≤ s.heap.objs.size)
    (hR : ∀ h' tk acc c as, (∀ b o, b ≠ S → b ≠ z → b ≠ TO → b ≠ i1 → b ≠ i2 → s.heap.get? b = some o → h'.get? b = some o) → h'.get? S = some { cls := .type "list", dict := none, data := .seq acc c, slots := #[] } → as.length = n → MadeZ xs ys lo h' as →
      acc.toList = as.map Value.ref → R (.ok (.ret res)) { s with heap := h', toks := tk }) :
    wpAny (model prog w) A.in1 (Builtin.List.listExtendWith (.ref S) (.ref z) res)
      (fun fin s' => match fin with | .done f => R (.ok f) s' | .again c' => c'.quiet = true ∧ codeAny (model prog w) A c' R s') (fun e s' => R (.error e) s') s := by
  have key : ∀ (h : Heap) (c₁ tk : Nat), (∀ b o, b ≠ S → s.heap.get? b = some o → h.get? b = some o) → s.heap.objs.size ≤ h.objs.size →
      h.get? S = some { cls := .type "list", data := .seq #[] c₁ } → codeAny (model prog w) A (.builtin "list.extend.loop" ⟨[.ref S, .ref z, res], []⟩) R { s with heap := h, toks := tk } := by
    intro h c₁ tk hk hle hS₁
    exact loopZ (s := s) (h₁ := s.heap) hh D B hn hx res hR n 0 h tk c₁ #[] [] (Nat.sub_zero _) (Nat.zero_le _) (st.keep B hk) (fun b o hb _ _ _ _ e => hk b o hb e) hS₁ rfl rfl
      ⟨List.Pairwise.nil, (fun _ ha => nomatch ha), (fun j a hj => by simp at hj)⟩ (Nat.le_trans hlo hle)
  have hzt : s.TypeIs (.ref z) "zip" := by
    obtain ⟨_, _, _, _, _, hz⟩ := st
    rcases hz with ⟨hz, _⟩ | ⟨T, f, oT, hz, _⟩ <;> exact ⟨_, hz, rfl⟩
  unfold Builtin.List.listExtendWith
  refine wpAny_bind (wpAny_typeOf (T := "zip") hzt ?_)
  have h1 : Builtin.List.listSameRef (.ref S) (.ref z) = false := by simp [Builtin.List.listSameRef, B.nz]
  have h2 : (Value.type "zip" == Value.type "list") = false := by decide
  have h3 : (Value.type "zip" == Value.type "tuple") = false := by decide
  simp only [h1, h2, h3, Bool.or_false, Bool.false_eq_true, if_false]
  have hit : ∀ {Q : Value → Shared → Prop} {E : Value → Shared → Prop} {A : Around}, Q (.ref z) s → wpAny (model prog w) A (pyIter (.ref z)) Q E s := fun hq => by
    refine wpAny_pyIter_slot hzt PySem.F.slot_zip_iter (wpAny_call_entry PySem.F.slot_zip_iter hzt PySem.F.entry_zip_iter ?_ (PySem.F.args_zip_iter_1 _))
    show wpAny _ _ (ret (.ref z)) _ _ s
    exact wpAny_pure ⟨_, rfl, "zip", _, hzt, PySem.F.slot_zip_next.lookup, hq⟩
  refine wpAny_bind (hit ?_)
  refine wpAny_bind (wpAny_holding ?_)
  unfold Builtin.List.listLengthHint
  refine wpAny_bind (wpAny_specialOf hzt nolen_zip ?_)
  show wpAny _ A.in1 (specialOf (Value.ref z) (Str.ofString "__length_hint__") >>= _) _ _ _
  refine wpAny_bind (wpAny_specialOf hzt nohint_zip ?_)
  refine wpAny_pure ?_
  show wpAny _ A.in1 (rule "list.extend.makes-room" >>= fun _ => Builtin.List.listTouch (.ref S) >>= fun _ =>
    again (.builtin "list.extend.loop" ⟨[.ref S, .ref z, res], []⟩)) _ _ _
  refine wpAny_bind (wpAny_rule ?_)
  refine wpAny_bind ?_
  show wpAny _ A.in1 (updateSeq S (·.push .none) >>= fun _ => updateSeq S (·.pop)) _ _ _
  refine wpAny_bind (wpAny_updateSeq hS rfl ?_)
  have hS₂ := Heap.get?_update_self (Obj.mapSeq (·.push Value.none)) hS rfl
  refine wpAny_updateSeq (hz := by seq_fits) hS₂ rfl ?_
  have hS₃ := Heap.get?_update_self (Obj.mapSeq (·.pop)) hS₂ rfl
  refine wpAny_pure ⟨plainId_quiet PySem.F.plain_extend_loop _, key _ _ _ (fun b o hb e => ?_) (by rw [Heap.size_update, Heap.size_update]; exact Nat.le_refl _) hS₃⟩
  exact (Heap.get?_update_other _ _ (Ne.symm hb)).trans ((Heap.get?_update_other _ _ (Ne.symm hb)).trans e)
theorem initZ (hh : A.handled = none) (D : ZipApart z TI TO i1 i2 l1 l2) (B : ApartS S z TI TO i1 i2 l1 l2 lo) {n : Nat} (hn : n ≤ sizeLine) (hx : n = min xs.size ys.size) (hS : s.heap.get? S = some { cls := .type "list", data := .seq #[] }) (st : StZ S z TI TO i1 i2 l1 l2 xs ys 0 s.heap) (hlo : lo ≤ s.heap.objs.size)
    (hR : ∀ h' tk acc c as, (∀ b o, b ≠ S → b ≠ z → b ≠ TO → b ≠ i1 → b ≠ i2 → s.heap.get? b = some o → h'.get? b = some o) → h'.get? S = some { cls := .type "list", dict := none, data := .seq acc c, slots := #[] } → as.length = n → MadeZ xs ys lo h' as →
      acc.toList = as.map Value.ref → R (.ok (.ret .none)) { s with heap := h', toks := tk }) :
    wpAny (model prog w) A.in1 (Builtin.«list.__init__» ⟨[.ref S, .ref z], []⟩)
      (fun fin s' => match fin with | .done f => R (.ok f) s' | .again c' => c'.quiet = true ∧ codeAny (model prog w) A c' R s') (fun e s' => R (.error e) s') s := by
  show wpAny _ _ (do let old ← Builtin.List.listItems (.ref S); Builtin.List.listUpdate (.ref S) (fun _ => #[]); letGo old.toList.reverse; Builtin.List.listExtendWith (.ref S) (.ref z) .none) _ _ s
  refine wpAny_bind ?_
  unfold Builtin.List.listItems
  refine wpAny_bind (wpAny_seqItems hS rfl (wpAny_pure ?_))
  show wpAny _ _ (updateSeq S (fun _ => #[]) >>= fun _ => letGo (#[] : Array Value).toList.reverse >>= fun _ => Builtin.List.listExtendWith (.ref S) (.ref z) .none) _ _ s
  refine wpAny_bind (wpAny_updateSeq hS rfl ?_)
  have hS₂ := Heap.get?_update_self (Obj.mapSeq (fun _ => (#[] : Array Value))) hS rfl
  have oth : ∀ b o, b ≠ S → s.heap.get? b = some o → (s.heap.update S (Obj.mapSeq (fun _ => (#[] : Array Value)))).get? b = some o :=
    fun b o hb e => (Heap.get?_update_other _ _ (Ne.symm hb)).trans e
  refine wpAny_bind (wpAny_letGo ?_)
  refine extZ hh D B hn hx .none _ hS₂ (st.keep B oth) (by rw [Heap.size_update]; exact hlo) (fun h' tk acc c as hk hS' hl hG hacc => ?_)
  exact hR h' tk acc c as (fun b o h1 h2 h3 h4 h5 e => hk b o h1 h2 h3 h4 h5 (oth b o h1 e)) hS' hl hG hacc
end
section
variable {prog : Program} {w : World} {A : Around} {E : Value → Shared → Prop} {s : Shared} {xs ys : Array Value} {z TI TO i1 i2 l1 l2 : Addr}
/-- list(z), z a zip of two lists just made -/
theorem listZ {Q : Value → Shared → Prop} (hh : A.handled = none) (D : ZipApart z TI TO i1 i2 l1 l2) {n : Nat} (hn : n ≤ sizeLine) (hx : n = min xs.size ys.size)
    (hz : IsZip s.heap z TI TO .none) (hTI : IsPair s.heap TI (.ref i1) (.ref i2)) (hTO : ∃ a b, IsPair s.heap TO a b) (h1 : s.heap.IsListIter i1 l1 0) (h2 : s.heap.IsListIter i2 l2 0) (hl1 : s.heap.IsList l1 xs) (hl2 : s.heap.IsList l2 ys)
    (hQ : ∀ h' tk acc c as, (∀ b o, b ≠ z → b ≠ TO → b ≠ i1 → b ≠ i2 → s.heap.get? b = some o → h'.get? b = some o) → h'.get? s.heap.objs.size = some { cls := .type "list", dict := none, data := .seq acc c, slots := #[] } → as.length = n → MadeZ xs ys (s.heap.objs.size + 1) h' as →
      acc.toList = as.map Value.ref → Q (.ref s.heap.objs.size) { s with heap := h', toks := tk }) : wpAny (model prog w) A (call (.type "list") [.ref z]) Q E s := by
  refine callType_codes (Q₁ := fun obj s₁ => obj = .ref s.heap.objs.size ∧ s₁ = { s with heap := s.heap.push { cls := .type "list", data := .seq #[] } }) PySem.F.called_list (PySem.F.typeCall_list_1 _) PySem.F.entry_list_init
    (code_list_new _ ⟨rfl, rfl⟩) fun obj s₁ h₁ => ?_
  obtain ⟨rfl, rfl⟩ := h₁
  have hS : (s.heap.push { cls := .type "list", data := .seq #[] }).get? s.heap.objs.size = some { cls := .type "list", data := .seq #[] } := Heap.get?_push_size _ rfl
  have lt : ∀ {b : Addr} {o : Obj}, s.heap.get? b = some o → b < s.heap.objs.size := fun e => Heap.lt_size e
  obtain ⟨ta, tb, hTO'⟩ := hTO
  have b1 := lt hz
  have b2 := lt hTI
  have b3 := lt hTO'
  have b4 : i1 < s.heap.objs.size := let ⟨_, e, _⟩ := h1; lt e
  have b5 : i2 < s.heap.objs.size := let ⟨_, e, _⟩ := h2; lt e
  have b6 : l1 < s.heap.objs.size := let ⟨_, e, _⟩ := hl1; lt e
  have b7 : l2 < s.heap.objs.size := let ⟨_, e, _⟩ := hl2; lt e
  have kp : ∀ b o, s.heap.get? b = some o → (s.heap.push { cls := .type "list", data := .seq #[] }).get? b = some o := fun b o e => Heap.get?_push_of_some _ e
  have B : ApartS s.heap.objs.size z TI TO i1 i2 l1 l2 (s.heap.objs.size + 1) := ⟨Nat.ne_of_gt b1, Nat.ne_of_gt b2, Nat.ne_of_gt b3, Nat.ne_of_gt b4, Nat.ne_of_gt b5, Nat.ne_of_gt b6, Nat.ne_of_gt b7, Nat.lt_succ_self _, Nat.lt_succ_of_lt b1, Nat.lt_succ_of_lt b3, Nat.lt_succ_of_lt b4, Nat.lt_succ_of_lt b5⟩
  refine ⟨⟨_, hS, rfl⟩, PySem.F.args_list_init_2 _ _, initZ (A := A.in1) hh D B hn hx hS ⟨kp _ _ hTI, h1.at fun o e => kp _ o e, h2.at fun o e => kp _ o e, hl1.at fun o e => kp _ o e, hl2.at fun o e => kp _ o e, .inl ⟨kp _ _ hz, ta, tb, kp _ _ hTO'⟩⟩ (by show s.heap.objs.size + 1 ≤ (s.heap.push _).objs.size; rw [Heap.size_push]; exact Nat.le_refl _) (fun h' tk acc c as hk hS' hl hG hacc => ?_)⟩
  exact ⟨rfl, hQ h' tk acc c as (fun b o c1 c2 c3 c4 e => hk b o (Nat.ne_of_lt (lt e)) c1 c2 c3 c4 (kp b o e)) hS' hl hG hacc⟩
end
/-! ### the rule -/
theorem vals_refs : ∀ as : List Addr, Vals (as.map V.ref) (as.map Value.ref)
  | [] => .nil
  | a :: as => .cons rfl (vals_refs as)
def tListZip (K : PySem.W.Frag) (ta : TA) : TE := fun σ H Q => ta σ H fun vs H1 => ∃ (a b : Addr) (xs ys : List V), vs = [.ref a, .ref b] ∧ SqL K H1 a xs ∧ SqL K H1 b ys ∧
  ∀ (H2 : Hp) (p : Addr) (L : List Addr), (∀ b o, H1 b = some o → H2 b = some o) → H1 p = none → L.length = min xs.length ys.length → (∀ (j : Nat) (T : Addr), L[j]? = some T → ∃ x y, xs[j]? = some x ∧ ys[j]? = some y ∧ H2 T = some (.tup [x, y])) → H2 p = some (.lst (L.map V.ref)) → Q (.ref p) H2
theorem pe_listZip {X : Cx} {e e2 : Expr} {ta : TA} {p p2 pos q : Pos} (hg : Gl X "list") (hm : X.mg "list" = none) (hg2 : Gl X "zip") (hm2 : X.mg "zip" = none) (ha : PA X [e, e2] ta) (hc : X.calm = true)
    (hs : starEach [e, e2] X.env = (false, eval e X.env) :: starEach [e2] X.env := by rfl) (hpl : (backTo q (starEach [e2] X.env)).any (·.1) = false := by rfl) :
    PE X (.Call (.Name "list" p) [.Call (.Name "zip" p2) [e, e2] [] q] [] pos) (tListZip X.K ta) := by
  refine ⟨fun pins s σ H Q I h => ?_⟩
  refine Call_ (ld_blt I hg hm (u := .type "list") (by decide +kernel) ?_)
  refine PyProof.Rows.callWith_type1 (PyProof.Rows.args_cons ?_ rfl) rfl rfl
  refine Call_ (ld_blt I hg2 hm2 PyProof.Rows.boot_zip (PyProof.Rows.callWith_type1 (thn (ha.run q pins s σ H _ I h) fun us s1 ⟨vs, H1, I1, r1, q1⟩ => ?_) hs hpl))
  obtain ⟨a, b, xs, ys, ex, hqx, hqy, q1⟩ := q1
  subst ex
  obtain ⟨u1, u2, rfl, ra, rb⟩ := vals2 r1
  cases ra
  cases rb
  obtain ⟨its, rv, p1, z1⟩ := I1.list hqx
  obtain ⟨its2, rv2, p2', z2⟩ := I1.list hqy
  refine call_zip_2 p1.isList p2'.isList fun h' hz hTI hTO h1 h2 hsz hk => PyProof.Rows.args_nil ?_
  have l1 := rv.length
  have l2 := rv2.length
  refine listZ (s := { s1 with heap := h' }) (I1.ok.hd hc) (PySem.W.ktu_apart s1.heap.objs.size a b p1.lt p2'.lt) (n := min its.toArray.size its2.toArray.size) (by simp; omega) rfl hz hTI ⟨_, _, hTO⟩ h1 h2 (p1.isList.at fun o e => hk _ o e) (p2'.isList.at fun o e => hk _ o e) fun h'' tk acc c as hk2 hS hl hG hacc => ?_
  have lt : ∀ {b : Addr} {o : Obj}, s1.heap.get? b = some o → b < s1.heap.objs.size := fun e => Heap.lt_size e
  have k2 : ∀ b o, s1.heap.get? b = some o → h''.get? b = some o := fun b o e => by
    have := lt e
    exact hk2 b o (Nat.ne_of_lt (Nat.lt_of_lt_of_le this (Nat.le_add_right _ 4))) (Nat.ne_of_lt (Nat.lt_of_lt_of_le this (Nat.le_add_right _ 3))) (Nat.ne_of_lt this) (Nat.ne_of_lt (Nat.lt_succ_of_lt this)) (hk b o e)
  have hps : s1.heap.objs.size ≤ h'.objs.size := by rw [hsz]; exact Nat.le_add_right _ _
  have hp : H1 h'.objs.size = none := I1.hok.fresh hps
  have eacc : acc = (as.map Value.ref).toArray := by rw [← hacc]
  have nd : as.Nodup := hG.rise.imp fun h => Nat.ne_of_lt h
  have lo : (as.map V.ref).length ≤ sizeLine := by rw [List.length_map, hl]; simp; omega
  have I2 : Inv X pins σ (upd H1 h'.objs.size (.lst (as.map V.ref))) { s1 with heap := h'', toks := tk } := I1.laid k2 hps (show ObjOk X.prog X.w _ _ _ (.lst (as.map V.ref)) from ⟨lo, as.map Value.ref, c, vals_refs as, by rw [← eacc]; exact hS⟩)
  obtain ⟨H3, I3, kp, hT⟩ := L2.DX.takeT (P := fun T vs => ∀ j, as[j]? = some T → ∃ x y, xs[j]? = some x ∧ ys[j]? = some y ∧ vs = [x, y]) I1 as _ I2 nd fun T hT => by
    have hab := hG.above T hT
    have hge : s1.heap.objs.size ≤ T := Nat.le_trans hps (Nat.le_of_succ_le hab)
    have hne : T ≠ h'.objs.size := Nat.ne_of_gt hab
    obtain ⟨j, hj⟩ := List.mem_iff_getElem?.mp hT
    obtain ⟨u, u', e1, e2, e3⟩ := hG.pairs j T hj
    have j1 : j < xs.length := by rw [l1]; have := (Array.getElem?_eq_some_iff.mp e1).1; simpa using this
    have j2 : j < ys.length := by rw [l2]; have := (Array.getElem?_eq_some_iff.mp e2).1; simpa using this
    have g1 : xs[j]? = some xs[j] := List.getElem?_eq_getElem j1
    have g2 : ys[j]? = some ys[j] := List.getElem?_eq_getElem j2
    obtain ⟨w1, f1, r1'⟩ := rv.get g1
    obtain ⟨w2, f2, r2'⟩ := rv2.get g2
    have a1 : w1 = u := by
      have : its.toArray[j]? = some w1 := by simpa using f1
      rw [e1] at this
      exact (Option.some.inj this).symm
    have a2 : w2 = u' := by
      have : its2.toArray[j]? = some w2 := by simpa using f2
      rw [e2] at this
      exact (Option.some.inj this).symm
    subst a1
    subst a2
    refine ⟨hge, by rw [upd_ne hne]; exact I1.hok.fresh hge, [xs[j], ys[j]], fun i hi => ?_, fun H2 => ⟨by show 2 ≤ sizeLine; decide, [w1, w2], .cons r1' (.cons r2' .nil), ⟨_, e3, rfl, _, rfl⟩⟩⟩
    have : i = j := (List.getElem?_inj (List.getElem?_eq_some_iff.mp hi).1 nd).mp (by rw [hi, hj])
    subst this
    exact ⟨_, _, g1, g2, rfl⟩
  refine ⟨.ref h'.objs.size, H3, I3, rfl, q1 H3 h'.objs.size as (fun b o e => kp b o (by rw [upd_ne (ne_of_none e hp)]; exact e)) hp (by rw [hl]; simp [l1, l2]) (fun j T hj => ?_) (kp _ _ upd_same)⟩
  obtain ⟨vs, hP, hv⟩ := hT T (List.mem_of_getElem? hj)
  obtain ⟨x, y, e1, e2, rfl⟩ := hP j hj
  exact ⟨x, y, e1, e2, hv⟩
/-! ### the layer's word -/
def kListZip (ds : List D) (s : Store) : R (List D) := match ds with
  | [.loc k, .loc l] => match s[k]?, s[l]? with
    | some (.lst xs), some (.lst ys) => .ok (zipD xs ys) s
    | _, _ => .bad
  | _ => .bad
def nListZip (t : Af) : Af := fun env st => (t env st).bind kListZip
section
variable {g : Gh} {X : Cx} {a b : Expr} {pos p p2 q : Pos} {t : Af} {env : EEnv} {st s : Store}
theorem n_listZip (x : XG g X) (h : AV g X [a, b] t) (hg : Gl X "list" := by rfl) (hg2 : Gl X "zip" := by rfl) (hs : starEach [a, b] X.env = (false, eval a X.env) :: starEach [b] X.env := by rfl) (hpl : (backTo q (starEach [b] X.env)).any (·.1) = false := by rfl) :
    NV g X (.Call (.Name "list" p) [.Call (.Name "zip" p2) [a, b] [] q] [] pos) (nListZip t) :=
  pe_imp (pe_listZip hg (x.mg "list") hg2 (x.mg "zip") h x.calm hs hpl) fun σ H Q ⟨ρ, st, env, v, st', Rl, E, h, k⟩ => by
    obtain ⟨ds, s1, e1, h⟩ := R.bind_eq h
    refine ⟨ρ, st, env, ds, s1, Rl, E, e1, fun ρ1 H1 vs P1 r => ?_⟩
    unfold kListZip at h
    split at h
    · rename_i kk ll
      split at h
      · rename_i xs ys hk hl
        cases h
        obtain ⟨lz, rz⟩ := vrs_zip r
        match vs, lz, rz with
        | [v1, v2], _, rz =>
          have r1 := rz (.loc kk, v1) (by simp)
          have r2 := rz (.loc ll, v2) (by simp)
          unfold VR at r1 r2
          obtain ⟨_, rfl⟩ := r1
          obtain ⟨_, rfl⟩ := r2
          obtain ⟨us, hu, ru⟩ := P1.rel.obj kk _ hk
          obtain ⟨us2, hu2, ru2⟩ := P1.rel.obj ll _ hl
          obtain ⟨m1, z1⟩ := vrs_zip ru
          obtain ⟨m2, z2⟩ := vrs_zip ru2
          rw [x.K]
          refine ⟨ρ1 kk, ρ1 ll, us, us2, rfl, .of hu, .of hu2, fun H2 p L kp hp hlen hT hL => ?_⟩
          have P2 := P1.rel.more kp
          refine k ρ1 H2 p _ (P1.trans P2) hL (fun j m q => ?_) (P1.freeB hp) ?_
          · obtain ⟨u, e2, _⟩ := P1.rel.mutSome m
            rw [q, hp] at e2
            cases e2
          · have n1 : (zipD xs ys).length = (L.map V.ref).length := by rw [zipD_length, List.length_map, hlen, m1, m2]
            have e3 : ((zipD xs ys).zip (L.map V.ref)).map Prod.fst = zipD xs ys := by rw [List.map_fst_zip (by omega)]
            have e4 : ((zipD xs ys).zip (L.map V.ref)).map Prod.snd = L.map V.ref := by rw [List.map_snd_zip (by omega)]
            have rr := zip_vrs (K := g.K) (ρ := ρ1) (H := H2) (ps := (zipD xs ys).zip (L.map V.ref)) fun pq hm => by
              obtain ⟨j, hj⟩ := List.mem_iff_getElem?.mp hm
              rw [List.getElem?_zip_eq_some] at hj
              obtain ⟨hj1, hj2⟩ := hj
              rw [List.getElem?_map] at hj2
              obtain ⟨T, hT1, hT2⟩ := Option.map_eq_some_iff.mp hj2
              obtain ⟨x1, y1, f1, f2, f3⟩ := hT j T hT1
              have jx : j < xs.length := by rw [m1]; exact lt_of_get f1
              have jy : j < ys.length := by rw [m2]; exact lt_of_get f2
              have gx : xs[j]? = some xs[j] := List.getElem?_eq_getElem jx
              have gy : ys[j]? = some ys[j] := List.getElem?_eq_getElem jy
              have := zipD_get xs ys j _ _ gx gy
              rw [this] at hj1
              rw [← Option.some.inj hj1, ← hT2]
              have q1 := z1 (xs[j], x1) (List.mem_iff_getElem?.mpr ⟨j, List.getElem?_zip_eq_some.mpr ⟨gx, f1⟩⟩)
              have q2 := z2 (ys[j], y1) (List.mem_iff_getElem?.mpr ⟨j, List.getElem?_zip_eq_some.mpr ⟨gy, f2⟩⟩)
              unfold VR
              exact ⟨T, [x1, y1], rfl, SqT.of f3, .cons (P2.vr P1.rel q1) (.cons (P2.vr P1.rel q2) .nil)⟩
            rw [e3, e4] at rr
            exact rr
        | [], h, _ => cases h
        | [_], h, _ => cases h
        | _ :: _ :: _ :: _, h, _ => cases h
      · cases h
    · cases h
@[simp] theorem ev_nListZip : nListZip t env st = (t env st).bind kListZip := rfl
theorem kListZip_ok {k l : Nat} {xs ys : List D} (h1 : s[k]? = some (.lst xs)) (h2 : s[l]? = some (.lst ys)) : kListZip [.loc k, .loc l] s = .ok (zipD xs ys) s := by
  unfold kListZip
  simp only [h1, h2]
end
end Ev

/-! Ev38: dict(a list of pairs). -/
namespace Ev
open PySem L2
open PyProof.Rows hiding St
def pairsD : List D → Option (List (Key × D))
  | [] => some []
  | .tup [k, v] :: ds => match keyD k, pairsD ds with
    | some kk, some kvs => some ((kk, v) :: kvs)
    | _, _ => none
  | _ :: _ => none
theorem pairs_vrs {K : PySem.W.Frag} {ρ : Nat → Addr} {n : Nat} {H : Hp} : ∀ {xs : List D} {ys : List V} {kvs : List (Key × D)}, VRs K ρ n H xs ys → pairsD xs = some kvs → ∃ (ps : List Addr) (gs : List (Key × V)), ys = ps.map V.ref ∧ Paired (fun p kv => SqT K H p [kV kv.1, kv.2]) ps gs ∧ KR K ρ n H kvs gs
  | [], ys, kvs, r, h => by
    unfold VRs at r
    subst r
    cases h
    exact ⟨[], [], rfl, .nil, rfl⟩
  | d :: ds, ys, kvs, r, h => by
    unfold VRs at r
    obtain ⟨y, zs, rfl, r1, rs⟩ := r
    unfold pairsD at h
    split at h
    · rename_i e
      cases e
    · rename_i k v ds' e
      cases e
      split at h
      · rename_i kk kvs' hk hkv
        cases h
        obtain ⟨ps, gs, rfl, hp, hr⟩ := pairs_vrs rs hkv
        unfold VR at r1
        obtain ⟨p, us, rfl, sq, ru⟩ := r1
        unfold VRs at ru
        obtain ⟨y1, us1, rfl, q1, ru⟩ := ru
        unfold VRs at ru
        obtain ⟨y2, us2, rfl, q2, ru⟩ := ru
        unfold VRs at ru
        subst ru
        have e1 := key_vr q1 hk
        subst e1
        exact ⟨p :: ps, (kk, y2) :: gs, rfl, .cons sq hp, y2, gs, rfl, q2, hr⟩
      · cases h
    · cases h
def dPairs (t : Af) : Pf := fun env st => (t env st).bind fun xs s => match pairsD xs with
  | some kvs => .ok (mergeD [] kvs) s
  | none => .bad
section
variable {g : Gh} {X : Cx} {a : Expr} {pos p : Pos} {t : Af} {env : EEnv} {st s : Store} {xs : List D} {kvs : List (Key × D)}
theorem d_pairs (x : XG g X) (h : NV g X a t) (hg : Gl X "dict" := by rfl) (he : starEach [a] X.env = (false, eval a X.env) :: starEach [] X.env := by rfl) : DV g X (.Call (.Name "dict" p) [a] [] pos) (dPairs t) :=
  pe_imp (pe_callTy (call_dictP x.calm) hg (x.mg "dict") (by decide +kernel) (pa_cons h pa_nil he) (by decide) (by decide) he rfl) fun σ H Q ⟨ρ, st, env, v, st', Rl, E, h, k⟩ => by
    obtain ⟨xs, s1, e1, h⟩ := R.bind_eq h
    split at h
    · rename_i kvs hkv
      cases h
      refine ⟨ρ, st, env, xs, _, Rl, E, e1, fun ρ1 H1 p ys P1 hp hn hf r => ?_⟩
      obtain ⟨ps, gs, rfl, hpr, hr⟩ := pairs_vrs r hkv
      rw [x.K]
      refine ⟨p, ps, gs, rfl, .of hp, hpr, fun q hq => ?_⟩
      have Pq := P1.rel.tup (u := HO.dK (mergeK [] gs)) hq
      refine k ρ1 _ q (mergeK [] gs) (P1.trans Pq) upd_same (fun j m z => ?_) (P1.freeB hq) ((KR.merge hr (show KR g.K ρ1 _ H1 [] [] from rfl)).mono (fun _ _ => rfl) (Nat.le_refl _) (Pq.tk P1.rel))
      obtain ⟨u, e2, _⟩ := P1.rel.mutSome m
      rw [z, hq] at e2
      cases e2
    · cases h
def kPairs (xs : List D) (s : Store) : R (List (Key × D)) := match pairsD xs with
  | some kvs => .ok (mergeD [] kvs) s
  | none => .bad
@[simp] theorem ev_dPairs : dPairs t env st = (t env st).bind kPairs := rfl
def kDNew (kvs : List (Key × D)) (s : Store) : R D := .ok (.loc s.length) (s ++ [.dic kvs])
theorem ev_eDNewP {f : Pf} : eDNew f env st = (f env st).bind kDNew := rfl
@[simp] theorem ev_kDNew : kDNew kvs s = .ok (.loc s.length) (s ++ [.dic kvs]) := rfl
end
end Ev

/-! Ev39: != of own objects whose class has an own __eq__ alone. -/
namespace Ev
open PySem L2
open PyProof.Rows hiding St
section
variable {prog : Program} {w : World} {A : Around} {E : Value → Shared → Prop} {s : Shared} {K : PySem.W.Frag} {x C f : Addr} {ox : Obj} {od : Option Obj} {b : Value}
open PySem.W in
theorem ifBoundB_K {M : Model} {name : Str} {id : String} {args : List Value} {Q : Option Value → Shared → Prop} (X : K.In s.heap) (I : InstAt s.heap x ox C od) (hs : findIn K (.ref C) name = some (some (.builtin id))) (hb : ∀ self, bindSpecial (.builtin id) self = pure (.builtin id, [self]))
    (h : wpAny M A (call (.builtin id) (.ref x :: args)) (fun v => Q (some v)) E s) : wpAny M A (callSpecialIfBound? (.ref x) name args) Q E s := by
  simp only [callSpecialIfBound?, bindSpecialIfBound?]
  refine wpAny_holding (wpAny_bind (wpAny_bind (wpAny_bind (I.type.here ((looks_findIn X hs).here ?_)))))
  simp only [hb]
  refine wpAny_bind (wpAny_askSetting (wpAny_ite ?_))
  have fin : wpAny M A (call (.builtin id) ([.ref x] ++ args) >>= fun v => pure (some v)) Q E s := wpAny_bind (wpAny_mono h (fun v s' h' => wpAny_pure h') fun _ _ h' => h')
  split
  · exact wpAny_bind (wpAny_pure (wpAny_pure fin))
  · exact wpAny_tryCatch (wpAny_bind (wpAny_pure (wpAny_pure fin)))
open PySem.W in
theorem objNe_K (X : K.In s.heap) (I : InstAt s.heap x ox C od) (hs : findIn K (.ref C) "__eq__" = some (some (.ref f))) (hf : isFn K (.ref f) = true) (hu : A.units < cLine) {Q : PySem.Fin → Shared → Prop}
    (hcall : wpAny (model prog w) A (call (.ref f) [.ref x, b]) (fun v s' => ∃ c, v = .bool c ∧ Q (.done (.ret (.bool (!c)))) s') E s) :
    wpAny (model prog w) A (Builtin.«object.__ne__» ⟨[.ref x, b], []⟩) Q E s := by
  unfold Builtin.«object.__ne__»
  repeat (first
    | with_reducible refine wpAny_cRoomFor hu ?_
    | (refine wpAny_bind (m := callSpecialIfBound? (.ref x) (Str.ofString "__eq__") [b])
        (ifBound_K X I hs hf (wpAny_mono hcall (fun v s' hr => by
          obtain ⟨c, rfl, hq⟩ := hr
          repeat (first | exact hq | exact wpAny_pure hq | exact wpAny_truthy_bool hq | (refine wpAny_bind (m := truthy (.bool _)) (wpAny_truthy_bool ?_)) | wp_step)) fun _ _ e => e)))
    | wp_step)
open PySem.W in
theorem checkNe_K {M : Model} {Q : Unit → Shared → Prop} (X : K.In s.heap) (I : InstAt s.heap x ox C od) (hm : mroIn K C (.type "object") = some true) (hq : Q () s) : wpAny M A (checkBuiltinCall "object.__ne__" ⟨.ref x :: [b], []⟩) Q E s := by
  simp only [checkBuiltinCall, PySem.F.cmpKind_ne, PySem.F.cmpSplit_ne]
  refine wpAny_bind ?_
  unfold isInstance
  refine wpAny_bind (I.type.here ?_)
  refine (looks_mroIn X hm).here ?_
  have ha := PySem.F.cmpArgs_ne (.ref x) b
  repeat (first | with_reducible exact hq | wp_step)
open PySem.W in
theorem tryNe_K {op : CmpOp} (hop : (cmpInfo op).2.1 = ("__ne__" : Str)) (X : K.In s.heap) (I : InstAt s.heap x ox C od) (hs : findIn K (.ref C) "__eq__" = some (some (.ref f))) (hf : isFn K (.ref f) = true) (hne : findIn K (.ref C) "__ne__" = some (some (.builtin "object.__ne__"))) (hm : mroIn K C (.type "object") = some true) (hu : A.units + 1 < cLine) {Q : Option Value → Shared → Prop}
    (hcall : wpAny (model prog w) A.in1 (call (.ref f) [.ref x, b]) (fun v s' => ∃ c, v = .bool c ∧ Q (some (.bool (!c))) s') E s) : wpAny (model prog w) A (tryCompare (.ref x) (cmpInfo op).2.1 b) Q E s := by
  rw [hop]
  simp only [tryCompare]
  refine wpAny_bind (ifBoundB_K X I hne PySem.F.cmp_object.ne.bind (wpAny_call (codeAny_call_builtin PySem.F.cmp_object.ne.plain PySem.F.cmpEntry_ne (checkNe_K X I hm (objNe_K (A := A.in1) X I hs hf hu (wpAny_mono hcall (fun v s' hv => ?_) fun _ _ e => e))))))
  obtain ⟨c, rfl, hq⟩ := hv
  first | exact ⟨c, rfl, wpAny_pure hq⟩ | exact ⟨c, rfl, wpAny_pure (wpAny_pure hq)⟩ | exact ⟨c, rfl, hq⟩
open PySem.W in
theorem ne_K {h₀ : Heap} {L : Addr} {m : Str → Option Value} {tb : Value} {Q : Value → Shared → Prop} (hu : A.units + 1 < cLine) (F : Fr h₀ L s.heap m) (X₀ : K.In h₀) (I : InstAt s.heap x ox C od) (hb : Looks (model prog w) s.heap (typeOf b) tb) (hn : notFirst K C tb = true)
    (hs : findIn K (.ref C) "__eq__" = some (some (.ref f))) (hf : isFn K (.ref f) = true) (hne : findIn K (.ref C) "__ne__" = some (some (.builtin "object.__ne__"))) (hm : mroIn K C (.type "object") = some true)
    (h : wpAny (model prog w) A.in1 (call (.ref f) [.ref x, b]) (fun v s' => ∃ c, v = .bool c ∧ Q (.bool (!c)) s') E s) : wpAny (model prog w) A (richCompare .NotEq (.ref x) b) Q E s := by
  have X := X₀.keeps F.keep
  have one : wpAny (model prog w) A (tryCompare (.ref x) (cmpInfo .NotEq).2.1 b) (fun r s' => ∃ v, r = some v ∧ Q v s') E s :=
    tryNe_K rfl X I hs hf hne hm hu (wpAny_mono h (fun v s' ⟨c, e, q⟩ => ⟨c, e, _, rfl, q⟩) fun _ _ e => e)
  unfold richCompare
  simp only [oneThing_ref]
  refine wpAny_holding (wpAny_bind (wpAny_cRoomFor (Nat.lt_of_succ_lt hu) ?_))
  refine wpAny_bind (I.type.here (wpAny_bind (hb.here ?_)))
  split
  · rename_i q
    have e : subIn K tb (.ref C) = some false := by
      rcases Bool.or_eq_true_iff.mp hn with e | e
      · rw [beq_iff_eq.mp e] at q; simp at q
      · exact beq_iff_eq.mp e
    refine wpAny_bind ((looks_subIn X e).here ?_)
    simp only [Bool.false_eq_true, if_false]
    refine wpAny_bind (wpAny_mono one (fun r s' z => ?_) fun _ _ e => e)
    obtain ⟨v, rfl, hq⟩ := z
    exact wpAny_pure hq
  · refine wpAny_bind (wpAny_pure ?_)
    simp only [Bool.false_eq_true, if_false]
    refine wpAny_bind (wpAny_mono one (fun r s' z => ?_) fun _ _ e => e)
    obtain ⟨v, rfl, hq⟩ := z
    exact wpAny_pure hq
end
/-! ### the layer's word -/
section
variable {g : Gh} {X : Cx} {pins : List (Addr × Obj)} {σ : St} {H : Hp} {s : Shared} {vs : List V} {us : List Value} {Q : VK} {k : Nat} {f : Addr} {fd : FuncData} {ps : List Str} {sem : SemF}
theorem run_g1 (x : XG g X) (F : FnG g X.prog X.w X.K X.mg X.base k f fd ps sem) (hr : Room k X.A.in1) (hb : Binds X.K fd ps []) (I : Inv X pins σ H s) (r : Vals vs us) (h : SpD g sem vs H Q) :
    wpAny (model X.prog X.w) X.A.in1 (call (.ref f) us) (EP X pins σ Q) X.xe s := by
  have hl : (us ++ []).length = ps.length := by rw [List.append_nil, ← r.length]; exact F.lenV h
  have hb' := hb s us I.kIn hl
  rw [List.append_nil] at hb'
  have e0 := I.env0
  refine wpAny_call (codeAny_mono (F.run X.A.in1 X.stack s H ⟨us, []⟩ us vs Q hr x.hg ⟨e0.1, e0.2, e0.3, e0.4, e0.5, e0.6, e0.7, e0.8⟩ hb' r h) fun rr s' hq => ?_)
  match rr, hq with
  | .ok (.ret u), hq => exact I.after hq
  | .ok .next, hq => exact hq.elim
  | .ok .brk, hq => exact hq.elim
  | .ok .cont, hq => exact hq.elim
  | .error _, hq => exact hq.elim
end
section
variable {g : Gh} {X : Cx} {k : Nat} {fa' : Addr} {fd : FuncData} {ps : List Str} {sem : SemF} {sub : Nat → Bool} {a b : Expr} {pos : Pos} {fa fb : Ef}
def rNeO (g : Gh) (C : Addr) (sem : SemF) : R2 := fun x y H Q => ∃ a dx fs t, x = .ref a ∧ H a = some (.ins C dx fs) ∧ TyX g.K H y t ∧ PySem.W.notFirst g.K C t = true ∧ SpD g sem [x, y] H (fun z H' => ∃ b, z = .bl b ∧ Q (.bl (!b)) H')
theorem op_neO {C : Addr} (x : XG g X) (F : FnG g X.prog X.w X.K X.mg X.base k fa' fd ps sem) (hr : Room k X.A.in1) (hb : Binds X.K fd ps []) (hs : PySem.W.findIn g.K (.ref C) "__eq__" = some (some (.ref fa'))) (hf : PySem.W.isFn g.K (.ref fa') = true)
    (hne : PySem.W.findIn g.K (.ref C) "__ne__" = some (some (.builtin "object.__ne__"))) (hm : PySem.W.mroIn g.K C (.type "object") = some true) :
    OpR X (compareOp .NotEq) (rNeO g C sem) := by
  intro pins s σ H x' y v u Q I rx ry h
  obtain ⟨a, dx, fs, t, rfl, ha, ty, hn, hsp⟩ := h
  rw [← x.K] at ty hn hs hf hne hm
  cases rx
  obtain ⟨P, Z, p, _⟩ := kit_of I ry ty
  obtain ⟨mA, J, _⟩ := ins_get I.hok ha
  obtain ⟨od, J, _⟩ := J.look
  obtain ⟨m, hF⟩ := I.fr
  show wpAny (model X.prog X.w) X.A (richCompare .NotEq (.ref a) u) (EP X pins σ Q) X.xe s
  refine ne_K (tb := t) (by have := x.hu; omega) hF I.ok.mod.kin J (Z.ty _ _ I.kIn p) hn hs hf hne hm ?_
  refine wpAny_mono (run_g1 (us := [.ref a, u]) (vs := [.ref a, y]) x F hr hb I (.cons rfl (.cons ry .nil)) hsp) (fun r s' q => ?_) fun _ _ e => e
  obtain ⟨z, H', I', rz, b, eb, q⟩ := q
  subst eb
  cases rz
  exact ⟨b, rfl, .bl (!b), H', I', rfl, q⟩
def noR (r : R D) : R D := match r with | .ok (.bl b) s => .ok (.bl (!b)) s | _ => .bad
def neOF (c : Nat) (sub : Nat → Bool) (sem : SemF) : F2 := fun x y s => if isC c x s = true ∧ okT sub c (tyO s y) = true then noR (sem [x, y] s) else .bad
theorem o_neO (x : XG g X) (c : Nat) (hc : c < g.nc) (h0 : IsO g (g.cl c) sub) : Op2 g (rNeO g (g.cl c) sem) (neOF c sub sem) := fun ρ st H d1 d2 x1 y1 v st' Q Rl r1 r2 q k => by
  unfold neOF at q
  split at q
  · rename_i hz
    obtain ⟨l, dx, gs, fs, rfl, rfl, e3, _, rf⟩ := isC_ok Rl r1 hz.1
    have hz2 := hz.2
    cases qt : tyO st d2 with
    | none => rw [qt] at hz2; cases hz2
    | some n =>
      obtain ⟨ty, hn⟩ := tyO_ok h0 x.cls Rl r2 qt
      refine ⟨ρ l, dx, gs, _, rfl, e3, ty, ?_, ?_⟩
      · unfold PySem.W.notFirst
        rcases hn with ⟨T, mT, rfl⟩ | ⟨c', hc', rfl⟩
        · show (_ || PySem.W.subIn g.K (.type T) (.ref (g.cl c)) == some false) = true
          rw [h0.blt T mT]
          simp
        · rw [qt] at hz2
          have hz2 : (decide (c' = c) || !sub c') = true := hz2
          rw [Bool.or_eq_true] at hz2
          rcases hz2 with e | e
          · have e := of_decide_eq_true e
            subst e
            show ((Value.ref (g.cl c') == Value.ref (g.cl c')) || _) = true
            rw [beq_self_eq_true]
            rfl
          · show (_ || PySem.W.subIn g.K (.ref (g.cl c')) (.ref (g.cl c)) == some false) = true
            rw [h0.own c' hc']
            have : sub c' = false := by simpa using e
            rw [this]
            simp
      · cases es : sem [.loc l, d2] st with
        | bad => rw [es] at q; cases q
        | ok w s' =>
          rw [es] at q
          cases w with
          | bl b =>
            cases q
            refine ⟨ρ, st, [.loc l, d2], .bl b, _, Rl, .cons r1 (.cons r2 .nil), es, fun ρ' H' z P rz => ?_⟩
            have ez : z = .bl b := by simpa [VR] using rz
            exact ⟨b, ez, k ρ' H' _ P (by simp [VR])⟩
          | _ => cases q
  · cases q
theorem e_neO (x : XG g X) (c : Nat) (hc : c < g.nc) (h0 : IsO g (g.cl c) sub) (F : FnG g X.prog X.w X.K X.mg X.base k fa' fd ps sem) (hr : Room k X.A.in1) (hb : Binds X.K fd ps []) (hs : PySem.W.findIn g.K (.ref (g.cl c)) "__eq__" = some (some (.ref fa'))) (hf : PySem.W.isFn g.K (.ref fa') = true)
    (hne : PySem.W.findIn g.K (.ref (g.cl c)) "__ne__" = some (some (.builtin "object.__ne__"))) (hm : PySem.W.mroIn g.K (g.cl c) (.type "object") = some true) (ha : EV g X a fa) (hb' : EV g X b fb) : EV g X (.Compare a [.NotEq] [b] pos) (eBin (neOF c sub sem) fa fb) := e_cmp (op_neO x F hr hb hs hf hne hm) (o_neO x c hc h0) ha hb' (nomark _)
theorem t_neO (x : XG g X) (c : Nat) (hc : c < g.nc) (h0 : IsO g (g.cl c) sub) (F : FnG g X.prog X.w X.K X.mg X.base k fa' fd ps sem) (hr : Room k X.A.in1) (hb : Binds X.K fd ps []) (hs : PySem.W.findIn g.K (.ref (g.cl c)) "__eq__" = some (some (.ref fa'))) (hf : PySem.W.isFn g.K (.ref fa') = true)
    (hne : PySem.W.findIn g.K (.ref (g.cl c)) "__ne__" = some (some (.builtin "object.__ne__"))) (hm : PySem.W.mroIn g.K (g.cl c) (.type "object") = some true) (ha : EV g X a fa) (hb' : EV g X b fb) : TV g X (.Compare a [.NotEq] [b] pos) (tfB (eBin (neOF c sub sem) fa fb)) := t_cmp (op_neO x F hr hb hs hf hne hm) (o_neO x c hc h0) ha hb' (nomark _)
end
/-! ### reckoning -/
section
variable {s : Store} {x y : D} {c : Nat} {sub : Nat → Bool} {sem : SemF} {b : Bool}
@[simp] theorem ev_noR : noR (.ok (.bl b) s) = .ok (.bl (!b)) s := rfl
@[simp] theorem ev_neOF : neOF c sub sem x y s = if isC c x s = true ∧ okT sub c (tyO s y) = true then noR (sem [x, y] s) else .bad := rfl
end
end Ev

/-! Ev40: t[::-1] of a tuple. -/
namespace Ev
open PySem L2
open PyProof.Rows hiding St
section
open HT
variable {prog : Program} {w : World} {A : Around} {E : Value → Shared → Prop} {s : Shared}
theorem adjust_rev (n : Nat) : Builtin.Slice.sliceAdjust none none (-1) (n : Int) = ((n : Int) - 1, -1) := by
  unfold Builtin.Slice.sliceAdjust
  simp
theorem places_rev (n : Nat) : Builtin.Slice.slicePlaces ((n : Int) - 1) (-1) (-1) = n := by
  unfold Builtin.Slice.slicePlaces
  have h1 : ¬ ((-1 : Int) > 0) := by omega
  simp only [h1, if_false]
  split
  · simp
  · omega
theorem sliceApplied_rev {sl : Addr} {vs : Value} {n : Nat} {Q : Int × Int × Nat → Shared → Prop} (hs : s.heap.IsSliceOf sl .none .none vs) (ps : IsPart vs (some (-1))) (h : Q ((n : Int) - 1, -1, n) s) : wpAny (model prog w) A (Builtin.Slice.sliceApplied (.ref sl) (pure (n : Int))) Q E s := by
  obtain ⟨os, hos, hcs, hds⟩ := id hs
  unfold Builtin.Slice.sliceApplied Builtin.Slice.sliceFields
  refine wpAny_bind (wpAny_bind (wpAny_field hos hds (x := .none) rfl (wpAny_bind (wpAny_field hos hds (x := .none) rfl (wpAny_bind (wpAny_field hos hds (x := vs) rfl (wpAny_pure ?_)))))))
  refine wpAny_bind (slicePart_ ps ?_)
  show wpAny _ _ (if ((-1 : Int) == 0) = true then _ else _) _ _ s
  rw [if_neg (by decide)]
  refine wpAny_bind (slicePart_none (wpAny_bind (slicePart_none (wpAny_bind (wpAny_pure ?_)))))
  show wpAny _ _ (match Builtin.Slice.sliceAdjust none none (-1) (n : Int) with | (lo, hi) => pure (lo, (-1 : Int), Builtin.Slice.slicePlaces lo hi (-1))) _ _ s
  rw [adjust_rev n]
  show wpAny _ _ (pure (((n : Int) - 1), (-1 : Int), Builtin.Slice.slicePlaces ((n : Int) - 1) (-1) (-1))) _ _ s
  rw [places_rev]
  exact wpAny_pure h
theorem pick_rev (xs : Array Value) : ((List.range xs.size).filterMap fun (m : Nat) => xs[(((xs.size : Int) - 1) + (m : Int) * -1).toNat]?).toArray = xs.toList.reverse.toArray := by
  congr 1
  apply List.ext_getElem?
  intro i
  have key : ∀ n, n ≤ xs.size → (List.range n).filterMap (fun (m : Nat) => xs[(((xs.size : Int) - 1) + (m : Int) * -1).toNat]?) = xs.toList.reverse.take n := by
    intro n
    induction n with
    | zero => intro _; rfl
    | succ n ih =>
      intro hn
      rw [List.range_succ, List.filterMap_append, ih (by omega), List.take_succ]
      congr 1
      have e1 : (((xs.size : Int) - 1) + (n : Int) * -1).toNat = xs.size - 1 - n := by omega
      have e2 : xs.toList.reverse[n]? = xs[xs.size - 1 - n]? := by
        rw [List.getElem?_reverse (by rw [Array.length_toList]; omega)]
        simp
      rw [e2]
      rw [List.filterMap_cons, e1]
      cases xs[xs.size - 1 - n]? <;> rfl
  rw [key xs.size (Nat.le_refl _), List.take_of_length_le (by simp)]
theorem getItem_tuple_rev {t sl : Addr} {items : Array Value} {vs : Value} {Q : Value → Shared → Prop} (ht : IsTup s.heap t items) (hs : s.heap.IsSliceOf sl .none .none vs) (ps : IsPart vs (some (-1)))
    (h : Q (.ref s.heap.objs.size) { s with heap := s.heap.push { cls := .type "tuple", data := .seq items.toList.reverse.toArray } })
    (hsz : items.size ≤ sizeLine) : wpAny (model prog w) A (getItem (.ref t) (.ref sl)) Q E s := by
  have htake : sizeOk (.seq items.toList.reverse.toArray) := by
    show items.toList.reverse.toArray.size ≤ sizeLine
    rw [List.size_toArray, List.length_reverse, Array.length_toList]
    exact hsz
  obtain ⟨os, hos, hcs, hds⟩ := id hs
  have hTs : s.TypeIs (.ref sl) "slice" := ⟨os, hos, hcs⟩
  unfold getItem
  try with_reducible refine wpAny_holding ?_
  first | refine wpAny_bind (wpAny_pure ?_) | skip
  refine wpAny_bind (wpAny_sequenceKey ht.typeIs (by decide) ?_)
  refine wpAny_bind (wpAny_callSpecial?_slot (name := Str.ofString "__getitem__") ht.typeIs PyProof.Rows.slot_tuple_getitem
    (wpAny_call_entry PyProof.Rows.slot_tuple_getitem ht.typeIs entry_tuple_getitem ?_ (args_tuple_getitem _ _)))
  show wpAny _ _ (Builtin.Tuple.tupleItemsOf (.ref t) >>= _) _ _ s
  refine wpAny_bind (tupleItemsOf_ ht ?_)
  refine wpAny_bind (wpAny_typeOf hTs ?_)
  rw [if_pos (by decide)]
  refine wpAny_bind (sliceApplied_rev hs ps ?_)
  show wpAny _ _ (if ((((items.size : Int) - 1)) == 0 && (-1 : Int) == 1 && (items.size) == items.size) = true then _ else _) _ _ s
  rw [if_neg (by simp), pick_rev]
  first
    | exact wpAny_bind (m := Builtin.Tuple.tupleExact _) (wpAny_newObj_type (wpAny_pure ⟨_, rfl, wpAny_pure h⟩) htake)
    | exact wpAny_bind (m := Builtin.Tuple.tupleExact _) (wpAny_newObj_type (wpAny_bind (wpAny_pure (wpAny_pure ⟨_, rfl, wpAny_pure h⟩))) htake)
    | exact wpAny_bind (wpAny_bind (m := Builtin.Tuple.tupleExact _) (wpAny_newObj_type (wpAny_pure (wpAny_pure ⟨_, rfl, wpAny_pure h⟩)) htake))
    | exact wpAny_bind (wpAny_bind (m := Builtin.Tuple.tupleExact _) (wpAny_newObj_type (wpAny_pure ⟨_, rfl, wpAny_pure h⟩) htake))
end
def tRevT (K : PySem.W.Frag) (te : TE) (tl th ts : St → Hp → (Option Int → Hp → Prop) → Prop) : TE := fun σ H Q => te σ H fun x H1 => tl σ H1 fun l H2 => th σ H2 fun u H3 => ts σ H3 fun o H4 => l = none ∧ u = none ∧ o = some (-1) ∧ ∃ a xs, x = .ref a ∧ SqT K H4 a xs ∧ ∀ p, H4 p = none → Q (.ref p) (upd H4 p (.tup xs.reverse))
theorem vals_rev : ∀ {xs : List V} {us : List Value}, Vals xs us → Vals xs.reverse us.reverse
  | _, _, .nil => .nil
  | _, _, .cons (a := x) (b := u) h t => by
    rw [List.reverse_cons, List.reverse_cons]
    exact (vals_rev t).append (.cons h .nil)
section
variable {X : Cx} {e sx : Expr} {lo hi : Option Expr} {p2 pos : Pos} {te : TE} {tl th ts : St → Hp → (Option Int → Hp → Prop) → Prop}
theorem pe_revT (he : PE X e te) (hl : PO X lo tl) (hu : PO X hi th) (hs : PO X (some sx) ts) : PE X (.Subscript e (.Slice lo hi (some sx) p2) pos) (tRevT X.K te tl th ts) := by
  refine ⟨fun pins s σ H Q I h => ?_⟩
  refine Subscript_ (thn (he.run pins s σ H _ I h) fun v s1 ⟨x, H1, I1, r1, q1⟩ => ?_)
  refine wpAny_Slice (thn (hl.run pins s1 σ H1 _ I1 q1) fun vl s2 ⟨l, H2, I2, pl, q2⟩ => thn (hu.run pins s2 σ H2 _ I2 q2) fun vu s3 ⟨u, H3, I3, pu, q3⟩ => thn (hs.run pins s3 σ H3 _ I3 q3) fun vs s4 ⟨o, H4, I4, ps, hl0, hu0, ho, a, xs, ex, hx, q⟩ => ?_)
  subst ex
  subst hl0
  subst hu0
  subst ho
  cases r1
  cases pl
  cases pu
  have I5 : Inv X pins σ H4 { s4 with heap := s4.heap.push { cls := .type "slice", data := .fields #[.none, .none, vs] } } := I4.kept (t' := s4.toks) fun b ob q => Heap.get?_push_of_some _ q
  obtain ⟨its, r, ht, hz⟩ := I5.tuple hx
  have hlen := r.length
  show wpAny (model X.prog X.w) X.A (subscriptTail e (.Slice lo hi (some sx) p2) (.ref a) (.ref s4.heap.objs.size)) (EP X pins σ Q) X.xe { s4 with heap := s4.heap.push { cls := .type "slice", data := .fields #[.none, .none, vs] } }
  refine tail_any (ops := [.ref a, .ref s4.heap.objs.size]) ht.typeIs (PyProof.Rows.slot_tuple_getitem.lookup) ?_ (by with_unfolding_all rfl)
  refine getItem_tuple_rev ht (Heap.IsSliceOf.new _ .none .none vs) ps ?_ (by rw [List.size_toArray]; omega)
  refine ⟨.ref _, _, I5.laid (t' := s4.toks) (o := .tup xs.reverse) (fun b ob q => Heap.get?_push_of_some _ q) (Nat.le_refl _) ?_, rfl, q _ (I5.hok.fresh (Nat.le_refl _))⟩
  exact ⟨by rw [List.length_reverse]; exact hz, its.reverse, vals_rev r, IsTup.new _ _⟩
end
def revTF (d : D) (lo hi sx : Option Int) (st : Store) : R Mv := match d with
  | .tup xs => if lo = none ∧ hi = none ∧ sx = some (-1) then .ok (.v (.tup xs.reverse)) st else .bad
  | _ => .bad
def mRevT (f : Ef) (fl fh fs : Of) : Mf := fun env st => (f env st).bind fun d s1 => (fl env s1).bind fun lo s2 => (fh env s2).bind fun hi s3 => (fs env s3).bind fun sx s4 => revTF d lo hi sx s4
theorem vrs_rev {K : PySem.W.Frag} {ρ : Nat → Addr} {n : Nat} {H : Hp} {xs : List D} {ys : List V} (r : VRs K ρ n H xs ys) : VRs K ρ n H xs.reverse ys.reverse := by
  obtain ⟨l, z⟩ := vrs_zip r
  have e1 : ((xs.zip ys).reverse).map Prod.fst = xs.reverse := by rw [List.map_reverse, List.map_fst_zip (by omega)]
  have e2 : ((xs.zip ys).reverse).map Prod.snd = ys.reverse := by rw [List.map_reverse, List.map_snd_zip (by omega)]
  have := zip_vrs (K := K) (ρ := ρ) (n := n) (H := H) (ps := (xs.zip ys).reverse) fun p hp => z p (List.mem_reverse.mp hp)
  rw [e1, e2] at this
  exact this
section
variable {g : Gh} {X : Cx} {e sx : Expr} {lo hi : Option Expr} {p2 pos : Pos} {f : Ef} {fl fh fs : Of}
theorem m_revT (x : XG g X) (he : EV g X e f) (hl : PO X lo (tO g fl)) (hu : PO X hi (tO g fh)) (hs : PO X (some sx) (tO g fs)) : MV g X (.Subscript e (.Slice lo hi (some sx) p2) pos) (mRevT f fl fh fs) :=
  pe_imp (pe_revT he hl hu hs) fun σ H Q ⟨ρ, st, env, v, st', Rl, E, h, k⟩ => by
    obtain ⟨d, s1, e1, h⟩ := R.bind_eq h
    obtain ⟨lo, s2, e2, h⟩ := R.bind_eq h
    obtain ⟨hi, s3, e3, h⟩ := R.bind_eq h
    obtain ⟨so, s4, e4, h⟩ := R.bind_eq h
    refine ⟨ρ, st, env, d, s1, Rl, E, e1, fun ρ1 H1 y P1 r1 => ?_⟩
    refine ⟨ρ1, s1, env, lo, s2, P1.rel, P1.envr Rl E, e2, fun ρ2 H2 P2 => ?_⟩
    refine ⟨ρ2, s2, env, hi, s3, P2.rel, (P1.trans P2).envr Rl E, e3, fun ρ3 H3 P3 => ?_⟩
    refine ⟨ρ3, s3, env, so, s4, P3.rel, ((P1.trans P2).trans P3).envr Rl E, e4, fun ρ4 H4 P4 => ?_⟩
    have P14 := ((P1.trans P2).trans P3).trans P4
    have r4 := P4.vr P3.rel (P3.vr P2.rel (P2.vr P1.rel r1))
    rw [x.K]
    cases d with
    | tup xs =>
      have h : (if lo = none ∧ hi = none ∧ so = some (-1) then R.ok (.v (.tup xs.reverse)) s4 else .bad) = .ok v st' := h
      split at h
      · rename_i hc
        cases h
        obtain ⟨rfl, rfl, rfl⟩ := hc
        unfold VR at r4
        obtain ⟨p, ys, rfl, sq, rs⟩ := r4
        refine ⟨rfl, rfl, rfl, p, ys, rfl, sq, fun q hq => ?_⟩
        obtain ⟨Pt, rt⟩ := VR.tupMade P4.rel hq (vrs_rev rs)
        exact k ρ4 _ _ (P14.trans Pt) rt
      · cases h
    | _ => cases h
end
/-! ### reckoning -/
section
variable {env : EEnv} {st s : Store} {f : Ef} {fl fh fs : Of} {d : D} {lo hi sx : Option Int} {xs : List D}
def kRv4 (d : D) (lo hi sx : Option Int) (s : Store) : R Mv := revTF d lo hi sx s
def kRv3 (fs : Of) (env : EEnv) (d : D) (lo hi : Option Int) (s : Store) : R Mv := (fs env s).bind (kRv4 d lo hi)
def kRv2 (fh fs : Of) (env : EEnv) (d : D) (lo : Option Int) (s : Store) : R Mv := (fh env s).bind (kRv3 fs env d lo)
def kRv1 (fl fh fs : Of) (env : EEnv) (d : D) (s : Store) : R Mv := (fl env s).bind (kRv2 fh fs env d)
@[simp] theorem ev_mRevT : mRevT f fl fh fs env st = (f env st).bind (kRv1 fl fh fs env) := rfl
@[simp] theorem ev_kRv1 : kRv1 fl fh fs env d s = (fl env s).bind (kRv2 fh fs env d) := rfl
@[simp] theorem ev_kRv2 : kRv2 fh fs env d lo s = (fh env s).bind (kRv3 fs env d lo) := rfl
@[simp] theorem ev_kRv3 : kRv3 fs env d lo hi s = (fs env s).bind (kRv4 d lo hi) := rfl
@[simp] theorem ev_kRv4 : kRv4 (.tup xs) none none (some (-1)) s = .ok (.v (.tup xs.reverse)) s := rfl
end
end Ev

/-! Ev46: words that are reckoned by Lean's kernel: equal to the layer's words, but each lap's state is reckoned out first; sorting by putting in. -/
namespace Ev
open PySem L2
open PyProof.Rows hiding St


theorem lexD_trans : ∀ (a b c : D), lexD a b = true → lexD b c = true → lexD a c = true := (PySem.W.sortLe_total (listOrd itemOrd) false fun b : D => PySem.W.keyToks (D.dat b)).trans
theorem lexD_total : ∀ (a b : D), lexD a b = true ∨ lexD b a = true := (PySem.W.sortLe_total (listOrd itemOrd) false fun b : D => PySem.W.keyToks (D.dat b)).total

/-! ### reckoned out first -/
section
variable {A : Type}
def fN (n : Nat) (k : Nat → A) : A := match n with
  | 0 => k 0
  | n + 1 => k (n + 1)
theorem fN_eq (n : Nat) (k : Nat → A) : fN n k = k n := by cases n <;> rfl
def fI (i : Int) (k : Int → A) : A := match i with
  | .ofNat n => fN n fun n => k (.ofNat n)
  | .negSucc n => fN n fun n => k (.negSucc n)
theorem fI_eq (i : Int) (k : Int → A) : fI i k = k i := by cases i <;> simp [fI, fN_eq]
def fNs : List Nat → (List Nat → A) → A
  | [], k => k []
  | x :: xs, k => fN x fun x => fNs xs fun xs => k (x :: xs)
theorem fNs_eq : ∀ (d : List Nat) (k : List Nat → A), fNs d k = k d
  | [], _ => rfl
  | x :: xs, _ => by rw [fNs, fN_eq, fNs_eq]
/-- the spine alone -/
def fSp {B : Type} : List B → (List B → A) → A
  | [], k => k []
  | x :: xs, k => fSp xs fun xs => k (x :: xs)
theorem fSp_eq {B : Type} : ∀ (d : List B) (k : List B → A), fSp d k = k d
  | [], _ => rfl
  | x :: xs, _ => by rw [fSp, fSp_eq]
def fL (f : D → (D → A) → A) : List D → (List D → A) → A
  | [], k => k []
  | x :: xs, k => f x fun x => fL f xs fun xs => k (x :: xs)
theorem fL_eq {f : D → (D → A) → A} (h : ∀ d k, f d k = k d) : ∀ (d : List D) (k : List D → A), fL f d k = k d
  | [], _ => rfl
  | x :: xs, _ => by rw [fL, h, fL_eq h]
def fDn : Nat → D → (D → A) → A
  | 0, d, k => k d
  | n + 1, d, k => match d with
    | .non => k .non
    | .bl b => match b with
      | true => k (.bl true)
      | false => k (.bl false)
    | .int i => fI i fun i => k (.int i)
    | .str s => k (.str s)
    | .tup xs => fL (fDn n) xs fun xs => k (.tup xs)
    | .loc l => fN l fun l => k (.loc l)
theorem fDn_eq : ∀ (n : Nat) (d : D) (k : D → A), fDn n d k = k d
  | 0, _, _ => rfl
  | n + 1, d, k => by
    cases d with
    | non => rfl
    | bl b => cases b <;> rfl
    | int i => exact fI_eq i fun i => k (.int i)
    | str s => rfl
    | tup xs => exact fL_eq (fDn_eq n) xs fun xs => k (.tup xs)
    | loc l => exact fN_eq l fun l => k (.loc l)
def fD (d : D) (k : D → A) : A := fDn 5 d k
theorem fD_eq (d : D) (k : D → A) : fD d k = k d := fDn_eq 5 d k
def fDs (d : List D) (k : List D → A) : A := fL (fDn 5) d k
theorem fDs_eq (d : List D) (k : List D → A) : fDs d k = k d := fL_eq (fDn_eq 5) d k
def fO (o : O) (k : O → A) : A := match o with
  | .lst xs => fSp xs fun xs => k (.lst xs)
  | o => k o
theorem fO_eq (o : O) (k : O → A) : fO o k = k o := by cases o <;> simp [fO, fSp_eq]
def fS : Store → (Store → A) → A
  | [], k => k []
  | o :: s, k => fO o fun o => fS s fun s => k (o :: s)
theorem fS_eq : ∀ (s : Store) (k : Store → A), fS s k = k s
  | [], _ => rfl
  | o :: s, k => by rw [fS, fO_eq, fS_eq]
def fM (o : Option D) (k : Option D → A) : A := match o with
  | none => k none
  | some d => fD d fun d => k (some d)
theorem fM_eq (o : Option D) (k : Option D → A) : fM o k = k o := by cases o <;> simp [fM, fD_eq]
def fE : EEnv → (EEnv → A) → A
  | [], k => k []
  | o :: s, k => fM o fun o => fE s fun s => k (o :: s)
theorem fE_eq : ∀ (s : EEnv) (k : EEnv → A), fE s k = k s
  | [], _ => rfl
  | o :: s, k => by rw [fE, fM_eq, fE_eq]
def fW : Wt → (Wt → A) → A
  | [], k => k []
  | (l, xs) :: s, k => fN l fun l => fDs xs fun xs => fW s fun s => k ((l, xs) :: s)
theorem fW_eq : ∀ (s : Wt) (k : Wt → A), fW s k = k s
  | [], _ => rfl
  | (l, xs) :: s, k => by rw [fW, fN_eq, fDs_eq, fW_eq]
end

/-! ### the same again, by a depth -/
def eqL (f : D → D → Bool) : List D → List D → Bool
  | [], [] => true
  | x :: xs, y :: ys => f x y && eqL f xs ys
  | _, _ => false
theorem eqL_eq {f : D → D → Bool} (h : ∀ a b, f a b = D.eqb a b) : ∀ a b, eqL f a b = D.eqbs a b
  | [], [] => by rw [eqL, D.eqbs]
  | [], _ :: _ => by rw [eqL, D.eqbs] <;> simp
  | _ :: _, [] => by rw [eqL, D.eqbs] <;> simp
  | x :: xs, y :: ys => by rw [eqL, D.eqbs, h, eqL_eq h]
def eqDn : Nat → D → D → Bool
  | 0, a, b => D.eqb a b
  | n + 1, a, b => match a with
    | .tup xs => match b with
      | .tup ys => eqL (eqDn n) xs ys
      | _ => false
    | .int i => match b with
      | .int j => decide (i = j)
      | _ => false
    | .loc i => match b with
      | .loc j => Nat.beq i j
      | _ => false
    | a => D.eqb a b
theorem eqDn_eq : ∀ n a b, eqDn n a b = D.eqb a b
  | 0, _, _ => rfl
  | n + 1, a, b => by
    cases a <;> cases b <;> first | rfl | (simp only [eqDn, D.eqb, eqL_eq (eqDn_eq n)]; done) | (simp only [eqDn, D.eqb]; rfl) | (simp only [eqDn, D.eqb]; rw [Bool.eq_iff_iff]; simp)
def wOkI (st : Store) : Wt → Bool
  | [] => true
  | (l, xs) :: ws => (match st[l]? with | some (.lst ys) => eqL (eqDn 5) ys xs | some (.ro _) => true | _ => false) && wOkI st ws
theorem wOk_I (st : Store) : ∀ ws, wOk st ws = wOkI st ws
  | [] => rfl
  | (l, xs) :: ws => by
    rw [wOk, wOkI, wOk_I st ws]
    congr 1
    cases st[l]? with
    | none => rfl
    | some o => cases o <;> first | rfl | exact (eqL_eq (eqDn_eq 5) _ _).symm

/-! ### sorting by putting in, by rows of signs -/
def tkns (f : D → Option (List Nat)) : List D → Option (List Nat)
  | [] => some [0]
  | x :: xs => match f x with
    | some a => match tkns f xs with
      | some b => some (1 :: (a ++ b))
      | none => none
    | none => none
def tknI (i : Int) : Option (List Nat) := match i with
  | .ofNat k => some [k]
  | .negSucc _ => none
def tkn : Nat → D → Option (List Nat)
  | 0, d => match d with
    | .int i => tknI i
    | _ => none
  | n + 1, d => match d with
    | .int i => tknI i
    | .tup xs => tkns (tkn n) xs
    | _ => none
abbrev sgn (ts : List Nat) : List (Int ⊕ List Nat) := ts.map fun n => Sum.inl (Int.ofNat n)
theorem tkns_ok {f : D → Option (List Nat)} (h : ∀ d ts, f d = some ts → PySem.W.keyToks d.dat = sgn ts) : ∀ xs ts, tkns f xs = some ts → PySem.W.keyToksAll (D.dats xs) = sgn ts
  | [], ts, e => by
    rw [tkns] at e
    cases e
    rw [D.dats, PySem.W.keyToksAll]
    rfl
  | x :: xs, ts, e => by
    rw [tkns] at e
    split at e
    · rename_i a ea
      split at e
      · rename_i b eb
        cases e
        rw [D.dats, PySem.W.keyToksAll, h x a ea, tkns_ok h xs b eb]
        simp [sgn]
      · cases e
    · cases e
theorem tknI_ok {i : Int} {ts : List Nat} (e : tknI i = some ts) : PySem.W.keyToks (D.dat (.int i)) = sgn ts := by
  cases i with
  | ofNat k => cases e; rw [D.dat, PySem.W.keyToks]; rfl
  | negSucc k => cases e
theorem tkn_ok : ∀ n d ts, tkn n d = some ts → PySem.W.keyToks d.dat = sgn ts
  | 0, d, ts, e => by
    cases d <;> first | exact tknI_ok e | cases e
  | n + 1, d, ts, e => by
    cases d <;> first | exact tknI_ok e | (rw [D.dat, PySem.W.keyToks]; exact tkns_ok (tkn_ok n) _ _ e) | cases e
def ltN : List Nat → List Nat → Bool
  | [], [] => false
  | [], _ :: _ => true
  | _ :: _, [] => false
  | x :: r, y :: t => match Nat.beq x y with
    | true => ltN r t
    | false => Nat.ble x y
theorem ltN_ok : ∀ a b, lexLt itemOrd (sgn a) (sgn b) = ltN a b
  | [], [] => rfl
  | [], _ :: _ => rfl
  | _ :: _, [] => rfl
  | x :: r, y :: t => by
    show (decide (Int.ofNat x < Int.ofNat y) || (!decide (Int.ofNat y < Int.ofNat x) && lexLt itemOrd (sgn r) (sgn t))) = _
    rw [ltN, ltN_ok r t]
    split
    · rename_i h
      have := Nat.eq_of_beq_eq_true h
      subst this
      simp
    · rename_i h
      have h := Nat.ne_of_beq_eq_false h
      by_cases q : x < y
      · have : Nat.ble x y = true := Nat.ble_eq.mpr (by omega)
        rw [this, decide_eq_true (by simpa using q)]
        rfl
      · have : Nat.ble x y = false := by
          cases z : Nat.ble x y with
          | false => rfl
          | true => have := Nat.ble_eq.mp z; omega
        have h1 : ¬ (Int.ofNat x < Int.ofNat y) := by simpa using q
        have h2 : Int.ofNat y < Int.ofNat x := by
          have : y < x := by omega
          simpa using this
        rw [this, decide_eq_false h1, decide_eq_true h2]
        rfl
abbrev KP := List Nat × D
def keysJ : List D → Option (List KP)
  | [] => some []
  | d :: ds => match tkn 6 d with
    | some ts => match keysJ ds with
      | some ps => some ((ts, d) :: ps)
      | none => none
    | none => none
theorem keysJ_ok : ∀ xs ps, keysJ xs = some ps → ps.map Prod.snd = xs ∧ ∀ p ∈ ps, PySem.W.keyToks p.2.dat = sgn p.1
  | [], ps, e => by
    rw [keysJ] at e
    cases e
    exact ⟨rfl, fun _ m => nomatch m⟩
  | d :: ds, ps, e => by
    rw [keysJ] at e
    split at e
    · rename_i ts et
      split at e
      · rename_i qs eq
        cases e
        obtain ⟨h1, h2⟩ := keysJ_ok ds qs eq
        refine ⟨by rw [List.map_cons, h1], fun p m => ?_⟩
        rcases List.mem_cons.mp m with rfl | m
        · exact tkn_ok _ _ _ et
        · exact h2 p m
      · cases e
    · cases e
def insP (p : KP) : List KP → List KP
  | [] => [p]
  | q :: qs => match ltN q.1 p.1 with
    | true => q :: insP p qs
    | false => p :: q :: qs
def isP : List KP → List KP
  | [] => []
  | p :: ps => insP p (isP ps)
def strP : List KP → Bool
  | [] => true
  | p :: qs => (match qs with
    | [] => true
    | q :: _ => ltN p.1 q.1) && strP qs
theorem insP_perm (x : KP) : ∀ ys, (insP x ys).Perm (x :: ys)
  | [] => .refl _
  | y :: ys => by
    rw [insP]
    split
    · exact ((insP_perm x ys).cons y).trans (.swap x y ys)
    · exact .refl _
theorem isP_perm : ∀ xs, (isP xs).Perm xs
  | [] => .refl _
  | x :: xs => by
    rw [isP]
    exact (insP_perm x (isP xs)).trans ((isP_perm xs).cons x)
theorem strD_pw : ∀ {ps : List KP}, (∀ p ∈ ps, PySem.W.keyToks p.2.dat = sgn p.1) → strP ps = true → (ps.map Prod.snd).Pairwise fun a b => lexD a b = true ∧ lexD b a = false
  | [], _, _ => .nil
  | [_], _, _ => .cons (fun _ m => nomatch m) .nil
  | x :: y :: ys, hk, h => by
    rw [strP, Bool.and_eq_true] at h
    have q := strD_pw (fun p m => hk p (.tail _ m)) h.2
    have h1 : lexLt itemOrd (PySem.W.keyToks x.2.dat) (PySem.W.keyToks y.2.dat) = true := by
      rw [hk x (.head _), hk y (.tail _ (.head _)), ltN_ok]
      exact h.1
    have h2 : lexLt itemOrd (PySem.W.keyToks y.2.dat) (PySem.W.keyToks x.2.dat) = false := by
      cases z : lexLt itemOrd (PySem.W.keyToks y.2.dat) (PySem.W.keyToks x.2.dat) with
      | false => rfl
      | true =>
        have a := (listOrd itemOrd).trans _ _ _ h1 z
        rw [(listOrd itemOrd).irrefl] at a
        cases a
    have l1 : lexD x.2 y.2 = true := by
      show (!lexLt itemOrd (PySem.W.keyToks y.2.dat) (PySem.W.keyToks x.2.dat)) = true
      rw [h2]; rfl
    have l2 : lexD y.2 x.2 = false := by
      show (!lexLt itemOrd (PySem.W.keyToks x.2.dat) (PySem.W.keyToks y.2.dat)) = false
      rw [h1]; rfl
    rw [List.map_cons] at q ⊢
    refine .cons (fun b m => ?_) q
    rcases List.mem_cons.mp m with e | m
    · subst e
      exact ⟨l1, l2⟩
    · cases q with
      | cons g1 g2 =>
        obtain ⟨p1, p2⟩ := g1 b m
        refine ⟨lexD_trans _ _ _ l1 p1, ?_⟩
        cases z : lexD b x.2 with
        | false => rfl
        | true => rw [lexD_trans _ _ _ p1 z] at l2; cases l2
theorem pw_anti {A : Type} {r : A → A → Bool} : ∀ {xs : List A}, xs.Pairwise (fun a b => r a b = true ∧ r b a = false) → ∀ a b, a ∈ xs → b ∈ xs → r a b = true → r b a = true → a = b
  | c :: xs, h, a, b, ma, mb, q, q' => by
    cases h with
    | cons h1 h2 =>
      rcases List.mem_cons.mp ma with ea | ma'
      · rcases List.mem_cons.mp mb with eb | mb'
        · rw [ea, eb]
        · subst ea; rw [(h1 b mb').2] at q'; cases q'
      · rcases List.mem_cons.mp mb with eb | mb'
        · subst eb; rw [(h1 a ma').2] at q; cases q
        · exact pw_anti h2 a b ma' mb' q q'
section
variable {A : Type}
def fPs : List KP → (List KP → A) → A
  | [], k => k []
  | p :: ps, k => fNs p.1 fun ts => fPs ps fun ps => k ((ts, p.2) :: ps)
theorem fPs_eq : ∀ (d : List KP) (k : List KP → A), fPs d k = k d
  | [], _ => rfl
  | p :: ps, _ => by rw [fPs, fNs_eq, fPs_eq]
def isPK : List KP → (List KP → A) → A
  | [], k => k []
  | p :: ps, k => isPK ps fun qs => fSp (insP p qs) k
theorem isPK_eq : ∀ (d : List KP) (k : List KP → A), isPK d k = k (isP d)
  | [], _ => rfl
  | p :: ps, _ => by rw [isPK, isPK_eq, fSp_eq, isP]
def sndK : List KP → (List D → A) → A
  | [], k => k []
  | p :: ps, k => sndK ps fun ds => k (p.2 :: ds)
theorem sndK_eq : ∀ (d : List KP) (k : List D → A), sndK d k = k (d.map Prod.snd)
  | [], _ => rfl
  | p :: ps, _ => by rw [sndK, sndK_eq, List.map_cons]
def sortJ (xs : List D) (k : List D → A) : A := match keysJ xs with
  | some ps => fPs ps fun ps => isPK ps fun qs => match strP qs with
    | true => sndK qs k
    | false => k (sortD xs)
  | none => k (sortD xs)
theorem sortD_I (xs : List D) (k : List D → A) : sortJ xs k = k (sortD xs) := by
  unfold sortJ
  split
  · rename_i ps e
    rw [fPs_eq, isPK_eq]
    split
    · rename_i h
      rw [sndK_eq]
      congr 1
      obtain ⟨h1, h2⟩ := keysJ_ok _ _ e
      have p := strD_pw (fun p m => h2 p ((isP_perm ps).mem_iff.mp m)) h
      have q := (List.mergeSort_perm xs lexD).trans ((((isP_perm ps).map Prod.snd).trans (h1 ▸ .refl _)).symm)
      exact (List.Perm.eq_of_pairwise (fun a b ma mb h1 h2 => pw_anti p a b (q.mem_iff.mp ma) mb h1 h2) (List.pairwise_mergeSort lexD_trans (fun a b => by simpa using lexD_total a b) xs) (p.imp fun h => h.1) q).symm
    · rfl
  · rfl
end

/-! ### may be sorted -/
def shp : Nat → D → Bool
  | 0, d => match d with
    | .int _ => true
    | _ => false
  | n + 1, d => match d with
    | .tup xs => xs.all (shp n)
    | _ => false
theorem all_flats {n : Nat} (h : ∀ d, shp n d = true → D.flat d = true) : ∀ xs : List D, xs.all (shp n) = true → D.flats xs = true
  | [], _ => by rw [D.flats]
  | x :: xs, q => by
    rw [List.all_cons, Bool.and_eq_true] at q
    rw [D.flats, h x q.1, all_flats h xs q.2]
    rfl
theorem shp_flat : ∀ n d, shp n d = true → D.flat d = true
  | 0, d, h => by cases d <;> first | rfl | cases h
  | n + 1, d, h => by
    cases d <;> first | cases h | skip
    rw [D.flat]
    exact all_flats (shp_flat n) _ h
theorem all_alike {n : Nat} (h : ∀ a b, shp n a = true → shp n b = true → PySem.W.alike a.dat b.dat = true) : ∀ xs ys : List D, xs.all (shp n) = true → ys.all (shp n) = true → PySem.W.alikeAll (D.dats xs) (D.dats ys) = true
  | [], ys, _, _ => by rw [D.dats, PySem.W.alikeAll]
  | _ :: _, [], _, _ => by rw [D.dats, D.dats, PySem.W.alikeAll]
  | x :: xs, y :: ys, q, q' => by
    rw [List.all_cons, Bool.and_eq_true] at q q'
    rw [D.dats, D.dats, PySem.W.alikeAll, h x y q.1 q'.1, all_alike h xs ys q.2 q'.2]
    rfl
theorem shp_alike : ∀ n a b, shp n a = true → shp n b = true → PySem.W.alike a.dat b.dat = true
  | 0, a, b, h, h' => by
    cases a <;> first | cases h | skip
    cases b <;> first | cases h' | skip
    rw [D.dat, D.dat, PySem.W.alike]
  | n + 1, a, b, h, h' => by
    cases a <;> first | cases h | skip
    cases b <;> first | cases h' | skip
    rw [D.dat, D.dat, PySem.W.alike]
    exact all_alike (shp_alike n) _ _ h h'

theorem all_dep {n : Nat} (h : ∀ d, shp n d = true → d.dat.depth ≤ n + 1) : ∀ xs : List D, xs.all (shp n) = true → PyData.depthAll (D.dats xs) ≤ n + 1
  | [], _ => by rw [D.dats]; simp [PyData.depthAll]
  | x :: xs, q => by
    rw [List.all_cons, Bool.and_eq_true] at q
    rw [D.dats]
    simp only [PyData.depthAll]
    exact Nat.max_le.mpr ⟨h x q.1, all_dep h xs q.2⟩
theorem shp_dep : ∀ n d, shp n d = true → d.dat.depth ≤ n + 1
  | 0, d, h => by
    cases d <;> first | cases h | skip
    rw [D.dat]
    simp [PyData.depth]
  | n + 1, d, h => by
    cases d <;> first | cases h | skip
    have := all_dep (shp_dep n) _ h
    rw [D.dat]
    simp only [PyData.depth]
    omega
def headed (d : D) : Bool := match d with
  | .tup (_ :: _) => true
  | _ => false
def cheapOk (xs : List D) : Bool := match xs.all (shp 0) with
  | true => true
  | false => xs.all (shp 2) && xs.all headed
theorem cheap_ok {n : Nat} {xs : List D} (hn : n ≤ 2) (h : xs.all (shp n) = true) (h2 : (∀ d ∈ xs, ∃ y ys, d = .tup (y :: ys)) ∨ ∀ d ∈ xs, ∃ i, d = .int i) : sortOk xs = true := by
  unfold sortOk
  rw [Bool.and_eq_true, Bool.and_eq_true, Bool.and_eq_true]
  refine ⟨⟨⟨all_flats (shp_flat n) xs h, ?_⟩, ?_⟩, ?_⟩
  · rw [List.all_eq_true] at h ⊢
    exact fun a ma => List.all_eq_true.mpr fun b mb => shp_alike n a b (h a ma) (h b mb)
  · rw [Bool.or_eq_true]
    rcases h2 with h2 | h2
    · left
      rw [List.all_eq_true]
      intro d m
      obtain ⟨y, ys, rfl⟩ := h2 d m
      rfl
    · right
      rw [List.all_eq_true]
      intro d m
      obtain ⟨i, rfl⟩ := h2 d m
      rfl
  · rw [List.all_eq_true] at h ⊢
    exact fun a ma => decide_eq_true (by have := shp_dep n a (h a ma); omega)
def sortOkJ (xs : List D) : Bool := match cheapOk xs with
  | true => true
  | false => sortOk xs
theorem sortOk_I (xs : List D) : sortOk xs = sortOkJ xs := by
  unfold sortOkJ
  split
  · rename_i h
    unfold cheapOk at h
    split at h
    · rename_i h0
      refine cheap_ok (n := 0) (by omega) h0 (.inr fun d m => ?_)
      have := List.all_eq_true.mp h0 d m
      cases d <;> first | exact ⟨_, rfl⟩ | cases this
    · rw [Bool.and_eq_true] at h
      refine cheap_ok (n := 2) (by omega) h.1 (.inl fun d m => ?_)
      have := List.all_eq_true.mp h.2 d m
      unfold headed at this
      split at this
      · exact ⟨_, _, rfl⟩
      · cases this
  · rfl

/-! ### the words -/
def nSortedJ (t : Af) : Af := fun env st => (t env st).bind fun xs s => fDs xs fun xs => match sortOkJ xs with
  | true => sortJ xs fun ys => .ok ys s
  | false => .bad
theorem nSorted_I (t : Af) : nSorted t = nSortedJ t := by
  unfold nSorted nSortedJ
  funext env st
  congr 1
  funext xs s
  rw [fDs_eq, sortD_I, ← sortOk_I]
  split
  · rename_i h
    rw [h]
  · rename_i h
    rw [Bool.not_eq_true] at h
    rw [h]
def compI (ws : Wt) (gf : Gf) (tf : Tf) (ef : Ef) (env : EEnv) : List D → Store → R (List D)
  | [], st => match wOkI st ws with
    | true => .ok [] st
    | false => .bad
  | d :: ds, st => match wOkI st ws with
    | true => (gf d env st).bind fun e s => fSp e fun e => (tf e s).bind fun b s2 => match b with
      | true => (ef e s2).bind fun v s3 => fD v fun v => (compI ws gf tf ef env ds s3).bind fun vs s4 => .ok (v :: vs) s4
      | false => compI ws gf tf ef env ds s2
    | false => .bad
theorem comp_I (ws : Wt) (gf : Gf) (tf : Tf) (ef : Ef) (env : EEnv) : ∀ ds st, compF ws gf tf ef env ds st = compI ws gf tf ef env ds st
  | [], st => by
    rw [compF, compI, wOk_I]
    cases wOkI st ws <;> rfl
  | d :: ds, st => by
    rw [compF, compI, wOk_I]
    cases wOkI st ws with
    | false => rfl
    | true =>
      rw [if_pos rfl]
      congr 1
      funext e s
      rw [fSp_eq]
      congr 1
      funext b s2
      cases b with
      | false =>
        rw [if_neg Bool.false_ne_true]
        exact comp_I ws gf tf ef env ds s2
      | true =>
        rw [if_pos rfl]
        congr 1
        funext v s3
        rw [fD_eq, comp_I ws gf tf ef env ds s3]
def nCompI (vs : List Nat) (f : If) (gf : Gf) (tf : Tf) (ef : Ef) : Af := fun env st => (f env st).bind fun s s1 => match Nat.ble s.items.length sizeLine with
  | true => fW s.ws fun ws => fDs s.items fun its => fSp (wipeE env vs) fun env => compI ws gf tf ef env its s1
  | false => .bad
theorem nComp_I (vs : List Nat) (f : If) (gf : Gf) (tf : Tf) (ef : Ef) : nComp vs f gf tf ef = nCompI vs f gf tf ef := by
  unfold nComp nCompI
  funext env st
  congr 1
  funext s s1
  split
  · rename_i h
    rw [Nat.ble_eq.mpr h]
    simp only [fW_eq, fDs_eq, fSp_eq, comp_I]
  · rename_i h
    have : Nat.ble s.items.length sizeLine = false := by
      cases z : Nat.ble s.items.length sizeLine with
      | false => rfl
      | true => exact absurd (Nat.ble_eq.mp z) h
    rw [this]
def whileI (p : Tf) (bf : Sf) : Nat → Sf
  | 0, _, _ => .bad
  | n + 1, env, st => fE env fun env => fS st fun st => sR (p env st) fun b s => match b with
    | true => (bf env s).loop (whileI p bf n)
    | false => .nx env s
theorem while_I (p : Tf) (bf : Sf) : ∀ n, whileF p bf n = whileI p bf n
  | 0 => rfl
  | n + 1 => by
    funext env st
    rw [whileI, fE_eq, fS_eq, ← while_I p bf n]
    show sR (p env st) _ = _
    congr 1
    funext b s
    cases b <;> rfl
def loopI (ws : Wt) (gf : Gf) (bf : Sf) : List D → Sf
  | [], env, st => match wOkI st ws with
    | true => .nx env st
    | false => .bad
  | d :: ds, env, st => fE env fun env => fS st fun st => match wOkI st ws with
    | true => sR (gf d env st) fun e s => (bf e s).loop (loopI ws gf bf ds)
    | false => .bad
theorem loop_I (ws : Wt) (gf : Gf) (bf : Sf) : ∀ ds, loopF ws gf bf ds = loopI ws gf bf ds
  | [] => by
    funext env st
    rw [loopF, loopI, wOk_I]
    cases wOkI st ws <;> rfl
  | d :: ds => by
    funext env st
    rw [loopI, fE_eq, fS_eq, ← loop_I ws gf bf ds, loopF, wOk_I]
    cases wOkI st ws <;> rfl
def sForI (f : If) (gf : Gf) (bf : Sf) : Sf := fun env st => sR (f env st) fun s s1 => fW s.ws fun ws => fDs s.items fun its => loopI ws gf bf its env s1
theorem sFor_I (f : If) (gf : Gf) (bf : Sf) : sFor f gf bf = sForI f gf bf := by
  unfold sFor sForI
  simp only [fW_eq, fDs_eq, loop_I]
end Ev

/-! Ev48: a tuple just made whose own being is known: f(..).index(x), f a def that ends so. -/
namespace Ev
open PySem L2
open PyProof.Rows hiding St
/-- an exact tuple without names of its own -/
def FrzT (H : Hp) (x : V) : Prop := ∃ a o ys, x = V.ref a ∧ H a = some (.frz o (.tup ys)) ∧ o.cls = .type "tuple" ∧ o.dict = none
theorem frzT_is {X : Cx} {pins : List (Addr × Obj)} {σ : St} {H : Hp} {s : Shared} {x : V} {v : Value} (I : Inv X pins σ H s) (r : RelV x v) (ty : FrzT H x) :
    s.TypeIs v "tuple" ∧ ∀ a, v = .ref a → ∃ ob, s.heap.get? a = some ob ∧ ob.dict = none := by
  obtain ⟨p, o, ys, rfl, e, hc, hd⟩ := ty
  cases r
  obtain ⟨h1, _⟩ := (show ObjOk X.prog X.w H s.heap p (.frz o (.tup ys)) from I.hok p _ e)
  exact ⟨⟨o, h1, hc⟩, fun a z => by cases z; exact ⟨o, h1, hd⟩⟩
theorem call_tuple_frz {X : Cx} : CallR X (.type "tuple") (fun xs H Q => ∃ p ys, xs = [.ref p] ∧ SqL X.K H p ys ∧ ∀ l o, H l = none → o.cls = .type "tuple" → o.dict = none → Q (.ref l) (upd H l (.frz o (.tup ys)))) := by
  intro pins s σ H xs us Q I r h
  obtain ⟨p, ys, rfl, hq, q⟩ := h
  obtain ⟨u, rfl, rx⟩ := vals1 r
  cases rx
  obtain ⟨its, r', pl, hz⟩ := I.list hq
  have hlen := r'.length
  refine call_tuple_list pl.isList (fun h' kp => ?_) (by simp only [List.size_toArray] <;> omega)
  have I1 : Inv X pins σ H { s with heap := h' } := I.kept (t' := s.toks) kp
  have I2 : Inv X pins σ (upd H h'.objs.size (.frz { cls := .type "tuple", data := .seq its.toArray } (.tup ys))) { s with heap := h'.push { cls := .type "tuple", data := .seq its.toArray } } :=
    I1.laid (t' := s.toks) (fun b o e => Heap.get?_push_of_some _ e) (Nat.le_refl _) (show ObjOk X.prog X.w _ _ _ (.frz _ (.tup ys)) from ⟨Heap.get?_push_size _ rfl, hz, its, r', IsTup.new _ _⟩)
  exact ⟨.ref h'.objs.size, _, I2, rfl, q _ _ (I1.hok.fresh (Nat.le_refl _)) rfl rfl⟩

/-! ### such values -/
def tEZ (g : Gh) (f : Ef) : TE := fun σ H Q => ∃ ρ st env v st', Rel g ρ st H ∧ EnvR g.K ρ st.length H env σ ∧ f env st = .ok v st' ∧ ∀ ρ' H' x, Post g ρ st H ρ' st' H' → VR g.K ρ' st'.length H' v x → FrzT H' x → Q x H'
abbrev EZ (g : Gh) (X : Cx) (e : Expr) (f : Ef) : Prop := PE X e (tEZ g f)
section
variable {g : Gh} {X : Cx} {e a o : Expr} {es : List Expr} {p pos apos cpos : Pos} {f fo : Ef} {t : Af}
theorem e_tupleZ (x : XG g X) (h : NV g X e t) (hg : Gl X "tuple" := by rfl) (he : starEach [e] X.env = (false, eval e X.env) :: starEach [] X.env := by rfl) : EZ g X (.Call (.Name "tuple" p) [e] [] pos) (eCall tupQ t) :=
  pe_imp (pe_callTy call_tuple_frz hg (x.mg "tuple") (by decide +kernel) (pa_cons h pa_nil he) (by decide) (by decide) he rfl) fun σ H Q ⟨ρ, st, env, v, st', Rl, E, h, k⟩ => by
    obtain ⟨xs, s1, e1, e2⟩ := R.bind_eq h
    cases e2
    refine ⟨ρ, st, env, xs, _, Rl, E, e1, fun ρ1 H1 p ys P1 hp hn hf r => ?_⟩
    rw [x.K]
    refine ⟨p, ys, rfl, SqL.of hp, fun l ob hl hc hd => ?_⟩
    have P2 := P1.rel.tup (u := HO.frz ob (.tup ys)) hl
    refine k ρ1 _ _ (P1.trans P2) ?_ ⟨l, ob, ys, rfl, upd_same, hc, hd⟩
    unfold VR
    exact ⟨l, ys, rfl, .inl (.inr ⟨ob, upd_same⟩), P2.vrs P1.rel r⟩
end
/-! ### statements whose end is such a value -/
def SResZ (g : Gh) (ρ : Nat → Addr) (st : Store) (H : Hp) (Dd : Ends) : RS → Prop
  | .rt d st' => ∀ ρ' H' x, Post g ρ st H ρ' st' H' → VR g.K ρ' st'.length H' d x → FrzT H' x → Dd.rt x H'
  | _ => False
def tSZ (g : Gh) (f : Sf) : TS := fun Dd σ H => ∃ ρ st env, Rel g ρ st H ∧ EnvR g.K ρ st.length H env σ ∧ SResZ g ρ st H Dd (f env st)
abbrev SZ (g : Gh) (X : Cx) (st : Stmt) (f : Sf) : Prop := PS X st (tSZ g f)
abbrev SZs (g : Gh) (X : Cx) (st : List Stmt) (f : Sf) : Prop := PSs X st (tSZ g f)
def sSeqZ (f h : Sf) : Sf := fun env st => match f env st with | .nx e s => h e s | _ => .bad
section
variable {g : Gh} {X : Cx} {st : Stmt} {rest : List Stmt} {sf sh : Sf} {f : Ef} {e : Expr} {pos : Pos}
theorem SResZ.later {ρ ρ1 : Nat → Addr} {st st1 : Store} {H H1 : Hp} {Dd : Ends} {r : RS} (P : Post g ρ st H ρ1 st1 H1) (h : SResZ g ρ st H Dd r) : SResZ g ρ1 st1 H1 Dd r := by
  cases r with
  | rt d st' => exact fun ρ' H' x P' r' => h ρ' H' x (P.trans P') r'
  | nx _ _ => exact h
  | bk _ _ => exact h
  | ct _ _ => exact h
  | bad => exact h
theorem ss_consZ (h1 : SV g X st sf) (h2 : SZs g X rest sh) : SZs g X (st :: rest) (sSeqZ sf sh) := pss_imp (pss_cons h1 h2) fun Dd σ H ⟨ρ, st, env, Rl, E, q⟩ => by
  refine ⟨ρ, st, env, Rl, E, ?_⟩
  unfold sSeqZ at q
  cases e : sf env st with
  | nx e1 s1 =>
    rw [e] at q
    exact fun ρ1 H1 σ1 P1 E1 => ⟨ρ1, s1, e1, P1.rel, E1, q.later P1⟩
  | rt d s1 => rw [e] at q; exact q.elim
  | bk e1 s1 => rw [e] at q; exact q.elim
  | ct e1 s1 => rw [e] at q; exact q.elim
  | bad => rw [e] at q; exact q.elim
theorem ss_oneZ (h : SZ g X st sf) : SZs g X [st] sf := pss_one h
theorem s_retZ (he : EZ g X e f) : SZ g X (.Return (some e) pos) (sRet f) := ps_imp (ps_ret he) fun Dd σ H ⟨ρ, st, env, Rl, E, h⟩ => by
  unfold sRet at h
  cases z : f env st with
  | ok v s1 =>
    rw [z] at h
    exact ⟨ρ, st, env, v, s1, Rl, E, z, h⟩
  | bad =>
    rw [z] at h
    exact h.elim
end
/-! ### defs -/
def SpZ (g : Gh) (sem : SemF) (vs : List V) (H : Hp) (Q : VK) : Prop := ∃ ρ st ds v st', Rel g ρ st H ∧ VRs g.K ρ st.length H ds vs ∧ sem ds st = .ok v st' ∧ ∀ ρ' H' x, Post g ρ st H ρ' st' H' → VR g.K ρ' st'.length H' v x → FrzT H' x → Q x H'
structure FnZ (g : Gh) (P : Program) (w : World) (K : PySem.W.Frag) (mg : Str → Option Value) (base : Heap) (k : Nat) (f : Addr) (fd : FuncData) (ps : List Str) (sem : SemF) : Prop where
  len : ∀ ds st v st', sem ds st = .ok v st' → ds.length = ps.length
  run : ∀ (A : Around) (outer : List PySem.Env) (s : Shared) (H : Hp) (args : Args) (us : List Value) (vs : List V) (Q : VK), Room k A → A.guards = some [] → Env0 P w K mg base A outer s H → BindsTo s fd args (ps.zip us) → Vals vs us →
    SpZ g sem vs H Q → codeAny (model P w) A (.call (.ref f) args) (CR CX0 outer P w H s Q E0) s
theorem FnZ.mono {g : Gh} {P : Program} {w : World} {K : PySem.W.Frag} {mg : Str → Option Value} {base : Heap} {j k : Nat} {f : Addr} {fd : FuncData} {ps : List Str} {sem : SemF} (F : FnZ g P w K mg base j f fd ps sem) (h : j ≤ k) : FnZ g P w K mg base k f fd ps sem :=
  ⟨F.len, fun A outer s H args us vs Q hr => F.run A outer s H args us vs Q (hr.mono h)⟩
theorem FnZ.eqOn {g : Gh} {P : Program} {w : World} {K : PySem.W.Frag} {mg : Str → Option Value} {base : Heap} {k : Nat} {f : Addr} {fd : FuncData} {ps : List Str} {sem sem' : SemF} (F : FnZ g P w K mg base k f fd ps sem) (h : ∀ ds st v st', sem' ds st = .ok v st' → sem ds st = .ok v st') : FnZ g P w K mg base k f fd ps sem' :=
  ⟨fun ds st v st' e => F.len _ _ _ _ (h _ _ _ _ e), fun A outer s H args us vs Q hr hg e0 hb r ⟨ρ, st, ds, v, st', Rl, rd, e, q⟩ => F.run A outer s H args us vs Q hr hg e0 hb r ⟨ρ, st, ds, v, st', Rl, rd, h _ _ _ _ e, q⟩⟩
/-- such a def is a def -/
theorem FnZ.toG {g : Gh} {P : Program} {w : World} {K : PySem.W.Frag} {mg : Str → Option Value} {base : Heap} {k : Nat} {f : Addr} {fd : FuncData} {ps : List Str} {sem : SemF} (F : FnZ g P w K mg base k f fd ps sem) : FnG g P w K mg base k f fd ps sem :=
  ⟨F.len, fun A outer s H args us vs Q hr hg e0 hb r ⟨ρ, st, ds, v, st', Rl, rd, e, q⟩ => F.run A outer s H args us vs Q hr hg e0 hb r ⟨ρ, st, ds, v, st', Rl, rd, e, fun ρ' H' x P' r' _ => q ρ' H' x P' r'⟩⟩
section
variable {g : Gh} {X : Cx} {k : Nat} {f : Addr} {fd : FuncData} {ps : List Str} {sem : SemF} {pins : List (Addr × Obj)} {σ : St} {H : Hp} {s : Shared} {Q : VK} {us : List Value} {vs : List V}
theorem FnZ.lenV {P : Program} {w : World} {K : PySem.W.Frag} {mg : Str → Option Value} {base : Heap} (F : FnZ g P w K mg base k f fd ps sem) {vs : List V} {H : Hp} {Q : VK} (h : SpZ g sem vs H Q) : vs.length = ps.length := by
  obtain ⟨ρ, st, ds, v, st', _, r, e, _⟩ := h
  rw [← r.length]
  exact F.len _ _ _ _ e
theorem run_z (x : XG g X) (F : FnZ g X.prog X.w X.K X.mg X.base k f fd ps sem) (hr : Room k X.A) (hb : Binds X.K fd ps []) (I : Inv X pins σ H s) (r : Vals vs us) (h : SpZ g sem vs H Q) :
    wpAny (model X.prog X.w) X.A (call (.ref f) us) (EP X pins σ Q) X.xe s := by
  have hl : (us ++ []).length = ps.length := by rw [List.append_nil, ← r.length]; exact F.lenV h
  have hb' := hb s us I.kIn hl
  rw [List.append_nil] at hb'
  refine wpAny_call (codeAny_mono (F.run X.A X.stack s H ⟨us, []⟩ us vs Q hr x.hg I.env0 hb' r h) fun rr s' hq => ?_)
  match rr, hq with
  | .ok (.ret u), hq => exact I.after hq
  | .ok .next, hq => exact hq.elim
  | .ok .brk, hq => exact hq.elim
  | .ok .cont, hq => exact hq.elim
  | .error _, hq => exact hq.elim
variable {n m : Str} {p pos apos cpos : Pos} {e o : Expr} {es : List Expr} {t : Af} {fo fe : Ef}
theorem e_callZ (x : XG g X) (F : FnZ g X.prog X.w X.K X.mg X.base k f fd ps sem) (hr : Room k X.A) (hm : X.mg n = some (.ref f)) (hk : PySem.W.keepIn X.K (.ref f) = true) (hb : Binds X.K fd ps []) (ha : AV g X (e :: es) t) (hg : Gl X n := by rfl)
    (hdb : (n == ("__debug__" : Str)) = false := by decide) (he : starEach (e :: es) X.env = (false, eval e X.env) :: starEach es X.env := by rfl) (hpl : (backTo pos (starEach es X.env)).any (·.1) = false := by rfl) :
    EZ g X (.Call (.Name n p) (e :: es) [] pos) (eCall sem t) := by
  refine ⟨fun pins s σ H Q I ⟨ρ, st, env, v, st', Rl, E, h, k⟩ => ?_⟩
  obtain ⟨ds, s1, e1, h⟩ := R.bind_eq h
  refine wpAny_Call_Name_kw (ld_glob I hg hm ?_ hdb)
  refine PySem.W.callWith_K (h₀ := X.base) I.ok.mod.kin hk (thn (ha.run pos pins s σ H (fun vs H1 => SpZ g sem vs H1 Q) I ⟨ρ, st, env, ds, s1, Rl, E, e1, fun ρ1 H1 vs P1 r1 => ?_⟩) fun us s2 ⟨vs, H1, I1, r, q⟩ => ⟨I1.kIn, run_z x F hr hb I1 r q⟩) he hpl
  exact ⟨ρ1, s1, ds, v, st', P1.rel, r1, h, fun ρ' H' y P r => k ρ' H' y (P1.trans P) r⟩
end
section
variable {g : Gh} {P : Program} {w : World} {mg : Str → Option Value} {base : Heap}
def semZ (n a : Nat) (sf : Sf) : SemF := fun ds st => if ds.length = a then (match sf (ds.map some ++ List.replicate (n - a) none) st with
  | .rt d s => .ok d s
  | _ => .bad) else .bad
theorem fn_z {qual x : Str} {st : Stmt} {f : Addr} {fd : FuncData} {N ps : List Str} {k : Nat} {sf : Sf} (G : GF g mg) (F : Fun g.K x qual st f fd) (S : FnScope N ps (defScope st))
    (hbody : ∀ (cdv : Value) (A : Around) (outer : List PySem.Env) (s : Shared) (H : Hp) (E : XK), XG g (cxOf CX0 P w g.K mg base N qual (defScope st) f cdv A outer s H E).nox → Room k (cxOf CX0 P w g.K mg base N qual (defScope st) f cdv A outer s H E).nox.A →
      SZs g (cxOf CX0 P w g.K mg base N qual (defScope st) f cdv A outer s H E).nox (defBody st) sf) : FnZ g P w g.K mg base (k + 1) f fd ps (semZ N.length ps.length sf) := by
  refine ⟨fun ds st v st' h => ?_, fun A outer s H args us vs Q hr hg e0 hb r hsp => ?_⟩
  · unfold semZ at h
    split at h
    · assumption
    · cases h
  · obtain ⟨oc, od, kV, doc, pm, an, cdv, ct, osl, rfl, lk, hcd⟩ := F.ex
    have len : vs.length = ps.length := by
      obtain ⟨ρ, st, ds, v, st', Rl, rd, e, _⟩ := hsp
      unfold semZ at e
      split at e
      · rename_i hl
        rw [← rd.length]
        exact hl
      · cases e
    have KX : g.K.In s.heap := e0.mod.kin.keeps fun b o e => (e0.bs b o e).1
    have lim : s.heap.NoLimit := e0.mod.nolimit.keeps fun b o e => (e0.bs b o e).1
    have hkind : ∀ y ∈ ps.zip us, (defScope st).names.lookup y.1 = some .local ∨ ((defScope st).names.lookup y.1 = some .cell ∧ ((cellsFrom (s.heap.objs.size + 1) (defScope st).names []).lookup y.1).isSome = true) := fun ⟨n, v⟩ hy => by
      rcases S.par n (List.of_mem_zip hy).1 with q | q
      · exact .inl q
      · exact .inr ⟨q, PySem.W.cellsFrom_some _ _ _ (.inl q)⟩
    refine codeAny_call_function hr.depth (KX _ _ lk) rfl S.co S.gen rfl (PySem.W.codeRec_of KX hcd) (hb _ _ _ _ ?_)
    refine wpAny_newFunctionEnv_cells S.kind hkind fun env he s1 xc => ?_
    subst he
    refine ⟨lim.keeps xc.toInCall.keep, codeAny_func ?_⟩
    have hr' := hr.deeper (envOfC qual (defScope st) s.heap.objs.size f cdv)
    have xg : XG g (cxOf CX0 P w g.K mg base N qual (defScope st) f cdv A outer s H E0).nox := ⟨rfl, rfl, by have := hr'.un; show (A.deeper _).units + 200 < cLine; omega, hg, S.nd, G.bl, G.cls, G.na, G.inj⟩
    have body := hbody cdv A outer s H E0 xg hr'
    have I : Inv (cxOf CX0 P w g.K mg base N qual (defScope st) f cdv A outer s H E0) [] (L2.start N vs) H s1 := inv_start S hr.hd e0 len r xc
    obtain ⟨ρ, sto, ds, v, sto', Rl, rd, e, k⟩ := hsp
    unfold semZ at e
    split at e
    · rename_i hl
      have env0 := env_start (N := N) rd
      rw [hl] at env0
      refine wpAny_mono (body.run [] s1 (L2.start N vs) H { nx := fun _ H' => Q .non H', rt := Q } (I.wish _) ⟨ρ, sto, _, Rl, env0, ?_⟩) (fun fl s' hs => ?_) fun er s' hs => hs.elim
      · split at e
        · rename_i d2 s2 q
          cases e
          rw [q]
          exact fun ρ' H' y P' r' z' => k ρ' H' y P' r' z'
        · cases e
      · have fin : ∀ {σ' : St} {H' : Hp} {v : V} {u : Value}, Inv (cxOf CX0 P w g.K mg base N qual (defScope st) f cdv A outer s H E0).nox [] σ' H' s' → RelV v u → Q v H' → CE outer P w H s Q u s' :=
          fun {σ' H' v u} J rv q => ⟨v, H', J.os, J.bare, J.base, J.hok, rv, q⟩
        cases fl with
        | ret u =>
          obtain ⟨v, σ', H', J, rv, q⟩ := hs
          exact fin J rv q
        | next =>
          obtain ⟨σ', H', J, q⟩ := hs
          exact fin (v := V.non) (u := Value.none) J rfl q
        | brk =>
          obtain ⟨_, _, _, q⟩ := hs
          exact False.elim q
        | cont =>
          obtain ⟨_, _, _, q⟩ := hs
          exact False.elim q
    · cases e
end
/-! ### its method -/
section
variable {X : Cx} {e o : Expr} {es : List Expr} {name : Str} {apos cpos : Pos} {T id : String} {r : V → List V → Hp → VK → Prop} {to : TE} {t : TA}
def tBZ (r : V → List V → Hp → VK → Prop) (to : TE) (t : TA) : TE := fun σ H Q => to σ H fun x H1 => FrzT H1 x ∧ t σ H1 fun xs H2 => r x xs H2 Q
theorem pe_bz (pa : PlainAttrs "tuple") (slot : Slot "tuple" name id) (hty : typeOf (.builtin id) = pure (.type "method_descriptor")) (hm : MtR X id r) (ho : PE X o to) (ha : PA X (e :: es) t)
    (hbase : attributeBase o name X.env (eval o X.env) = eval o X.env := by rfl)
    (hfew : ((backTo cpos (starEach (e :: es) X.env)).all (fun x => !x.1) && (backToKw cpos (keywordEach [] X.env)).all (fun x => x.1.isSome)
      && decide ((e :: es).length + ([] : List Keyword).length + (if ([] : List Keyword).isEmpty then 0 else 1) < 30)) = true := by rfl)
    (hline : (apos.endLine == cpos.line) = true := by rfl) (hs : starEach (e :: es) X.env = (false, eval e X.env) :: starEach es X.env := by rfl) (hplain : (backTo cpos (starEach es X.env)).any (·.1) = false := by rfl) :
    PE X (.Call (.Attribute o name apos) (e :: es) [] cpos) (tBZ r to t) := by
  refine ⟨fun pins s σ H Q I h => ?_⟩
  refine wpAny_Call_method_late hbase hfew hline rfl (thn (ho.run pins s σ H _ I h) fun v s1 ⟨x, H1, I1, r1, ty, q1⟩ => ?_)
  obtain ⟨h1, h2⟩ := frzT_is I1 r1 ty
  refine ⟨"tuple", id, pa, slot, hty, h1, h2, ?_⟩
  have hA := ha.run cpos pins s1 σ H1 _ I1 q1
  rw [hs] at hA ⊢
  refine Calls.callWith_builtin (by show (false || (backTo cpos (starEach es X.env)).any (·.1)) = false; rw [hplain] <;> rfl) (Calls.evalArgs_plain ?_)
  exact thn hA fun us s2 ⟨vs, H2, I2, r2, q2⟩ => hm pins s2 σ H2 x vs v us Q I2 r1 r2 q2
variable {g : Gh} {fo f : Ef}
/-- o.index(x), o such a value -/
def eIdxZ (fo f : Ef) : Ef := fun env st => (fo env st).bind fun x s1 => (f env s1).bind fun y s2 => match pd s2 x, pd s2 y with
  | some (.tuple ds), some d => if SeqAt.shaped d = true ∧ SeqAt.shaped (.tuple ds) = true then match idxP d 0 ds with
    | some j => .ok (.int j) s2
    | none => .bad
    else .bad
  | _, _ => .bad
theorem e_idxZ (x : XG g X) (ho : EZ g X o fo) (he : EV g X e f) (hbase : attributeBase o "index" X.env (eval o X.env) = eval o X.env := by rfl)
    (hfew : ((backTo cpos (starEach [e] X.env)).all (fun x => !x.1) && (backToKw cpos (keywordEach [] X.env)).all (fun x => x.1.isSome) && decide ([e].length + ([] : List Keyword).length + (if ([] : List Keyword).isEmpty then 0 else 1) < 30)) = true := by rfl)
    (hline : (apos.endLine == cpos.line) = true := by rfl) (hs : starEach [e] X.env = (false, eval e X.env) :: starEach [] X.env := by rfl) :
    EV g X (.Call (.Attribute o "index" apos) [e] [] cpos) (eIdxZ fo f) :=
  pe_imp (pe_bz PySem.F.plainAttrs_tuple PySem.F.slot_tuple_index PySem.F.type_tuple_index (mt_indexT (by have := x.hu; omega)) ho (a_cons he a_nil hs) hbase hfew hline hs rfl) fun σ H Q ⟨ρ, st, env, v, st', Rl, E, h, k⟩ => by
    obtain ⟨d1, s1, e1, h⟩ := R.bind_eq h
    obtain ⟨d2, s2, e2, h⟩ := R.bind_eq h
    have ez : aCons f aNil env s1 = .ok [d2] s2 := by
      unfold aCons
      rw [e2]
      rfl
    refine ⟨ρ, st, env, d1, s1, Rl, E, e1, fun ρ1 H1 y P1 r1 z1 => ⟨z1, ρ1, s1, env, [d2], s2, P1.rel, P1.envr Rl E, ez, fun ρ2 H2 vs P2 r2 => ?_⟩⟩
    obtain ⟨z, rfl, rz⟩ := vrs1 r2
    have ry := P2.vr P1.rel r1
    split at h
    · rename_i ds d w1 w2
      split at h
      · rename_i hsh
        cases w3 : idxP d 0 ds with
        | none => rw [w3] at h; cases h
        | some j =>
          rw [w3] at h
          cases h
          obtain ⟨i, q, rfl, h1, h2, h3⟩ := idxP_ok w3
          obtain ⟨a, _, _, rfl, _⟩ := z1
          rw [x.K]
          refine ⟨a, z, d, ds, i, q, rfl, rfl, pd_dp P2.rel ry w1, pd_dp P2.rel rz w2, hsh.2, hsh.1, h1, h2, h3, ?_⟩
          have e0 : (0 + i : Nat) = i := Nat.zero_add i
          rw [e0] at k
          exact k ρ2 H2 _ (P1.trans P2) (by simp [VR])
      · cases h
    · cases h
end
end Ev

/-! Ev49: a tuple taken once is the tuple itself. -/
namespace Ev
open PySem PySem.Spec L2
open PyProof.Rows hiding St
set_option maxHeartbeats 4000000 in
theorem tuple_mul1W (l : Addr) (items : Array Value) (n : Nat) (dd : Option Addr) (sl : Array (Option Value)) (u : Tok) :
    Meets (Builtin.«tuple.__mul__» ⟨[.ref l, .int 1 u], []⟩) (fun _ R s => s.heap.get? l = some { cls := .type "tuple", dict := dd, data := .seq items n, slots := sl } ∧ R (.ok (.ret (Value.ref l))) s) :=
  .of_wp fun prog w A R s h => by
    obtain ⟨hp, g, d, tk, os⟩ := s
    obtain ⟨hl, h⟩ := h
    have f1 := AutoSeq1.idx_int
    wp_walk using wpAny_loadPart' hl
    repeat (first
      | (refine wpAny_ite_false (decide_eq_false (by decide)) ?_; wp_walk using wpAny_loadPart' hl)
      | (refine wpAny_ite_true (by simp) ?_; wp_walk using wpAny_loadPart' hl))
    exact ⟨_, rfl, h⟩
def rRep1 (K : PySem.W.Frag) : R2 := fun x y H Q => ∃ l xs, x = .ref l ∧ y = .int 1 ∧ SqT K H l xs ∧ Q (.ref l) H
section
variable {X : Cx}
theorem op_rep1 : OpR X (binaryOp .Mult) (rRep1 X.K) := by
  intro pins s σ H x y v u Q I rx ry h
  obtain ⟨l, xs, rfl, rfl, hT, q⟩ := h
  cases rx
  obtain ⟨t, rfl⟩ := ry
  obtain ⟨its, r, ⟨⟨cls, dd, data, sl⟩, ho, hc, n, hd⟩, hs⟩ := I.tuple hT
  simp only at hc hd
  subst hc hd
  refine wpAny_binaryOp_repeat_ref (T := "tuple") (U := "int") (by decide) ⟨_, ho, rfl⟩ (fun s' => typeIs_int s' 1 t) noFill_tuple_mul F.fills_int_mul F.slot_int_rmul repeat_tuple F.slot_int_index.lookup
    (call_meets F.slot_int_rmul (typeIs_int s 1 t) F.entry_int_rmul (F.args_int_rmul_2 _ _) (int_rmul_tuple 1 t l its.toArray n dd sl)
      ⟨ho, rfl, ⟨_, ho, rfl⟩, call_meets F.slot_tuple_mul ⟨_, ho, rfl⟩ F.entry_tuple_mul (F.args_tuple_mul_2 _ _) (tuple_mul1W l its.toArray n dd sl t) ⟨ho, ?_⟩⟩)
  exact ⟨.ref l, H, I, rfl, q⟩
end
section
variable {g : Gh} {X : Cx} {a b : Expr} {fa fb : Ef} {pos : Pos}
def mulTM : F2M := fun x y st => match x, y with
  | .tup xs, .int k => if k = 1 then .ok (.v (.tup xs)) st else mulM (.tup xs) (.int k) st
  | x, y => mulM x y st
theorem op_mulTM (x : XG g X) : ∃ r, OpR X (binaryOp .Mult) r ∧ Op2M g r mulTM := by
  obtain ⟨r, h1, h2⟩ := op_mulM x
  refine ⟨_, h1.or op_rep1, fun ρ st H d1 d2 x1 y1 v st' Q Rl r1 r2 h k => ?_⟩
  unfold mulTM at h
  split at h
  · rename_i xs n
    split at h
    · rename_i hn
      subst hn
      cases h
      right
      rw [x.K]
      unfold VR at r1 r2
      obtain ⟨p, us, rfl, q1, s1⟩ := r1
      subst r2
      refine ⟨p, us, rfl, rfl, q1, k ρ H _ (Post.refl Rl) ?_⟩
      unfold MR VR
      exact ⟨p, us, rfl, q1, s1⟩
    · exact .inl (h2 ρ st H _ _ x1 y1 v st' Q Rl r1 r2 h k)
  · exact .inl (h2 ρ st H _ _ x1 y1 v st' Q Rl r1 r2 h k)
theorem m_mulT (x : XG g X) (ha : EV g X a fa) (hb : EV g X b fb) : MV g X (.BinOp a .Mult b pos) (mBin mulTM fa fb) := let ⟨_, h1, h2⟩ := op_mulTM x; m_op h1 h2 ha hb
end
end Ev

namespace K29
open PySem L2 Ev
open PyProof.Rows hiding St

def top (i : Nat) : Stmt := PySem.Challenge.pw_fewplaymany_k29_all_rows_of_views_counte.main.body.getD i (.Pass ⟨0, 0, 0, 0⟩)
abbrev s__law_cells : Stmt := top 28
abbrev s__law_take : Stmt := top 25
abbrev s__law_of : Stmt := top 26
abbrev s_is_whole : Stmt := top 6
abbrev s_is_integer : Stmt := top 7
abbrev s_check_many : Stmt := top 13
abbrev s_blocks_of : Stmt := top 19
abbrev s_every_row : Stmt := top 20
abbrev s__law_every : Stmt := top 30
abbrev s_row_at : Stmt := top 21
abbrev s_is_tuple : Stmt := top 8
abbrev s_is_ascending : Stmt := top 9
abbrev s_is_lot : Stmt := top 10
abbrev s_lies_within : Stmt := top 14
abbrev s_fits_beside : Stmt := top 15
abbrev s_is_row : Stmt := top 16
abbrev s_is_whole_row : Stmt := top 17
abbrev s_check_whole_row : Stmt := top 18
abbrev s_number_of : Stmt := top 22
abbrev s__law_some : Stmt := top 27
abbrev s__law_drawn_row : Stmt := top 29
abbrev s__law_right : Stmt := top 31
abbrev s__law_pot : Stmt := top 24
abbrev s_law : Stmt := top 32

theorem sc__law_cells : FnScope ["script", "limit"] ["script", "limit"] (defScope s__law_cells) := ⟨rfl, rfl, rfl, by decide +kernel, rfl, by decide +kernel, by decide +kernel⟩
theorem sc__law_take : FnScope ["pot", "upto", "digit", "prime", "blend"] ["pot", "upto"] (defScope s__law_take) := ⟨rfl, rfl, rfl, by decide +kernel, rfl, by decide +kernel, by decide +kernel⟩
theorem sc__law_of : FnScope ["pot", "some"] ["pot", "some"] (defScope s__law_of) := ⟨rfl, rfl, rfl, by decide +kernel, rfl, by decide +kernel, by decide +kernel⟩
theorem sc_is_whole : FnScope ["value"] ["value"] (defScope s_is_whole) := ⟨rfl, rfl, rfl, by decide +kernel, rfl, by decide +kernel, by decide +kernel⟩
theorem sc_is_integer : FnScope ["value", "low", "high"] ["value", "low", "high"] (defScope s_is_integer) := ⟨rfl, rfl, rfl, by decide +kernel, rfl, by decide +kernel, by decide +kernel⟩
theorem sc_check_many : FnScope ["value"] ["value"] (defScope s_check_many) := ⟨rfl, rfl, rfl, by decide +kernel, rfl, by decide +kernel, by decide +kernel⟩
theorem sc_blocks_of : FnScope ["rest", "found", "hand", "lot"] ["rest"] (defScope s_blocks_of) := ⟨rfl, rfl, rfl, by decide +kernel, rfl, by decide +kernel, by decide +kernel⟩
abbrev sc_bk_blocks_of_0 : Scope := { kind := .function, names := [(PySem.Str.ofString ".0", PySem.NameKind.local), (PySem.Str.ofString "lot", PySem.NameKind.local), (PySem.Str.ofString "hand", PySem.NameKind.free)], isGenerator := false, isCoroutine := false, more := [] }
theorem bk_blocks_of_0 : BlkOk ["rest", "found", "hand", "lot"] (defScope s_blocks_of) sc_bk_blocks_of_0 [("lot", 3)] := ⟨rfl, by decide +kernel, by decide +kernel, by decide +kernel, by decide +kernel⟩
theorem sc_every_row : FnScope ["many", "found", "waiting", "came", "row", "rest", "block", "view", "hand", "its"] ["many"] (defScope s_every_row) := ⟨rfl, rfl, rfl, by decide +kernel, rfl, by decide +kernel, by decide +kernel⟩
abbrev sc_bk_every_row_0 : Scope := { kind := .function, names := [(PySem.Str.ofString ".0", PySem.NameKind.local), (PySem.Str.ofString "hand", PySem.NameKind.local), (PySem.Str.ofString "came", PySem.NameKind.free)], isGenerator := false, isCoroutine := false, more := [] }
theorem bk_every_row_0 : BlkOk ["many", "found", "waiting", "came", "row", "rest", "block", "view", "hand", "its"] (defScope s_every_row) sc_bk_every_row_0 [("hand", 8)] := ⟨rfl, by decide +kernel, by decide +kernel, by decide +kernel, by decide +kernel⟩
abbrev sc_bk_every_row_1 : Scope := { kind := .function, names := [(PySem.Str.ofString ".0", PySem.NameKind.local), (PySem.Str.ofString "hand", PySem.NameKind.local), (PySem.Str.ofString "its", PySem.NameKind.local), (PySem.Str.ofString "block", PySem.NameKind.free), (PySem.Str.ofString "view", PySem.NameKind.free)], isGenerator := false, isCoroutine := false, more := [] }
theorem bk_every_row_1 : BlkOk ["many", "found", "waiting", "came", "row", "rest", "block", "view", "hand", "its"] (defScope s_every_row) sc_bk_every_row_1 [("hand", 8), ("its", 9)] := ⟨rfl, by decide +kernel, by decide +kernel, by decide +kernel, by decide +kernel⟩
theorem sc__law_every : FnScope ["many", "waiting", "found", "lap", "later", "seen", "row", "left", "bits", "block", "view", "fresh", "hand", "at", "old"] ["many"] (defScope s__law_every) := ⟨rfl, rfl, rfl, by decide +kernel, rfl, by decide +kernel, by decide +kernel⟩
abbrev sc_bk__law_every_0 : Scope := { kind := .function, names := [(PySem.Str.ofString ".0", PySem.NameKind.local), (PySem.Str.ofString "hand", PySem.NameKind.local), (PySem.Str.ofString "seen", PySem.NameKind.free)], isGenerator := false, isCoroutine := false, more := [] }
theorem bk__law_every_0 : BlkOk ["many", "waiting", "found", "lap", "later", "seen", "row", "left", "bits", "block", "view", "fresh", "hand", "at", "old"] (defScope s__law_every) sc_bk__law_every_0 [("hand", 12)] := ⟨rfl, by decide +kernel, by decide +kernel, by decide +kernel, by decide +kernel⟩
abbrev sc_bk__law_every_1 : Scope := { kind := .function, names := [(PySem.Str.ofString ".0", PySem.NameKind.local), (PySem.Str.ofString "at", PySem.NameKind.local), (PySem.Str.ofString "hand", PySem.NameKind.local), (PySem.Str.ofString "int", PySem.NameKind.globalImplicit), (PySem.Str.ofString "bits", PySem.NameKind.free)], isGenerator := false, isCoroutine := false, more := [] }
theorem bk__law_every_1 : BlkOk ["many", "waiting", "found", "lap", "later", "seen", "row", "left", "bits", "block", "view", "fresh", "hand", "at", "old"] (defScope s__law_every) sc_bk__law_every_1 [("at", 13), ("hand", 12)] := ⟨rfl, by decide +kernel, by decide +kernel, by decide +kernel, by decide +kernel⟩
abbrev sc_bk__law_every_2 : Scope := { kind := .function, names := [(PySem.Str.ofString ".0", PySem.NameKind.local), (PySem.Str.ofString "hand", PySem.NameKind.local), (PySem.Str.ofString "old", PySem.NameKind.local), (PySem.Str.ofString "block", PySem.NameKind.free), (PySem.Str.ofString "view", PySem.NameKind.free)], isGenerator := false, isCoroutine := false, more := [] }
theorem bk__law_every_2 : BlkOk ["many", "waiting", "found", "lap", "later", "seen", "row", "left", "bits", "block", "view", "fresh", "hand", "at", "old"] (defScope s__law_every) sc_bk__law_every_2 [("hand", 12), ("old", 14)] := ⟨rfl, by decide +kernel, by decide +kernel, by decide +kernel, by decide +kernel⟩
theorem sc_row_at : FnScope ["many", "number", "some"] ["many", "number"] (defScope s_row_at) := ⟨rfl, rfl, rfl, by decide +kernel, rfl, by decide +kernel, by decide +kernel⟩
theorem sc_is_tuple : FnScope ["value", "least", "most"] ["value", "least", "most"] (defScope s_is_tuple) := ⟨rfl, rfl, rfl, by decide +kernel, rfl, by decide +kernel, by decide +kernel⟩
theorem sc_is_ascending : FnScope ["some", "one", "other"] ["some"] (defScope s_is_ascending) := ⟨rfl, rfl, rfl, by decide +kernel, rfl, by decide +kernel, by decide +kernel⟩
abbrev sc_bk_is_ascending_0 : Scope := { kind := .function, names := [(PySem.Str.ofString ".0", PySem.NameKind.local), (PySem.Str.ofString "one", PySem.NameKind.local), (PySem.Str.ofString "other", PySem.NameKind.local)], isGenerator := false, isCoroutine := false, more := [] }
theorem bk_is_ascending_0 : BlkOk ["some", "one", "other"] (defScope s_is_ascending) sc_bk_is_ascending_0 [("one", 1), ("other", 2)] := ⟨rfl, by decide +kernel, by decide +kernel, by decide +kernel, by decide +kernel⟩
theorem sc_is_lot : FnScope ["value", "upto", "one"] ["value", "upto"] (defScope s_is_lot) := ⟨rfl, rfl, rfl, by decide +kernel, rfl, by decide +kernel, by decide +kernel⟩
abbrev sc_bk_is_lot_0 : Scope := { kind := .function, names := [(PySem.Str.ofString ".0", PySem.NameKind.local), (PySem.Str.ofString "one", PySem.NameKind.local), (PySem.Str.ofString "is_integer", PySem.NameKind.globalImplicit), (PySem.Str.ofString "upto", PySem.NameKind.free)], isGenerator := false, isCoroutine := false, more := [] }
theorem bk_is_lot_0 : BlkOk ["value", "upto", "one"] (defScope s_is_lot) sc_bk_is_lot_0 [("one", 2)] := ⟨rfl, by decide +kernel, by decide +kernel, by decide +kernel, by decide +kernel⟩
theorem sc_lies_within : FnScope ["one", "other", "hand"] ["one", "other"] (defScope s_lies_within) := ⟨rfl, rfl, rfl, by decide +kernel, rfl, by decide +kernel, by decide +kernel⟩
abbrev sc_bk_lies_within_0 : Scope := { kind := .function, names := [(PySem.Str.ofString ".0", PySem.NameKind.local), (PySem.Str.ofString "hand", PySem.NameKind.local), (PySem.Str.ofString "other", PySem.NameKind.free)], isGenerator := false, isCoroutine := false, more := [] }
theorem bk_lies_within_0 : BlkOk ["one", "other", "hand"] (defScope s_lies_within) sc_bk_lies_within_0 [("hand", 2)] := ⟨rfl, by decide +kernel, by decide +kernel, by decide +kernel, by decide +kernel⟩
theorem sc_fits_beside : FnScope ["row", "hand", "other", "one", "its"] ["row", "hand", "other"] (defScope s_fits_beside) := ⟨rfl, rfl, rfl, by decide +kernel, rfl, by decide +kernel, by decide +kernel⟩
theorem sc_is_row : FnScope ["many", "value", "had", "hand", "view", "other"] ["many", "value"] (defScope s_is_row) := ⟨rfl, rfl, rfl, by decide +kernel, rfl, by decide +kernel, by decide +kernel⟩
abbrev sc_bk_is_row_0 : Scope := { kind := .function, names := [(PySem.Str.ofString ".0", PySem.NameKind.local), (PySem.Str.ofString "view", PySem.NameKind.local), (PySem.Str.ofString "is_lot", PySem.NameKind.globalImplicit), (PySem.Str.ofString "many", PySem.NameKind.free)], isGenerator := false, isCoroutine := false, more := [] }
theorem bk_is_row_0 : BlkOk ["many", "value", "had", "hand", "view", "other"] (defScope s_is_row) sc_bk_is_row_0 [("view", 4)] := ⟨rfl, by decide +kernel, by decide +kernel, by decide +kernel, by decide +kernel⟩
abbrev sc_bk_is_row_1 : Scope := { kind := .function, names := [(PySem.Str.ofString ".0", PySem.NameKind.local), (PySem.Str.ofString "hand", PySem.NameKind.local), (PySem.Str.ofString "view", PySem.NameKind.local)], isGenerator := false, isCoroutine := false, more := [] }
theorem bk_is_row_1 : BlkOk ["many", "value", "had", "hand", "view", "other"] (defScope s_is_row) sc_bk_is_row_1 [("hand", 3), ("view", 4)] := ⟨rfl, by decide +kernel, by decide +kernel, by decide +kernel, by decide +kernel⟩
abbrev sc_bk_is_row_2 : Scope := { kind := .function, names := [(PySem.Str.ofString ".0", PySem.NameKind.local), (PySem.Str.ofString "hand", PySem.NameKind.local), (PySem.Str.ofString "value", PySem.NameKind.free)], isGenerator := false, isCoroutine := false, more := [] }
theorem bk_is_row_2 : BlkOk ["many", "value", "had", "hand", "view", "other"] (defScope s_is_row) sc_bk_is_row_2 [("hand", 3)] := ⟨rfl, by decide +kernel, by decide +kernel, by decide +kernel, by decide +kernel⟩
abbrev sc_bk_is_row_3 : Scope := { kind := .function, names := [(PySem.Str.ofString ".0", PySem.NameKind.local), (PySem.Str.ofString "hand", PySem.NameKind.local), (PySem.Str.ofString "other", PySem.NameKind.local), (PySem.Str.ofString "fits_beside", PySem.NameKind.globalImplicit), (PySem.Str.ofString "had", PySem.NameKind.free), (PySem.Str.ofString "value", PySem.NameKind.free)], isGenerator := false, isCoroutine := false, more := [] }
theorem bk_is_row_3 : BlkOk ["many", "value", "had", "hand", "view", "other"] (defScope s_is_row) sc_bk_is_row_3 [("hand", 3), ("other", 5)] := ⟨rfl, by decide +kernel, by decide +kernel, by decide +kernel, by decide +kernel⟩
theorem sc_is_whole_row : FnScope ["many", "value"] ["many", "value"] (defScope s_is_whole_row) := ⟨rfl, rfl, rfl, by decide +kernel, rfl, by decide +kernel, by decide +kernel⟩
theorem sc_check_whole_row : FnScope ["many", "value"] ["many", "value"] (defScope s_check_whole_row) := ⟨rfl, rfl, rfl, by decide +kernel, rfl, by decide +kernel, by decide +kernel⟩
theorem sc_number_of : FnScope ["many", "row"] ["many", "row"] (defScope s_number_of) := ⟨rfl, rfl, rfl, by decide +kernel, rfl, by decide +kernel, by decide +kernel⟩
theorem sc__law_some : FnScope ["pot", "pool", "many", "left", "found", "lap"] ["pot", "pool", "many"] (defScope s__law_some) := ⟨rfl, rfl, rfl, by decide +kernel, rfl, by decide +kernel, by decide +kernel⟩
theorem sc__law_drawn_row : FnScope ["pot", "many", "is_whole_v", "few", "left", "seen", "row", "lap", "block", "hand", "there"] ["pot", "many", "is_whole_v"] (defScope s__law_drawn_row) := ⟨rfl, rfl, rfl, by decide +kernel, rfl, by decide +kernel, by decide +kernel⟩
abbrev sc_bk__law_drawn_row_0 : Scope := { kind := .function, names := [(PySem.Str.ofString ".0", PySem.NameKind.local), (PySem.Str.ofString "hand", PySem.NameKind.local), (PySem.Str.ofString "row", PySem.NameKind.free)], isGenerator := false, isCoroutine := false, more := [] }
theorem bk__law_drawn_row_0 : BlkOk ["pot", "many", "is_whole_v", "few", "left", "seen", "row", "lap", "block", "hand", "there"] (defScope s__law_drawn_row) sc_bk__law_drawn_row_0 [("hand", 9)] := ⟨rfl, by decide +kernel, by decide +kernel, by decide +kernel, by decide +kernel⟩
theorem sc__law_right : FnScope ["pot", "many", "rows", "number", "row", "lap"] ["pot"] (defScope s__law_right) := ⟨rfl, rfl, rfl, by decide +kernel, rfl, by decide +kernel, by decide +kernel⟩
abbrev sc_bk__law_right_0 : Scope := { kind := .function, names := [(PySem.Str.ofString ".0", PySem.NameKind.local), (PySem.Str.ofString "lap", PySem.NameKind.local), (PySem.Str.ofString "_law_take", PySem.NameKind.globalImplicit), (PySem.Str.ofString "len", PySem.NameKind.globalImplicit), (PySem.Str.ofString "pot", PySem.NameKind.free), (PySem.Str.ofString "rows", PySem.NameKind.free)], isGenerator := false, isCoroutine := false, more := [] }
theorem bk__law_right_0 : BlkOk ["pot", "many", "rows", "number", "row", "lap"] (defScope s__law_right) sc_bk__law_right_0 [("lap", 5)] := ⟨rfl, by decide +kernel, by decide +kernel, by decide +kernel, by decide +kernel⟩
theorem sc__law_pot : FnScope ["script", "place", "cell", "own", "small"] ["script", "place"] (defScope s__law_pot) := ⟨rfl, rfl, rfl, by decide +kernel, rfl, by decide +kernel, by decide +kernel⟩
theorem sc_law : FnScope ["script", "place"] ["script"] (defScope s_law) := ⟨rfl, rfl, rfl, by decide +kernel, rfl, by decide +kernel, by decide +kernel⟩
abbrev sc_bk_law_0 : Scope := { kind := .function, names := [(PySem.Str.ofString ".0", PySem.NameKind.local), (PySem.Str.ofString "place", PySem.NameKind.local), (PySem.Str.ofString "_law_right", PySem.NameKind.globalImplicit), (PySem.Str.ofString "_law_pot", PySem.NameKind.globalImplicit), (PySem.Str.ofString "script", PySem.NameKind.free)], isGenerator := false, isCoroutine := false, more := [] }
theorem bk_law_0 : BlkOk ["script", "place"] (defScope s_law) sc_bk_law_0 [("place", 1)] := ⟨rfl, by decide +kernel, by decide +kernel, by decide +kernel, by decide +kernel⟩
/-- a def as it stands in the written part -/
structure Dn (K : PySem.W.Frag) (x qual : Str) (st : Stmt) (ps : List Str) : Type where
  a : Addr
  fd : FuncData
  F : Fun K x qual st a fd
  B : Binds K fd ps []
  kp : PySem.W.keepIn K (.ref a) = true
structure Txt (K : PySem.W.Frag) (mg : Str → Option Value) : Type where
  d__law_cells : Dn K "_law_cells" "_law_cells" s__law_cells ["script", "limit"]
  m__law_cells : mg "_law_cells" = some (.ref d__law_cells.a)
  d__law_take : Dn K "_law_take" "_law_take" s__law_take ["pot", "upto"]
  m__law_take : mg "_law_take" = some (.ref d__law_take.a)
  d__law_of : Dn K "_law_of" "_law_of" s__law_of ["pot", "some"]
  m__law_of : mg "_law_of" = some (.ref d__law_of.a)
  d_is_whole : Dn K "is_whole" "is_whole" s_is_whole ["value"]
  m_is_whole : mg "is_whole" = some (.ref d_is_whole.a)
  d_is_integer : Dn K "is_integer" "is_integer" s_is_integer ["value", "low", "high"]
  m_is_integer : mg "is_integer" = some (.ref d_is_integer.a)
  d_check_many : Dn K "check_many" "check_many" s_check_many ["value"]
  m_check_many : mg "check_many" = some (.ref d_check_many.a)
  d_blocks_of : Dn K "blocks_of" "blocks_of" s_blocks_of ["rest"]
  m_blocks_of : mg "blocks_of" = some (.ref d_blocks_of.a)
  d_every_row : Dn K "every_row" "every_row" s_every_row ["many"]
  m_every_row : mg "every_row" = some (.ref d_every_row.a)
  d__law_every : Dn K "_law_every" "_law_every" s__law_every ["many"]
  m__law_every : mg "_law_every" = some (.ref d__law_every.a)
  d_row_at : Dn K "row_at" "row_at" s_row_at ["many", "number"]
  m_row_at : mg "row_at" = some (.ref d_row_at.a)
  d_is_tuple : Dn K "is_tuple" "is_tuple" s_is_tuple ["value", "least", "most"]
  m_is_tuple : mg "is_tuple" = some (.ref d_is_tuple.a)
  d_is_ascending : Dn K "is_ascending" "is_ascending" s_is_ascending ["some"]
  m_is_ascending : mg "is_ascending" = some (.ref d_is_ascending.a)
  d_is_lot : Dn K "is_lot" "is_lot" s_is_lot ["value", "upto"]
  m_is_lot : mg "is_lot" = some (.ref d_is_lot.a)
  d_lies_within : Dn K "lies_within" "lies_within" s_lies_within ["one", "other"]
  m_lies_within : mg "lies_within" = some (.ref d_lies_within.a)
  d_fits_beside : Dn K "fits_beside" "fits_beside" s_fits_beside ["row", "hand", "other"]
  m_fits_beside : mg "fits_beside" = some (.ref d_fits_beside.a)
  d_is_row : Dn K "is_row" "is_row" s_is_row ["many", "value"]
  m_is_row : mg "is_row" = some (.ref d_is_row.a)
  d_is_whole_row : Dn K "is_whole_row" "is_whole_row" s_is_whole_row ["many", "value"]
  m_is_whole_row : mg "is_whole_row" = some (.ref d_is_whole_row.a)
  d_check_whole_row : Dn K "check_whole_row" "check_whole_row" s_check_whole_row ["many", "value"]
  m_check_whole_row : mg "check_whole_row" = some (.ref d_check_whole_row.a)
  d_number_of : Dn K "number_of" "number_of" s_number_of ["many", "row"]
  m_number_of : mg "number_of" = some (.ref d_number_of.a)
  d__law_some : Dn K "_law_some" "_law_some" s__law_some ["pot", "pool", "many"]
  m__law_some : mg "_law_some" = some (.ref d__law_some.a)
  d__law_drawn_row : Dn K "_law_drawn_row" "_law_drawn_row" s__law_drawn_row ["pot", "many", "is_whole_v"]
  m__law_drawn_row : mg "_law_drawn_row" = some (.ref d__law_drawn_row.a)
  d__law_right : Dn K "_law_right" "_law_right" s__law_right ["pot"]
  m__law_right : mg "_law_right" = some (.ref d__law_right.a)
  d__law_pot : Dn K "_law_pot" "_law_pot" s__law_pot ["script", "place"]
  m__law_pot : mg "_law_pot" = some (.ref d__law_pot.a)
  d_law : Dn K "law" "law" s_law ["script"]
  m_law : mg "law" = some (.ref d_law.a)
  t_MOST_HANDS : Tok
  gl_MOST_HANDS : mg "MOST_HANDS" = some (.int 5 t_MOST_HANDS)
  kb_number_of_0_row_many : KBd K d_number_of.fd ["many", "row"] 0 ["row", "many"] [1, 0]
  kb_row_at_0_number_many : KBd K d_row_at.fd ["many", "number"] 0 ["number", "many"] [1, 0]
  bl : ∀ x ∈ blts, mg x = none
section
variable {P : Program} {w : World} {K : PySem.W.Frag} {mg : Str → Option Value} {base : Heap}
abbrev gfld : Nat → Str := fun _ => "x"
abbrev Txt.g (T : Txt K mg) : Gh := ⟨K, fun _ => 0, gfld, 0, 0⟩
theorem Txt.gf (T : Txt K mg) : GF T.g mg where
  bl := T.bl
  cls := fun c hc => absurd hc (Nat.not_lt_zero _)
  na := fun c hc => absurd hc (Nat.not_lt_zero _)
  inj := fun i j hi => absurd hi (Nat.not_lt_zero _)
variable {k : Nat} {T : Txt K mg}
def b__law_cells  : Sf :=
  (sRet (eNew (nRange1 (eCall max2F (aCons (eC (.int 1)) (aCons (eCall min2F (aCons (eVar 1) (aCons (eCall lenF (aCons (eVar 0) aNil)) aNil))) aNil))))))
abbrev f__law_cells  : SemF := semOf 2 2 (b__law_cells )
theorem ok__law_cells  : FnG T.g P w K mg base (k + 1) T.d__law_cells.a T.d__law_cells.fd ["script", "limit"] (f__law_cells ) :=
  fn_g T.gf T.d__law_cells.F sc__law_cells fun cdv A outer s H E x hr => by
    unfold b__law_cells
    exact (ss_one (s_ret (e_new (n_listRange1 x (e_max2 x (a_cons e_int (a_cons (e_min2 x (a_cons (e_var 1) (a_cons (e_len x (e_var 0)) a_nil))) a_nil)))))))
def b__law_take  : Sf :=
  (sSeq (sIf (tfB (eBin gtF (eBin ixF (eVar 0) (eC (.int 0))) (eC (.int 0)))) (sSeq (sSet 2 (eBin modF (eCall intF (aCons (eBin ixF (eVar 0) (eC (.int 0))) aNil)) (eVar 1))) (sSeq (sAsg (eBin fdivF (eBin ixF (eVar 0) (eC (.int 0))) (eVar 1)) (gS (eVar 0) (eC (.int 0)))) (sRet (eVar 2)))) sNil) (sSeq (sAsg (eM (mBin addM (eBin ixF (eVar 0) (eC (.int 2))) (eC (.int 1)))) (gS (eVar 0) (eC (.int 2)))) (sSeq (sSet 3 (eBin ixF (eNew (nLst (aCons (eC (.int 2147483647)) (aCons (eC (.int 2147483629)) (aCons (eC (.int 2147483587)) (aCons (eC (.int 2147483579)) (aCons (eC (.int 2147483563)) aNil))))))) (eBin modF (eCall intF (aCons (eBin ixF (eVar 0) (eC (.int 2))) aNil)) (eC (.int 5))))) (sSeq (sSet 4 (eBin modF (eCall intF (aCons (eBin powF (eCall intF (aCons (eM (mBin addM (eM (mBin addM (eBin ixF (eVar 0) (eC (.int 1))) (eM (mBin mulM (eM (mBin mulM (eC (.int 99887)) (eBin ixF (eVar 0) (eC (.int 2))))) (eBin ixF (eVar 0) (eC (.int 2))))))) (eC (.int 1151)))) aNil)) (eC (.int 3))) aNil)) (eVar 3))) (sRet (eBin modF (eCall intF (aCons (eBin fdivF (eM (mBin mulM (eVar 4) (eM (mBin addM (eBin modF (eCall intF (aCons (eVar 4) aNil)) (eC (.int 10645))) (eM (mBin mulM (eC (.int 307)) (eBin ixF (eVar 0) (eC (.int 2))))))))) (eC (.int 131))) aNil)) (eVar 1)))))))
abbrev f__law_take  : SemF := semOf 5 2 (b__law_take )
theorem ok__law_take  : FnG T.g P w K mg base (k + 1) T.d__law_take.a T.d__law_take.fd ["pot", "upto"] (f__law_take ) :=
  fn_g T.gf T.d__law_take.F sc__law_take fun cdv A outer s H E x hr => by
    unfold b__law_take
    exact (ss_cons (s_if (t_gt (e_ix x (e_var 0) e_int) e_int) (ss_cons (s_set x 2 (e_mod (e_intC x (e_ix x (e_var 0) e_int)) (e_var 1))) (ss_cons (s_asg (e_fdiv (e_ix x (e_var 0) e_int) (e_var 1)) (g_sub (e_var 0) e_int)) (ss_one (s_ret (e_var 2))))) ss_nil) (ss_cons (s_asg (e_m (m_add x (e_ix x (e_var 0) e_int) e_int)) (g_sub (e_var 0) e_int)) (ss_cons (s_set x 3 (e_ix x (e_new (n_lst (a_cons e_int (a_cons e_int (a_cons e_int (a_cons e_int (a_cons e_int a_nil))))))) (e_mod (e_intC x (e_ix x (e_var 0) e_int)) e_int))) (ss_cons (s_set x 4 (e_mod (e_intC x (e_pow (e_intC x (e_m (m_add x (e_m (m_add x (e_ix x (e_var 0) e_int) (e_m (m_mul x (e_m (m_mul x e_int (e_ix x (e_var 0) e_int))) (e_ix x (e_var 0) e_int))))) e_int))) e_int)) (e_var 3))) (ss_one (s_ret (e_mod (e_intC x (e_fdiv (e_m (m_mul x (e_var 4) (e_m (m_add x (e_mod (e_intC x (e_var 4)) e_int) (e_m (m_mul x e_int (e_ix x (e_var 0) e_int))))))) e_int)) (e_var 1))))))))
def b__law_of (c__law_take : SemF) : Sf :=
  (sRet (eBin ixF (eVar 1) (eCall c__law_take (aCons (eVar 0) (aCons (eCall lenF (aCons (eVar 1) aNil)) aNil)))))
abbrev f__law_of (c__law_take : SemF) : SemF := semOf 2 2 (b__law_of c__law_take)
theorem ok__law_of {c__law_take : SemF} (h__law_take : FnG T.g P w K mg base k T.d__law_take.a T.d__law_take.fd ["pot", "upto"] c__law_take) : FnG T.g P w K mg base (k + 1) T.d__law_of.a T.d__law_of.fd ["pot", "some"] (f__law_of c__law_take) :=
  fn_g T.gf T.d__law_of.F sc__law_of fun cdv A outer s H E x hr => by
    unfold b__law_of
    exact (ss_one (s_ret (e_ix x (e_var 1) (e_call x h__law_take hr T.m__law_take T.d__law_take.kp T.d__law_take.B (a_cons (e_var 0) (a_cons (e_len x (e_var 1)) a_nil))))))
def b_is_whole  : Sf :=
  (sRet (eAnd (eIsi "int" (eVar 0)) (eNot (eIsi "bool" (eVar 0)))))
abbrev f_is_whole  : SemF := semOf 1 1 (b_is_whole )
theorem ok_is_whole  : FnG T.g P w K mg base (k + 1) T.d_is_whole.a T.d_is_whole.fd ["value"] (f_is_whole ) :=
  fn_g T.gf T.d_is_whole.F sc_is_whole fun cdv A outer s H E x hr => by
    unfold b_is_whole
    exact (ss_one (s_ret (e_and (e_isi x "int" (e_var 0)) (e_one (e_not (e_isi x "bool" (e_var 0)))))))
def b_is_integer (c_is_whole : SemF) : Sf :=
  (sRet (eAnd (eCall c_is_whole (aCons (eVar 0) aNil)) (eChain leF leF (eVar 1) (eVar 0) (eVar 2))))
abbrev f_is_integer (c_is_whole : SemF) : SemF := semOf 3 3 (b_is_integer c_is_whole)
theorem ok_is_integer {c_is_whole : SemF} (h_is_whole : FnG T.g P w K mg base k T.d_is_whole.a T.d_is_whole.fd ["value"] c_is_whole) : FnG T.g P w K mg base (k + 1) T.d_is_integer.a T.d_is_integer.fd ["value", "low", "high"] (f_is_integer c_is_whole) :=
  fn_g T.gf T.d_is_integer.F sc_is_integer fun cdv A outer s H E x hr => by
    unfold b_is_integer
    exact (ss_one (s_ret (e_and (e_call x h_is_whole hr T.m_is_whole T.d_is_whole.kp T.d_is_whole.B (a_cons (e_var 0) a_nil)) (e_one (e_lele (e_var 1) (e_var 0) (e_var 2))))))
def b_check_many (c_is_integer : SemF) : Sf :=
  (sIf (tfNot (tfB (eCall c_is_integer (aCons (eVar 0) (aCons (eC (.int 1)) (aCons (eC (.int 5)) aNil)))))) sBad sNil)
abbrev f_check_many (c_is_integer : SemF) : SemF := semOf 1 1 (b_check_many c_is_integer)
theorem ok_check_many {c_is_integer : SemF} (h_is_integer : FnG T.g P w K mg base k T.d_is_integer.a T.d_is_integer.fd ["value", "low", "high"] c_is_integer) : FnG T.g P w K mg base (k + 1) T.d_check_many.a T.d_check_many.fd ["value"] (f_check_many c_is_integer) :=
  fn_g T.gf T.d_check_many.F sc_check_many fun cdv A outer s H E x hr => by
    unfold b_check_many
    exact (ss_one (s_if (t_not (t_val (e_call x h_is_integer hr T.m_is_integer T.d_is_integer.kp T.d_is_integer.B (a_cons (e_var 0) (a_cons e_int (a_cons (e_globI T.gl_MOST_HANDS) a_nil)))))) (ss_one s_never) ss_nil))
def b_blocks_of  : Sf :=
  (sSeq (sSet 1 (eNew (nLst (aCons (eTup aNil) aNil)))) (sSeq (sFor (iVal (eVar 0)) (gN 2) (sExpr (eExt (eVar 1) (nComp [3] (iVal (eVar 1)) (gN 3) tfYes (eTup (aStar (qOf (eVar 3)) (aCons (eVar 2) aNil))))))) (sRet (eM (mSl (eVar 1) (oSo (eC (.int 1))) oNo)))))
abbrev f_blocks_of  : SemF := semOf 4 1 (b_blocks_of )
theorem ok_blocks_of  : FnG T.g P w K mg base (k + 1) T.d_blocks_of.a T.d_blocks_of.fd ["rest"] (f_blocks_of ) :=
  fn_g T.gf T.d_blocks_of.F sc_blocks_of fun cdv A outer s H E x hr => by
    unfold b_blocks_of
    exact (ss_cons (s_set x 1 (e_new (n_lst (a_cons (e_tup a_nil) a_nil)))) (ss_cons (s_for x (i_val x (e_var 0)) (g_name x 2) (ss_one (s_expr (e_ext x (e_var 1) (x_new (n_comp x [("lot", 3)] (i_val x (e_var 1)) bk_blocks_of_0 (fun _ _ _ _ _ => (g_name (x.blk _ _ _ _ _) 3)) (fun _ _ _ _ _ => ts_nil) (fun _ _ _ _ _ => (e_tup (a_star (x.blk _ _ _ _ _) (q_of (e_var 3)) (a_cons (e_var 2) a_nil)))))))))) (ss_one (s_ret (e_m (m_slice x (e_var 1) (o_so e_int) o_no))))))
def b_every_row (c_check_many : SemF) (c_blocks_of : SemF) (wn : Nat) : Sf :=
  (sSeqZ (sExpr (eCall c_check_many (aCons (eVar 0) aNil))) (sSeqZ (sPar [1, 2] (aCons (eNew (nLst aNil)) (aCons (eNew (nLst (aCons (eTup (aCons (eTup aNil) (aCons (eM (mBin mulM (eNew (nLst (aCons (eC .non) aNil))) (eVar 0))) aNil))) aNil))) aNil))) (sSeqZ (whileF (tfB (eBin (eq0F true) (eVar 2) (eNew (nLst aNil)))) (sSeq (sAsg (ePop (eVar 2)) (gT 2 (gsCons (gN 3) (gsCons (gN 4) gsNil)))) (sSeq (sSetN 5 (nComp [8] (iRange1 (eVar 0)) (gN 8) (tfB (eIn true (eVar 8) (qOf (eVar 3)))) (eVar 8))) (sSeq (sIf (tfB (eBin (eq0F false) (eVar 5) (eNew (nLst aNil)))) (sExpr (eBM appF (eVar 1) (aCons (eCall tupQ (qOf (eVar 4))) aNil))) sNil) (sFor (iVal (eCall c_blocks_of (aCons (eVar 5) aNil))) (gN 6) (sSeq (sSet 7 (eCall tupQ (nSorted (nLst (aStar (qOf (eVar 3)) (aStar (qOf (eVar 6)) aNil)))))) (sExpr (eBM appF (eVar 2) (aCons (eTup (aCons (eVar 7) (aCons (eNew (nComp [8, 9] (iEnum (wVal (eVar 4))) (gT 2 (gsCons (gN 8) (gsCons (gN 9) gsNil))) tfYes (eIf (tfB (eIn false (eVar 8) (qOf (eVar 6)))) (eVar 7) (eVar 9)))) aNil))) aNil)))))))) wn) (sRet (eCall tupQ (nSorted (lOf (eVar 1))))))))
abbrev f_every_row (c_check_many : SemF) (c_blocks_of : SemF) (wn : Nat) : SemF := semZ 10 1 (b_every_row c_check_many c_blocks_of wn)
theorem ok_every_row {c_check_many : SemF} {c_blocks_of : SemF} {wn : Nat} (h_check_many : FnG T.g P w K mg base k T.d_check_many.a T.d_check_many.fd ["value"] c_check_many) (h_blocks_of : FnG T.g P w K mg base k T.d_blocks_of.a T.d_blocks_of.fd ["rest"] c_blocks_of) : FnZ T.g P w K mg base (k + 1) T.d_every_row.a T.d_every_row.fd ["many"] (f_every_row c_check_many c_blocks_of wn) :=
  fn_z T.gf T.d_every_row.F sc_every_row fun cdv A outer s H E x hr => by
    unfold b_every_row
    exact (ss_consZ (s_expr (e_call x h_check_many hr T.m_check_many T.d_check_many.kp T.d_check_many.B (a_cons (e_var 0) a_nil))) (ss_consZ (s_par2 x 1 2 (a_cons (e_new (n_lst a_nil)) (a_cons (e_new (n_lst (a_cons (e_tup (a_cons (e_tup a_nil) (a_cons (e_m (m_mul x (e_new (n_lst (a_cons e_non a_nil))) (e_var 0))) a_nil))) a_nil))) a_nil))) (ss_consZ (s_while wn (t_ne0 x (e_var 2) (e_new (n_lst a_nil))) (ss_cons (s_asg (e_pop x (e_var 2)) (g_tup x (gs_cons (g_name x 3) (gs_cons (g_name x 4) gs_nil)))) (ss_cons (s_comp x 5 [("hand", 8)] (i_range1 x (e_var 0)) bk_every_row_0 (fun _ _ _ _ _ => (g_name (x.blk _ _ _ _ _) 8)) (fun _ _ _ _ _ => (ts_one (t_notIn (x.blk _ _ _ _ _) (e_var 8) (q_of (e_var 3))))) (fun _ _ _ _ _ => (e_var 8))) (ss_cons (s_if (t_eq0 x (e_var 5) (e_new (n_lst a_nil))) (ss_one (s_expr (e_app x (e_var 1) (e_tuple x (q_of (e_var 4)))))) ss_nil) (ss_one (s_for x (i_val x (e_call x h_blocks_of hr T.m_blocks_of T.d_blocks_of.kp T.d_blocks_of.B (a_cons (e_var 5) a_nil))) (g_name x 6) (ss_cons (s_set x 7 (e_tuple x (q_new (n_sorted x (l_new (n_lst (a_star x (q_of (e_var 3)) (a_star x (q_of (e_var 6)) a_nil)))))))) (ss_one (s_expr (e_app x (e_var 2) (e_tup (a_cons (e_var 7) (a_cons (e_new (n_comp x [("hand", 8), ("its", 9)] (i_enum x (w_val (e_var 4))) bk_every_row_1 (fun _ _ _ _ _ => (g_tup (x.blk _ _ _ _ _) (gs_cons (g_name (x.blk _ _ _ _ _) 8) (gs_cons (g_name (x.blk _ _ _ _ _) 9) gs_nil)))) (fun _ _ _ _ _ => ts_nil) (fun _ _ _ _ _ => (e_if (t_in (x.blk _ _ _ _ _) (e_var 8) (q_of (e_var 6))) (e_var 7) (e_var 9))))) a_nil))))))))))))) (ss_oneZ (s_retZ (e_tupleZ x (n_sorted x (l_of (e_var 1)))))))))
def b__law_every  : Sf :=
  (sSeq (sPar [1, 2] (aCons (eNew (nLst (aCons (eTup (aCons (eTup aNil) (aCons (eM (mBin mulTM (eTup (aCons (eTup aNil) aNil)) (eVar 0))) aNil))) aNil))) (aCons (eNew (nLst aNil)) aNil))) (sSeq (sFor (iRange1 (eVar 0)) (gN 3) (sSeq (sSet 4 (eNew (nLst aNil))) (sSeq (sFor (iVal (eVar 1)) (gT 2 (gsCons (gN 5) (gsCons (gN 6) gsNil))) (sSeq (sSetN 7 (nComp [12] (iRange1 (eVar 0)) (gN 12) (tfB (eIn true (eVar 12) (qOf (eVar 5)))) (eVar 12))) (sFor (iRange2 (eC (.int 1)) (eBin shlF (eC (.int 1)) (eCall lenF (aCons (eVar 7) aNil)))) (gN 8) (sSeq (sSet 9 (eNew (nComp [13, 12] (iEnum (wVal (eVar 7))) (gT 2 (gsCons (gN 13) (gsCons (gN 12) gsNil))) (tfB (eBin (eqF false) (eBin modF (eCall intF (aCons (eBin shrF (eVar 8) (eVar 13)) aNil)) (eC (.int 2))) (eC (.int 1)))) (eVar 12)))) (sSeq (sSet 10 (eCall tupQ (nSorted (lM (mBin addM (eNew (qOf (eVar 5))) (eVar 9)))))) (sSeq (sSet 11 (eCall tupQ (nComp [12, 14] (iEnumV (eVar 6)) (gT 2 (gsCons (gN 12) (gsCons (gN 14) gsNil))) tfYes (eIf (tfB (eIn false (eVar 12) (qOf (eVar 9)))) (eVar 10) (eVar 14))))) (sIf (tfB (eBin (eqF false) (eCall lenF (aCons (eVar 10) aNil)) (eVar 0))) (sExpr (eBM appF (eVar 2) (aCons (eVar 11) aNil))) (sExpr (eBM appF (eVar 4) (aCons (eTup (aCons (eVar 10) (aCons (eVar 11) aNil))) aNil)))))))))) (sSet 1 (eVar 4))))) (sRet (eCall tupQ (nSorted (lOf (eVar 2)))))))
abbrev f__law_every  : SemF := semOf 15 1 (b__law_every )
theorem ok__law_every  : FnG T.g P w K mg base (k + 1) T.d__law_every.a T.d__law_every.fd ["many"] (f__law_every ) :=
  fn_g T.gf T.d__law_every.F sc__law_every fun cdv A outer s H E x hr => by
    unfold b__law_every
    exact (ss_cons (s_par2 x 1 2 (a_cons (e_new (n_lst (a_cons (e_tup (a_cons (e_tup a_nil) (a_cons (e_m (m_mulT x (e_tup (a_cons (e_tup a_nil) a_nil)) (e_var 0))) a_nil))) a_nil))) (a_cons (e_new (n_lst a_nil)) a_nil))) (ss_cons (s_for x (i_range1 x (e_var 0)) (g_name x 3) (ss_cons (s_set x 4 (e_new (n_lst a_nil))) (ss_cons (s_for x (i_val x (e_var 1)) (g_tup x (gs_cons (g_name x 5) (gs_cons (g_name x 6) gs_nil))) (ss_cons (s_comp x 7 [("hand", 12)] (i_range1 x (e_var 0)) bk__law_every_0 (fun _ _ _ _ _ => (g_name (x.blk _ _ _ _ _) 12)) (fun _ _ _ _ _ => (ts_one (t_notIn (x.blk _ _ _ _ _) (e_var 12) (q_of (e_var 5))))) (fun _ _ _ _ _ => (e_var 12))) (ss_one (s_for x (i_range2 x e_int (e_shl e_int (e_len x (e_var 7)))) (g_name x 8) (ss_cons (s_set x 9 (e_new (n_comp x [("at", 13), ("hand", 12)] (i_enum x (w_val (e_var 7))) bk__law_every_1 (fun _ _ _ _ _ => (g_tup (x.blk _ _ _ _ _) (gs_cons (g_name (x.blk _ _ _ _ _) 13) (gs_cons (g_name (x.blk _ _ _ _ _) 12) gs_nil)))) (fun _ _ _ _ _ => (ts_one (t_eq (x.blk _ _ _ _ _) (e_mod (e_intC (x.blk _ _ _ _ _) (e_shr (e_var 8) (e_var 13))) e_int) e_int))) (fun _ _ _ _ _ => (e_var 12))))) (ss_cons (s_set x 10 (e_tuple x (q_new (n_sorted x (l_m (m_add x (e_new (n_list x (q_of (e_var 5)))) (e_var 9))))))) (ss_cons (s_set x 11 (e_tuple x (q_new (n_comp x [("hand", 12), ("old", 14)] (i_enumV x (e_var 6)) bk__law_every_2 (fun _ _ _ _ _ => (g_tup (x.blk _ _ _ _ _) (gs_cons (g_name (x.blk _ _ _ _ _) 12) (gs_cons (g_name (x.blk _ _ _ _ _) 14) gs_nil)))) (fun _ _ _ _ _ => ts_nil) (fun _ _ _ _ _ => (e_if (t_in (x.blk _ _ _ _ _) (e_var 12) (q_of (e_var 9))) (e_var 10) (e_var 14))))))) (ss_one (s_if (t_eq x (e_len x (e_var 10)) (e_var 0)) (ss_one (s_expr (e_app x (e_var 2) (e_var 11)))) (ss_one (s_expr (e_app x (e_var 4) (e_tup (a_cons (e_var 10) (a_cons (e_var 11) a_nil))))))))))))))) (ss_one (s_set x 1 (e_var 4)))))) (ss_one (s_ret (e_tuple x (q_new (n_sorted x (l_of (e_var 2)))))))))
def b_row_at (c_every_row : SemF) (c_is_integer : SemF) : Sf :=
  (sSeq (sSet 2 (eCall c_every_row (aCons (eVar 0) aNil))) (sSeq (sIf (tfNot (tfB (eCall c_is_integer (aCons (eVar 1) (aCons (eC (.int 0)) (aCons (eBin subF (eCall lenF (aCons (eVar 2) aNil)) (eC (.int 1))) aNil)))))) sBad sNil) (sRet (eBin ixF (eVar 2) (eVar 1)))))
abbrev f_row_at (c_every_row : SemF) (c_is_integer : SemF) : SemF := semOf 3 2 (b_row_at c_every_row c_is_integer)
theorem ok_row_at {c_every_row : SemF} {c_is_integer : SemF} (h_every_row : FnZ T.g P w K mg base k T.d_every_row.a T.d_every_row.fd ["many"] c_every_row) (h_is_integer : FnG T.g P w K mg base k T.d_is_integer.a T.d_is_integer.fd ["value", "low", "high"] c_is_integer) : FnG T.g P w K mg base (k + 1) T.d_row_at.a T.d_row_at.fd ["many", "number"] (f_row_at c_every_row c_is_integer) :=
  fn_g T.gf T.d_row_at.F sc_row_at fun cdv A outer s H E x hr => by
    unfold b_row_at
    exact (ss_cons (s_set x 2 (e_call x h_every_row.toG hr T.m_every_row T.d_every_row.kp T.d_every_row.B (a_cons (e_var 0) a_nil))) (ss_cons (s_if (t_not (t_val (e_call x h_is_integer hr T.m_is_integer T.d_is_integer.kp T.d_is_integer.B (a_cons (e_var 1) (a_cons e_int (a_cons (e_sub (e_len x (e_var 2)) e_int) a_nil)))))) (ss_one s_never) ss_nil) (ss_one (s_ret (e_ix x (e_var 2) (e_var 1))))))
def b_is_tuple  : Sf :=
  (sRet (eAnd (eIsi "tuple" (eVar 0)) (eChain leF leF (eVar 1) (eCall lenF (aCons (eVar 0) aNil)) (eVar 2))))
abbrev f_is_tuple  : SemF := semOf 3 3 (b_is_tuple )
theorem ok_is_tuple  : FnG T.g P w K mg base (k + 1) T.d_is_tuple.a T.d_is_tuple.fd ["value", "least", "most"] (f_is_tuple ) :=
  fn_g T.gf T.d_is_tuple.F sc_is_tuple fun cdv A outer s H E x hr => by
    unfold b_is_tuple
    exact (ss_one (s_ret (e_and (e_isi x "tuple" (e_var 0)) (e_one (e_lele (e_var 1) (e_len x (e_var 0)) (e_var 2))))))
def b_is_ascending  : Sf :=
  (sRet (eCall allQ (nComp [1, 2] (iZipV (eVar 0) (eM (mSl (eVar 0) (oSo (eC (.int 1))) oNo))) (gT 2 (gsCons (gN 1) (gsCons (gN 2) gsNil))) tfYes (eBin ltF (eVar 1) (eVar 2)))))
abbrev f_is_ascending  : SemF := semOf 3 1 (b_is_ascending )
theorem ok_is_ascending  : FnG T.g P w K mg base (k + 1) T.d_is_ascending.a T.d_is_ascending.fd ["some"] (f_is_ascending ) :=
  fn_g T.gf T.d_is_ascending.F sc_is_ascending fun cdv A outer s H E x hr => by
    unfold b_is_ascending
    exact (ss_one (s_ret (e_all x (l_new (n_comp x [("one", 1), ("other", 2)] (i_zipV x (e_var 0) (e_m (m_slice x (e_var 0) (o_so e_int) o_no))) bk_is_ascending_0 (fun _ _ _ _ _ => (g_tup (x.blk _ _ _ _ _) (gs_cons (g_name (x.blk _ _ _ _ _) 1) (gs_cons (g_name (x.blk _ _ _ _ _) 2) gs_nil)))) (fun _ _ _ _ _ => ts_nil) (fun _ _ _ _ _ => (e_lt (e_var 1) (e_var 2))))))))
def b_is_lot (c_is_integer : SemF) (c_is_ascending : SemF) : Sf :=
  (sSeq (sIf (tfOr (tfNot (tfB (eIsi "tuple" (eVar 0)))) (tfNot (tfB (eCall allQ (nComp [2] (iVal (eVar 0)) (gN 2) tfYes (eCall c_is_integer (aCons (eVar 2) (aCons (eC (.int 0)) (aCons (eBin subF (eVar 1) (eC (.int 1))) aNil))))))))) (sRet (eC (.bl false))) sNil) (sRet (eCall c_is_ascending (aCons (eVar 0) aNil))))
abbrev f_is_lot (c_is_integer : SemF) (c_is_ascending : SemF) : SemF := semOf 3 2 (b_is_lot c_is_integer c_is_ascending)
theorem ok_is_lot {c_is_integer : SemF} {c_is_ascending : SemF} (h_is_integer : FnG T.g P w K mg base k T.d_is_integer.a T.d_is_integer.fd ["value", "low", "high"] c_is_integer) (h_is_ascending : FnG T.g P w K mg base k T.d_is_ascending.a T.d_is_ascending.fd ["some"] c_is_ascending) : FnG T.g P w K mg base (k + 1) T.d_is_lot.a T.d_is_lot.fd ["value", "upto"] (f_is_lot c_is_integer c_is_ascending) :=
  fn_g T.gf T.d_is_lot.F sc_is_lot fun cdv A outer s H E x hr => by
    unfold b_is_lot
    exact (ss_cons (s_if (t_w (w_or (t_not (t_val (e_isi x "tuple" (e_var 0)))) (w_or1 (t_not (t_val (e_all x (l_new (n_comp x [("one", 2)] (i_val x (e_var 0)) bk_is_lot_0 (fun _ _ _ _ _ => (g_name (x.blk _ _ _ _ _) 2)) (fun _ _ _ _ _ => ts_nil) (fun _ _ _ _ _ => (e_call (x.blk _ _ _ _ _) h_is_integer hr T.m_is_integer T.d_is_integer.kp T.d_is_integer.B (a_cons (e_var 2) (a_cons e_int (a_cons (e_sub (e_var 1) e_int) a_nil))))))))))))) (ss_one (s_ret e_bl)) ss_nil) (ss_one (s_ret (e_call x h_is_ascending hr T.m_is_ascending T.d_is_ascending.kp T.d_is_ascending.B (a_cons (e_var 0) a_nil)))))
def b_lies_within  : Sf :=
  (sRet (eCall allQ (nComp [2] (iVal (eVar 0)) (gN 2) tfYes (eIn false (eVar 2) (qOf (eVar 1))))))
abbrev f_lies_within  : SemF := semOf 3 2 (b_lies_within )
theorem ok_lies_within  : FnG T.g P w K mg base (k + 1) T.d_lies_within.a T.d_lies_within.fd ["one", "other"] (f_lies_within ) :=
  fn_g T.gf T.d_lies_within.F sc_lies_within fun cdv A outer s H E x hr => by
    unfold b_lies_within
    exact (ss_one (s_ret (e_all x (l_new (n_comp x [("hand", 2)] (i_val x (e_var 0)) bk_lies_within_0 (fun _ _ _ _ _ => (g_name (x.blk _ _ _ _ _) 2)) (fun _ _ _ _ _ => ts_nil) (fun _ _ _ _ _ => (e_in (x.blk _ _ _ _ _) (e_var 2) (q_of (e_var 1)))))))))
def b_fits_beside (c_lies_within : SemF) : Sf :=
  (sSeq (sPar [3, 4] (aCons (eBin ixF (eVar 0) (eVar 1)) (aCons (eBin ixF (eVar 0) (eVar 2)) aNil))) (sSeq (sIf (tfOr (tfB (eIsN (eVar 3))) (tfB (eIsN (eVar 4)))) (sRet (eC (.bl true))) sNil) (sSeq (sIf (tfAnd (tfNot (tfB (eCall c_lies_within (aCons (eVar 3) (aCons (eVar 4) aNil))))) (tfNot (tfB (eCall c_lies_within (aCons (eVar 4) (aCons (eVar 3) aNil)))))) (sRet (eC (.bl false))) sNil) (sRet (eOr (eIn true (eVar 2) (qOf (eVar 3))) (eCall c_lies_within (aCons (eVar 4) (aCons (eVar 3) aNil))))))))
abbrev f_fits_beside (c_lies_within : SemF) : SemF := semOf 5 3 (b_fits_beside c_lies_within)
theorem ok_fits_beside {c_lies_within : SemF} (h_lies_within : FnG T.g P w K mg base k T.d_lies_within.a T.d_lies_within.fd ["one", "other"] c_lies_within) : FnG T.g P w K mg base (k + 1) T.d_fits_beside.a T.d_fits_beside.fd ["row", "hand", "other"] (f_fits_beside c_lies_within) :=
  fn_g T.gf T.d_fits_beside.F sc_fits_beside fun cdv A outer s H E x hr => by
    unfold b_fits_beside
    exact (ss_cons (s_par2 x 3 4 (a_cons (e_ix x (e_var 0) (e_var 1)) (a_cons (e_ix x (e_var 0) (e_var 2)) a_nil))) (ss_cons (s_if (t_w (w_or (t_isN (e_var 3)) (w_or1 (t_isN (e_var 4))))) (ss_one (s_ret e_bl)) ss_nil) (ss_cons (s_if (t_w (w_and (t_not (t_val (e_call x h_lies_within hr T.m_lies_within T.d_lies_within.kp T.d_lies_within.B (a_cons (e_var 3) (a_cons (e_var 4) a_nil))))) (w_and1 (t_not (t_val (e_call x h_lies_within hr T.m_lies_within T.d_lies_within.kp T.d_lies_within.B (a_cons (e_var 4) (a_cons (e_var 3) a_nil)))))))) (ss_one (s_ret e_bl)) ss_nil) (ss_one (s_ret (e_or (e_notIn x (e_var 2) (q_of (e_var 3))) (e_one (e_call x h_lies_within hr T.m_lies_within T.d_lies_within.kp T.d_lies_within.B (a_cons (e_var 4) (a_cons (e_var 3) a_nil))))))))))
def b_is_row (c_is_tuple : SemF) (c_is_lot : SemF) (c_fits_beside : SemF) : Sf :=
  (sSeq (sIf (tfOr (tfNot (tfB (eCall c_is_tuple (aCons (eVar 1) (aCons (eVar 0) (aCons (eVar 0) aNil)))))) (tfNot (tfB (eCall allQ (nComp [4] (iVal (eVar 1)) (gN 4) tfYes (eOr (eIsN (eVar 4)) (eCall c_is_lot (aCons (eVar 4) (aCons (eVar 0) aNil))))))))) (sRet (eC (.bl false))) sNil) (sSeq (sSet 2 (eNew (nComp [3, 4] (iEnumV (eVar 1)) (gT 2 (gsCons (gN 3) (gsCons (gN 4) gsNil))) (tfB (eNotN (eVar 4))) (eVar 3)))) (sSeq (sIf (tfOr (tfB (eBin (eqF false) (eVar 2) (eNew (nLst aNil)))) (tfNot (tfB (eCall allQ (nComp [3] (iVal (eVar 2)) (gN 3) tfYes (eIn false (eVar 3) (qOf (eBin ixF (eVar 1) (eVar 3))))))))) (sRet (eC (.bl false))) sNil) (sRet (eCall allQ (lOf (eComp2 [3, 5] (iVal (eVar 2)) (gN 3) tfYes (iVal (eVar 2)) [5] (gN 5) tfYes (eCall c_fits_beside (aCons (eVar 1) (aCons (eVar 3) (aCons (eVar 5) aNil)))))))))))
abbrev f_is_row (c_is_tuple : SemF) (c_is_lot : SemF) (c_fits_beside : SemF) : SemF := semOf 6 2 (b_is_row c_is_tuple c_is_lot c_fits_beside)
theorem ok_is_row {c_is_tuple : SemF} {c_is_lot : SemF} {c_fits_beside : SemF} (h_is_tuple : FnG T.g P w K mg base k T.d_is_tuple.a T.d_is_tuple.fd ["value", "least", "most"] c_is_tuple) (h_is_lot : FnG T.g P w K mg base k T.d_is_lot.a T.d_is_lot.fd ["value", "upto"] c_is_lot) (h_fits_beside : FnG T.g P w K mg base k T.d_fits_beside.a T.d_fits_beside.fd ["row", "hand", "other"] c_fits_beside) : FnG T.g P w K mg base (k + 1) T.d_is_row.a T.d_is_row.fd ["many", "value"] (f_is_row c_is_tuple c_is_lot c_fits_beside) :=
  fn_g T.gf T.d_is_row.F sc_is_row fun cdv A outer s H E x hr => by
    unfold b_is_row
    exact (ss_cons (s_if (t_w (w_or (t_not (t_val (e_call x h_is_tuple hr T.m_is_tuple T.d_is_tuple.kp T.d_is_tuple.B (a_cons (e_var 1) (a_cons (e_var 0) (a_cons (e_var 0) a_nil)))))) (w_or1 (t_not (t_val (e_all x (l_new (n_comp x [("view", 4)] (i_val x (e_var 1)) bk_is_row_0 (fun _ _ _ _ _ => (g_name (x.blk _ _ _ _ _) 4)) (fun _ _ _ _ _ => ts_nil) (fun _ _ _ _ _ => (e_or (e_isN (e_var 4)) (e_one (e_call (x.blk _ _ _ _ _) h_is_lot hr T.m_is_lot T.d_is_lot.kp T.d_is_lot.B (a_cons (e_var 4) (a_cons (e_var 0) a_nil)))))))))))))) (ss_one (s_ret e_bl)) ss_nil) (ss_cons (s_set x 2 (e_new (n_comp x [("hand", 3), ("view", 4)] (i_enumV x (e_var 1)) bk_is_row_1 (fun _ _ _ _ _ => (g_tup (x.blk _ _ _ _ _) (gs_cons (g_name (x.blk _ _ _ _ _) 3) (gs_cons (g_name (x.blk _ _ _ _ _) 4) gs_nil)))) (fun _ _ _ _ _ => (ts_one (t_notN (e_var 4)))) (fun _ _ _ _ _ => (e_var 3))))) (ss_cons (s_if (t_w (w_or (t_eq x (e_var 2) (e_new (n_lst a_nil))) (w_or1 (t_not (t_val (e_all x (l_new (n_comp x [("hand", 3)] (i_val x (e_var 2)) bk_is_row_2 (fun _ _ _ _ _ => (g_name (x.blk _ _ _ _ _) 3)) (fun _ _ _ _ _ => ts_nil) (fun _ _ _ _ _ => (e_in (x.blk _ _ _ _ _) (e_var 3) (q_of (e_ix (x.blk _ _ _ _ _) (e_var 1) (e_var 3))))))))))))) (ss_one (s_ret e_bl)) ss_nil) (ss_one (s_ret (e_all x (l_of (e_comp2 x [("hand", 3), ("other", 5)] [5] (i_val x (e_var 2)) bk_is_row_3 (fun _ _ _ _ _ => (g_name (x.blk _ _ _ _ _) 3)) (fun _ _ _ _ _ => ts_nil) (fun _ _ _ _ _ => (i_val (x.blk _ _ _ _ _) (e_var 2))) (fun _ _ _ _ _ => (g_name (x.blk _ _ _ _ _) 5)) (fun _ _ _ _ _ => ts_nil) (fun _ _ _ _ _ => (e_call (x.blk _ _ _ _ _) h_fits_beside hr T.m_fits_beside T.d_fits_beside.kp T.d_fits_beside.B (a_cons (e_var 1) (a_cons (e_var 3) (a_cons (e_var 5) a_nil)))))))))))))
def b_is_whole_row (c_is_row : SemF) : Sf :=
  (sRet (eAnd (eCall c_is_row (aCons (eVar 0) (aCons (eVar 1) aNil))) (eBin (inTF true) (eC .non) (eVar 1))))
abbrev f_is_whole_row (c_is_row : SemF) : SemF := semOf 2 2 (b_is_whole_row c_is_row)
theorem ok_is_whole_row {c_is_row : SemF} (h_is_row : FnG T.g P w K mg base k T.d_is_row.a T.d_is_row.fd ["many", "value"] c_is_row) : FnG T.g P w K mg base (k + 1) T.d_is_whole_row.a T.d_is_whole_row.fd ["many", "value"] (f_is_whole_row c_is_row) :=
  fn_g T.gf T.d_is_whole_row.F sc_is_whole_row fun cdv A outer s H E x hr => by
    unfold b_is_whole_row
    exact (ss_one (s_ret (e_and (e_call x h_is_row hr T.m_is_row T.d_is_row.kp T.d_is_row.B (a_cons (e_var 0) (a_cons (e_var 1) a_nil))) (e_one (e_notInT x e_non (e_var 1))))))
def b_check_whole_row (c_check_many : SemF) (c_is_whole_row : SemF) : Sf :=
  (sSeq (sExpr (eCall c_check_many (aCons (eVar 0) aNil))) (sIf (tfNot (tfB (eCall c_is_whole_row (aCons (eVar 0) (aCons (eVar 1) aNil))))) sBad sNil))
abbrev f_check_whole_row (c_check_many : SemF) (c_is_whole_row : SemF) : SemF := semOf 2 2 (b_check_whole_row c_check_many c_is_whole_row)
theorem ok_check_whole_row {c_check_many : SemF} {c_is_whole_row : SemF} (h_check_many : FnG T.g P w K mg base k T.d_check_many.a T.d_check_many.fd ["value"] c_check_many) (h_is_whole_row : FnG T.g P w K mg base k T.d_is_whole_row.a T.d_is_whole_row.fd ["many", "value"] c_is_whole_row) : FnG T.g P w K mg base (k + 1) T.d_check_whole_row.a T.d_check_whole_row.fd ["many", "value"] (f_check_whole_row c_check_many c_is_whole_row) :=
  fn_g T.gf T.d_check_whole_row.F sc_check_whole_row fun cdv A outer s H E x hr => by
    unfold b_check_whole_row
    exact (ss_cons (s_expr (e_call x h_check_many hr T.m_check_many T.d_check_many.kp T.d_check_many.B (a_cons (e_var 0) a_nil))) (ss_one (s_if (t_not (t_val (e_call x h_is_whole_row hr T.m_is_whole_row T.d_is_whole_row.kp T.d_is_whole_row.B (a_cons (e_var 0) (a_cons (e_var 1) a_nil))))) (ss_one s_never) ss_nil)))
def b_number_of (c_check_whole_row : SemF) (c_every_row : SemF) : Sf :=
  (sSeq (sExpr (eCall c_check_whole_row (aCons (eVar 0) (aCons (eVar 1) aNil)))) (sRet (eIdxZ (eCall c_every_row (aCons (eVar 0) aNil)) (eVar 1))))
abbrev f_number_of (c_check_whole_row : SemF) (c_every_row : SemF) : SemF := semOf 2 2 (b_number_of c_check_whole_row c_every_row)
theorem ok_number_of {c_check_whole_row : SemF} {c_every_row : SemF} (h_check_whole_row : FnG T.g P w K mg base k T.d_check_whole_row.a T.d_check_whole_row.fd ["many", "value"] c_check_whole_row) (h_every_row : FnZ T.g P w K mg base k T.d_every_row.a T.d_every_row.fd ["many"] c_every_row) : FnG T.g P w K mg base (k + 1) T.d_number_of.a T.d_number_of.fd ["many", "row"] (f_number_of c_check_whole_row c_every_row) :=
  fn_g T.gf T.d_number_of.F sc_number_of fun cdv A outer s H E x hr => by
    unfold b_number_of
    exact (ss_cons (s_expr (e_call x h_check_whole_row hr T.m_check_whole_row T.d_check_whole_row.kp T.d_check_whole_row.B (a_cons (e_var 0) (a_cons (e_var 1) a_nil)))) (ss_one (s_ret (e_idxZ x (e_callZ x h_every_row hr T.m_every_row T.d_every_row.kp T.d_every_row.B (a_cons (e_var 0) a_nil)) (e_var 1)))))
def b__law_some (c__law_take : SemF) : Sf :=
  (sSeq (sPar [3, 4] (aCons (eNew (qOf (eVar 1))) (aCons (eNew (nLst aNil)) aNil))) (sSeq (sFor (iRange1 (eVar 2)) (gN 5) (sExpr (eBM appF (eVar 4) (aCons (eBM popAtF (eVar 3) (aCons (eCall c__law_take (aCons (eVar 0) (aCons (eCall lenF (aCons (eVar 3) aNil)) aNil))) aNil)) aNil)))) (sRet (eVar 4))))
abbrev f__law_some (c__law_take : SemF) : SemF := semOf 6 3 (b__law_some c__law_take)
theorem ok__law_some {c__law_take : SemF} (h__law_take : FnG T.g P w K mg base k T.d__law_take.a T.d__law_take.fd ["pot", "upto"] c__law_take) : FnG T.g P w K mg base (k + 1) T.d__law_some.a T.d__law_some.fd ["pot", "pool", "many"] (f__law_some c__law_take) :=
  fn_g T.gf T.d__law_some.F sc__law_some fun cdv A outer s H E x hr => by
    unfold b__law_some
    exact (ss_cons (s_par2 x 3 4 (a_cons (e_new (n_list x (q_of (e_var 1)))) (a_cons (e_new (n_lst a_nil)) a_nil))) (ss_cons (s_for x (i_range1 x (e_var 2)) (g_name x 5) (ss_one (s_expr (e_app x (e_var 4) (e_popAt x (e_var 3) (e_call x h__law_take hr T.m__law_take T.d__law_take.kp T.d__law_take.B (a_cons (e_var 0) (a_cons (e_len x (e_var 3)) a_nil)))))))) (ss_one (s_ret (e_var 4)))))
def b__law_drawn_row (c__law_take : SemF) (c__law_some : SemF) : Sf :=
  (sSeq (sSet 3 (eIf (tfB (eVar 2)) (eVar 1) (eM (mBin addM (eC (.int 1)) (eCall c__law_take (aCons (eVar 0) (aCons (eVar 1) aNil))))))) (sSeq (sAsg (eTup (aCons (eCall c__law_some (aCons (eVar 0) (aCons (eNew (nRange1 (eVar 1))) (aCons (eVar 3) aNil)))) (aCons (eNew (nLst aNil)) (aCons (eM (mBin mulM (eNew (nLst (aCons (eC .non) aNil))) (eVar 1))) aNil)))) (gT 3 (gsCons (gN 4) (gsCons (gN 5) (gsCons (gN 6) gsNil))))) (sSeq (sFor (iRange1 (eVar 1)) (gN 7) (sSeq (sSet 8 (eM (mSl (eVar 4) oNo (oSo (eM (mBin addM (eC (.int 1)) (eCall c__law_take (aCons (eVar 0) (aCons (eCall max2F (aCons (eC (.int 1)) (aCons (eCall lenF (aCons (eVar 4) aNil)) aNil))) aNil))))))))) (sSeq (sPar [4, 5] (aCons (eM (mSl (eVar 4) (oSo (eCall lenF (aCons (eVar 8) aNil))) oNo)) (aCons (eM (mBin addM (eVar 5) (eVar 8))) aNil))) (sFor (iVal (eVar 8)) (gN 9) (sAsg (eCall tupQ (nSorted (lOf (eVar 5)))) (gS (eVar 6) (eVar 9))))))) (sSeq (sSetN 10 (nComp [9] (iRange1 (eVar 1)) (gN 9) (tfB (eNotN (eBin ixF (eVar 6) (eVar 9)))) (eVar 9))) (sSeq (sFor (iVal (eIf (tfB (eVar 2)) (eNew (nLst aNil)) (eCall c__law_some (aCons (eVar 0) (aCons (eVar 10) (aCons (eCall c__law_take (aCons (eVar 0) (aCons (eCall lenF (aCons (eVar 10) aNil)) aNil))) aNil)))))) (gN 9) (sAsg (eC .non) (gS (eVar 6) (eVar 9)))) (sRet (eCall tupQ (qOf (eVar 6)))))))))
abbrev f__law_drawn_row (c__law_take : SemF) (c__law_some : SemF) : SemF := semOf 11 3 (b__law_drawn_row c__law_take c__law_some)
theorem ok__law_drawn_row {c__law_take : SemF} {c__law_some : SemF} (h__law_take : FnG T.g P w K mg base k T.d__law_take.a T.d__law_take.fd ["pot", "upto"] c__law_take) (h__law_some : FnG T.g P w K mg base k T.d__law_some.a T.d__law_some.fd ["pot", "pool", "many"] c__law_some) : FnG T.g P w K mg base (k + 1) T.d__law_drawn_row.a T.d__law_drawn_row.fd ["pot", "many", "is_whole_v"] (f__law_drawn_row c__law_take c__law_some) :=
  fn_g T.gf T.d__law_drawn_row.F sc__law_drawn_row fun cdv A outer s H E x hr => by
    unfold b__law_drawn_row
    exact (ss_cons (s_set x 3 (e_if (t_val (e_var 2)) (e_var 1) (e_m (m_add x e_int (e_call x h__law_take hr T.m__law_take T.d__law_take.kp T.d__law_take.B (a_cons (e_var 0) (a_cons (e_var 1) a_nil))))))) (ss_cons (s_asg (e_tup (a_cons (e_call x h__law_some hr T.m__law_some T.d__law_some.kp T.d__law_some.B (a_cons (e_var 0) (a_cons (e_new (n_listRange1 x (e_var 1))) (a_cons (e_var 3) a_nil)))) (a_cons (e_new (n_lst a_nil)) (a_cons (e_m (m_mul x (e_new (n_lst (a_cons e_non a_nil))) (e_var 1))) a_nil)))) (g_tup x (gs_cons (g_name x 4) (gs_cons (g_name x 5) (gs_cons (g_name x 6) gs_nil))))) (ss_cons (s_for x (i_range1 x (e_var 1)) (g_name x 7) (ss_cons (s_set x 8 (e_m (m_slice x (e_var 4) o_no (o_so (e_m (m_add x e_int (e_call x h__law_take hr T.m__law_take T.d__law_take.kp T.d__law_take.B (a_cons (e_var 0) (a_cons (e_max2 x (a_cons e_int (a_cons (e_len x (e_var 4)) a_nil))) a_nil))))))))) (ss_cons (s_par2 x 4 5 (a_cons (e_m (m_slice x (e_var 4) (o_so (e_len x (e_var 8))) o_no)) (a_cons (e_m (m_add x (e_var 5) (e_var 8))) a_nil))) (ss_one (s_for x (i_val x (e_var 8)) (g_name x 9) (ss_one (s_asg (e_tuple x (q_new (n_sorted x (l_of (e_var 5))))) (g_sub (e_var 6) (e_var 9))))))))) (ss_cons (s_comp x 10 [("hand", 9)] (i_range1 x (e_var 1)) bk__law_drawn_row_0 (fun _ _ _ _ _ => (g_name (x.blk _ _ _ _ _) 9)) (fun _ _ _ _ _ => (ts_one (t_notN (e_ix (x.blk _ _ _ _ _) (e_var 6) (e_var 9))))) (fun _ _ _ _ _ => (e_var 9))) (ss_cons (s_for x (i_val x (e_if (t_val (e_var 2)) (e_new (n_lst a_nil)) (e_call x h__law_some hr T.m__law_some T.d__law_some.kp T.d__law_some.B (a_cons (e_var 0) (a_cons (e_var 10) (a_cons (e_call x h__law_take hr T.m__law_take T.d__law_take.kp T.d__law_take.B (a_cons (e_var 0) (a_cons (e_len x (e_var 10)) a_nil))) a_nil)))))) (g_name x 9) (ss_one (s_asg e_non (g_sub (e_var 6) (e_var 9))))) (ss_one (s_ret (e_tuple x (q_of (e_var 6))))))))))
def b__law_right (c__law_of : SemF) (c_every_row : SemF) (c__law_every : SemF) (c__law_take : SemF) (c_row_at : SemF) (c_number_of : SemF) (c__law_drawn_row : SemF) : Sf :=
  (sSeq (sSet 1 (eCall c__law_of (aCons (eVar 0) (aCons (eNew (nLst (aCons (eC (.int 1)) (aCons (eC (.int 2)) (aCons (eC (.int 3)) (aCons (eC (.int 3)) (aCons (eC (.int 4)) (aCons (eC (.int 4)) (aCons (eC (.int 4)) (aCons (eC (.int 4)) aNil)))))))))) aNil)))) (sSeq (sSet 2 (eCall c_every_row (aCons (eVar 1) aNil))) (sSeq (sIf (tfOr (tfB (eBin (eqF true) (eCall lenF (aCons (eVar 2) aNil)) (eBin ixF (eNew (nLst (aCons (eC (.int 1)) (aCons (eC (.int 3)) (aCons (eC (.int 13)) (aCons (eC (.int 75)) (aCons (eC (.int 541)) aNil))))))) (eBin subF (eVar 1) (eC (.int 1)))))) (tfB (eBin (eqF true) (eCall reprF (aCons (eVar 2) aNil)) (eCall reprF (aCons (eCall c__law_every (aCons (eVar 1) aNil)) aNil))))) (sRet (eC (.bl false))) sNil) (sSeq (sFor (iM (mBin addM (eNew (nLst (aCons (eC (.int 0)) (aCons (eBin subF (eCall lenF (aCons (eVar 2) aNil)) (eC (.int 1))) aNil)))) (eNew (nComp [5] (iRange1 (eC (.int 4))) (gN 5) tfYes (eCall c__law_take (aCons (eVar 0) (aCons (eCall lenF (aCons (eVar 2) aNil)) aNil))))))) (gN 3) (sSeq (sIf (tfB (eBin (eqF true) (eCall reprF (aCons (eCall c_row_at (aCons (eVar 1) (aCons (eVar 3) aNil))) aNil)) (eCall reprF (aCons (eBin ixF (eVar 2) (eVar 3)) aNil)))) (sRet (eC (.bl false))) sNil) (sIf (tfB (eBin (eqF true) (eCall reprF (aCons (eCall c_number_of (aKw 0 2 [1, 0] aNil (aCons (eBin ixF (eVar 2) (eVar 3)) (aCons (eVar 1) aNil)))) aNil)) (eCall reprF (aCons (eCall intF (aCons (eVar 3) aNil)) aNil)))) (sRet (eC (.bl false))) sNil))) (sSeq (sSet 4 (eCall c__law_drawn_row (aCons (eVar 0) (aCons (eVar 1) (aCons (eC (.bl true)) aNil))))) (sRet (eBin (eqF false) (eCall reprF (aCons (eCall c_row_at (aKw 0 2 [1, 0] aNil (aCons (eCall c_number_of (aCons (eVar 1) (aCons (eVar 4) aNil))) (aCons (eVar 1) aNil)))) aNil)) (eCall reprF (aCons (eVar 4) aNil)))))))))
abbrev f__law_right (c__law_of : SemF) (c_every_row : SemF) (c__law_every : SemF) (c__law_take : SemF) (c_row_at : SemF) (c_number_of : SemF) (c__law_drawn_row : SemF) : SemF := semOf 6 1 (b__law_right c__law_of c_every_row c__law_every c__law_take c_row_at c_number_of c__law_drawn_row)
theorem ok__law_right {c__law_of : SemF} {c_every_row : SemF} {c__law_every : SemF} {c__law_take : SemF} {c_row_at : SemF} {c_number_of : SemF} {c__law_drawn_row : SemF} (h__law_of : FnG T.g P w K mg base k T.d__law_of.a T.d__law_of.fd ["pot", "some"] c__law_of) (h_every_row : FnZ T.g P w K mg base k T.d_every_row.a T.d_every_row.fd ["many"] c_every_row) (h__law_every : FnG T.g P w K mg base k T.d__law_every.a T.d__law_every.fd ["many"] c__law_every) (h__law_take : FnG T.g P w K mg base k T.d__law_take.a T.d__law_take.fd ["pot", "upto"] c__law_take) (h_row_at : FnG T.g P w K mg base k T.d_row_at.a T.d_row_at.fd ["many", "number"] c_row_at) (h_number_of : FnG T.g P w K mg base k T.d_number_of.a T.d_number_of.fd ["many", "row"] c_number_of) (h__law_drawn_row : FnG T.g P w K mg base k T.d__law_drawn_row.a T.d__law_drawn_row.fd ["pot", "many", "is_whole_v"] c__law_drawn_row) : FnG T.g P w K mg base (k + 1) T.d__law_right.a T.d__law_right.fd ["pot"] (f__law_right c__law_of c_every_row c__law_every c__law_take c_row_at c_number_of c__law_drawn_row) :=
  fn_g T.gf T.d__law_right.F sc__law_right fun cdv A outer s H E x hr => by
    unfold b__law_right
    exact (ss_cons (s_set x 1 (e_call x h__law_of hr T.m__law_of T.d__law_of.kp T.d__law_of.B (a_cons (e_var 0) (a_cons (e_new (n_lst (a_cons e_int (a_cons e_int (a_cons e_int (a_cons e_int (a_cons e_int (a_cons e_int (a_cons e_int (a_cons e_int a_nil)))))))))) a_nil)))) (ss_cons (s_set x 2 (e_call x h_every_row.toG hr T.m_every_row T.d_every_row.kp T.d_every_row.B (a_cons (e_var 1) a_nil))) (ss_cons (s_if (t_w (w_or (t_ne x (e_len x (e_var 2)) (e_ix x (e_new (n_lst (a_cons e_int (a_cons e_int (a_cons e_int (a_cons e_int (a_cons e_int a_nil))))))) (e_sub (e_var 1) e_int))) (w_or1 (t_ne x (e_repr x (e_var 2)) (e_repr x (e_call x h__law_every hr T.m__law_every T.d__law_every.kp T.d__law_every.B (a_cons (e_var 1) a_nil))))))) (ss_one (s_ret e_bl)) ss_nil) (ss_cons (s_for x (i_m x (m_add x (e_new (n_lst (a_cons e_int (a_cons (e_sub (e_len x (e_var 2)) e_int) a_nil)))) (e_new (n_comp x [("lap", 5)] (i_range1 x e_int) bk__law_right_0 (fun _ _ _ _ _ => (g_name (x.blk _ _ _ _ _) 5)) (fun _ _ _ _ _ => ts_nil) (fun _ _ _ _ _ => (e_call (x.blk _ _ _ _ _) h__law_take hr T.m__law_take T.d__law_take.kp T.d__law_take.B (a_cons (e_var 0) (a_cons (e_len (x.blk _ _ _ _ _) (e_var 2)) a_nil)))))))) (g_name x 3) (ss_cons (s_if (t_ne x (e_repr x (e_call x h_row_at hr T.m_row_at T.d_row_at.kp T.d_row_at.B (a_cons (e_var 1) (a_cons (e_var 3) a_nil)))) (e_repr x (e_ix x (e_var 2) (e_var 3)))) (ss_one (s_ret e_bl)) ss_nil) (ss_one (s_if (t_ne x (e_repr x (e_callK0 x h_number_of hr T.m_number_of T.d_number_of.kp T.kb_number_of_0_row_many (k_cons (e_ix x (e_var 2) (e_var 3)) (k_cons (e_var 1) k_nil)))) (e_repr x (e_intC x (e_var 3)))) (ss_one (s_ret e_bl)) ss_nil)))) (ss_cons (s_set x 4 (e_call x h__law_drawn_row hr T.m__law_drawn_row T.d__law_drawn_row.kp T.d__law_drawn_row.B (a_cons (e_var 0) (a_cons (e_var 1) (a_cons e_bl a_nil))))) (ss_one (s_ret (e_eq x (e_repr x (e_callK0 x h_row_at hr T.m_row_at T.d_row_at.kp T.kb_row_at_0_number_many (k_cons (e_call x h_number_of hr T.m_number_of T.d_number_of.kp T.d_number_of.B (a_cons (e_var 1) (a_cons (e_var 4) a_nil))) (k_cons (e_var 1) k_nil)))) (e_repr x (e_var 4))))))))))
def b__law_pot  : Sf :=
  (sSeq (sSet 2 (eIf (tfB (eBin ltF (eVar 1) (eCall lenF (aCons (eVar 0) aNil)))) (eBin ixF (eVar 0) (eVar 1)) (eM (mBin addM (eM (mBin addM (eBin modF (eCall intF (aCons (eCall sumQ (lM (mSl (eVar 0) oNo (oSo (eC (.int 1)))))) aNil)) (eC (.int 1000003))) (eM (mBin mulM (eC (.int 1711)) (eVar 1))))) (eC (.int 949)))))) (sSeq (sSet 3 (eM (mBin mulM (eBin modF (eCall intF (aCons (eCall absF (aCons (eVar 2) aNil)) aNil)) (eBin powF (eBin powF (eC (.int 10)) (eC (.int 60))) (eC (.int 5)))) (eCall intF (aCons (eBin geF (eCall absF (aCons (eVar 2) aNil)) (eBin powF (eC (.int 10)) (eC (.int 18)))) aNil))))) (sSeq (sSet 4 (eBin modF (eCall intF (aCons (eVar 2) aNil)) (eC (.int 2305843009213693951)))) (sRet (eNew (nLst (aCons (eVar 3) (aCons (eBin modF (eCall intF (aCons (eM (mBin addM (eM (mBin addM (eM (mBin mulM (eVar 4) (eC (.int 85013)))) (eM (mBin mulM (eM (mBin mulM (eC (.int 9809)) (eVar 1))) (eVar 1))))) (eC (.int 499)))) aNil)) (eC (.int 2305843009213693921))) (aCons (eC (.int 0)) aNil)))))))))
abbrev f__law_pot  : SemF := semOf 5 2 (b__law_pot )
theorem ok__law_pot  : FnG T.g P w K mg base (k + 1) T.d__law_pot.a T.d__law_pot.fd ["script", "place"] (f__law_pot ) :=
  fn_g T.gf T.d__law_pot.F sc__law_pot fun cdv A outer s H E x hr => by
    unfold b__law_pot
    exact (ss_cons (s_set x 2 (e_if (t_lt (e_var 1) (e_len x (e_var 0))) (e_ix x (e_var 0) (e_var 1)) (e_m (m_add x (e_m (m_add x (e_mod (e_intC x (e_sum x (l_m (m_slice x (e_var 0) o_no (o_so e_int))))) e_int) (e_m (m_mul x e_int (e_var 1))))) e_int)))) (ss_cons (s_set x 3 (e_m (m_mul x (e_mod (e_intC x (e_abs x (e_var 2))) (e_pow (e_pow e_int e_int) e_int)) (e_intC x (e_ge (e_abs x (e_var 2)) (e_pow e_int e_int)))))) (ss_cons (s_set x 4 (e_mod (e_intC x (e_var 2)) e_int)) (ss_one (s_ret (e_new (n_lst (a_cons (e_var 3) (a_cons (e_mod (e_intC x (e_m (m_add x (e_m (m_add x (e_m (m_mul x (e_var 4) e_int)) (e_m (m_mul x (e_m (m_mul x e_int (e_var 1))) (e_var 1))))) e_int))) e_int) (a_cons e_int a_nil))))))))))
def b_law (c__law_cells : SemF) (c__law_right : SemF) (c__law_pot : SemF) : Sf :=
  (sRet (eCall allQ (nComp [1] (iVal (eCall c__law_cells (aCons (eVar 0) (aCons (eC (.int 1)) aNil)))) (gN 1) tfYes (eCall c__law_right (aCons (eCall c__law_pot (aCons (eVar 0) (aCons (eVar 1) aNil))) aNil)))))
abbrev f_law (c__law_cells : SemF) (c__law_right : SemF) (c__law_pot : SemF) : SemF := semOf 2 1 (b_law c__law_cells c__law_right c__law_pot)
theorem ok_law {c__law_cells : SemF} {c__law_right : SemF} {c__law_pot : SemF} (h__law_cells : FnG T.g P w K mg base k T.d__law_cells.a T.d__law_cells.fd ["script", "limit"] c__law_cells) (h__law_right : FnG T.g P w K mg base k T.d__law_right.a T.d__law_right.fd ["pot"] c__law_right) (h__law_pot : FnG T.g P w K mg base k T.d__law_pot.a T.d__law_pot.fd ["script", "place"] c__law_pot) : FnG T.g P w K mg base (k + 1) T.d_law.a T.d_law.fd ["script"] (f_law c__law_cells c__law_right c__law_pot) :=
  fn_g T.gf T.d_law.F sc_law fun cdv A outer s H E x hr => by
    unfold b_law
    exact (ss_one (s_ret (e_all x (l_new (n_comp x [("place", 1)] (i_val x (e_call x h__law_cells hr T.m__law_cells T.d__law_cells.kp T.d__law_cells.B (a_cons (e_var 0) (a_cons e_int a_nil)))) bk_law_0 (fun _ _ _ _ _ => (g_name (x.blk _ _ _ _ _) 1)) (fun _ _ _ _ _ => ts_nil) (fun _ _ _ _ _ => (e_call (x.blk _ _ _ _ _) h__law_right hr T.m__law_right T.d__law_right.kp T.d__law_right.B (a_cons (e_call (x.blk _ _ _ _ _) h__law_pot hr T.m__law_pot T.d__law_pot.kp T.d__law_pot.B (a_cons (e_var 0) (a_cons (e_var 1) a_nil))) a_nil))))))))
end
set_option maxHeartbeats 2000000 in
theorem facts {l : PySem.W.OpenLaw} {w : World} {K : PySem.W.Frag} {h : Heap} {mg : Str → Option Value} {fa : Addr} (X : K.In h) (G : h.Ns mainGlobals mg) (hfa : mg "law" = some (.ref fa))
    {f__law_cells : Addr} {od__law_cells an__law_cells : Option Addr} {sl__law_cells : Array (Option Value)} {oc__law_cells kV__law_cells dc__law_cells pm__law_cells cd__law_cells ct__law_cells : Value}
    {f__law_take : Addr} {od__law_take an__law_take : Option Addr} {sl__law_take : Array (Option Value)} {oc__law_take kV__law_take dc__law_take pm__law_take cd__law_take ct__law_take : Value}
    {f__law_of : Addr} {od__law_of an__law_of : Option Addr} {sl__law_of : Array (Option Value)} {oc__law_of kV__law_of dc__law_of pm__law_of cd__law_of ct__law_of : Value}
    {f_is_whole : Addr} {od_is_whole an_is_whole : Option Addr} {sl_is_whole : Array (Option Value)} {oc_is_whole kV_is_whole dc_is_whole pm_is_whole cd_is_whole ct_is_whole : Value}
    {f_is_integer : Addr} {od_is_integer an_is_integer : Option Addr} {sl_is_integer : Array (Option Value)} {oc_is_integer kV_is_integer dc_is_integer pm_is_integer cd_is_integer ct_is_integer : Value}
    {f_check_many : Addr} {od_check_many an_check_many : Option Addr} {sl_check_many : Array (Option Value)} {oc_check_many kV_check_many dc_check_many pm_check_many cd_check_many ct_check_many : Value}
    {f_blocks_of : Addr} {od_blocks_of an_blocks_of : Option Addr} {sl_blocks_of : Array (Option Value)} {oc_blocks_of kV_blocks_of dc_blocks_of pm_blocks_of cd_blocks_of ct_blocks_of : Value}
    {f_every_row : Addr} {od_every_row an_every_row : Option Addr} {sl_every_row : Array (Option Value)} {oc_every_row kV_every_row dc_every_row pm_every_row cd_every_row ct_every_row : Value}
    {f__law_every : Addr} {od__law_every an__law_every : Option Addr} {sl__law_every : Array (Option Value)} {oc__law_every kV__law_every dc__law_every pm__law_every cd__law_every ct__law_every : Value}
    {f_row_at : Addr} {od_row_at an_row_at : Option Addr} {sl_row_at : Array (Option Value)} {oc_row_at kV_row_at dc_row_at pm_row_at cd_row_at ct_row_at : Value}
    {f_is_tuple : Addr} {od_is_tuple an_is_tuple : Option Addr} {sl_is_tuple : Array (Option Value)} {oc_is_tuple kV_is_tuple dc_is_tuple pm_is_tuple cd_is_tuple ct_is_tuple : Value}
    {f_is_ascending : Addr} {od_is_ascending an_is_ascending : Option Addr} {sl_is_ascending : Array (Option Value)} {oc_is_ascending kV_is_ascending dc_is_ascending pm_is_ascending cd_is_ascending ct_is_ascending : Value}
    {f_is_lot : Addr} {od_is_lot an_is_lot : Option Addr} {sl_is_lot : Array (Option Value)} {oc_is_lot kV_is_lot dc_is_lot pm_is_lot cd_is_lot ct_is_lot : Value}
    {f_lies_within : Addr} {od_lies_within an_lies_within : Option Addr} {sl_lies_within : Array (Option Value)} {oc_lies_within kV_lies_within dc_lies_within pm_lies_within cd_lies_within ct_lies_within : Value}
    {f_fits_beside : Addr} {od_fits_beside an_fits_beside : Option Addr} {sl_fits_beside : Array (Option Value)} {oc_fits_beside kV_fits_beside dc_fits_beside pm_fits_beside cd_fits_beside ct_fits_beside : Value}
    {f_is_row : Addr} {od_is_row an_is_row : Option Addr} {sl_is_row : Array (Option Value)} {oc_is_row kV_is_row dc_is_row pm_is_row cd_is_row ct_is_row : Value}
    {f_is_whole_row : Addr} {od_is_whole_row an_is_whole_row : Option Addr} {sl_is_whole_row : Array (Option Value)} {oc_is_whole_row kV_is_whole_row dc_is_whole_row pm_is_whole_row cd_is_whole_row ct_is_whole_row : Value}
    {f_check_whole_row : Addr} {od_check_whole_row an_check_whole_row : Option Addr} {sl_check_whole_row : Array (Option Value)} {oc_check_whole_row kV_check_whole_row dc_check_whole_row pm_check_whole_row cd_check_whole_row ct_check_whole_row : Value}
    {f_number_of : Addr} {od_number_of an_number_of : Option Addr} {sl_number_of : Array (Option Value)} {oc_number_of kV_number_of dc_number_of pm_number_of cd_number_of ct_number_of : Value}
    {f__law_some : Addr} {od__law_some an__law_some : Option Addr} {sl__law_some : Array (Option Value)} {oc__law_some kV__law_some dc__law_some pm__law_some cd__law_some ct__law_some : Value}
    {f__law_drawn_row : Addr} {od__law_drawn_row an__law_drawn_row : Option Addr} {sl__law_drawn_row : Array (Option Value)} {oc__law_drawn_row kV__law_drawn_row dc__law_drawn_row pm__law_drawn_row cd__law_drawn_row ct__law_drawn_row : Value}
    {f__law_right : Addr} {od__law_right an__law_right : Option Addr} {sl__law_right : Array (Option Value)} {oc__law_right kV__law_right dc__law_right pm__law_right cd__law_right ct__law_right : Value}
    {f__law_pot : Addr} {od__law_pot an__law_pot : Option Addr} {sl__law_pot : Array (Option Value)} {oc__law_pot kV__law_pot dc__law_pot pm__law_pot cd__law_pot ct__law_pot : Value}
    {f_law : Addr} {od_law an_law : Option Addr} {sl_law : Array (Option Value)} {oc_law kV_law dc_law pm_law cd_law ct_law : Value}
    {t_MOST_HANDS : Tok}
    (x__law_cells : PySem.W.nsIn K mainGlobals "_law_cells" = some (some (.ref f__law_cells)))
    (l__law_cells : K.lookup f__law_cells = some ⟨oc__law_cells, od__law_cells, .func (PySem.W.fnOf "_law_cells" "_law_cells" (defArgs s__law_cells) (defBody s__law_cells) (defScope s__law_cells) .none kV__law_cells dc__law_cells pm__law_cells an__law_cells cd__law_cells ct__law_cells), sl__law_cells⟩)
    (c__law_cells : PySem.W.codeIn K cd__law_cells "_law_cells" = true)
    (k__law_cells : PySem.W.keepIn K (.ref f__law_cells) = true)
    (x__law_take : PySem.W.nsIn K mainGlobals "_law_take" = some (some (.ref f__law_take)))
    (l__law_take : K.lookup f__law_take = some ⟨oc__law_take, od__law_take, .func (PySem.W.fnOf "_law_take" "_law_take" (defArgs s__law_take) (defBody s__law_take) (defScope s__law_take) .none kV__law_take dc__law_take pm__law_take an__law_take cd__law_take ct__law_take), sl__law_take⟩)
    (c__law_take : PySem.W.codeIn K cd__law_take "_law_take" = true)
    (k__law_take : PySem.W.keepIn K (.ref f__law_take) = true)
    (x__law_of : PySem.W.nsIn K mainGlobals "_law_of" = some (some (.ref f__law_of)))
    (l__law_of : K.lookup f__law_of = some ⟨oc__law_of, od__law_of, .func (PySem.W.fnOf "_law_of" "_law_of" (defArgs s__law_of) (defBody s__law_of) (defScope s__law_of) .none kV__law_of dc__law_of pm__law_of an__law_of cd__law_of ct__law_of), sl__law_of⟩)
    (c__law_of : PySem.W.codeIn K cd__law_of "_law_of" = true)
    (k__law_of : PySem.W.keepIn K (.ref f__law_of) = true)
    (x_is_whole : PySem.W.nsIn K mainGlobals "is_whole" = some (some (.ref f_is_whole)))
    (l_is_whole : K.lookup f_is_whole = some ⟨oc_is_whole, od_is_whole, .func (PySem.W.fnOf "is_whole" "is_whole" (defArgs s_is_whole) (defBody s_is_whole) (defScope s_is_whole) .none kV_is_whole dc_is_whole pm_is_whole an_is_whole cd_is_whole ct_is_whole), sl_is_whole⟩)
    (c_is_whole : PySem.W.codeIn K cd_is_whole "is_whole" = true)
    (k_is_whole : PySem.W.keepIn K (.ref f_is_whole) = true)
    (x_is_integer : PySem.W.nsIn K mainGlobals "is_integer" = some (some (.ref f_is_integer)))
    (l_is_integer : K.lookup f_is_integer = some ⟨oc_is_integer, od_is_integer, .func (PySem.W.fnOf "is_integer" "is_integer" (defArgs s_is_integer) (defBody s_is_integer) (defScope s_is_integer) .none kV_is_integer dc_is_integer pm_is_integer an_is_integer cd_is_integer ct_is_integer), sl_is_integer⟩)
    (c_is_integer : PySem.W.codeIn K cd_is_integer "is_integer" = true)
    (k_is_integer : PySem.W.keepIn K (.ref f_is_integer) = true)
    (x_check_many : PySem.W.nsIn K mainGlobals "check_many" = some (some (.ref f_check_many)))
    (l_check_many : K.lookup f_check_many = some ⟨oc_check_many, od_check_many, .func (PySem.W.fnOf "check_many" "check_many" (defArgs s_check_many) (defBody s_check_many) (defScope s_check_many) .none kV_check_many dc_check_many pm_check_many an_check_many cd_check_many ct_check_many), sl_check_many⟩)
    (c_check_many : PySem.W.codeIn K cd_check_many "check_many" = true)
    (k_check_many : PySem.W.keepIn K (.ref f_check_many) = true)
    (x_blocks_of : PySem.W.nsIn K mainGlobals "blocks_of" = some (some (.ref f_blocks_of)))
    (l_blocks_of : K.lookup f_blocks_of = some ⟨oc_blocks_of, od_blocks_of, .func (PySem.W.fnOf "blocks_of" "blocks_of" (defArgs s_blocks_of) (defBody s_blocks_of) (defScope s_blocks_of) .none kV_blocks_of dc_blocks_of pm_blocks_of an_blocks_of cd_blocks_of ct_blocks_of), sl_blocks_of⟩)
    (c_blocks_of : PySem.W.codeIn K cd_blocks_of "blocks_of" = true)
    (k_blocks_of : PySem.W.keepIn K (.ref f_blocks_of) = true)
    (x_every_row : PySem.W.nsIn K mainGlobals "every_row" = some (some (.ref f_every_row)))
    (l_every_row : K.lookup f_every_row = some ⟨oc_every_row, od_every_row, .func (PySem.W.fnOf "every_row" "every_row" (defArgs s_every_row) (defBody s_every_row) (defScope s_every_row) .none kV_every_row dc_every_row pm_every_row an_every_row cd_every_row ct_every_row), sl_every_row⟩)
    (c_every_row : PySem.W.codeIn K cd_every_row "every_row" = true)
    (k_every_row : PySem.W.keepIn K (.ref f_every_row) = true)
    (x__law_every : PySem.W.nsIn K mainGlobals "_law_every" = some (some (.ref f__law_every)))
    (l__law_every : K.lookup f__law_every = some ⟨oc__law_every, od__law_every, .func (PySem.W.fnOf "_law_every" "_law_every" (defArgs s__law_every) (defBody s__law_every) (defScope s__law_every) .none kV__law_every dc__law_every pm__law_every an__law_every cd__law_every ct__law_every), sl__law_every⟩)
    (c__law_every : PySem.W.codeIn K cd__law_every "_law_every" = true)
    (k__law_every : PySem.W.keepIn K (.ref f__law_every) = true)
    (x_row_at : PySem.W.nsIn K mainGlobals "row_at" = some (some (.ref f_row_at)))
    (l_row_at : K.lookup f_row_at = some ⟨oc_row_at, od_row_at, .func (PySem.W.fnOf "row_at" "row_at" (defArgs s_row_at) (defBody s_row_at) (defScope s_row_at) .none kV_row_at dc_row_at pm_row_at an_row_at cd_row_at ct_row_at), sl_row_at⟩)
    (c_row_at : PySem.W.codeIn K cd_row_at "row_at" = true)
    (k_row_at : PySem.W.keepIn K (.ref f_row_at) = true)
    (x_is_tuple : PySem.W.nsIn K mainGlobals "is_tuple" = some (some (.ref f_is_tuple)))
    (l_is_tuple : K.lookup f_is_tuple = some ⟨oc_is_tuple, od_is_tuple, .func (PySem.W.fnOf "is_tuple" "is_tuple" (defArgs s_is_tuple) (defBody s_is_tuple) (defScope s_is_tuple) .none kV_is_tuple dc_is_tuple pm_is_tuple an_is_tuple cd_is_tuple ct_is_tuple), sl_is_tuple⟩)
    (c_is_tuple : PySem.W.codeIn K cd_is_tuple "is_tuple" = true)
    (k_is_tuple : PySem.W.keepIn K (.ref f_is_tuple) = true)
    (x_is_ascending : PySem.W.nsIn K mainGlobals "is_ascending" = some (some (.ref f_is_ascending)))
    (l_is_ascending : K.lookup f_is_ascending = some ⟨oc_is_ascending, od_is_ascending, .func (PySem.W.fnOf "is_ascending" "is_ascending" (defArgs s_is_ascending) (defBody s_is_ascending) (defScope s_is_ascending) .none kV_is_ascending dc_is_ascending pm_is_ascending an_is_ascending cd_is_ascending ct_is_ascending), sl_is_ascending⟩)
    (c_is_ascending : PySem.W.codeIn K cd_is_ascending "is_ascending" = true)
    (k_is_ascending : PySem.W.keepIn K (.ref f_is_ascending) = true)
    (x_is_lot : PySem.W.nsIn K mainGlobals "is_lot" = some (some (.ref f_is_lot)))
    (l_is_lot : K.lookup f_is_lot = some ⟨oc_is_lot, od_is_lot, .func (PySem.W.fnOf "is_lot" "is_lot" (defArgs s_is_lot) (defBody s_is_lot) (defScope s_is_lot) .none kV_is_lot dc_is_lot pm_is_lot an_is_lot cd_is_lot ct_is_lot), sl_is_lot⟩)
    (c_is_lot : PySem.W.codeIn K cd_is_lot "is_lot" = true)
    (k_is_lot : PySem.W.keepIn K (.ref f_is_lot) = true)
    (x_lies_within : PySem.W.nsIn K mainGlobals "lies_within" = some (some (.ref f_lies_within)))
    (l_lies_within : K.lookup f_lies_within = some ⟨oc_lies_within, od_lies_within, .func (PySem.W.fnOf "lies_within" "lies_within" (defArgs s_lies_within) (defBody s_lies_within) (defScope s_lies_within) .none kV_lies_within dc_lies_within pm_lies_within an_lies_within cd_lies_within ct_lies_within), sl_lies_within⟩)
    (c_lies_within : PySem.W.codeIn K cd_lies_within "lies_within" = true)
    (k_lies_within : PySem.W.keepIn K (.ref f_lies_within) = true)
    (x_fits_beside : PySem.W.nsIn K mainGlobals "fits_beside" = some (some (.ref f_fits_beside)))
    (l_fits_beside : K.lookup f_fits_beside = some ⟨oc_fits_beside, od_fits_beside, .func (PySem.W.fnOf "fits_beside" "fits_beside" (defArgs s_fits_beside) (defBody s_fits_beside) (defScope s_fits_beside) .none kV_fits_beside dc_fits_beside pm_fits_beside an_fits_beside cd_fits_beside ct_fits_beside), sl_fits_beside⟩)
    (c_fits_beside : PySem.W.codeIn K cd_fits_beside "fits_beside" = true)
    (k_fits_beside : PySem.W.keepIn K (.ref f_fits_beside) = true)
    (x_is_row : PySem.W.nsIn K mainGlobals "is_row" = some (some (.ref f_is_row)))
    (l_is_row : K.lookup f_is_row = some ⟨oc_is_row, od_is_row, .func (PySem.W.fnOf "is_row" "is_row" (defArgs s_is_row) (defBody s_is_row) (defScope s_is_row) .none kV_is_row dc_is_row pm_is_row an_is_row cd_is_row ct_is_row), sl_is_row⟩)
    (c_is_row : PySem.W.codeIn K cd_is_row "is_row" = true)
    (k_is_row : PySem.W.keepIn K (.ref f_is_row) = true)
    (x_is_whole_row : PySem.W.nsIn K mainGlobals "is_whole_row" = some (some (.ref f_is_whole_row)))
    (l_is_whole_row : K.lookup f_is_whole_row = some ⟨oc_is_whole_row, od_is_whole_row, .func (PySem.W.fnOf "is_whole_row" "is_whole_row" (defArgs s_is_whole_row) (defBody s_is_whole_row) (defScope s_is_whole_row) .none kV_is_whole_row dc_is_whole_row pm_is_whole_row an_is_whole_row cd_is_whole_row ct_is_whole_row), sl_is_whole_row⟩)
    (c_is_whole_row : PySem.W.codeIn K cd_is_whole_row "is_whole_row" = true)
    (k_is_whole_row : PySem.W.keepIn K (.ref f_is_whole_row) = true)
    (x_check_whole_row : PySem.W.nsIn K mainGlobals "check_whole_row" = some (some (.ref f_check_whole_row)))
    (l_check_whole_row : K.lookup f_check_whole_row = some ⟨oc_check_whole_row, od_check_whole_row, .func (PySem.W.fnOf "check_whole_row" "check_whole_row" (defArgs s_check_whole_row) (defBody s_check_whole_row) (defScope s_check_whole_row) .none kV_check_whole_row dc_check_whole_row pm_check_whole_row an_check_whole_row cd_check_whole_row ct_check_whole_row), sl_check_whole_row⟩)
    (c_check_whole_row : PySem.W.codeIn K cd_check_whole_row "check_whole_row" = true)
    (k_check_whole_row : PySem.W.keepIn K (.ref f_check_whole_row) = true)
    (x_number_of : PySem.W.nsIn K mainGlobals "number_of" = some (some (.ref f_number_of)))
    (l_number_of : K.lookup f_number_of = some ⟨oc_number_of, od_number_of, .func (PySem.W.fnOf "number_of" "number_of" (defArgs s_number_of) (defBody s_number_of) (defScope s_number_of) .none kV_number_of dc_number_of pm_number_of an_number_of cd_number_of ct_number_of), sl_number_of⟩)
    (c_number_of : PySem.W.codeIn K cd_number_of "number_of" = true)
    (k_number_of : PySem.W.keepIn K (.ref f_number_of) = true)
    (x__law_some : PySem.W.nsIn K mainGlobals "_law_some" = some (some (.ref f__law_some)))
    (l__law_some : K.lookup f__law_some = some ⟨oc__law_some, od__law_some, .func (PySem.W.fnOf "_law_some" "_law_some" (defArgs s__law_some) (defBody s__law_some) (defScope s__law_some) .none kV__law_some dc__law_some pm__law_some an__law_some cd__law_some ct__law_some), sl__law_some⟩)
    (c__law_some : PySem.W.codeIn K cd__law_some "_law_some" = true)
    (k__law_some : PySem.W.keepIn K (.ref f__law_some) = true)
    (x__law_drawn_row : PySem.W.nsIn K mainGlobals "_law_drawn_row" = some (some (.ref f__law_drawn_row)))
    (l__law_drawn_row : K.lookup f__law_drawn_row = some ⟨oc__law_drawn_row, od__law_drawn_row, .func (PySem.W.fnOf "_law_drawn_row" "_law_drawn_row" (defArgs s__law_drawn_row) (defBody s__law_drawn_row) (defScope s__law_drawn_row) .none kV__law_drawn_row dc__law_drawn_row pm__law_drawn_row an__law_drawn_row cd__law_drawn_row ct__law_drawn_row), sl__law_drawn_row⟩)
    (c__law_drawn_row : PySem.W.codeIn K cd__law_drawn_row "_law_drawn_row" = true)
    (k__law_drawn_row : PySem.W.keepIn K (.ref f__law_drawn_row) = true)
    (x__law_right : PySem.W.nsIn K mainGlobals "_law_right" = some (some (.ref f__law_right)))
    (l__law_right : K.lookup f__law_right = some ⟨oc__law_right, od__law_right, .func (PySem.W.fnOf "_law_right" "_law_right" (defArgs s__law_right) (defBody s__law_right) (defScope s__law_right) .none kV__law_right dc__law_right pm__law_right an__law_right cd__law_right ct__law_right), sl__law_right⟩)
    (c__law_right : PySem.W.codeIn K cd__law_right "_law_right" = true)
    (k__law_right : PySem.W.keepIn K (.ref f__law_right) = true)
    (x__law_pot : PySem.W.nsIn K mainGlobals "_law_pot" = some (some (.ref f__law_pot)))
    (l__law_pot : K.lookup f__law_pot = some ⟨oc__law_pot, od__law_pot, .func (PySem.W.fnOf "_law_pot" "_law_pot" (defArgs s__law_pot) (defBody s__law_pot) (defScope s__law_pot) .none kV__law_pot dc__law_pot pm__law_pot an__law_pot cd__law_pot ct__law_pot), sl__law_pot⟩)
    (c__law_pot : PySem.W.codeIn K cd__law_pot "_law_pot" = true)
    (k__law_pot : PySem.W.keepIn K (.ref f__law_pot) = true)
    (x_law : PySem.W.nsIn K mainGlobals "law" = some (some (.ref f_law)))
    (l_law : K.lookup f_law = some ⟨oc_law, od_law, .func (PySem.W.fnOf "law" "law" (defArgs s_law) (defBody s_law) (defScope s_law) .none kV_law dc_law pm_law an_law cd_law ct_law), sl_law⟩)
    (c_law : PySem.W.codeIn K cd_law "law" = true)
    (k_law : PySem.W.keepIn K (.ref f_law) = true)
    (g_MOST_HANDS : PySem.W.nsIn K mainGlobals "MOST_HANDS" = some (some (.int 5 t_MOST_HANDS)))
    (z_len : PySem.W.nsIn K mainGlobals "len" = some none)
    (z_tuple : PySem.W.nsIn K mainGlobals "tuple" = some none)
    (z_list : PySem.W.nsIn K mainGlobals "list" = some none)
    (z_range : PySem.W.nsIn K mainGlobals "range" = some none)
    (z_max : PySem.W.nsIn K mainGlobals "max" = some none)
    (z_min : PySem.W.nsIn K mainGlobals "min" = some none)
    (z_sum : PySem.W.nsIn K mainGlobals "sum" = some none)
    (z_all : PySem.W.nsIn K mainGlobals "all" = some none)
    (z_any : PySem.W.nsIn K mainGlobals "any" = some none)
    (z_sorted : PySem.W.nsIn K mainGlobals "sorted" = some none)
    (z_abs : PySem.W.nsIn K mainGlobals "abs" = some none)
    (z_int : PySem.W.nsIn K mainGlobals "int" = some none)
    (z_repr : PySem.W.nsIn K mainGlobals "repr" = some none)
    (z_enumerate : PySem.W.nsIn K mainGlobals "enumerate" = some none)
    (z_zip : PySem.W.nsIn K mainGlobals "zip" = some none)
    (z_isinstance : PySem.W.nsIn K mainGlobals "isinstance" = some none)
    (z_set : PySem.W.nsIn K mainGlobals "set" = some none)
    (z_str : PySem.W.nsIn K mainGlobals "str" = some none)
    (z_dict : PySem.W.nsIn K mainGlobals "dict" = some none)
    (z_bool : PySem.W.nsIn K mainGlobals "bool" = some none)
    (z_reversed : PySem.W.nsIn K mainGlobals "reversed" = some none)
    (z_type : PySem.W.nsIn K mainGlobals "type" = some none)
    : ∃ T : Txt K mg, T.d_law.a = fa ∧ ∀ (s : Shared) (v : Value), BindsTo s T.d_law.fd ⟨[v], []⟩ [("script", v)] := by
  have e := hfa.symm.trans (PySem.W.mg_of X G x_law)
  cases e
  have F__law_cells := fun_mk (st := s__law_cells) l__law_cells c__law_cells k__law_cells
  have B__law_cells := F__law_cells.binds (ps := ["script", "limit"]) fun _ _ _ _ _ _ us hl => match us, hl with | [_, _], _ => rfl
  have F__law_take := fun_mk (st := s__law_take) l__law_take c__law_take k__law_take
  have B__law_take := F__law_take.binds (ps := ["pot", "upto"]) fun _ _ _ _ _ _ us hl => match us, hl with | [_, _], _ => rfl
  have F__law_of := fun_mk (st := s__law_of) l__law_of c__law_of k__law_of
  have B__law_of := F__law_of.binds (ps := ["pot", "some"]) fun _ _ _ _ _ _ us hl => match us, hl with | [_, _], _ => rfl
  have F_is_whole := fun_mk (st := s_is_whole) l_is_whole c_is_whole k_is_whole
  have B_is_whole := F_is_whole.binds (ps := ["value"]) fun _ _ _ _ _ _ us hl => match us, hl with | [_], _ => rfl
  have F_is_integer := fun_mk (st := s_is_integer) l_is_integer c_is_integer k_is_integer
  have B_is_integer := F_is_integer.binds (ps := ["value", "low", "high"]) fun _ _ _ _ _ _ us hl => match us, hl with | [_, _, _], _ => rfl
  have F_check_many := fun_mk (st := s_check_many) l_check_many c_check_many k_check_many
  have B_check_many := F_check_many.binds (ps := ["value"]) fun _ _ _ _ _ _ us hl => match us, hl with | [_], _ => rfl
  have F_blocks_of := fun_mk (st := s_blocks_of) l_blocks_of c_blocks_of k_blocks_of
  have B_blocks_of := F_blocks_of.binds (ps := ["rest"]) fun _ _ _ _ _ _ us hl => match us, hl with | [_], _ => rfl
  have F_every_row := fun_mk (st := s_every_row) l_every_row c_every_row k_every_row
  have B_every_row := F_every_row.binds (ps := ["many"]) fun _ _ _ _ _ _ us hl => match us, hl with | [_], _ => rfl
  have F__law_every := fun_mk (st := s__law_every) l__law_every c__law_every k__law_every
  have B__law_every := F__law_every.binds (ps := ["many"]) fun _ _ _ _ _ _ us hl => match us, hl with | [_], _ => rfl
  have F_row_at := fun_mk (st := s_row_at) l_row_at c_row_at k_row_at
  have B_row_at := F_row_at.binds (ps := ["many", "number"]) fun _ _ _ _ _ _ us hl => match us, hl with | [_, _], _ => rfl
  have F_is_tuple := fun_mk (st := s_is_tuple) l_is_tuple c_is_tuple k_is_tuple
  have B_is_tuple := F_is_tuple.binds (ps := ["value", "least", "most"]) fun _ _ _ _ _ _ us hl => match us, hl with | [_, _, _], _ => rfl
  have F_is_ascending := fun_mk (st := s_is_ascending) l_is_ascending c_is_ascending k_is_ascending
  have B_is_ascending := F_is_ascending.binds (ps := ["some"]) fun _ _ _ _ _ _ us hl => match us, hl with | [_], _ => rfl
  have F_is_lot := fun_mk (st := s_is_lot) l_is_lot c_is_lot k_is_lot
  have B_is_lot := F_is_lot.binds (ps := ["value", "upto"]) fun _ _ _ _ _ _ us hl => match us, hl with | [_, _], _ => rfl
  have F_lies_within := fun_mk (st := s_lies_within) l_lies_within c_lies_within k_lies_within
  have B_lies_within := F_lies_within.binds (ps := ["one", "other"]) fun _ _ _ _ _ _ us hl => match us, hl with | [_, _], _ => rfl
  have F_fits_beside := fun_mk (st := s_fits_beside) l_fits_beside c_fits_beside k_fits_beside
  have B_fits_beside := F_fits_beside.binds (ps := ["row", "hand", "other"]) fun _ _ _ _ _ _ us hl => match us, hl with | [_, _, _], _ => rfl
  have F_is_row := fun_mk (st := s_is_row) l_is_row c_is_row k_is_row
  have B_is_row := F_is_row.binds (ps := ["many", "value"]) fun _ _ _ _ _ _ us hl => match us, hl with | [_, _], _ => rfl
  have F_is_whole_row := fun_mk (st := s_is_whole_row) l_is_whole_row c_is_whole_row k_is_whole_row
  have B_is_whole_row := F_is_whole_row.binds (ps := ["many", "value"]) fun _ _ _ _ _ _ us hl => match us, hl with | [_, _], _ => rfl
  have F_check_whole_row := fun_mk (st := s_check_whole_row) l_check_whole_row c_check_whole_row k_check_whole_row
  have B_check_whole_row := F_check_whole_row.binds (ps := ["many", "value"]) fun _ _ _ _ _ _ us hl => match us, hl with | [_, _], _ => rfl
  have F_number_of := fun_mk (st := s_number_of) l_number_of c_number_of k_number_of
  have B_number_of := F_number_of.binds (ps := ["many", "row"]) fun _ _ _ _ _ _ us hl => match us, hl with | [_, _], _ => rfl
  have F__law_some := fun_mk (st := s__law_some) l__law_some c__law_some k__law_some
  have B__law_some := F__law_some.binds (ps := ["pot", "pool", "many"]) fun _ _ _ _ _ _ us hl => match us, hl with | [_, _, _], _ => rfl
  have F__law_drawn_row := fun_mk (st := s__law_drawn_row) l__law_drawn_row c__law_drawn_row k__law_drawn_row
  have B__law_drawn_row := F__law_drawn_row.binds (ps := ["pot", "many", "is_whole_v"]) fun _ _ _ _ _ _ us hl => match us, hl with | [_, _, _], _ => rfl
  have F__law_right := fun_mk (st := s__law_right) l__law_right c__law_right k__law_right
  have B__law_right := F__law_right.binds (ps := ["pot"]) fun _ _ _ _ _ _ us hl => match us, hl with | [_], _ => rfl
  have F__law_pot := fun_mk (st := s__law_pot) l__law_pot c__law_pot k__law_pot
  have B__law_pot := F__law_pot.binds (ps := ["script", "place"]) fun _ _ _ _ _ _ us hl => match us, hl with | [_, _], _ => rfl
  have F_law := fun_mk (st := s_law) l_law c_law k_law
  have B_law := F_law.binds (ps := ["script"]) fun _ _ _ _ _ _ us hl => match us, hl with | [_], _ => rfl
  refine ⟨{
    d__law_cells := ⟨f__law_cells, PySem.W.fnOf "_law_cells" "_law_cells" (defArgs s__law_cells) (defBody s__law_cells) (defScope s__law_cells) .none kV__law_cells dc__law_cells pm__law_cells an__law_cells cd__law_cells ct__law_cells, F__law_cells, B__law_cells, k__law_cells⟩,
    m__law_cells := PySem.W.mg_of X G x__law_cells,
    d__law_take := ⟨f__law_take, PySem.W.fnOf "_law_take" "_law_take" (defArgs s__law_take) (defBody s__law_take) (defScope s__law_take) .none kV__law_take dc__law_take pm__law_take an__law_take cd__law_take ct__law_take, F__law_take, B__law_take, k__law_take⟩,
    m__law_take := PySem.W.mg_of X G x__law_take,
    d__law_of := ⟨f__law_of, PySem.W.fnOf "_law_of" "_law_of" (defArgs s__law_of) (defBody s__law_of) (defScope s__law_of) .none kV__law_of dc__law_of pm__law_of an__law_of cd__law_of ct__law_of, F__law_of, B__law_of, k__law_of⟩,
    m__law_of := PySem.W.mg_of X G x__law_of,
    d_is_whole := ⟨f_is_whole, PySem.W.fnOf "is_whole" "is_whole" (defArgs s_is_whole) (defBody s_is_whole) (defScope s_is_whole) .none kV_is_whole dc_is_whole pm_is_whole an_is_whole cd_is_whole ct_is_whole, F_is_whole, B_is_whole, k_is_whole⟩,
    m_is_whole := PySem.W.mg_of X G x_is_whole,
    d_is_integer := ⟨f_is_integer, PySem.W.fnOf "is_integer" "is_integer" (defArgs s_is_integer) (defBody s_is_integer) (defScope s_is_integer) .none kV_is_integer dc_is_integer pm_is_integer an_is_integer cd_is_integer ct_is_integer, F_is_integer, B_is_integer, k_is_integer⟩,
    m_is_integer := PySem.W.mg_of X G x_is_integer,
    d_check_many := ⟨f_check_many, PySem.W.fnOf "check_many" "check_many" (defArgs s_check_many) (defBody s_check_many) (defScope s_check_many) .none kV_check_many dc_check_many pm_check_many an_check_many cd_check_many ct_check_many, F_check_many, B_check_many, k_check_many⟩,
    m_check_many := PySem.W.mg_of X G x_check_many,
    d_blocks_of := ⟨f_blocks_of, PySem.W.fnOf "blocks_of" "blocks_of" (defArgs s_blocks_of) (defBody s_blocks_of) (defScope s_blocks_of) .none kV_blocks_of dc_blocks_of pm_blocks_of an_blocks_of cd_blocks_of ct_blocks_of, F_blocks_of, B_blocks_of, k_blocks_of⟩,
    m_blocks_of := PySem.W.mg_of X G x_blocks_of,
    d_every_row := ⟨f_every_row, PySem.W.fnOf "every_row" "every_row" (defArgs s_every_row) (defBody s_every_row) (defScope s_every_row) .none kV_every_row dc_every_row pm_every_row an_every_row cd_every_row ct_every_row, F_every_row, B_every_row, k_every_row⟩,
    m_every_row := PySem.W.mg_of X G x_every_row,
    d__law_every := ⟨f__law_every, PySem.W.fnOf "_law_every" "_law_every" (defArgs s__law_every) (defBody s__law_every) (defScope s__law_every) .none kV__law_every dc__law_every pm__law_every an__law_every cd__law_every ct__law_every, F__law_every, B__law_every, k__law_every⟩,
    m__law_every := PySem.W.mg_of X G x__law_every,
    d_row_at := ⟨f_row_at, PySem.W.fnOf "row_at" "row_at" (defArgs s_row_at) (defBody s_row_at) (defScope s_row_at) .none kV_row_at dc_row_at pm_row_at an_row_at cd_row_at ct_row_at, F_row_at, B_row_at, k_row_at⟩,
    m_row_at := PySem.W.mg_of X G x_row_at,
    d_is_tuple := ⟨f_is_tuple, PySem.W.fnOf "is_tuple" "is_tuple" (defArgs s_is_tuple) (defBody s_is_tuple) (defScope s_is_tuple) .none kV_is_tuple dc_is_tuple pm_is_tuple an_is_tuple cd_is_tuple ct_is_tuple, F_is_tuple, B_is_tuple, k_is_tuple⟩,
    m_is_tuple := PySem.W.mg_of X G x_is_tuple,
    d_is_ascending := ⟨f_is_ascending, PySem.W.fnOf "is_ascending" "is_ascending" (defArgs s_is_ascending) (defBody s_is_ascending) (defScope s_is_ascending) .none kV_is_ascending dc_is_ascending pm_is_ascending an_is_ascending cd_is_ascending ct_is_ascending, F_is_ascending, B_is_ascending, k_is_ascending⟩,
    m_is_ascending := PySem.W.mg_of X G x_is_ascending,
    d_is_lot := ⟨f_is_lot, PySem.W.fnOf "is_lot" "is_lot" (defArgs s_is_lot) (defBody s_is_lot) (defScope s_is_lot) .none kV_is_lot dc_is_lot pm_is_lot an_is_lot cd_is_lot ct_is_lot, F_is_lot, B_is_lot, k_is_lot⟩,
    m_is_lot := PySem.W.mg_of X G x_is_lot,
    d_lies_within := ⟨f_lies_within, PySem.W.fnOf "lies_within" "lies_within" (defArgs s_lies_within) (defBody s_lies_within) (defScope s_lies_within) .none kV_lies_within dc_lies_within pm_lies_within an_lies_within cd_lies_within ct_lies_within, F_lies_within, B_lies_within, k_lies_within⟩,
    m_lies_within := PySem.W.mg_of X G x_lies_within,
    d_fits_beside := ⟨f_fits_beside, PySem.W.fnOf "fits_beside" "fits_beside" (defArgs s_fits_beside) (defBody s_fits_beside) (defScope s_fits_beside) .none kV_fits_beside dc_fits_beside pm_fits_beside an_fits_beside cd_fits_beside ct_fits_beside, F_fits_beside, B_fits_beside, k_fits_beside⟩,
    m_fits_beside := PySem.W.mg_of X G x_fits_beside,
    d_is_row := ⟨f_is_row, PySem.W.fnOf "is_row" "is_row" (defArgs s_is_row) (defBody s_is_row) (defScope s_is_row) .none kV_is_row dc_is_row pm_is_row an_is_row cd_is_row ct_is_row, F_is_row, B_is_row, k_is_row⟩,
    m_is_row := PySem.W.mg_of X G x_is_row,
    d_is_whole_row := ⟨f_is_whole_row, PySem.W.fnOf "is_whole_row" "is_whole_row" (defArgs s_is_whole_row) (defBody s_is_whole_row) (defScope s_is_whole_row) .none kV_is_whole_row dc_is_whole_row pm_is_whole_row an_is_whole_row cd_is_whole_row ct_is_whole_row, F_is_whole_row, B_is_whole_row, k_is_whole_row⟩,
    m_is_whole_row := PySem.W.mg_of X G x_is_whole_row,
    d_check_whole_row := ⟨f_check_whole_row, PySem.W.fnOf "check_whole_row" "check_whole_row" (defArgs s_check_whole_row) (defBody s_check_whole_row) (defScope s_check_whole_row) .none kV_check_whole_row dc_check_whole_row pm_check_whole_row an_check_whole_row cd_check_whole_row ct_check_whole_row, F_check_whole_row, B_check_whole_row, k_check_whole_row⟩,
    m_check_whole_row := PySem.W.mg_of X G x_check_whole_row,
    d_number_of := ⟨f_number_of, PySem.W.fnOf "number_of" "number_of" (defArgs s_number_of) (defBody s_number_of) (defScope s_number_of) .none kV_number_of dc_number_of pm_number_of an_number_of cd_number_of ct_number_of, F_number_of, B_number_of, k_number_of⟩,
    m_number_of := PySem.W.mg_of X G x_number_of,
    d__law_some := ⟨f__law_some, PySem.W.fnOf "_law_some" "_law_some" (defArgs s__law_some) (defBody s__law_some) (defScope s__law_some) .none kV__law_some dc__law_some pm__law_some an__law_some cd__law_some ct__law_some, F__law_some, B__law_some, k__law_some⟩,
    m__law_some := PySem.W.mg_of X G x__law_some,
    d__law_drawn_row := ⟨f__law_drawn_row, PySem.W.fnOf "_law_drawn_row" "_law_drawn_row" (defArgs s__law_drawn_row) (defBody s__law_drawn_row) (defScope s__law_drawn_row) .none kV__law_drawn_row dc__law_drawn_row pm__law_drawn_row an__law_drawn_row cd__law_drawn_row ct__law_drawn_row, F__law_drawn_row, B__law_drawn_row, k__law_drawn_row⟩,
    m__law_drawn_row := PySem.W.mg_of X G x__law_drawn_row,
    d__law_right := ⟨f__law_right, PySem.W.fnOf "_law_right" "_law_right" (defArgs s__law_right) (defBody s__law_right) (defScope s__law_right) .none kV__law_right dc__law_right pm__law_right an__law_right cd__law_right ct__law_right, F__law_right, B__law_right, k__law_right⟩,
    m__law_right := PySem.W.mg_of X G x__law_right,
    d__law_pot := ⟨f__law_pot, PySem.W.fnOf "_law_pot" "_law_pot" (defArgs s__law_pot) (defBody s__law_pot) (defScope s__law_pot) .none kV__law_pot dc__law_pot pm__law_pot an__law_pot cd__law_pot ct__law_pot, F__law_pot, B__law_pot, k__law_pot⟩,
    m__law_pot := PySem.W.mg_of X G x__law_pot,
    d_law := ⟨fa, PySem.W.fnOf "law" "law" (defArgs s_law) (defBody s_law) (defScope s_law) .none kV_law dc_law pm_law an_law cd_law ct_law, F_law, B_law, k_law⟩,
    m_law := PySem.W.mg_of X G x_law,
    t_MOST_HANDS := t_MOST_HANDS,
    gl_MOST_HANDS := PySem.W.mg_of X G g_MOST_HANDS,
    kb_number_of_0_row_many := ⟨fun s us ws _ hu hw => match us, ws, hu, hw with | [], [_, _], _, _ => .of_eq rfl⟩,
    kb_row_at_0_number_many := ⟨fun s us ws _ hu hw => match us, ws, hu, hw with | [], [_, _], _, _ => .of_eq rfl⟩,
    bl := by
      intro x hx
      simp only [blts, List.mem_cons, List.not_mem_nil, or_false] at hx
      rcases hx with rfl | rfl | rfl | rfl | rfl | rfl | rfl | rfl | rfl | rfl | rfl | rfl | rfl | rfl | rfl | rfl | rfl | rfl | rfl | rfl | rfl | rfl
      · exact PySem.W.mg_none_of X G z_len
      · exact PySem.W.mg_none_of X G z_tuple
      · exact PySem.W.mg_none_of X G z_list
      · exact PySem.W.mg_none_of X G z_range
      · exact PySem.W.mg_none_of X G z_max
      · exact PySem.W.mg_none_of X G z_min
      · exact PySem.W.mg_none_of X G z_sum
      · exact PySem.W.mg_none_of X G z_all
      · exact PySem.W.mg_none_of X G z_any
      · exact PySem.W.mg_none_of X G z_sorted
      · exact PySem.W.mg_none_of X G z_abs
      · exact PySem.W.mg_none_of X G z_int
      · exact PySem.W.mg_none_of X G z_repr
      · exact PySem.W.mg_none_of X G z_enumerate
      · exact PySem.W.mg_none_of X G z_zip
      · exact PySem.W.mg_none_of X G z_isinstance
      · exact PySem.W.mg_none_of X G z_set
      · exact PySem.W.mg_none_of X G z_str
      · exact PySem.W.mg_none_of X G z_dict
      · exact PySem.W.mg_none_of X G z_bool
      · exact PySem.W.mg_none_of X G z_reversed
      · exact PySem.W.mg_none_of X G z_type }, rfl, fun s v => .of_eq rfl⟩
end K29

/-! Ev50: a def whose answer is such a tuple, seen in the empty store. -/
namespace Ev
open PySem L2
open PyProof.Rows hiding St
section
variable {g : Gh} {K : PySem.W.Frag} {P : Program} {w : World} {mg : Str → Option Value} {base : Heap} {k : Nat} {f : Addr} {fd : FuncData} {ps : List Str} {sem sem' : SemF}
theorem FnZ.part (F : FnZ g P w K mg base k f fd ps sem)
    (h : ∀ ds st v st', sem' ds st = .ok v st' → ∃ sub θ ds0 v0 sub', sem ds0 sub = .ok v0 sub' ∧ ds = D.rens θ ds0 ∧ D.unders sub.length ds0 = true ∧ Part st st' sub sub' v0 v θ) (hl : ∀ ds st v st', sem' ds st = .ok v st' → ds.length = ps.length) : FnZ g P w K mg base k f fd ps sem' :=
  ⟨hl, fun A outer s H args us vs Q hr hg e0 hb r ⟨ρ, st, ds, v, st', Rl, rd, e, q⟩ => by
    obtain ⟨sub, θ, ds0, v0, sub', e2, rfl, u, W⟩ := h ds st v st' e
    refine F.run A outer s H args us vs Q hr hg e0 hb r ⟨ρ ∘ θ, sub, ds0, v0, sub', W.rel Rl, VRs.back u rd, e2, fun ρ' H' y P' r' z => q ρ H' y (W.post Rl P') ?_ z⟩
    have ev := W.val
    subst ev
    refine r'.fwd (fun i hi => ?_) W.und
    obtain ⟨o, eo⟩ := get_of_lt hi
    exact ⟨P'.old i hi, by rw [W.len]; exact lt_of_get (W.get i o eo).1⟩⟩
theorem FnZ.frame0 (F : FnZ g P w K mg base k f fd ps sem) : FnZ g P w K mg base k f fd ps (frame0 sem) := by
  have key : ∀ ds st v st', Ev.frame0 sem ds st = .ok v st' → D.flats ds = true ∧ v.flat = true ∧ st' = st ∧ ∃ s2, sem ds [] = .ok v s2 := fun ds st v st' h => by
    unfold Ev.frame0 at h
    split at h
    · rename_i hd
      split at h
      · rename_i v0 s2 e
        split at h
        · rename_i hv
          cases h
          exact ⟨hd, hv, rfl, s2, e⟩
        · cases h
      · cases h
    · cases h
  refine F.part (fun ds st v st' h => ?_) fun ds st v st' h => ?_
  · obtain ⟨hd, hv, rfl, s2, e⟩ := key _ _ _ _ h
    exact ⟨[], id, ds, v, s2, e, (D.flats_ren hd).symm, D.flats_under hd, ⟨fun i j hi => absurd hi (Nat.not_lt_zero _), fun i o e => by simp at e, fun i o hi => absurd hi (Nat.not_lt_zero _), fun l _ => rfl, rfl, (D.flat_ren hv).symm, D.flat_under hv⟩⟩
  · obtain ⟨hd, hv, rfl, s2, e⟩ := key _ _ _ _ h
    exact F.len _ _ _ _ e
end
end Ev

namespace K29
open PySem L2 Ev
open PyProof.Rows hiding St
/-! ### small things -/
/-- a comprehension that picks, changing nothing -/
theorem compF_pick {ws : Wt} {gf : Gf} {tf : Tf} {ef : Ef} {env : EEnv} {st : Store} (hw : wOk st ws = true) (g : D → Option D) : ∀ (items : List D), (∀ d ∈ items, ∃ e b, gf d env st = .ok e st ∧ tf e st = .ok b st ∧ (b = true → ∃ v, ef e st = .ok v st ∧ g d = some v) ∧ (b = false → g d = none)) →
    compF ws gf tf ef env items st = .ok (items.filterMap g) st
  | [], _ => by simp [hw]
  | d :: ds, h => by
    obtain ⟨e, b, h1, h2, h3, h4⟩ := h d (List.mem_cons_self ..)
    have ih := compF_pick hw g ds fun d' m => h d' (List.mem_cons_of_mem _ m)
    cases b with
    | true =>
      obtain ⟨v, h5, h6⟩ := h3 rfl
      simp [hw, h1, h2, h5, ih, List.filterMap_cons, h6]
    | false => simp [hw, h1, h2, ih, List.filterMap_cons, h4 rfl]
theorem for_ok {fi : If} {gf : Gf} {bf : Sf} {env : EEnv} {s0 s1 : Store} {ws : Wt} {items : List D} {r : RS} (h : fi env s0 = .ok ⟨items, ws⟩ s1) (hl : loopF ws gf bf items env s1 = r) : sFor fi gf bf env s0 = r := by
  unfold sFor
  rw [h]
  exact hl
theorem then_nx {f h : Sf} {e e1 : EEnv} {s s1 : Store} {r : RS} (h1 : f e s = .nx e1 s1) (h2 : h e1 s1 = r) : sSeq f h e s = r := by
  unfold sSeq
  rw [h1]
  exact h2
theorem cut_1 {A : Type} (xs : List A) : Ev.cutD xs (some 1) none = xs.tail := by
  cases xs with
  | nil => rfl
  | cons a r =>
    show ((a :: r).drop 1).take _ = r
    simp [HT.sIx]
/-! ### blocks_of -/
def blG (h : D) (F : List (List D)) : List (List D) := F ++ F.map (· ++ [h])
def blM : List D → List (List D) → List (List D)
  | [], F => F
  | h :: r, F => blM r (blG h F)
abbrev bkB : Sf := (sExpr (eExt (eVar 1) (nComp [3] (iVal (eVar 1)) (gN 3) tfYes (eTup (aStar (qOf (eVar 3)) (aCons (eVar 2) aNil))))))
section
variable {st : Store} {l : Nat}
theorem bk_comp {F : List (List D)} {h : D} {z3 : Option D} (hF : F.length ≤ 1000) (hF2 : ∀ b ∈ F, b.length ≤ 1000) : nComp [3] (iVal (eVar 1)) (gN 3) tfYes (eTup (aStar (qOf (eVar 3)) (aCons (eVar 2) aNil))) [some (.loc l), some (.loc st.length), some h, z3] (st ++ [.lst (F.map D.tup)])
    = .ok ((F.map (· ++ [h])).map D.tup) (st ++ [.lst (F.map D.tup)]) := by
  have hi : iVal (eVar 1) [some (.loc l), some (.loc st.length), some h, z3] (st ++ [.lst (F.map D.tup)]) = .ok ⟨F.map D.tup, [(st.length, F.map D.tup)]⟩ (st ++ [.lst (F.map D.tup)]) := by simp
  unfold nComp
  rw [hi]
  simp only [R.bind]
  rw [if_pos (by simp [sizeLine]; omega), compF_pick (by simp) (fun d => match d with | .tup xs => some (.tup (xs ++ [h])) | _ => none) (F.map D.tup)]
  · congr 1
    induction F with
    | nil => rfl
    | cons b F ih =>
      simp only [List.map_cons, List.filterMap_cons, D.tup]
      rw [ih (by simp at hF; omega) (fun b m => hF2 b (.tail _ m)) (by simp)]
  · intro d m
    obtain ⟨b, mb, rfl⟩ := List.mem_map.mp m
    have := hF2 b mb
    refine ⟨[some (.loc l), some (.loc st.length), some h, some (.tup b)], true, by simp [wipeE], by simp, fun _ => ⟨.tup (b ++ [h]), by simp [D.tup, sizeLine]; omega, rfl⟩, fun z => by cases z⟩
theorem blG_len (h : D) (F : List (List D)) : (blG h F).length = 2 * F.length := by simp [blG]; omega
theorem blG_row {h : D} {F : List (List D)} {n : Nat} (hF : ∀ b ∈ F, b.length ≤ n) : ∀ b ∈ blG h F, b.length ≤ n + 1 := by
  intro b m
  rcases List.mem_append.mp m with m | m
  · have := hF b m; omega
  · obtain ⟨c, mc, rfl⟩ := List.mem_map.mp m
    have := hF c mc
    simp; omega
theorem bk_loop {whole : List D} (hl : st[l]? = some (.lst (whole))) : ∀ (r : List D) (F : List (List D)) (y2 y3 : Option D) (n : Nat), F.length * 2 ^ r.length ≤ 1000 → (∀ b ∈ F, b.length ≤ n) → n + r.length ≤ 1000 →
    ∃ z2 z3, loopF [(l, whole)] (gN 2) bkB (r) [some (.loc l), some (.loc st.length), y2, y3] (st ++ [.lst (F.map D.tup)]) = .nx [some (.loc l), some (.loc st.length), z2, z3] (st ++ [.lst ((blM r F).map D.tup)])
  | [], F, y2, y3, n, _, _, _ => ⟨y2, y3, by
    have lt := lt_of_get hl
    have e : (st ++ [Ev.O.lst (F.map D.tup)])[l]? = some (.lst (whole)) := by rw [List.getElem?_append_left lt]; exact hl
    simp [e, blM]⟩
  | h :: r, F, y2, y3, n, h1, h2, h3 => by
    have lt := lt_of_get hl
    have e : (st ++ [Ev.O.lst (F.map D.tup)])[l]? = some (.lst (whole)) := by rw [List.getElem?_append_left lt]; exact hl
    rw [List.length_cons, Nat.pow_succ] at h1
    have p1 : F.length * 1 ≤ F.length * (2 ^ r.length * 2) := Nat.mul_le_mul_left _ (by have := Nat.one_le_two_pow (n := r.length); omega)
    have lF : F.length ≤ 500 := by
      have := Nat.mul_le_mul_left F.length (show 2 ≤ 2 ^ r.length * 2 by have := Nat.one_le_two_pow (n := r.length); omega)
      omega
    have c := bk_comp (st := st) (l := l) (h := h) (z3 := y3) (F := F) (by omega) (fun b m => by have := h2 b m; omega)
    have hq : 2 * F.length * 2 ^ r.length = F.length * (2 ^ r.length * 2) := by rw [Nat.mul_comm 2 F.length, Nat.mul_assoc, Nat.mul_comm 2]
    obtain ⟨z2, z3, ih⟩ := bk_loop hl r (blG h F) (some h) y3 (n + 1) (by rw [blG_len, hq]; omega) (blG_row h2) (by simp at h3; omega)
    refine ⟨z2, z3, ?_⟩
    have e2 : (F.map D.tup ++ (F.map (· ++ [h])).map D.tup) = (blG h F).map D.tup := by rw [blG, List.map_append]
    have eb : bkB [some (.loc l), some (.loc st.length), some h, y3] (st ++ [.lst (F.map D.tup)]) = .nx [some (.loc l), some (.loc st.length), some h, y3] (st ++ [.lst ((blG h F).map D.tup)]) := by
      unfold bkB
      simp only [ev_sExpr, ev_eExt, ev_eVar, List.getElem?_cons_succ, List.getElem?_cons_zero, ev_okV, R.bind, ev_kExt]
      rw [if_pos (by simp [isL]), c]
      simp only [R.bind]
      unfold extF
      simp only [List.getElem?_concat_length]
      rw [if_pos (by simp [sizeLine]; omega), e2]
      simp
    show loopF [(l, whole)] (gN 2) bkB (h :: r) _ _ = _
    rw [loopF, if_pos (by simp [e])]
    show (bkB [some (.loc l), some (.loc st.length), some h, y3] (st ++ [.lst (F.map D.tup)])).loop _ = _
    rw [eb]
    exact ih
/-- blocks_of of a list of whole numbers -/
theorem blk_ok {rest : List D} (hl : st[l]? = some (.lst (rest))) (h5 : rest.length ≤ 5) : f_blocks_of [.loc l] st = .ok (.loc (st.length + 1)) (st ++ [.lst ((blM rest [[]]).map D.tup), .lst (((blM rest [[]]).drop 1).map D.tup)]) := by
  have lt := lt_of_get hl
  have p : 2 ^ rest.length ≤ 2 ^ 5 := Nat.pow_le_pow_right (by omega) h5
  obtain ⟨z2, z3, hlp⟩ := bk_loop hl rest [[]] none none 0 (by simp; omega) (by simp) (by omega)
  have e1 : (sSet 1 (eNew (nLst (aCons (eTup aNil) aNil)))) [some (.loc l), none, none, none] st = .nx [some (.loc l), some (.loc st.length), none, none] (st ++ [.lst ([[]].map D.tup)]) := by
    simp [D.tup, sizeLine]
  have e : (st ++ [Ev.O.lst ([[]].map D.tup)])[l]? = some (.lst (rest)) := by rw [List.getElem?_append_left lt]; exact hl
  have e2 : (sFor (iVal (eVar 0)) (gN 2) bkB) [some (.loc l), some (.loc st.length), none, none] (st ++ [.lst ([[]].map D.tup)]) = .nx [some (.loc l), some (.loc st.length), z2, z3] (st ++ [.lst ((blM rest [[]]).map D.tup)]) :=
    for_ok (items := rest) (ws := [(l, rest)]) (s1 := st ++ [.lst ([[]].map D.tup)]) (by have e' := e; simp only [List.map_cons, List.map_nil] at e' ⊢; simp [e']) hlp
  have e3 : (sRet (eM (mSl (eVar 1) (oSo (eC (.int 1))) oNo))) [some (.loc l), some (.loc st.length), z2, z3] (st ++ [.lst ((blM rest [[]]).map D.tup)]) = .rt (.loc (st.length + 1)) (st ++ [.lst ((blM rest [[]]).map D.tup), .lst (((blM rest [[]]).drop 1).map D.tup)]) := by
    simp [cut_1, List.map_tail]
  have eb : b_blocks_of [some (.loc l), none, none, none] st = .rt (.loc (st.length + 1)) (st ++ [.lst ((blM rest [[]]).map D.tup), .lst (((blM rest [[]]).drop 1).map D.tup)]) := then_nx e1 (then_nx e2 e3)
  unfold f_blocks_of semOf
  rw [if_pos (by simp)]
  have ee : (List.map some [D.loc l] ++ List.replicate (4 - 1) none) = [some (.loc l), none, none, none] := rfl
  rw [ee, eb]
end
end K29

namespace K29
open PySem L2 Ev
open PyProof.Rows hiding St
/-! ### every_row: one lap -/
/-- what is not in W stays -/
structure Upd (W : List Nat) (st st' : Store) : Prop where
  len : st.length ≤ st'.length
  keep : ∀ j, j < st.length → j ∉ W → st'[j]? = st[j]?
theorem Upd.refl {W : List Nat} {st : Store} : Upd W st st := ⟨Nat.le_refl _, fun _ _ _ => rfl⟩
theorem Upd.get {W : List Nat} {st st' : Store} {j : Nat} {o : O} (u : Upd W st st') (h : st[j]? = some o) (hj : j ∉ W) : st'[j]? = some o := by rw [u.keep j (lt_of_get h) hj]; exact h
theorem Upd.trans {W : List Nat} {s1 s2 s3 : Store} (a : Upd W s1 s2) (b : Upd W s2 s3) : Upd W s1 s3 := ⟨Nat.le_trans a.len b.len, fun j hj hn => by
  rw [b.keep j (Nat.lt_of_lt_of_le hj a.len) hn, a.keep j hj hn]⟩
theorem Upd.set {st : Store} {l : Nat} {o : O} {W : List Nat} (h : l ∈ W) : Upd W st (st.set l o) := ⟨by simp, fun j hj hn => by rw [List.getElem?_set_ne]; exact fun e => hn (e ▸ h)⟩
theorem Upd.push {st : Store} {W : List Nat} (xs : List O) : Upd W st (st ++ xs) := ⟨by simp, fun j hj _ => by rw [List.getElem?_append_left hj]⟩
theorem le_line {k : Nat} (h : k ≤ 1000) : k ≤ sizeLine := by
  simp only [sizeLine]
  omega
def memD (x : D) (xs : List D) : Bool := xs.any fun d => eqD d x
def restM (n : Nat) (came : List D) : List D := (intD 0 n).filter fun h => !memD h came
def srtD (xs : List D) : List D := sortJ xs id
theorem srtD_eq (xs : List D) : sortD xs = srtD xs := (sortD_I xs id).symm
def rowGo (v : D) (b : List D) : Nat → List D → List D
  | _, [] => []
  | i, x :: xs => (if memD (.int (i : Nat)) b = true then v else x) :: rowGo v b (i + 1) xs
abbrev Ent := List D × List D
def pushM (came row b : List D) : Ent := (srtD (came ++ b), rowGo (.tup (srtD (came ++ b))) b 0 row)
def blOk (came b : List D) : Bool := sortOkJ (came ++ b) && (b.all flatD && Nat.ble (came.length + b.length) 100)
def lapM (n : Nat) (e : Ent) : Option (Bool × List Ent) :=
  let rest := restM n e.1
  let bs := (blM rest [[]]).tail
  if (e.1.all flatD && Nat.ble rest.length 5) && (Nat.ble e.2.length 100 && bs.all (blOk e.1)) then some (rest.isEmpty, bs.map (pushM e.1 e.2)) else none
abbrev erB : Sf := sSetN 5 (nComp [8] (iRange1 (eVar 0)) (gN 8) (tfB (eIn true (eVar 8) (qOf (eVar 3)))) (eVar 8))
abbrev erC : Sf := sIf (tfB (eBin (eq0F false) (eVar 5) (eNew (nLst aNil)))) (sExpr (eBM appF (eVar 1) (aCons (eCall tupQ (qOf (eVar 4))) aNil))) sNil
abbrev erV : Af := nComp [8, 9] (iEnum (wVal (eVar 4))) (gT 2 (gsCons (gN 8) (gsCons (gN 9) gsNil))) tfYes (eIf (tfB (eIn false (eVar 8) (qOf (eVar 6)))) (eVar 7) (eVar 9))
abbrev erD1 : Sf := sSet 7 (eCall tupQ (nSorted (nLst (aStar (qOf (eVar 3)) (aStar (qOf (eVar 6)) aNil)))))
abbrev erD2 : Sf := sExpr (eBM appF (eVar 2) (aCons (eTup (aCons (eVar 7) (aCons (eNew erV) aNil))) aNil))
abbrev erD (cb : SemF) : Sf := sFor (iVal (eCall cb (aCons (eVar 5) aNil))) (gN 6) (sSeq erD1 erD2)
abbrev erA : Sf := sAsg (ePop (eVar 2)) (gT 2 (gsCons (gN 3) (gsCons (gN 4) gsNil)))
abbrev erLap (cb : SemF) : Sf := sSeq erA (sSeq erB (sSeq erC (erD cb)))
abbrev erCond : Tf := tfB (eBin (eq0F true) (eVar 2) (eNew (nLst aNil)))
abbrev erPre : Sf := sPar [1, 2] (aCons (eNew (nLst aNil)) (aCons (eNew (nLst (aCons (eTup (aCons (eTup aNil) (aCons (eM (mBin mulM (eNew (nLst (aCons (eC .non) aNil))) (eVar 0))) aNil))) aNil))) aNil))
theorem er_chain {cm cb : SemF} {wn : Nat} : b_every_row cm cb wn = sSeqZ (sExpr (eCall cm (aCons (eVar 0) aNil))) (sSeqZ erPre (sSeqZ (whileF erCond (erLap cb) wn) (sRet (eCall tupQ (nSorted (lOf (eVar 1))))))) := rfl
abbrev eE (n F W : Nat) (y3 y4 y5 y6 y7 y8 y9 : Option D) : EEnv := [some (.int (n : Nat)), some (.loc F), some (.loc W), y3, y4, y5, y6, y7, y8, y9]
section
variable {n F W L : Nat} {st s : Store} {came row b : List D} {y3 y4 y5 y6 y7 y8 y9 : Option D}
theorem pick_rest : ∀ xs : List D, (xs.filterMap fun d => if memD d came = true then none else some d) = xs.filter fun h => !memD h came
  | [] => rfl
  | x :: xs => by
    have ih := pick_rest xs
    rw [List.filterMap_cons, List.filter_cons]
    cases memD x came
    · simp [ih]
    · simp [ih]
theorem rng_ok {env : EEnv} (hn : n ≤ 100) (h0 : env[0]? = some (some (.int (n : Nat)))) : iRange1 (eVar 0) env s = .ok ⟨intD 0 n, []⟩ s := by
  have h := rg_nat (n := n) (s := s) (by omega)
  have e : eVar 0 env s = .ok (.int (n : Nat)) s := by simp [h0]
  rw [ev_iRange1, e, R.bind_ok]
  exact h
theorem rest_ok (hn : n ≤ 100) (hc : came.all flatD = true) : nComp [8] (iRange1 (eVar 0)) (gN 8) (tfB (eIn true (eVar 8) (qOf (eVar 3)))) (eVar 8) (eE n F W (some (.tup came)) y4 y5 y6 y7 y8 y9) s = .ok (restM n came) s := by
  have hi := rng_ok (n := n) (s := s) (env := eE n F W (some (.tup came)) y4 y5 y6 y7 y8 y9) hn rfl
  unfold nComp
  rw [hi]
  simp only [R.bind]
  rw [if_pos (show (intD 0 n).length ≤ sizeLine by rw [intD_length]; exact le_line (by omega)), compF_pick (rfl : wOk s [] = true) (fun d => if memD d came = true then none else some d) (intD 0 n)]
  · rw [pick_rest, restM]
  · intro d m
    obtain ⟨j, mj, rfl⟩ := List.mem_map.mp m
    refine ⟨eE n F W (some (.tup came)) y4 y5 y6 y7 (some (.int (0 + (j : Nat)))) y9, !memD (.int (0 + (j : Nat))) came, by simp [wipeE], ?_, fun hb => ⟨.int (0 + (j : Nat)), rfl, ?_⟩, fun hb => ?_⟩
    · simp only [ev_tfB, ev_eIn, ev_eVar, List.getElem?_cons_succ, List.getElem?_cons_zero, ev_okV, R.bind, ev_kIn, ev_qOf, ev_kQT, ev_inQT]
      rw [if_pos ⟨rfl, hc⟩]
      rfl
    · rw [if_neg (by simpa using hb)]
    · rw [if_pos (by simpa using hb)]
theorem view_go {v : D} (hl : s[L]? = some (.lst row)) (hb : b.all flatD = true) : ∀ (xs : List D) (k : Nat) (y8 y9 : Option D), compF [(L, row)] (gT 2 (gsCons (gN 8) (gsCons (gN 9) gsNil))) tfYes (eIf (tfB (eIn false (eVar 8) (qOf (eVar 6)))) (eVar 7) (eVar 9)) (eE n F W y3 y4 y5 (some (.tup b)) (some v) y8 y9) (enumD k xs) s = .ok (rowGo v b k xs) s
  | [], k, y8, y9 => by simp [enumD, rowGo, hl]
  | x :: xs, k, y8, y9 => by
    have ih := view_go (v := v) hl hb xs (k + 1) y8 y9
    have e1 : gT 2 (gsCons (gN 8) (gsCons (gN 9) gsNil)) (.tup [.int (k : Nat), x]) (eE n F W y3 y4 y5 (some (.tup b)) (some v) y8 y9) s = .ok (eE n F W y3 y4 y5 (some (.tup b)) (some v) (some (.int (k : Nat))) (some x)) s := by simp
    have e2 : eIf (tfB (eIn false (eVar 8) (qOf (eVar 6)))) (eVar 7) (eVar 9) (eE n F W y3 y4 y5 (some (.tup b)) (some v) (some (.int (k : Nat))) (some x)) s = .ok (if memD (.int (k : Nat)) b = true then v else x) s := by
      have e3 : tfB (eIn false (eVar 8) (qOf (eVar 6))) (eE n F W y3 y4 y5 (some (.tup b)) (some v) (some (.int (k : Nat))) (some x)) s = .ok (memD (.int (k : Nat)) b) s := by
        simp only [ev_tfB, ev_eIn, ev_eVar, List.getElem?_cons_succ, List.getElem?_cons_zero, ev_okV, R.bind, ev_kIn, ev_qOf, ev_kQT, ev_inQF]
        rw [if_pos ⟨rfl, hb⟩]
        rfl
      unfold eIf
      rw [e3]
      simp only [R.bind]
      cases memD (.int (k : Nat)) b <;> rfl
    rw [enumD, compF, if_pos (by simp [hl]), e1]
    simp only [R.bind]
    have e4 : tfYes (eE n F W y3 y4 y5 (some (.tup b)) (some v) (some (.int (k : Nat))) (some x)) s = .ok true s := rfl
    rw [e4]
    simp only [R.bind, if_true]
    rw [e2]
    simp only [R.bind]
    rw [ih]
    rfl
theorem view_ok {v : D} (hl : s[L]? = some (.lst row)) (hr : row.length ≤ 100) (hb : b.all flatD = true) : erV (eE n F W y3 (some (.loc L)) y5 (some (.tup b)) (some v) y8 y9) s = .ok (rowGo v b 0 row) s := by
  have hi : iEnum (wVal (eVar 4)) (eE n F W y3 (some (.loc L)) y5 (some (.tup b)) (some v) y8 y9) s = .ok ⟨enumD 0 row, [(L, row)]⟩ s := by simp [hl]
  unfold erV nComp
  rw [hi]
  simp only [R.bind]
  rw [if_pos (by rw [enumD_length]; exact le_line (by omega))]
  exact view_go hl hb row 0 none none
end
end K29

namespace K29
open PySem L2 Ev
open PyProof.Rows hiding St
/-! ### every_row: the laps -/
abbrev Pe := Ent × Nat
def entD (p : Pe) : D := .tup [.tup p.1.1, .loc p.2]
abbrev BlkM (cb : SemF) : Prop := ∀ (st : Store) (l : Nat) (rest : List D), st[l]? = some (.lst rest) → rest.length ≤ 5 → cb [.loc l] st = .ok (.loc (st.length + 1)) (st ++ [.lst ((blM rest [[]]).map D.tup), .lst (((blM rest [[]]).drop 1).map D.tup)])
theorem blkM : BlkM f_blocks_of := fun _ _ _ h h5 => blk_ok h h5
theorem blOk_of {came b : List D} (h : blOk came b = true) : sortOk (came ++ b) = true ∧ b.all flatD = true ∧ came.length + b.length ≤ 100 := by
  unfold blOk at h
  rw [Bool.and_eq_true, Bool.and_eq_true] at h
  exact ⟨by rw [sortOk_I]; exact h.1, h.2.1, Nat.ble_eq.mp h.2.2⟩
section
variable {n F W L B : Nat} {s : Store} {came row b whole ws fs : List D} {y3 y4 y5 y6 y7 y8 y9 : Option D}
theorem d1_ok (h : blOk came b = true) : erD1 (eE n F W (some (.tup came)) y4 y5 (some (.tup b)) y7 y8 y9) s = .nx (eE n F W (some (.tup came)) y4 y5 (some (.tup b)) (some (.tup (srtD (came ++ b)))) y8 y9) s := by
  obtain ⟨h1, h2, h3⟩ := blOk_of h
  have e : nLst (aStar (qOf (eVar 3)) (aStar (qOf (eVar 6)) aNil)) (eE n F W (some (.tup came)) y4 y5 (some (.tup b)) y7 y8 y9) s = .ok (came ++ b) s := by
    simp only [ev_nLst, ev_aStar, ev_qOf, ev_eVar, List.getElem?_cons_succ, List.getElem?_cons_zero, ev_okV, R.bind_ok, ev_kQT, ev_kStar, ev_aNil, ev_kStar2, ev_kLst, List.append_nil]
    rw [if_pos (le_line (by rw [List.length_append]; omega))]
  have e2 : (eCall tupQ (nSorted (nLst (aStar (qOf (eVar 3)) (aStar (qOf (eVar 6)) aNil))))) (eE n F W (some (.tup came)) y4 y5 (some (.tup b)) y7 y8 y9) s = .ok (.tup (srtD (came ++ b))) s := by
    show (nSorted _ _ s).bind tupQ = _
    unfold nSorted
    rw [e]
    simp only [R.bind_ok]
    rw [if_pos h1, srtD_eq]
    rfl
  unfold erD1
  rw [ev_sSet, e2]
  rfl
theorem d2_ok {v : D} (hl : s[L]? = some (.lst row)) (hr : row.length ≤ 100) (hb : b.all flatD = true) (hw : s[W]? = some (.lst ws)) (hk : ws.length < 1000) :
    erD2 (eE n F W y3 (some (.loc L)) y5 (some (.tup b)) (some v) y8 y9) s = .nx (eE n F W y3 (some (.loc L)) y5 (some (.tup b)) (some v) y8 y9) ((s ++ [Ev.O.lst (rowGo v b 0 row)]).set W (Ev.O.lst (ws ++ [D.tup [v, .loc s.length]]))) := by
  have lw := lt_of_get hw
  have e1 : eNew erV (eE n F W y3 (some (.loc L)) y5 (some (.tup b)) (some v) y8 y9) s = .ok (.loc s.length) (s ++ [.lst (rowGo v b 0 row)]) := by
    rw [ev_eNew, view_ok hl hr hb]
    rfl
  have e2 : (s ++ [Ev.O.lst (rowGo v b 0 row)])[W]? = some (.lst ws) := by rw [List.getElem?_append_left lw]; exact hw
  have e3 : (aCons (eTup (aCons (eVar 7) (aCons (eNew erV) aNil))) aNil) (eE n F W y3 (some (.loc L)) y5 (some (.tup b)) (some v) y8 y9) s = .ok [.tup [v, .loc s.length]] (s ++ [.lst (rowGo v b 0 row)]) := by
    have e4 : (aCons (eVar 7) (aCons (eNew erV) aNil)) (eE n F W y3 (some (.loc L)) y5 (some (.tup b)) (some v) y8 y9) s = .ok [v, .loc s.length] (s ++ [.lst (rowGo v b 0 row)]) := by
      have e5 : (aCons (eNew erV) aNil) (eE n F W y3 (some (.loc L)) y5 (some (.tup b)) (some v) y8 y9) s = .ok [.loc s.length] (s ++ [.lst (rowGo v b 0 row)]) := by
        unfold aCons
        rw [e1]
        rfl
      have e6 : eVar 7 (eE n F W y3 (some (.loc L)) y5 (some (.tup b)) (some v) y8 y9) s = .ok v s := rfl
      unfold aCons at e5 ⊢
      rw [e6]
      simp only [R.bind_ok]
      rw [e5]
      rfl
    have e7 : eTup (aCons (eVar 7) (aCons (eNew erV) aNil)) (eE n F W y3 (some (.loc L)) y5 (some (.tup b)) (some v) y8 y9) s = .ok (.tup [v, .loc s.length]) (s ++ [.lst (rowGo v b 0 row)]) := by
      unfold eTup
      rw [e4]
      rfl
    unfold aCons at e7 ⊢
    rw [e7]
    rfl
  unfold erD2
  rw [ev_sExpr]
  have e8 : (eBM appF (eVar 2) (aCons (eTup (aCons (eVar 7) (aCons (eNew erV) aNil))) aNil)) (eE n F W y3 (some (.loc L)) y5 (some (.tup b)) (some v) y8 y9) s = .ok .non ((s ++ [Ev.O.lst (rowGo v b 0 row)]).set W (Ev.O.lst (ws ++ [D.tup [v, .loc s.length]]))) := by
    have e9 : eVar 2 (eE n F W y3 (some (.loc L)) y5 (some (.tup b)) (some v) y8 y9) s = .ok (.loc W) s := rfl
    unfold eBM
    rw [e9]
    simp only [R.bind_ok]
    rw [e3, if_pos (by simp [isL, hw])]
    simp only [R.bind_ok]
    show appF (.loc W) [.tup [v, .loc s.length]] (s ++ [.lst (rowGo v b 0 row)]) = _
    rw [ev_app, e2]
    show (if ws.length < sizeLine then _ else _) = _
    rw [if_pos (by have := le_line (k := ws.length + 1) (by omega); omega)]
  rw [e8]
  rfl
theorem blk_loop (hBW : B ≠ W) (hLW : L ≠ W) (hr : row.length ≤ 100) : ∀ (bs : List (List D)) (s : Store) (ws : List D) (y6 y7 : Option D), s[B]? = some (.lst whole) → s[L]? = some (.lst row) → s[W]? = some (.lst ws) → ws.length + bs.length ≤ 1000 → bs.all (blOk came) = true →
    ∃ (z6 z7 : Option D) (s' : Store) (ps : List Pe), loopF [(B, whole)] (gN 6) (sSeq erD1 erD2) (bs.map D.tup) (eE n F W (some (.tup came)) (some (.loc L)) y5 y6 y7 y8 y9) s = .nx (eE n F W (some (.tup came)) (some (.loc L)) y5 z6 z7 y8 y9) s' ∧ Upd [W] s s' ∧ ps.map Prod.fst = bs.map (pushM came row) ∧
      s'[W]? = some (.lst (ws ++ ps.map entD)) ∧ ∀ p ∈ ps, s'[p.2]? = some (.lst p.1.2) ∧ s.length ≤ p.2
  | [], s, ws, y6, y7, hB, hL, hW, _, _ => ⟨y6, y7, s, [], by simp [hB], Upd.refl, rfl, by simpa using hW, fun _ m => nomatch m⟩
  | b :: bs, s, ws, y6, y7, hB, hL, hW, hk, ha => by
    rw [List.all_cons, Bool.and_eq_true] at ha
    rw [List.length_cons] at hk
    obtain ⟨h1, h2, h3⟩ := blOk_of ha.1
    have lw := lt_of_get hW
    have a1 := d1_ok (n := n) (F := F) (W := W) (s := s) (y4 := some (.loc L)) (y5 := y5) (y7 := y7) (y8 := y8) (y9 := y9) ha.1
    have a2 := d2_ok (n := n) (F := F) (W := W) (y3 := some (.tup came)) (y5 := y5) (y8 := y8) (y9 := y9) (v := .tup (srtD (came ++ b))) hL hr h2 hW (by omega)
    obtain ⟨s2, hs2⟩ : ∃ s2, s2 = (s ++ [Ev.O.lst (rowGo (.tup (srtD (came ++ b))) b 0 row)]).set W (Ev.O.lst (ws ++ [D.tup [.tup (srtD (came ++ b)), .loc s.length]])) := ⟨_, rfl⟩
    rw [← hs2] at a2
    have u : Upd [W] s s2 := by rw [hs2]; exact (Upd.push _).trans (Upd.set (List.mem_singleton.mpr rfl))
    have hW2 : s2[W]? = some (.lst (ws ++ [entD (pushM came row b, s.length)])) := by
      rw [hs2, List.getElem?_set_self (by simp; omega)]
      rfl
    have hN2 : s2[s.length]? = some (.lst (pushM came row b).2) := by
      rw [hs2, List.getElem?_set_ne (by omega)]
      simp [pushM]
    have l2 : s.length < s2.length := lt_of_get hN2
    obtain ⟨z6, z7, s', ps, q1, q2, q3, q4, q5⟩ := blk_loop hBW hLW hr bs s2 _ (some (.tup b)) (some (.tup (srtD (came ++ b)))) (u.get hB (by simpa using hBW)) (u.get hL (by simpa using hLW)) hW2 (by simp; omega) ha.2
    refine ⟨z6, z7, s', (pushM came row b, s.length) :: ps, ?_, u.trans q2, by rw [List.map_cons, q3]; rfl, by rw [q4]; simp, fun p m => ?_⟩
    · show loopF _ _ _ (.tup b :: bs.map D.tup) _ _ = _
      rw [loopF, if_pos (by simp [hB])]
      have g : gN 6 (.tup b) (eE n F W (some (.tup came)) (some (.loc L)) y5 y6 y7 y8 y9) s = .ok (eE n F W (some (.tup came)) (some (.loc L)) y5 (some (.tup b)) y7 y8 y9) s := rfl
      rw [g, sR_ok, then_nx a1 a2]
      exact q1
    · rcases List.mem_cons.mp m with rfl | m
      · exact ⟨q2.get hN2 (by simp; omega), Nat.le_refl _⟩
      · exact ⟨(q5 p m).1, by have := (q5 p m).2; omega⟩
end
end K29

namespace K29
open PySem L2 Ev
open PyProof.Rows hiding St
/-! ### every_row: the whole -/
def runM (n : Nat) : Nat → List Ent → List D → Option (List D)
  | 0, _, _ => none
  | m + 1, stk, fs => match stk with
    | [] => some fs
    | e :: r => match lapM n e with
      | some (done, es) => match Nat.ble (r.length + es.length) 900 && Nat.ble fs.length 900 with
        | true => runM n m (es.reverse ++ r) (if done then fs ++ [.tup e.2] else fs)
        | false => none
      | none => none
section
variable {n F W L B : Nat} {s : Store} {came row b whole ws fs : List D} {y3 y4 y5 y6 y7 y8 y9 : Option D} {cb : SemF} {e : Ent} {qs : List Pe} {es : List Ent} {done : Bool}
structure StkAt (s : Store) (F W : Nat) (qs : List Pe) (fs : List D) : Prop where
  hf : s[F]? = some (.lst fs)
  hw : s[W]? = some (.lst (qs.map entD))
  rows : ∀ p ∈ qs, s[p.2]? = some (.lst p.1.2) ∧ p.2 ∉ [F, W]
  ne : F ≠ W
theorem StkAt.push (A : StkAt s F W qs fs) (xs : List O) : StkAt (s ++ xs) F W qs fs := by
  have k : ∀ {l : Nat} {o : O}, s[l]? = some o → (s ++ xs)[l]? = some o := fun h => by rw [List.getElem?_append_left (lt_of_get h)]; exact h
  exact ⟨k A.hf, k A.hw, fun p m => ⟨k (A.rows p m).1, (A.rows p m).2⟩, A.ne⟩
theorem lap_ok (hb : BlkM cb) (hn : n ≤ 100) (A : StkAt s F W (qs ++ [(e, L)]) fs) (hl : lapM n e = some (done, es)) (h1 : qs.length + es.length ≤ 900) (h2 : fs.length ≤ 900) :
    ∃ z3 z4 z5 z6 z7 s' ps, erLap cb (eE n F W y3 y4 y5 y6 y7 y8 y9) s = .nx (eE n F W z3 z4 z5 z6 z7 y8 y9) s' ∧ StkAt s' F W (qs ++ ps) (if done then fs ++ [.tup e.2] else fs) ∧ ps.map Prod.fst = es := by
  obtain ⟨came, row⟩ := e
  unfold lapM at hl
  simp only at hl
  split at hl
  · rename_i hc
    rw [Bool.and_eq_true, Bool.and_eq_true, Bool.and_eq_true] at hc
    obtain ⟨⟨c1, c2⟩, c3, c4⟩ := hc
    have c2 := Nat.ble_eq.mp c2
    have c3 := Nat.ble_eq.mp c3
    simp only [Option.some.injEq, Prod.mk.injEq] at hl
    obtain ⟨rfl, rfl⟩ := hl
    rw [List.length_map] at h1
    have hL := (A.rows ((came, row), L) (by simp)).1
    have nL := (A.rows ((came, row), L) (by simp)).2
    simp only at hL nL
    have nLF : L ≠ F := fun q => nL (by simp [q])
    have nLW : L ≠ W := fun q => nL (by simp [q])
    -- popping
    have hW := A.hw
    rw [List.map_append] at hW
    have lW := lt_of_get hW
    have lF := lt_of_get A.hf
    have hpop : popF (.loc W) s = .ok (.tup [.tup came, .loc L]) (s.set W (.lst (qs.map entD))) := by
      have q : (qs.map entD ++ [entD ((came, row), L)])[(qs.map entD ++ [entD ((came, row), L)]).length - 1]? = some (.tup [.tup came, .loc L]) := by simp [entD]
      unfold popF
      simp only [hW, List.map_cons, List.map_nil, q, List.dropLast_concat]
    obtain ⟨s1, hs1⟩ : ∃ s1, s1 = s.set W (.lst (qs.map entD)) := ⟨_, rfl⟩
    rw [← hs1] at hpop
    have A1 : StkAt s1 F W qs fs := by
      refine ⟨?_, ?_, fun p m => ⟨?_, (A.rows p (by simp [m])).2⟩, A.ne⟩
      · rw [hs1, List.getElem?_set_ne (fun q => A.ne q.symm)]; exact A.hf
      · rw [hs1, List.getElem?_set_self lW]
      · have := A.rows p (by simp [m])
        rw [hs1, List.getElem?_set_ne (fun q => this.2 (by simp [q]))]
        exact this.1
    have hL1 : s1[L]? = some (.lst row) := by rw [hs1, List.getElem?_set_ne (fun q => nLW q.symm)]; exact hL
    have a1 : erA (eE n F W y3 y4 y5 y6 y7 y8 y9) s = .nx (eE n F W (some (.tup came)) (some (.loc L)) y5 y6 y7 y8 y9) s1 := by
      have q : eVar 2 (eE n F W y3 y4 y5 y6 y7 y8 y9) s = .ok (.loc W) s := rfl
      unfold erA
      rw [ev_sAsg, ev_ePop, q, R.bind_ok, hpop]
      rfl
    -- rest
    obtain ⟨rest, hrest⟩ : ∃ rest, rest = restM n came := ⟨_, rfl⟩
    obtain ⟨s2, hs2⟩ : ∃ s2, s2 = s1 ++ [Ev.O.lst rest] := ⟨_, rfl⟩
    have a2 : erB (eE n F W (some (.tup came)) (some (.loc L)) y5 y6 y7 y8 y9) s1 = .nx (eE n F W (some (.tup came)) (some (.loc L)) (some (.loc s1.length)) y6 y7 y8 y9) s2 := by
      unfold erB
      rw [ev_sSetN, rest_ok hn c1, ← hrest, hs2]
      rfl
    have A2 : StkAt s2 F W qs fs := by rw [hs2]; exact A1.push _
    have hL2 : s2[L]? = some (.lst row) := by rw [hs2, List.getElem?_append_left (lt_of_get hL1)]; exact hL1
    have hR2 : s2[s1.length]? = some (.lst rest) := by rw [hs2]; simp
    rw [← hrest] at c2 c4 h1
    -- done
    obtain ⟨s3, a3, A3, hL3, hR3⟩ : ∃ s3, erC (eE n F W (some (.tup came)) (some (.loc L)) (some (.loc s1.length)) y6 y7 y8 y9) s2 = .nx (eE n F W (some (.tup came)) (some (.loc L)) (some (.loc s1.length)) y6 y7 y8 y9) s3 ∧ StkAt s3 F W qs (if rest.isEmpty then fs ++ [.tup row] else fs) ∧ s3[L]? = some (.lst row) ∧ s3[s1.length]? = some (.lst rest) := by
      have A2' := A2.push [Ev.O.lst []]
      have hL2' : (s2 ++ [Ev.O.lst []])[L]? = some (.lst row) := by rw [List.getElem?_append_left (lt_of_get hL2)]; exact hL2
      have hR2' : (s2 ++ [Ev.O.lst []])[s1.length]? = some (.lst rest) := by rw [List.getElem?_append_left (lt_of_get hR2)]; exact hR2
      have hN : (s2 ++ [Ev.O.lst []])[s2.length]? = some (.lst []) := by simp
      have ec : tfB (eBin (eq0F false) (eVar 5) (eNew (nLst aNil))) (eE n F W (some (.tup came)) (some (.loc L)) (some (.loc s1.length)) y6 y7 y8 y9) s2 = .ok rest.isEmpty (s2 ++ [.lst []]) := by
        simp only [ev_tfB, ev_eBin, ev_eVar, List.getElem?_cons_succ, List.getElem?_cons_zero, ev_okV, R.bind, ev_kBin, ev_eNew, ev_nLst, ev_aNil, ev_kLst, List.length_nil, Nat.zero_le, if_true, ev_kNew, ev_eq0, hR2', hN, ev_eq0G, if_false, Bool.false_eq_true, ev_kB]
      cases hd : rest.isEmpty with
      | false =>
        refine ⟨s2 ++ [.lst []], ?_, by simpa [hd] using A2', hL2', hR2'⟩
        unfold erC
        rw [ev_sIf, ec, hd]
        rfl
      | true =>
        obtain ⟨s3, hs3⟩ : ∃ s3, s3 = (s2 ++ [Ev.O.lst []]).set F (Ev.O.lst (fs ++ [.tup row])) := ⟨_, rfl⟩
        have nRF : s1.length ≠ F := by
          intro q
          have := lt_of_get A1.hf
          omega
        refine ⟨s3, ?_, ⟨?_, ?_, fun p m => ⟨?_, (A2'.rows p m).2⟩, A.ne⟩, ?_, ?_⟩
        · unfold erC
          rw [ev_sIf, ec, hd]
          show sExpr (eBM appF (eVar 1) (aCons (eCall tupQ (qOf (eVar 4))) aNil)) _ _ = _
          have et : (aCons (eCall tupQ (qOf (eVar 4))) aNil) (eE n F W (some (.tup came)) (some (.loc L)) (some (.loc s1.length)) y6 y7 y8 y9) (s2 ++ [.lst []]) = .ok [.tup row] (s2 ++ [.lst []]) := by
            have e0 : qOf (eVar 4) (eE n F W (some (.tup came)) (some (.loc L)) (some (.loc s1.length)) y6 y7 y8 y9) (s2 ++ [.lst []]) = .ok row (s2 ++ [.lst []]) := by
              simp [hL2']
            have e1 : (eCall tupQ (qOf (eVar 4))) (eE n F W (some (.tup came)) (some (.loc L)) (some (.loc s1.length)) y6 y7 y8 y9) (s2 ++ [.lst []]) = .ok (.tup row) (s2 ++ [.lst []]) := by
              show (qOf (eVar 4) _ _).bind tupQ = _
              rw [e0]
              rfl
            unfold aCons
            rw [e1]
            rfl
          have ea : (eBM appF (eVar 1) (aCons (eCall tupQ (qOf (eVar 4))) aNil)) (eE n F W (some (.tup came)) (some (.loc L)) (some (.loc s1.length)) y6 y7 y8 y9) (s2 ++ [.lst []]) = .ok .non s3 := by
            have q : eVar 1 (eE n F W (some (.tup came)) (some (.loc L)) (some (.loc s1.length)) y6 y7 y8 y9) (s2 ++ [.lst []]) = .ok (.loc F) (s2 ++ [.lst []]) := rfl
            unfold eBM
            rw [q]
            simp only [R.bind_ok]
            rw [et, if_pos (by simp [isL, A2'.hf])]
            simp only [R.bind_ok]
            rw [ev_app, A2'.hf]
            show (if fs.length < sizeLine then _ else _) = _
            rw [if_pos (by have := le_line (k := fs.length + 1) (by omega); omega), hs3]
          rw [ev_sExpr, ea]
          rfl
        · rw [hs3, List.getElem?_set_self (by simp; have := lt_of_get A2.hf; omega)]
          simp
        · rw [hs3, List.getElem?_set_ne A.ne]; exact A2'.hw
        · rw [hs3, List.getElem?_set_ne (fun q => (A2'.rows p m).2 (by simp [q]))]; exact (A2'.rows p m).1
        · rw [hs3, List.getElem?_set_ne (fun q => nLF q.symm)]; exact hL2'
        · rw [hs3, List.getElem?_set_ne (fun q => nRF q.symm)]; exact hR2'
    -- blocks
    have hcall : iVal (eCall cb (aCons (eVar 5) aNil)) (eE n F W (some (.tup came)) (some (.loc L)) (some (.loc s1.length)) y6 y7 y8 y9) s3 = .ok ⟨((blM rest [[]]).drop 1).map D.tup, [(s3.length + 1, ((blM rest [[]]).drop 1).map D.tup)]⟩ (s3 ++ [.lst ((blM rest [[]]).map D.tup), .lst (((blM rest [[]]).drop 1).map D.tup)]) := by
      have q : (aCons (eVar 5) aNil) (eE n F W (some (.tup came)) (some (.loc L)) (some (.loc s1.length)) y6 y7 y8 y9) s3 = .ok [.loc s1.length] s3 := rfl
      show (R.bind (R.bind (aCons (eVar 5) aNil _ s3) cb) srcV) = _
      rw [q, R.bind_ok, hb _ _ _ hR3 c2, R.bind_ok]
      simp [srcV, srcL]
    have A4 := A3.push [Ev.O.lst ((blM rest [[]]).map D.tup), Ev.O.lst (((blM rest [[]]).drop 1).map D.tup)]
    obtain ⟨s4, hs4⟩ : ∃ s4, s4 = s3 ++ [Ev.O.lst ((blM rest [[]]).map D.tup), Ev.O.lst (((blM rest [[]]).drop 1).map D.tup)] := ⟨_, rfl⟩
    rw [← hs4] at hcall A4
    have hL4 : s4[L]? = some (.lst row) := by rw [hs4, List.getElem?_append_left (lt_of_get hL3)]; exact hL3
    have hB4 : s4[s3.length + 1]? = some (.lst (((blM rest [[]]).drop 1).map D.tup)) := by rw [hs4]; simp
    have nB : s3.length + 1 ≠ W := by have := lt_of_get A3.hw; omega
    have et : (blM rest [[]]).drop 1 = (blM rest [[]]).tail := by simp
    rw [← et] at c4 h1
    obtain ⟨z6, z7, s', ps, q1, q2, q3, q4, q5⟩ := blk_loop (n := n) (F := F) (y5 := some (.loc s1.length)) (y8 := y8) (y9 := y9) (came := came) nB nLW c3 ((blM rest [[]]).drop 1) s4 _ y6 y7 hB4 hL4 A4.hw (by rw [List.length_map]; omega) c4
    refine ⟨_, _, _, z6, z7, s', ps, then_nx a1 (then_nx a2 (then_nx a3 (for_ok hcall q1))), ⟨by rw [← hrest]; exact q2.get A4.hf (by simpa using A.ne), by rw [q4, List.map_append], fun p m => ?_, A.ne⟩, by rw [q3, et, hrest]⟩
    rcases List.mem_append.mp m with m | m
    · exact ⟨q2.get (A4.rows p m).1 (fun q => (A4.rows p m).2 (by simp at q; simp [q])), (A4.rows p m).2⟩
    · refine ⟨(q5 p m).1, fun q => ?_⟩
      have l1 := lt_of_get A4.hf
      have l2 := lt_of_get A4.hw
      have := (q5 p m).2
      simp at q
      omega
  · cases hl
theorem while_ok (hb : BlkM cb) (hn : n ≤ 100) : ∀ (m : Nat) (s : Store) (qs : List Pe) (fs out : List D) (y3 y4 y5 y6 y7 : Option D), StkAt s F W qs fs → runM n m (qs.map Prod.fst).reverse fs = some out →
    ∃ z3 z4 z5 z6 z7 s', whileF erCond (erLap cb) m (eE n F W y3 y4 y5 y6 y7 y8 y9) s = .nx (eE n F W z3 z4 z5 z6 z7 y8 y9) s' ∧ s'[F]? = some (.lst out)
  | 0, s, qs, fs, out, y3, y4, y5, y6, y7, A, h => by simp [runM] at h
  | m + 1, s, qs, fs, out, y3, y4, y5, y6, y7, A, h => by
    have A' := A.push [Ev.O.lst []]
    have hN : (s ++ [Ev.O.lst []])[s.length]? = some (.lst []) := by simp
    have hc : erCond (eE n F W y3 y4 y5 y6 y7 y8 y9) s = .ok (!qs.isEmpty) (s ++ [.lst []]) := by
      have hw := A'.hw
      have hm : (qs.map entD).isEmpty = qs.isEmpty := by cases qs <;> rfl
      unfold erCond
      simp only [ev_tfB, ev_eBin, ev_eVar, List.getElem?_cons_succ, List.getElem?_cons_zero, ev_okV, R.bind, ev_kBin, ev_eNew, ev_nLst, ev_aNil, ev_kLst, List.length_nil, Nat.zero_le, if_true, ev_kNew, ev_eq0, hw, hN, ev_eq0G, hm, ev_kB]
    rcases List.eq_nil_or_concat qs with rfl | ⟨qs, ⟨e, L⟩, rfl⟩
    · simp [runM] at h
      refine ⟨y3, y4, y5, y6, y7, _, ?_, h ▸ A'.hf⟩
      rw [ev_while, hc]
      rfl
    · rw [List.concat_eq_append] at A' h hc
      rw [List.map_append, List.reverse_append] at h
      simp only [List.map_cons, List.map_nil, List.reverse_cons, List.reverse_nil, List.nil_append, List.singleton_append] at h
      rw [runM] at h
      split at h
      · rename_i done es hl
        split at h
        · rename_i hk
          rw [Bool.and_eq_true] at hk
          have k1 := Nat.ble_eq.mp hk.1
          have k2 := Nat.ble_eq.mp hk.2
          rw [List.length_reverse, List.length_map] at k1
          obtain ⟨z3, z4, z5, z6, z7, s', ps, q1, q2, q3⟩ := lap_ok (y3 := y3) (y4 := y4) (y5 := y5) (y6 := y6) (y7 := y7) (y8 := y8) (y9 := y9) hb hn A' hl k1 k2
          obtain ⟨x3, x4, x5, x6, x7, s2, r1, r2⟩ := while_ok hb hn m s' (qs ++ ps) _ out z3 z4 z5 z6 z7 q2 (by rw [List.map_append, List.reverse_append, q3]; exact h)
          refine ⟨x3, x4, x5, x6, x7, s2, ?_, r2⟩
          rw [ev_while, hc]
          have ne : (!(qs ++ [(e, L)]).isEmpty) = true := by simp
          rw [ne]
          show (erLap cb (eE n F W y3 y4 y5 y6 y7 y8 y9) (s ++ [.lst []])).loop _ = _
          rw [q1]
          exact r1
        · cases h
      · cases h
theorem acons_of {f : Ef} {t : Af} {env : EEnv} {s s1 s2 : Store} {x : D} {xs : List D} (h1 : f env s = .ok x s1) (h2 : t env s1 = .ok xs s2) : aCons f t env s = .ok (x :: xs) s2 := by
  unfold aCons
  rw [h1]
  simp only [R.bind_ok]
  rw [h2]
  rfl
theorem etup_of {t : Af} {env : EEnv} {s s1 : Store} {xs : List D} (h1 : t env s = .ok xs s1) (h2 : xs.length ≤ 1000) : eTup t env s = .ok (.tup xs) s1 := by
  unfold eTup
  rw [h1]
  simp only [R.bind_ok]
  rw [if_pos (le_line h2)]
theorem enew_of {t : Af} {env : EEnv} {s s1 : Store} {xs : List D} (h1 : t env s = .ok xs s1) (h2 : xs.length ≤ 1000) : eNew (nLst t) env s = .ok (.loc s1.length) (s1 ++ [.lst xs]) := by
  rw [ev_eNew, ev_nLst, h1, R.bind_ok, ev_kLst, if_pos (le_line h2)]
  rfl
theorem pre_k {k : Int} (h0 : 0 ≤ k) (hk : k ≤ 100) : erPre [some (.int k), none, none, none, none, none, none, none, none, none] [] = .nx [some (.int k), some (.loc 0), some (.loc 3), none, none, none, none, none, none, none] [.lst [], .lst [.non], .lst (List.replicate k.toNat .non), .lst [.tup [.tup [], .loc 2]]] := by
  have l1 : (1 : Nat) ≤ sizeLine := le_line (by omega)
  have l2 : -(2 ^ 63) ≤ k ∧ k < 2 ^ 63 ∧ [D.non].length * k.toNat ≤ sizeLine := ⟨by omega, by omega, le_line (by rw [List.length_singleton]; omega)⟩
  have l4 : (2 : Nat) ≤ sizeLine := le_line (by omega)
  have e1 : (eM (mBin mulM (eNew (nLst (aCons (eC .non) aNil))) (eVar 0))) [some (.int k), none, none, none, none, none, none, none, none, none] [.lst []] = .ok (.loc 2) [.lst [], .lst [.non], .lst (List.replicate k.toNat .non)] := by
    have q1 : eNew (nLst (aCons (eC .non) aNil)) [some (.int k), none, none, none, none, none, none, none, none, none] [.lst []] = .ok (.loc 1) [.lst [], .lst [.non]] := by simp [l1]
    have q2 : eVar 0 [some (.int k), none, none, none, none, none, none, none, none, none] [.lst [], .lst [.non]] = .ok (.int k) [.lst [], .lst [.non]] := rfl
    have q3 : (mBin mulM (eNew (nLst (aCons (eC .non) aNil))) (eVar 0)) [some (.int k), none, none, none, none, none, none, none, none, none] [.lst []] = .ok (.l (List.replicate k.toNat .non)) [.lst [], .lst [.non]] := by
      unfold mBin
      rw [q1]
      simp only [R.bind_ok]
      rw [q2]
      simp only [R.bind_ok]
      rw [ev_mulL]
      show mulGet (some (.lst [.non])) k _ = _
      rw [ev_mulGet, if_pos l2]
      simp
    rw [ev_eM, q3]
    rfl
  have e2 := etup_of (acons_of (show eTup aNil [some (.int k), none, none, none, none, none, none, none, none, none] [Ev.O.lst []] = .ok (.tup []) [.lst []] by simp) (acons_of e1 (show aNil _ _ = .ok [] _ from rfl))) (by simp)
  have e4 := enew_of (acons_of e2 (show aNil _ _ = .ok [] _ from rfl)) (by simp)
  have q1 : eNew (nLst aNil) [some (.int k), none, none, none, none, none, none, none, none, none] [] = .ok (.loc 0) [.lst []] := by simp
  have e5 := acons_of q1 (acons_of e4 (show aNil _ _ = .ok [] _ from rfl))
  unfold erPre sPar
  rw [e5]
  rfl
theorem pre_ok (hn : n ≤ 100) : erPre [some (.int (n : Nat)), none, none, none, none, none, none, none, none, none] [] = .nx (eE n 0 3 none none none none none none none) [.lst [], .lst [.non], .lst (List.replicate n .non), .lst [entD (([], List.replicate n .non), 2)]] := by
  have h := pre_k (k := (n : Nat)) (by omega) (by omega)
  rw [Int.toNat_natCast] at h
  exact h
/-- every_row of a number of hands -/
theorem every_ok {cm : SemF} (hb : BlkM cb) (hc : ∀ s, cm [.int (n : Nat)] s = .ok .non s) (hn : n ≤ 100) {wn : Nat} {out : List D} (hr : runM n wn [([], List.replicate n .non)] [] = some out) (hs : sortOkJ out = true) :
    ∃ s', f_every_row cm cb wn [.int (n : Nat)] [] = .ok (.tup (srtD out)) s' := by
  have a1 : (sExpr (eCall cm (aCons (eVar 0) aNil))) [some (.int (n : Nat)), none, none, none, none, none, none, none, none, none] [] = .nx [some (.int (n : Nat)), none, none, none, none, none, none, none, none, none] [] := by
    have q : (eCall cm (aCons (eVar 0) aNil)) [some (.int (n : Nat)), none, none, none, none, none, none, none, none, none] [] = .ok .non [] := hc []
    rw [ev_sExpr, q]
    rfl
  have a2 := pre_ok hn
  have A : StkAt [.lst [], .lst [.non], .lst (List.replicate n .non), .lst [entD (([], List.replicate n .non), 2)]] 0 3 [(([], List.replicate n .non), 2)] [] := ⟨rfl, rfl, fun p m => by rw [List.mem_singleton] at m; subst m; exact ⟨rfl, by show (2 : Nat) ∉ [0, 3]; decide⟩, by decide⟩
  obtain ⟨z3, z4, z5, z6, z7, s', q1, q2⟩ := while_ok (y8 := none) (y9 := none) hb hn wn _ _ _ out none none none none none A hr
  refine ⟨s', ?_⟩
  have a4 : (sRet (eCall tupQ (nSorted (lOf (eVar 1))))) (eE n 0 3 z3 z4 z5 z6 z7 none none) s' = .rt (.tup (srtD out)) s' := by
    have e0 : lOf (eVar 1) (eE n 0 3 z3 z4 z5 z6 z7 none none) s' = .ok out s' := by simp [q2]
    have e1 : (eCall tupQ (nSorted (lOf (eVar 1)))) (eE n 0 3 z3 z4 z5 z6 z7 none none) s' = .ok (.tup (srtD out)) s' := by
      show (nSorted (lOf (eVar 1)) _ _).bind tupQ = _
      unfold nSorted
      rw [e0]
      simp only [R.bind_ok]
      rw [sortOk_I, if_pos hs, srtD_eq]
      rfl
    unfold sRet
    rw [e1]
    rfl
  have ez : ∀ (f h : Sf) (e e1 : EEnv) (s s1 : Store) (r : RS), f e s = .nx e1 s1 → h e1 s1 = r → sSeqZ f h e s = r := fun f h e e1 s s1 r h1 h2 => by
    unfold sSeqZ
    rw [h1]
    exact h2
  have eb : b_every_row cm cb wn [some (.int (n : Nat)), none, none, none, none, none, none, none, none, none] [] = .rt (.tup (srtD out)) s' := ez _ _ _ _ _ _ _ a1 (ez _ _ _ _ _ _ _ a2 (ez _ _ _ _ _ _ _ q1 a4))
  unfold f_every_row semZ
  rw [if_pos (by simp)]
  have ee : (List.map some [D.int (n : Nat)] ++ List.replicate (10 - 1) none) = [some (.int (n : Nat)), none, none, none, none, none, none, none, none, none] := rfl
  rw [ee, eb]
end
end K29

namespace K29
open PySem L2 Ev
open PyProof.Rows hiding St
/-! ### all rows -/
def tab1 : List (List (List Int)) := [[[0]]]
def tab2 : List (List (List Int)) := [[[0], [0, 1]], [[0, 1], [0, 1]], [[0, 1], [1]]]
def tab3 : List (List (List Int)) := [[[0], [0, 1], [0, 1, 2]], [[0], [0, 1, 2], [0, 1, 2]], [[0], [0, 1, 2], [0, 2]], [[0, 1], [0, 1], [0, 1, 2]], [[0, 1], [1], [0, 1, 2]], [[0, 1, 2], [0, 1, 2], [0, 1, 2]], [[0, 1, 2], [0, 1, 2], [2]], [[0, 1, 2], [1], [0, 1, 2]], [[0, 1, 2], [1], [1, 2]], [[0, 1, 2], [1, 2], [1, 2]], [[0, 1, 2], [1, 2], [2]], [[0, 2], [0, 1, 2], [0, 2]], [[0, 2], [0, 1, 2], [2]]]
def tab4 : List (List (List Int)) := [[[0], [0, 1], [0, 1, 2], [0, 1, 2, 3]], [[0], [0, 1], [0, 1, 2, 3], [0, 1, 2, 3]], [[0], [0, 1], [0, 1, 2, 3], [0, 1, 3]], [[0], [0, 1, 2], [0, 1, 2], [0, 1, 2, 3]], [[0], [0, 1, 2], [0, 2], [0, 1, 2, 3]], [[0], [0, 1, 2, 3], [0, 1, 2, 3], [0, 1, 2, 3]], [[0], [0, 1, 2, 3], [0, 1, 2, 3], [0, 3]], [[0], [0, 1, 2, 3], [0, 2], [0, 1, 2, 3]], [[0], [0, 1, 2, 3], [0, 2], [0, 2, 3]], [[0], [0, 1, 2, 3], [0, 2, 3], [0, 2, 3]], [[0], [0, 1, 2, 3], [0, 2, 3], [0, 3]], [[0], [0, 1, 3], [0, 1, 2, 3], [0, 1, 3]], [[0], [0, 1, 3], [0, 1, 2, 3], [0, 3]], [[0, 1], [0, 1], [0, 1, 2], [0, 1, 2, 3]], [[0, 1], [0, 1], [0, 1, 2, 3], [0, 1, 2, 3]], [[0, 1], [0, 1], [0, 1, 2, 3], [0, 1, 3]], [[0, 1], [1], [0, 1, 2], [0, 1, 2, 3]], [[0, 1], [1], [0, 1, 2, 3], [0, 1, 2, 3]], [[0, 1], [1], [0, 1, 2, 3], [0, 1, 3]], [[0, 1, 2], [0, 1, 2], [0, 1, 2], [0, 1, 2, 3]], [[0, 1, 2], [0, 1, 2], [2], [0, 1, 2, 3]], [[0, 1, 2], [1], [0, 1, 2], [0, 1, 2, 3]], [[0, 1, 2], [1], [1, 2], [0, 1, 2, 3]], [[0, 1, 2], [1, 2], [1, 2], [0, 1, 2, 3]], [[0, 1, 2], [1, 2], [2], [0, 1, 2, 3]], [[0, 1, 2, 3], [0, 1, 2, 3], [0, 1, 2, 3], [0, 1, 2, 3]], [[0, 1, 2, 3], [0, 1, 2, 3], [0, 1, 2, 3], [3]], [[0, 1, 2, 3], [0, 1, 2, 3], [2], [0, 1, 2, 3]], [[0, 1, 2, 3], [0, 1, 2, 3], [2], [2, 3]], [[0, 1, 2, 3], [0, 1, 2, 3], [2, 3], [2, 3]], [[0, 1, 2, 3], [0, 1, 2, 3], [2, 3], [3]], [[0, 1, 2, 3], [1], [0, 1, 2, 3], [0, 1, 2, 3]], [[0, 1, 2, 3], [1], [0, 1, 2, 3], [1, 3]], [[0, 1, 2, 3], [1], [1, 2], [0, 1, 2, 3]], [[0, 1, 2, 3], [1], [1, 2], [1, 2, 3]], [[0, 1, 2, 3], [1], [1, 2, 3], [1, 2, 3]], [[0, 1, 2, 3], [1], [1, 2, 3], [1, 3]], [[0, 1, 2, 3], [1, 2], [1, 2], [0, 1, 2, 3]], [[0, 1, 2, 3], [1, 2], [1, 2], [1, 2, 3]], [[0, 1, 2, 3], [1, 2], [2], [0, 1, 2, 3]], [[0, 1, 2, 3], [1, 2], [2], [1, 2, 3]], [[0, 1, 2, 3], [1, 2, 3], [1, 2, 3], [1, 2, 3]], [[0, 1, 2, 3], [1, 2, 3], [1, 2, 3], [3]], [[0, 1, 2, 3], [1, 2, 3], [2], [1, 2, 3]], [[0, 1, 2, 3], [1, 2, 3], [2], [2, 3]], [[0, 1, 2, 3], [1, 2, 3], [2, 3], [2, 3]], [[0, 1, 2, 3], [1, 2, 3], [2, 3], [3]], [[0, 1, 2, 3], [1, 3], [0, 1, 2, 3], [1, 3]], [[0, 1, 2, 3], [1, 3], [0, 1, 2, 3], [3]], [[0, 1, 2, 3], [1, 3], [1, 2, 3], [1, 3]], [[0, 1, 2, 3], [1, 3], [1, 2, 3], [3]], [[0, 1, 3], [0, 1, 3], [0, 1, 2, 3], [0, 1, 3]], [[0, 1, 3], [0, 1, 3], [0, 1, 2, 3], [3]], [[0, 1, 3], [1], [0, 1, 2, 3], [0, 1, 3]], [[0, 1, 3], [1], [0, 1, 2, 3], [1, 3]], [[0, 1, 3], [1, 3], [0, 1, 2, 3], [1, 3]], [[0, 1, 3], [1, 3], [0, 1, 2, 3], [3]], [[0, 2], [0, 1, 2], [0, 2], [0, 1, 2, 3]], [[0, 2], [0, 1, 2], [2], [0, 1, 2, 3]], [[0, 2], [0, 1, 2, 3], [0, 2], [0, 1, 2, 3]], [[0, 2], [0, 1, 2, 3], [0, 2], [0, 2, 3]], [[0, 2], [0, 1, 2, 3], [2], [0, 1, 2, 3]], [[0, 2], [0, 1, 2, 3], [2], [0, 2, 3]], [[0, 2, 3], [0, 1, 2, 3], [0, 2, 3], [0, 2, 3]], [[0, 2, 3], [0, 1, 2, 3], [0, 2, 3], [3]], [[0, 2, 3], [0, 1, 2, 3], [2], [0, 2, 3]], [[0, 2, 3], [0, 1, 2, 3], [2], [2, 3]], [[0, 2, 3], [0, 1, 2, 3], [2, 3], [2, 3]], [[0, 2, 3], [0, 1, 2, 3], [2, 3], [3]], [[0, 3], [0, 1, 2, 3], [0, 1, 2, 3], [0, 3]], [[0, 3], [0, 1, 2, 3], [0, 1, 2, 3], [3]], [[0, 3], [0, 1, 2, 3], [0, 2, 3], [0, 3]], [[0, 3], [0, 1, 2, 3], [0, 2, 3], [3]], [[0, 3], [0, 1, 3], [0, 1, 2, 3], [0, 3]], [[0, 3], [0, 1, 3], [0, 1, 2, 3], [3]]]
def tab (n : Nat) : List (List (List Int)) := match n with
  | 1 => tab1
  | 2 => tab2
  | 3 => tab3
  | 4 => tab4
  | _ => []
def rwD (r : List (List Int)) : D := .tup (r.map rowD)
abbrev tabD (n : Nat) : List D := (tab n).map rwD
def isTab (n : Nat) : Bool := match runM n 200 [([], List.replicate n .non)] [] with
  | some out => sortOkJ out && eqL (eqDn 5) (srtD out) (tabD n)
  | none => false
set_option maxHeartbeats 0
theorem isTab1 : isTab 1 = true := by decide +kernel
theorem isTab2 : isTab 2 = true := by decide +kernel
theorem isTab3 : isTab 3 = true := by decide +kernel
theorem isTab4 : isTab 4 = true := by decide +kernel
end K29

namespace K29
open PySem L2 Ev
open PyProof.Rows hiding St
/-! ### the law's own rows: one block -/
def bitsGo (b : Int) : Nat → List D → List D
  | _, [] => []
  | k, x :: xs => if b / 2 ^ k % 2 = 1 then x :: bitsGo b (k + 1) xs else bitsGo b (k + 1) xs
def entE (e : Ent) : D := .tup [.tup e.1, .tup e.2]
def stp3 (n : Nat) (seen row left : List D) (i : Nat) (acc : List D × List Ent) : Option (List D × List Ent) :=
  let block := bitsGo (1 + (i : Nat)) 0 left
  if sortOkJ (seen ++ block) && (block.all flatD && Nat.ble (seen.length + block.length) 100) then
    let view := srtD (seen ++ block)
    let fresh := rowGo (.tup view) block 0 row
    if view.length = n then some (acc.1 ++ [.tup fresh], acc.2) else some (acc.1, acc.2 ++ [(view, fresh)])
  else none
abbrev l3a : Sf := sSet 9 (eNew (nComp [13, 12] (iEnum (wVal (eVar 7))) (gT 2 (gsCons (gN 13) (gsCons (gN 12) gsNil))) (tfB (eBin (eqF false) (eBin modF (eCall intF (aCons (eBin shrF (eVar 8) (eVar 13)) aNil)) (eC (.int 2))) (eC (.int 1)))) (eVar 12)))
abbrev l3b : Sf := sSet 10 (eCall tupQ (nSorted (lM (mBin addM (eNew (qOf (eVar 5))) (eVar 9)))))
abbrev l3c : Sf := sSet 11 (eCall tupQ (nComp [12, 14] (iEnumV (eVar 6)) (gT 2 (gsCons (gN 12) (gsCons (gN 14) gsNil))) tfYes (eIf (tfB (eIn false (eVar 12) (qOf (eVar 9)))) (eVar 10) (eVar 14))))
abbrev l3d : Sf := sIf (tfB (eBin (eqF false) (eCall lenF (aCons (eVar 10) aNil)) (eVar 0))) (sExpr (eBM appF (eVar 2) (aCons (eVar 11) aNil))) (sExpr (eBM appF (eVar 4) (aCons (eTup (aCons (eVar 10) (aCons (eVar 11) aNil))) aNil)))
abbrev l3B : Sf := sSeq l3a (sSeq l3b (sSeq l3c l3d))
abbrev l3 : Sf := sFor (iRange2 (eC (.int 1)) (eBin shlF (eC (.int 1)) (eCall lenF (aCons (eVar 7) aNil)))) (gN 8) l3B
abbrev l2a : Sf := sSetN 7 (nComp [12] (iRange1 (eVar 0)) (gN 12) (tfB (eIn true (eVar 12) (qOf (eVar 5)))) (eVar 12))
abbrev l2 : Sf := sFor (iVal (eVar 1)) (gT 2 (gsCons (gN 5) (gsCons (gN 6) gsNil))) (sSeq l2a l3)
abbrev l1 : Sf := sFor (iRange1 (eVar 0)) (gN 3) (sSeq (sSet 4 (eNew (nLst aNil))) (sSeq l2 (sSet 1 (eVar 4))))
abbrev l0 : Sf := sPar [1, 2] (aCons (eNew (nLst (aCons (eTup (aCons (eTup aNil) (aCons (eM (mBin mulTM (eTup (aCons (eTup aNil) aNil)) (eVar 0))) aNil))) aNil))) (aCons (eNew (nLst aNil)) aNil))
theorem ly_chain : b__law_every = sSeq l0 (sSeq l1 (sRet (eCall tupQ (nSorted (lOf (eVar 2)))))) := rfl
abbrev lE (n A F : Nat) (y3 y4 y5 y6 y7 y8 y9 y10 y11 y12 y13 y14 : Option D) : EEnv := [some (.int (n : Nat)), some (.loc A), some (.loc F), y3, y4, y5, y6, y7, y8, y9, y10, y11, y12, y13, y14]
structure LvAt (s : Store) (A F L : Nat) (ws fs : List D) (gs : List Ent) : Prop where
  ha : s[A]? = some (.lst ws)
  hf : s[F]? = some (.lst fs)
  hl : s[L]? = some (.lst (gs.map entE))
  af : A ≠ F
  al : A ≠ L
  fl : F ≠ L
section
variable {n A F L M N : Nat} {s : Store} {seen row left block ws fs : List D} {gs : List Ent} {y3 y4 y5 y6 y7 y8 y9 y10 y11 y12 y13 y14 : Option D} {b : Int}
theorem LvAt.push (V : LvAt s A F L ws fs gs) (xs : List O) : LvAt (s ++ xs) A F L ws fs gs := by
  have k : ∀ {l : Nat} {o : O}, s[l]? = some o → (s ++ xs)[l]? = some o := fun h => by rw [List.getElem?_append_left (lt_of_get h)]; exact h
  exact ⟨k V.ha, k V.hf, k V.hl, V.af, V.al, V.fl⟩
theorem bits_go (hl : s[M]? = some (.lst left)) : ∀ (xs : List D) (k : Nat) (y12 y13 : Option D), compF [(M, left)] (gT 2 (gsCons (gN 13) (gsCons (gN 12) gsNil))) (tfB (eBin (eqF false) (eBin modF (eCall intF (aCons (eBin shrF (eVar 8) (eVar 13)) aNil)) (eC (.int 2))) (eC (.int 1)))) (eVar 12)
      (lE n A F y3 y4 y5 y6 y7 (some (.int b)) y9 y10 y11 y12 y13 y14) (enumD k xs) s = .ok (bitsGo b k xs) s
  | [], k, y12, y13 => by simp [enumD, bitsGo, hl]
  | x :: xs, k, y12, y13 => by
    have ih := bits_go hl xs (k + 1) y12 y13
    have e1 : gT 2 (gsCons (gN 13) (gsCons (gN 12) gsNil)) (.tup [.int (k : Nat), x]) (lE n A F y3 y4 y5 y6 y7 (some (.int b)) y9 y10 y11 y12 y13 y14) s = .ok (lE n A F y3 y4 y5 y6 y7 (some (.int b)) y9 y10 y11 (some x) (some (.int (k : Nat))) y14) s := by simp
    have e3 : (tfB (eBin (eqF false) (eBin modF (eCall intF (aCons (eBin shrF (eVar 8) (eVar 13)) aNil)) (eC (.int 2))) (eC (.int 1)))) (lE n A F y3 y4 y5 y6 y7 (some (.int b)) y9 y10 y11 (some x) (some (.int (k : Nat))) y14) s = .ok (decide (b / 2 ^ k % 2 = 1)) s := by
      have q : ∀ j : Int, 0 ≤ j → (tfB (eBin (eqF false) (eBin modF (eCall intF (aCons (eBin shrF (eVar 8) (eVar 13)) aNil)) (eC (.int 2))) (eC (.int 1)))) (lE n A F y3 y4 y5 y6 y7 (some (.int b)) y9 y10 y11 (some x) (some (.int j)) y14) s = .ok (decide (b / 2 ^ j.toNat % 2 = 1)) s := fun j hj => by
        simp [hj]
        rfl
      have := q k (by omega)
      rw [Int.toNat_natCast] at this
      exact this
    rw [enumD, compF, if_pos (by simp [hl]), e1]
    simp only [R.bind]
    rw [e3]
    simp only [R.bind]
    rw [bitsGo]
    by_cases h : b / 2 ^ k % 2 = 1
    · rw [if_pos h, if_pos (by simpa using h)]
      have e4 : eVar 12 (lE n A F y3 y4 y5 y6 y7 (some (.int b)) y9 y10 y11 (some x) (some (.int (k : Nat))) y14) s = .ok x s := rfl
      rw [e4]
      simp only [R.bind]
      rw [ih]
    · rw [if_neg h, if_neg (by simpa using h), ih]
theorem fresh_go {v : D} (hN : s[N]? = some (.lst block)) (hb : block.all flatD = true) : ∀ (xs : List D) (k : Nat) (y12 y14 : Option D), compF [] (gT 2 (gsCons (gN 12) (gsCons (gN 14) gsNil))) tfYes (eIf (tfB (eIn false (eVar 12) (qOf (eVar 9)))) (eVar 10) (eVar 14))
      (lE n A F y3 y4 y5 y6 y7 y8 (some (.loc N)) (some v) y11 y12 y13 y14) (enumD k xs) s = .ok (rowGo v block k xs) s
  | [], k, y12, y14 => by simp [enumD, rowGo]
  | x :: xs, k, y12, y14 => by
    have ih := fresh_go (v := v) hN hb xs (k + 1) y12 y14
    have e1 : gT 2 (gsCons (gN 12) (gsCons (gN 14) gsNil)) (.tup [.int (k : Nat), x]) (lE n A F y3 y4 y5 y6 y7 y8 (some (.loc N)) (some v) y11 y12 y13 y14) s = .ok (lE n A F y3 y4 y5 y6 y7 y8 (some (.loc N)) (some v) y11 (some (.int (k : Nat))) y13 (some x)) s := by simp
    have e2 : eIf (tfB (eIn false (eVar 12) (qOf (eVar 9)))) (eVar 10) (eVar 14) (lE n A F y3 y4 y5 y6 y7 y8 (some (.loc N)) (some v) y11 (some (.int (k : Nat))) y13 (some x)) s = .ok (if memD (.int (k : Nat)) block = true then v else x) s := by
      have e3 : tfB (eIn false (eVar 12) (qOf (eVar 9))) (lE n A F y3 y4 y5 y6 y7 y8 (some (.loc N)) (some v) y11 (some (.int (k : Nat))) y13 (some x)) s = .ok (memD (.int (k : Nat)) block) s := by
        have q : qOf (eVar 9) (lE n A F y3 y4 y5 y6 y7 y8 (some (.loc N)) (some v) y11 (some (.int (k : Nat))) y13 (some x)) s = .ok block s := by simp [hN]
        have q2 : eVar 12 (lE n A F y3 y4 y5 y6 y7 y8 (some (.loc N)) (some v) y11 (some (.int (k : Nat))) y13 (some x)) s = .ok (.int (k : Nat)) s := rfl
        rw [ev_tfB, ev_eIn, q2, R.bind_ok, ev_kIn, q, R.bind_ok, ev_inQF, if_pos ⟨rfl, hb⟩]
        rfl
      unfold eIf
      rw [e3]
      simp only [R.bind]
      cases memD (.int (k : Nat)) block <;> rfl
    have e4 : tfYes (lE n A F y3 y4 y5 y6 y7 y8 (some (.loc N)) (some v) y11 (some (.int (k : Nat))) y13 (some x)) s = .ok true s := rfl
    rw [enumD, compF, if_pos (show wOk s [] = true from rfl), e1]
    simp only [R.bind]
    rw [e4]
    simp only [R.bind, if_true]
    rw [e2]
    simp only [R.bind]
    rw [ih]
    rfl
theorem l3a_ok (hM : s[M]? = some (.lst left)) (h8 : left.length ≤ 100) : l3a (lE n A F y3 y4 y5 y6 (some (.loc M)) (some (.int b)) y9 y10 y11 y12 y13 y14) s = .nx (lE n A F y3 y4 y5 y6 (some (.loc M)) (some (.int b)) (some (.loc s.length)) y10 y11 y12 y13 y14) (s ++ [.lst (bitsGo b 0 left)]) := by
  have hi : iEnum (wVal (eVar 7)) (lE n A F y3 y4 y5 y6 (some (.loc M)) (some (.int b)) y9 y10 y11 y12 y13 y14) s = .ok ⟨enumD 0 left, [(M, left)]⟩ s := by simp [hM]
  have e : nComp [13, 12] (iEnum (wVal (eVar 7))) (gT 2 (gsCons (gN 13) (gsCons (gN 12) gsNil))) (tfB (eBin (eqF false) (eBin modF (eCall intF (aCons (eBin shrF (eVar 8) (eVar 13)) aNil)) (eC (.int 2))) (eC (.int 1)))) (eVar 12) (lE n A F y3 y4 y5 y6 (some (.loc M)) (some (.int b)) y9 y10 y11 y12 y13 y14) s = .ok (bitsGo b 0 left) s := by
    unfold nComp
    rw [hi]
    simp only [R.bind]
    rw [if_pos (by rw [enumD_length]; exact le_line (by omega))]
    exact bits_go hM left 0 none none
  unfold l3a
  rw [ev_sSet, ev_eNew, e]
  rfl
theorem l3b_ok (hN : s[N]? = some (.lst block)) (hb : sortOk (seen ++ block) = true) (h8 : seen.length + block.length ≤ 100) : l3b (lE n A F y3 y4 (some (.tup seen)) y6 y7 y8 (some (.loc N)) y10 y11 y12 y13 y14) s = .nx (lE n A F y3 y4 (some (.tup seen)) y6 y7 y8 (some (.loc N)) (some (.tup (srtD (seen ++ block)))) y11 y12 y13 y14) (s ++ [.lst seen]) := by
  have q1 : eNew (qOf (eVar 5)) (lE n A F y3 y4 (some (.tup seen)) y6 y7 y8 (some (.loc N)) y10 y11 y12 y13 y14) s = .ok (.loc s.length) (s ++ [.lst seen]) := by simp
  have q2 : eVar 9 (lE n A F y3 y4 (some (.tup seen)) y6 y7 y8 (some (.loc N)) y10 y11 y12 y13 y14) (s ++ [.lst seen]) = .ok (.loc N) (s ++ [.lst seen]) := rfl
  have hN' : (s ++ [Ev.O.lst seen])[N]? = some (.lst block) := by rw [List.getElem?_append_left (lt_of_get hN)]; exact hN
  have hS' : (s ++ [Ev.O.lst seen])[s.length]? = some (.lst seen) := by simp
  have q3 : mBin addM (eNew (qOf (eVar 5))) (eVar 9) (lE n A F y3 y4 (some (.tup seen)) y6 y7 y8 (some (.loc N)) y10 y11 y12 y13 y14) s = .ok (.l (seen ++ block)) (s ++ [.lst seen]) := by
    unfold mBin
    rw [q1]
    simp only [R.bind_ok]
    rw [q2]
    simp only [R.bind_ok]
    rw [ev_addL, hN', hS', ev_addGet, if_pos (le_line (by omega))]
  have q4 : lM (mBin addM (eNew (qOf (eVar 5))) (eVar 9)) (lE n A F y3 y4 (some (.tup seen)) y6 y7 y8 (some (.loc N)) y10 y11 y12 y13 y14) s = .ok (seen ++ block) (s ++ [.lst seen]) := by
    show R.bind _ _ = _
    rw [q3]
    rfl
  have q5 : (eCall tupQ (nSorted (lM (mBin addM (eNew (qOf (eVar 5))) (eVar 9))))) (lE n A F y3 y4 (some (.tup seen)) y6 y7 y8 (some (.loc N)) y10 y11 y12 y13 y14) s = .ok (.tup (srtD (seen ++ block))) (s ++ [.lst seen]) := by
    show (nSorted _ _ s).bind tupQ = _
    unfold nSorted
    rw [q4]
    simp only [R.bind_ok]
    rw [if_pos hb, srtD_eq]
    rfl
  unfold l3b
  rw [ev_sSet, q5]
  rfl
theorem l3c_ok {v : D} (hN : s[N]? = some (.lst block)) (hb : block.all flatD = true) (hr : row.length ≤ 100) : l3c (lE n A F y3 y4 y5 (some (.tup row)) y7 y8 (some (.loc N)) (some v) y11 y12 y13 y14) s = .nx (lE n A F y3 y4 y5 (some (.tup row)) y7 y8 (some (.loc N)) (some v) (some (.tup (rowGo v block 0 row))) y12 y13 y14) s := by
  have hi : iEnumV (eVar 6) (lE n A F y3 y4 y5 (some (.tup row)) y7 y8 (some (.loc N)) (some v) y11 y12 y13 y14) s = .ok ⟨enumD 0 row, []⟩ s := by simp
  have e : nComp [12, 14] (iEnumV (eVar 6)) (gT 2 (gsCons (gN 12) (gsCons (gN 14) gsNil))) tfYes (eIf (tfB (eIn false (eVar 12) (qOf (eVar 9)))) (eVar 10) (eVar 14)) (lE n A F y3 y4 y5 (some (.tup row)) y7 y8 (some (.loc N)) (some v) y11 y12 y13 y14) s = .ok (rowGo v block 0 row) s := by
    unfold nComp
    rw [hi]
    simp only [R.bind]
    rw [if_pos (by rw [enumD_length]; exact le_line (by omega))]
    exact fresh_go hN hb row 0 none none
  have e2 : (eCall tupQ (nComp [12, 14] (iEnumV (eVar 6)) (gT 2 (gsCons (gN 12) (gsCons (gN 14) gsNil))) tfYes (eIf (tfB (eIn false (eVar 12) (qOf (eVar 9)))) (eVar 10) (eVar 14)))) (lE n A F y3 y4 y5 (some (.tup row)) y7 y8 (some (.loc N)) (some v) y11 y12 y13 y14) s = .ok (.tup (rowGo v block 0 row)) s := by
    show R.bind _ tupQ = _
    rw [e]
    rfl
  unfold l3c
  rw [ev_sSet, e2]
  rfl
theorem app_ok {l : Nat} {xs : List D} {d : D} {fo : Ef} {t : Af} {env : EEnv} {s1 s2 : Store} (h1 : fo env s = .ok (.loc l) s1) (hs : s1[l]? = some (.lst xs)) (h2 : t env s1 = .ok [d] s2) (h3 : s2[l]? = some (.lst xs)) (hx : xs.length < 1000) : sExpr (eBM appF fo t) env s = .nx env (s2.set l (.lst (xs ++ [d]))) := by
  have e : eBM appF fo t env s = .ok .non (s2.set l (.lst (xs ++ [d]))) := by
    unfold eBM
    rw [h1]
    simp only [R.bind_ok]
    rw [h2, if_pos (by simp [isL, hs])]
    simp only [R.bind_ok]
    rw [ev_app, h3]
    show (if xs.length < sizeLine then _ else _) = _
    rw [if_pos (by have := le_line (k := xs.length + 1) (by omega); omega)]
  rw [ev_sExpr, e]
  rfl
end
end K29

namespace K29
open PySem L2 Ev
open PyProof.Rows hiding St
/-! ### the law's own rows: the loops -/
def run3 (n : Nat) (seen row left : List D) : List Nat → List D × List Ent → Option (List D × List Ent)
  | [], acc => some acc
  | i :: is, acc => match Nat.ble acc.1.length 900 && Nat.ble acc.2.length 900 with
    | true => match stp3 n seen row left i acc with
      | some acc => run3 n seen row left is acc
      | none => none
    | false => none
def run2 (n : Nat) : List Ent → List D × List Ent → Option (List D × List Ent)
  | [], acc => some acc
  | e :: es, acc =>
    let left := restM n e.1
    match (e.1.all flatD && Nat.ble left.length 8) && Nat.ble e.2.length 100 with
    | true => match run3 n e.1 e.2 left (List.range (2 ^ left.length - 1)) acc with
      | some acc => run2 n es acc
      | none => none
    | false => none
def run1 (n : Nat) : Nat → List Ent → List D → Option (List D)
  | 0, _, fs => some fs
  | m + 1, es, fs => match run2 n es (fs, []) with
    | some (fs, es) => run1 n m es fs
    | none => none
section
variable {n A F L M N : Nat} {s : Store} {seen row left block ws fs fs' view fresh : List D} {gs gs' : List Ent} {y3 y4 y5 y6 y7 y8 y9 y10 y11 y12 y13 y14 : Option D} {b : Int} {i : Nat}
theorem LvAt.mem (V : LvAt s A F L ws fs gs) : A < s.length ∧ F < s.length ∧ L < s.length := ⟨lt_of_get V.ha, lt_of_get V.hf, lt_of_get V.hl⟩
theorem LvAt.setF (V : LvAt s A F L ws fs gs) (xs : List D) : LvAt (s.set F (.lst xs)) A F L ws xs gs := by
  obtain ⟨h1, h2, h3⟩ := V.mem
  exact ⟨by rw [List.getElem?_set_ne (fun q => V.af q.symm)]; exact V.ha, by rw [List.getElem?_set_self h2], by rw [List.getElem?_set_ne V.fl]; exact V.hl, V.af, V.al, V.fl⟩
theorem LvAt.setL (V : LvAt s A F L ws fs gs) (g : Ent) : LvAt (s.set L (.lst (gs.map entE ++ [entE g]))) A F L ws fs (gs ++ [g]) := by
  obtain ⟨h1, h2, h3⟩ := V.mem
  exact ⟨by rw [List.getElem?_set_ne (fun q => V.al q.symm)]; exact V.ha, by rw [List.getElem?_set_ne (fun q => V.fl q.symm)]; exact V.hf, by rw [List.getElem?_set_self h3, List.map_append]; rfl, V.af, V.al, V.fl⟩
theorem l3d_ok (V : LvAt s A F L ws fs gs) (h1 : fs.length ≤ 900) (h2 : gs.length ≤ 900) (hM : s[M]? = some (.lst left)) (hMF : M ≠ F) (hML : M ≠ L) : ∃ s', l3d (lE n A F y3 (some (.loc L)) y5 y6 y7 y8 y9 (some (.tup view)) (some (.tup fresh)) y12 y13 y14) s = .nx (lE n A F y3 (some (.loc L)) y5 y6 y7 y8 y9 (some (.tup view)) (some (.tup fresh)) y12 y13 y14) s' ∧ s'[M]? = some (.lst left) ∧
    LvAt s' A F L ws (if view.length = n then fs ++ [.tup fresh] else fs) (if view.length = n then gs else gs ++ [(view, fresh)]) := by
  have ec : tfB (eBin (eqF false) (eCall lenF (aCons (eVar 10) aNil)) (eVar 0)) (lE n A F y3 (some (.loc L)) y5 y6 y7 y8 y9 (some (.tup view)) (some (.tup fresh)) y12 y13 y14) s = .ok (decide (view.length = n)) s := by
    have q : ∀ k : Int, tfB (eBin (eqF false) (eCall lenF (aCons (eVar 10) aNil)) (eVar 0)) ((lE n A F y3 (some (.loc L)) y5 y6 y7 y8 y9 (some (.tup view)) (some (.tup fresh)) y12 y13 y14).set 0 (some (.int k))) s = .ok (decide (((view.length : Nat) : Int) = k)) s := fun k => by
      simp
      rfl
    have h := q (n : Nat)
    rw [show decide (view.length = n) = decide (((view.length : Nat) : Int) = (n : Nat)) from decide_eq_decide.mpr (by omega)]
    exact h
  by_cases hv : view.length = n
  · refine ⟨s.set F (.lst (fs ++ [.tup fresh])), ?_, by rw [List.getElem?_set_ne (fun q => hMF q.symm)]; exact hM, ?_⟩
    · unfold l3d
      rw [ev_sIf, ec, decide_eq_true hv]
      show sExpr _ _ _ = _
      exact app_ok (s1 := s) (s2 := s) rfl V.hf rfl V.hf (by omega)
    · rw [if_pos hv, if_pos hv]
      exact V.setF _
  · refine ⟨s.set L (.lst (gs.map entE ++ [entE (view, fresh)])), ?_, by rw [List.getElem?_set_ne (fun q => hML q.symm)]; exact hM, ?_⟩
    · unfold l3d
      rw [ev_sIf, ec, decide_eq_false hv]
      show sExpr _ _ _ = _
      have e2 := etup_of (s := s) (env := lE n A F y3 (some (.loc L)) y5 y6 y7 y8 y9 (some (.tup view)) (some (.tup fresh)) y12 y13 y14) (acons_of (show eVar 10 _ s = .ok (.tup view) s from rfl) (acons_of (show eVar 11 _ s = .ok (.tup fresh) s from rfl) (show aNil _ s = .ok [] s from rfl))) (by simp)
      exact app_ok (s1 := s) (s2 := s) rfl V.hl (acons_of e2 (show aNil _ _ = .ok [] _ from rfl)) V.hl (by rw [List.length_map]; omega)
    · rw [if_neg hv, if_neg hv]
      exact V.setL _
theorem l3B_ok (V : LvAt s A F L ws fs gs) (h1 : fs.length ≤ 900) (h2 : gs.length ≤ 900) (hM : s[M]? = some (.lst left)) (hMF : M ≠ F) (hML : M ≠ L) (h8 : left.length ≤ 100) (hr : row.length ≤ 100) (h : stp3 n seen row left i (fs, gs) = some (fs', gs')) :
    ∃ z9 z10 z11 s', l3B (lE n A F y3 (some (.loc L)) (some (.tup seen)) (some (.tup row)) (some (.loc M)) (some (.int (1 + (i : Nat)))) y9 y10 y11 y12 y13 y14) s = .nx (lE n A F y3 (some (.loc L)) (some (.tup seen)) (some (.tup row)) (some (.loc M)) (some (.int (1 + (i : Nat)))) z9 z10 z11 y12 y13 y14) s' ∧
      LvAt s' A F L ws fs' gs' ∧ s'[M]? = some (.lst left) := by
  unfold stp3 at h
  simp only at h
  split at h
  · rename_i hc
    rw [Bool.and_eq_true, Bool.and_eq_true] at hc
    obtain ⟨c1, c2, c3⟩ := hc
    rw [← sortOk_I] at c1
    have c3 := Nat.ble_eq.mp c3
    have a1 := l3a_ok (n := n) (A := A) (F := F) (b := 1 + (i : Nat)) (y3 := y3) (y4 := some (.loc L)) (y5 := some (.tup seen)) (y6 := some (.tup row)) (y9 := y9) (y10 := y10) (y11 := y11) (y12 := y12) (y13 := y13) (y14 := y14) hM h8
    obtain ⟨block, hblk⟩ : ∃ block, block = bitsGo (1 + (i : Nat)) 0 left := ⟨_, rfl⟩
    rw [← hblk] at a1 c1 c2 c3 h
    have V1 := V.push [Ev.O.lst block]
    have hM1 : (s ++ [Ev.O.lst block])[M]? = some (.lst left) := by rw [List.getElem?_append_left (lt_of_get hM)]; exact hM
    have hN1 : (s ++ [Ev.O.lst block])[s.length]? = some (.lst block) := by simp
    have a2 := l3b_ok (n := n) (A := A) (F := F) (y3 := y3) (y4 := some (.loc L)) (y6 := some (.tup row)) (y7 := some (.loc M)) (y8 := some (.int (1 + (i : Nat)))) (y10 := y10) (y11 := y11) (y12 := y12) (y13 := y13) (y14 := y14) hN1 c1 c3
    have V2 := V1.push [Ev.O.lst seen]
    have hM2 : (s ++ [Ev.O.lst block] ++ [Ev.O.lst seen])[M]? = some (.lst left) := by rw [List.getElem?_append_left (lt_of_get hM1)]; exact hM1
    have hN2 : (s ++ [Ev.O.lst block] ++ [Ev.O.lst seen])[s.length]? = some (.lst block) := by rw [List.getElem?_append_left (lt_of_get hN1)]; exact hN1
    have a3 := l3c_ok (n := n) (A := A) (F := F) (v := .tup (srtD (seen ++ block))) (y3 := y3) (y4 := some (.loc L)) (y5 := some (.tup seen)) (y7 := some (.loc M)) (y8 := some (.int (1 + (i : Nat)))) (y11 := y11) (y12 := y12) (y13 := y13) (y14 := y14) hN2 c2 hr
    obtain ⟨s', a4, hM4, V4⟩ := l3d_ok (n := n) (y3 := y3) (y5 := some (.tup seen)) (y6 := some (.tup row)) (y7 := some (.loc M)) (y8 := some (.int (1 + (i : Nat)))) (y9 := some (.loc s.length)) (view := srtD (seen ++ block)) (fresh := rowGo (.tup (srtD (seen ++ block))) block 0 row) (y12 := y12) (y13 := y13) (y14 := y14) V2 h1 h2 hM2 hMF hML
    refine ⟨_, _, _, s', then_nx a1 (then_nx a2 (then_nx a3 a4)), ?_, hM4⟩
    split at h
    · rename_i hv
      simp only [Option.some.injEq, Prod.mk.injEq] at h
      obtain ⟨rfl, rfl⟩ := h
      rwa [if_pos hv, if_pos hv] at V4
    · rename_i hv
      simp only [Option.some.injEq, Prod.mk.injEq] at h
      obtain ⟨rfl, rfl⟩ := h
      rwa [if_neg hv, if_neg hv] at V4
  · cases h
theorem loop3_ok (hMF : M ≠ F) (hML : M ≠ L) (h8 : left.length ≤ 100) (hr : row.length ≤ 100) : ∀ (is : List Nat) (s : Store) (fs : List D) (gs : List Ent) (y8 y9 y10 y11 : Option D), LvAt s A F L ws fs gs → s[M]? = some (.lst left) → run3 n seen row left is (fs, gs) = some (fs', gs') →
    ∃ z8 z9 z10 z11 s', loopF [] (gN 8) l3B (is.map fun i => .int (1 + (i : Nat))) (lE n A F y3 (some (.loc L)) (some (.tup seen)) (some (.tup row)) (some (.loc M)) y8 y9 y10 y11 y12 y13 y14) s = .nx (lE n A F y3 (some (.loc L)) (some (.tup seen)) (some (.tup row)) (some (.loc M)) z8 z9 z10 z11 y12 y13 y14) s' ∧ LvAt s' A F L ws fs' gs'
  | [], s, fs, gs, y8, y9, y10, y11, V, hM, h => by
    simp only [run3, Option.some.injEq, Prod.mk.injEq] at h
    obtain ⟨rfl, rfl⟩ := h
    exact ⟨y8, y9, y10, y11, s, by simp [loopF], V⟩
  | i :: is, s, fs, gs, y8, y9, y10, y11, V, hM, h => by
    rw [run3] at h
    split at h
    · rename_i hk
      rw [Bool.and_eq_true] at hk
      split at h
      · rename_i acc ha
        obtain ⟨f2, g2⟩ := acc
        obtain ⟨z9, z10, z11, s2, q1, q2, q3⟩ := l3B_ok (y3 := y3) (y9 := y9) (y10 := y10) (y11 := y11) (y12 := y12) (y13 := y13) (y14 := y14) V (Nat.ble_eq.mp hk.1) (Nat.ble_eq.mp hk.2) hM hMF hML h8 hr ha
        obtain ⟨x8, x9, x10, x11, s3, r1, r2⟩ := loop3_ok hMF hML h8 hr is s2 f2 g2 (some (.int (1 + (i : Nat)))) z9 z10 z11 q2 q3 h
        refine ⟨x8, x9, x10, x11, s3, ?_, r2⟩
        show loopF _ _ _ (.int (1 + (i : Nat)) :: is.map fun i => .int (1 + (i : Nat))) _ _ = _
        rw [loopF, if_pos (show wOk s [] = true from rfl)]
        have g : gN 8 (.int (1 + (i : Nat))) (lE n A F y3 (some (.loc L)) (some (.tup seen)) (some (.tup row)) (some (.loc M)) y8 y9 y10 y11 y12 y13 y14) s = .ok (lE n A F y3 (some (.loc L)) (some (.tup seen)) (some (.tup row)) (some (.loc M)) (some (.int (1 + (i : Nat)))) y9 y10 y11 y12 y13 y14) s := rfl
        rw [g, sR_ok, q1]
        exact r1
      · cases h
    · cases h
end
end K29

namespace K29
open PySem L2 Ev
open PyProof.Rows hiding St
/-! ### the law's own rows: the whole -/
section
variable {n A F L M N : Nat} {s : Store} {seen row left block ws fs fs' view fresh : List D} {gs gs' : List Ent} {y3 y4 y5 y6 y7 y8 y9 y10 y11 y12 y13 y14 : Option D} {b : Int} {i : Nat}
theorem l2a_ok (hn : n ≤ 100) (hc : seen.all flatD = true) : l2a (lE n A F y3 y4 (some (.tup seen)) y6 y7 y8 y9 y10 y11 y12 y13 y14) s = .nx (lE n A F y3 y4 (some (.tup seen)) y6 (some (.loc s.length)) y8 y9 y10 y11 y12 y13 y14) (s ++ [.lst (restM n seen)]) := by
  have e : nComp [12] (iRange1 (eVar 0)) (gN 12) (tfB (eIn true (eVar 12) (qOf (eVar 5)))) (eVar 12) (lE n A F y3 y4 (some (.tup seen)) y6 y7 y8 y9 y10 y11 y12 y13 y14) s = .ok (restM n seen) s := by
    have hi := rng_ok (n := n) (s := s) (env := lE n A F y3 y4 (some (.tup seen)) y6 y7 y8 y9 y10 y11 y12 y13 y14) hn rfl
    unfold nComp
    rw [hi]
    simp only [R.bind]
    rw [if_pos (show (intD 0 n).length ≤ sizeLine by rw [intD_length]; exact le_line (by omega)), compF_pick (rfl : wOk s [] = true) (fun d => if memD d seen = true then none else some d) (intD 0 n)]
    · rw [pick_rest, restM]
    · intro d m
      obtain ⟨j, mj, rfl⟩ := List.mem_map.mp m
      refine ⟨lE n A F y3 y4 (some (.tup seen)) y6 y7 y8 y9 y10 y11 (some (.int (0 + (j : Nat)))) y13 y14, !memD (.int (0 + (j : Nat))) seen, by simp [wipeE], ?_, fun hb => ⟨.int (0 + (j : Nat)), rfl, ?_⟩, fun hb => ?_⟩
      · simp only [ev_tfB, ev_eIn, ev_eVar, List.getElem?_cons_succ, List.getElem?_cons_zero, ev_okV, R.bind, ev_kIn, ev_qOf, ev_kQT, ev_inQT]
        rw [if_pos ⟨rfl, hc⟩]
        rfl
      · rw [if_neg (by simpa using hb)]
      · rw [if_pos (by simpa using hb)]
  unfold l2a
  rw [ev_sSetN, e]
  rfl
theorem l3_it (hM : s[M]? = some (.lst left)) (h8 : left.length ≤ 8) : iRange2 (eC (.int 1)) (eBin shlF (eC (.int 1)) (eCall lenF (aCons (eVar 7) aNil))) (lE n A F y3 y4 y5 y6 (some (.loc M)) y8 y9 y10 y11 y12 y13 y14) s = .ok ⟨(List.range (2 ^ left.length - 1)).map fun i => .int (1 + (i : Nat)), []⟩ s := by
  have p : 2 ^ left.length ≤ 2 ^ 8 := Nat.pow_le_pow_right (by omega) h8
  have p1 : 1 ≤ 2 ^ left.length := Nat.one_le_two_pow
  have q1 : eCall lenF (aCons (eVar 7) aNil) (lE n A F y3 y4 y5 y6 (some (.loc M)) y8 y9 y10 y11 y12 y13 y14) s = .ok (.int (left.length : Nat)) s := by
    have q : aCons (eVar 7) aNil (lE n A F y3 y4 y5 y6 (some (.loc M)) y8 y9 y10 y11 y12 y13 y14) s = .ok [.loc M] s := rfl
    show R.bind _ lenF = _
    rw [q, R.bind_ok, ev_lenL, hM]
    rfl
  have q2 : eBin shlF (eC (.int 1)) (eCall lenF (aCons (eVar 7) aNil)) (lE n A F y3 y4 y5 y6 (some (.loc M)) y8 y9 y10 y11 y12 y13 y14) s = .ok (.int ((2 ^ left.length : Nat) : Int)) s := by
    show R.bind (eC (.int 1) _ s) _ = _
    have q0 : eC (.int 1) (lE n A F y3 y4 y5 y6 (some (.loc M)) y8 y9 y10 y11 y12 y13 y14) s = .ok (.int 1) s := rfl
    rw [q0, R.bind_ok, q1, R.bind_ok, ev_shl]
    obtain ⟨k, hk⟩ : ∃ k : Int, k = (left.length : Nat) := ⟨_, rfl⟩
    rw [← hk, if_pos ⟨⟨by omega, by omega⟩, by decide⟩]
    rw [show k.toNat = left.length by omega, Int.one_mul, Int.natCast_pow]
    rfl
  have q0 : eC (.int 1) (lE n A F y3 y4 y5 y6 (some (.loc M)) y8 y9 y10 y11 y12 y13 y14) s = .ok (.int 1) s := rfl
  obtain ⟨m, hm⟩ : ∃ m, m = 2 ^ left.length := ⟨_, rfl⟩
  rw [← hm] at q2 p p1 ⊢
  rw [ev_iRange2, q0, R.bind_ok, ev_kRg2, q2, R.bind_ok, ev_kRg22, if_pos ⟨by decide, rgOk_nat (by omega)⟩, show (((m : Nat) : Int) - 1).toNat = m - 1 by omega]
  rfl
theorem loop2_ok (hn : n ≤ 100) {all : List Ent} : ∀ (es : List Ent) (s : Store) (fs : List D) (gs : List Ent) (y5 y6 y7 y8 y9 y10 y11 : Option D), LvAt s A F L (all.map entE) fs gs → run2 n es (fs, gs) = some (fs', gs') →
    ∃ z5 z6 z7 z8 z9 z10 z11 s', loopF [(A, all.map entE)] (gT 2 (gsCons (gN 5) (gsCons (gN 6) gsNil))) (sSeq l2a l3) (es.map entE) (lE n A F y3 (some (.loc L)) y5 y6 y7 y8 y9 y10 y11 y12 y13 y14) s = .nx (lE n A F y3 (some (.loc L)) z5 z6 z7 z8 z9 z10 z11 y12 y13 y14) s' ∧ LvAt s' A F L (all.map entE) fs' gs'
  | [], s, fs, gs, y5, y6, y7, y8, y9, y10, y11, V, h => by
    simp only [run2, Option.some.injEq, Prod.mk.injEq] at h
    obtain ⟨rfl, rfl⟩ := h
    refine ⟨y5, y6, y7, y8, y9, y10, y11, s, ?_, V⟩
    rw [List.map_nil, loopF, if_pos (wOk_lst V.ha rfl)]
  | e :: es, s, fs, gs, y5, y6, y7, y8, y9, y10, y11, V, h => by
    rw [run2] at h
    split at h
    · rename_i hk
      rw [Bool.and_eq_true, Bool.and_eq_true] at hk
      obtain ⟨⟨k1, k2⟩, k3⟩ := hk
      have k2 := Nat.ble_eq.mp k2
      have k3 := Nat.ble_eq.mp k3
      split at h
      · rename_i acc ha
        obtain ⟨f2, g2⟩ := acc
        have a1 := l2a_ok (A := A) (F := F) (s := s) (y3 := y3) (y4 := some (.loc L)) (y6 := some (.tup e.2)) (y7 := y7) (y8 := y8) (y9 := y9) (y10 := y10) (y11 := y11) (y12 := y12) (y13 := y13) (y14 := y14) hn k1
        have V1 := V.push [Ev.O.lst (restM n e.1)]
        have hM : (s ++ [Ev.O.lst (restM n e.1)])[s.length]? = some (.lst (restM n e.1)) := by simp
        obtain ⟨m1, m2, m3⟩ := V.mem
        obtain ⟨z8, z9, z10, z11, s2, q1, q2⟩ := loop3_ok (y3 := y3) (seen := e.1) (row := e.2) (y12 := y12) (y13 := y13) (y14 := y14) (by omega) (by omega) (by omega) k3 _ _ _ _ y8 y9 y10 y11 V1 hM ha
        obtain ⟨x5, x6, x7, x8, x9, x10, x11, s3, r1, r2⟩ := loop2_ok hn es s2 f2 g2 (some (.tup e.1)) (some (.tup e.2)) (some (.loc s.length)) z8 z9 z10 z11 q2 h
        refine ⟨x5, x6, x7, x8, x9, x10, x11, s3, ?_, r2⟩
        rw [List.map_cons, loopF, if_pos (wOk_lst V.ha rfl)]
        have g : gT 2 (gsCons (gN 5) (gsCons (gN 6) gsNil)) (entE e) (lE n A F y3 (some (.loc L)) y5 y6 y7 y8 y9 y10 y11 y12 y13 y14) s = .ok (lE n A F y3 (some (.loc L)) (some (.tup e.1)) (some (.tup e.2)) y7 y8 y9 y10 y11 y12 y13 y14) s := rfl
        rw [g, sR_ok, then_nx a1 (for_ok (l3_it hM k2) q1)]
        exact r1
      · cases h
    · cases h
theorem loop1_ok (hn : n ≤ 100) {out : List D} : ∀ (is : List D) (A : Nat) (s : Store) (es : List Ent) (fs : List D) (y3 y4 y5 y6 y7 y8 y9 y10 y11 : Option D), s[A]? = some (.lst (es.map entE)) → s[F]? = some (.lst fs) → A ≠ F → run1 n is.length es fs = some out →
    ∃ A' z3 z4 z5 z6 z7 z8 z9 z10 z11 s', loopF [] (gN 3) (sSeq (sSet 4 (eNew (nLst aNil))) (sSeq l2 (sSet 1 (eVar 4)))) is (lE n A F y3 y4 y5 y6 y7 y8 y9 y10 y11 y12 y13 y14) s = .nx (lE n A' F z3 z4 z5 z6 z7 z8 z9 z10 z11 y12 y13 y14) s' ∧ s'[F]? = some (.lst out)
  | [], A, s, es, fs, y3, y4, y5, y6, y7, y8, y9, y10, y11, hA, hF, ne, h => by
    simp only [List.length_nil, run1, Option.some.injEq] at h
    subst h
    exact ⟨A, y3, y4, y5, y6, y7, y8, y9, y10, y11, s, by simp [loopF], hF⟩
  | i :: is, A, s, es, fs, y3, y4, y5, y6, y7, y8, y9, y10, y11, hA, hF, ne, h => by
    rw [List.length_cons, run1] at h
    split at h
    · rename_i f2 g2 ha
      have lA := lt_of_get hA
      have lF := lt_of_get hF
      have V : LvAt (s ++ [Ev.O.lst []]) A F s.length (es.map entE) fs [] := ⟨by rw [List.getElem?_append_left lA]; exact hA, by rw [List.getElem?_append_left lF]; exact hF, by simp, ne, by omega, by omega⟩
      obtain ⟨z5, z6, z7, z8, z9, z10, z11, s2, q1, q2⟩ := loop2_ok (y3 := some i) (y12 := y12) (y13 := y13) (y14 := y14) hn es _ _ _ y5 y6 y7 y8 y9 y10 y11 V ha
      obtain ⟨A', x3, x4, x5, x6, x7, x8, x9, x10, x11, s3, r1, r2⟩ := loop1_ok hn is s.length s2 g2 f2 (some i) (some (.loc s.length)) z5 z6 z7 z8 z9 z10 z11 q2.hl q2.hf q2.fl.symm h
      refine ⟨A', x3, x4, x5, x6, x7, x8, x9, x10, x11, s3, ?_, r2⟩
      have a1 : (sSet 4 (eNew (nLst aNil))) (lE n A F (some i) y4 y5 y6 y7 y8 y9 y10 y11 y12 y13 y14) s = .nx (lE n A F (some i) (some (.loc s.length)) y5 y6 y7 y8 y9 y10 y11 y12 y13 y14) (s ++ [.lst []]) := by simp
      have hi : iVal (eVar 1) (lE n A F (some i) (some (.loc s.length)) y5 y6 y7 y8 y9 y10 y11 y12 y13 y14) (s ++ [.lst []]) = .ok ⟨es.map entE, [(A, es.map entE)]⟩ (s ++ [.lst []]) := by
        have := V.ha
        simp [this]
      have a3 : (sSet 1 (eVar 4)) (lE n A F (some i) (some (.loc s.length)) z5 z6 z7 z8 z9 z10 z11 y12 y13 y14) s2 = .nx (lE n s.length F (some i) (some (.loc s.length)) z5 z6 z7 z8 z9 z10 z11 y12 y13 y14) s2 := rfl
      rw [loopF, if_pos (show wOk s [] = true from rfl)]
      have g : gN 3 i (lE n A F y3 y4 y5 y6 y7 y8 y9 y10 y11 y12 y13 y14) s = .ok (lE n A F (some i) y4 y5 y6 y7 y8 y9 y10 y11 y12 y13 y14) s := rfl
      rw [g, sR_ok, then_nx a1 (then_nx (for_ok hi q1) a3)]
      exact r1
    · cases h
abbrev lE0 (n : Nat) : EEnv := [some (.int (n : Nat)), none, none, none, none, none, none, none, none, none, none, none, none, none, none]
theorem l0_ok (h1 : 1 ≤ n) (hn : n ≤ 100) : l0 (lE0 n) [] = .nx (lE n 0 1 none none none none none none none none none none none none) [.lst [entE ([], List.replicate n (.tup []))], .lst []] := by
  have q0 : eTup aNil (lE0 n) [] = .ok (.tup []) [] := etup_of (show aNil _ [] = .ok [] [] from rfl) (by simp)
  have q1 : eTup (aCons (eTup aNil) aNil) (lE0 n) [] = .ok (.tup [.tup []]) [] := etup_of (acons_of q0 (show aNil _ [] = .ok [] [] from rfl)) (by simp)
  have q2 : mBin mulTM (eTup (aCons (eTup aNil) aNil)) (eVar 0) (lE0 n) [] = .ok (.v (.tup (List.replicate n (.tup [])))) [] := by
    have e0 : eVar 0 (lE0 n) [] = .ok (.int (n : Nat)) [] := rfl
    unfold mBin
    rw [q1]
    simp only [R.bind_ok]
    rw [e0]
    simp only [R.bind_ok]
    obtain ⟨k, hk⟩ : ∃ k : Int, k = (n : Nat) := ⟨_, rfl⟩
    have kn : k.toNat = n := by omega
    rw [← hk]
    unfold mulTM
    simp only
    by_cases k1 : k = 1
    · rw [if_pos k1, show n = 1 by omega]
      rfl
    · rw [if_neg k1, ev_mulT, if_pos ⟨by simp, by omega, by omega, by simp⟩, kn]
      congr 3
      have : ∀ m : Nat, (List.replicate m [D.tup []]).flatten = List.replicate m (.tup []) := fun m => by
        induction m with
        | zero => rfl
        | succ m ih => rw [List.replicate_succ, List.flatten_cons, ih, List.replicate_succ]; rfl
      exact this n
  have q3 : eM (mBin mulTM (eTup (aCons (eTup aNil) aNil)) (eVar 0)) (lE0 n) [] = .ok (.tup (List.replicate n (.tup []))) [] := by
    rw [ev_eM, q2]
    rfl
  have q4 := etup_of (acons_of q0 (acons_of q3 (show aNil _ [] = .ok [] [] from rfl))) (by simp)
  have q5 := enew_of (acons_of q4 (show aNil _ [] = .ok [] [] from rfl)) (by simp)
  have q6 := acons_of q5 (acons_of (enew_of (show aNil (lE0 n) _ = .ok [] _ from rfl) (by simp)) (show aNil _ _ = .ok [] _ from rfl))
  unfold l0 sPar
  rw [q6]
  rfl
theorem lawEvery_ok (h1 : 1 ≤ n) (hn : n ≤ 100) {out : List D} (hr : run1 n n [([], List.replicate n (.tup []))] [] = some out) (hs : sortOkJ out = true) : ∃ s', f__law_every [.int (n : Nat)] [] = .ok (.tup (srtD out)) s' := by
  have hi := rng_ok (n := n) (s := [.lst [entE ([], List.replicate n (.tup []))], .lst []]) (env := lE n 0 1 none none none none none none none none none none none none) hn rfl
  obtain ⟨A', z3, z4, z5, z6, z7, z8, z9, z10, z11, s', q1, q2⟩ := loop1_ok (F := 1) (y12 := none) (y13 := none) (y14 := none) hn (out := out) (intD 0 n) 0 [.lst [entE ([], List.replicate n (.tup []))], .lst []] [([], List.replicate n (.tup []))] [] none none none none none none none none none rfl rfl (by decide) (by rw [intD_length]; exact hr)
  refine ⟨s', ?_⟩
  have a3 : (sRet (eCall tupQ (nSorted (lOf (eVar 2))))) (lE n A' 1 z3 z4 z5 z6 z7 z8 z9 z10 z11 none none none) s' = .rt (.tup (srtD out)) s' := by
    have e0 : lOf (eVar 2) (lE n A' 1 z3 z4 z5 z6 z7 z8 z9 z10 z11 none none none) s' = .ok out s' := by simp [q2]
    have e1 : (eCall tupQ (nSorted (lOf (eVar 2)))) (lE n A' 1 z3 z4 z5 z6 z7 z8 z9 z10 z11 none none none) s' = .ok (.tup (srtD out)) s' := by
      show (nSorted (lOf (eVar 2)) _ _).bind tupQ = _
      unfold nSorted
      rw [e0]
      simp only [R.bind_ok]
      rw [sortOk_I, if_pos hs, srtD_eq]
      rfl
    unfold sRet
    rw [e1]
    rfl
  have eb : b__law_every (lE0 n) [] = .rt (.tup (srtD out)) s' := then_nx (l0_ok h1 hn) (then_nx (for_ok hi q1) a3)
  unfold f__law_every semOf
  rw [if_pos (by simp)]
  have ee : (List.map some [D.int (n : Nat)] ++ List.replicate (15 - 1) none) = lE0 n := rfl
  rw [ee, eb]
end
def isLaw (n : Nat) : Bool := match run1 n n [([], List.replicate n (.tup []))] [] with
  | some out => sortOkJ out && eqL (eqDn 5) (srtD out) (tabD n)
  | none => false
set_option maxHeartbeats 0
theorem isLaw1 : isLaw 1 = true := by decide +kernel
theorem isLaw2 : isLaw 2 = true := by decide +kernel
theorem isLaw3 : isLaw 3 = true := by decide +kernel
theorem isLaw4 : isLaw 4 = true := by decide +kernel
end K29

namespace K29
open PySem L2 Ev
open PyProof.Rows hiding St
/-! ### what the defs tell -/
abbrev N4 (n : Nat) : Prop := 1 ≤ n ∧ n ≤ 4
theorem N4.cases {n : Nat} (h : N4 n) : n = 1 ∨ n = 2 ∨ n = 3 ∨ n = 4 := by
  obtain ⟨h1, h2⟩ := h
  omega
theorem run_tab {n : Nat} (h : isTab n = true) : ∃ out, runM n 200 [([], List.replicate n .non)] [] = some out ∧ sortOkJ out = true ∧ srtD out = tabD n := by
  unfold isTab at h
  split at h
  · rename_i out e
    rw [Bool.and_eq_true] at h
    exact ⟨out, e, h.1, D.eqbs_eq (by rw [← eqL_eq (eqDn_eq 5)]; exact h.2)⟩
  · cases h
theorem run_law {n : Nat} (h : isLaw n = true) : ∃ out, run1 n n [([], List.replicate n (.tup []))] [] = some out ∧ sortOkJ out = true ∧ srtD out = tabD n := by
  unfold isLaw at h
  split at h
  · rename_i out e
    rw [Bool.and_eq_true] at h
    exact ⟨out, e, h.1, D.eqbs_eq (by rw [← eqL_eq (eqDn_eq 5)]; exact h.2)⟩
  · cases h
theorem isTab_of {n : Nat} (h : N4 n) : isTab n = true := by
  rcases h.cases with rfl | rfl | rfl | rfl
  · exact isTab1
  · exact isTab2
  · exact isTab3
  · exact isTab4
theorem isLaw_of {n : Nat} (h : N4 n) : isLaw n = true := by
  rcases h.cases with rfl | rfl | rfl | rfl
  · exact isLaw1
  · exact isLaw2
  · exact isLaw3
  · exact isLaw4
theorem flats_ints : ∀ k : List Int, D.flats (k.map D.int) = true
  | [] => rfl
  | i :: k => by rw [List.map_cons, D.flats, flats_ints k]; rfl
theorem flats_rows : ∀ r : List (List Int), D.flats (r.map rowD) = true
  | [] => rfl
  | k :: r => by rw [List.map_cons, D.flats, flats_rows r, rowD, D.flat, flats_ints]; rfl
theorem flat_rw (r : List (List Int)) : D.flat (rwD r) = true := by rw [rwD, D.flat, flats_rows]
theorem flats_rws : ∀ t : List (List (List Int)), D.flats (t.map rwD) = true
  | [] => rfl
  | r :: t => by rw [List.map_cons, D.flats, flats_rws t, flat_rw]; rfl
theorem flat_tab (n : Nat) : D.flat (.tup (tabD n)) = true := by rw [D.flat, flats_rws]
abbrev pw : SemF := f_is_whole
abbrev pint : SemF := f_is_integer pw
abbrev pcm : SemF := f_check_many pint
theorem int_ok {i lo hi : Int} {s : Store} (h1 : lo ≤ i) (h2 : i ≤ hi) : pint [.int i, .int lo, .int hi] s = .ok (.bl true) s := by
  simp [b_is_integer, b_is_whole, kit_ii, kit_ib, h1, h2]
theorem cm_gen {ci : SemF} {k : Int} {s : Store} (h : ci [.int k, .int 1, .int 5] s = .ok (.bl true) s) : f_check_many ci [.int k] s = .ok .non s := by
  simp [b_check_many, h]
theorem cm_ok {n : Nat} (h : N4 n) (s : Store) : pcm [.int (n : Nat)] s = .ok .non s := by
  obtain ⟨h1, h2⟩ := h
  exact cm_gen (int_ok (by omega) (by omega))
abbrev pev : SemF := frame0 (f_every_row pcm f_blocks_of 200)
abbrev plev : SemF := frame0 f__law_every
theorem ev_ok {n : Nat} (h : N4 n) (s : Store) : pev [.int (n : Nat)] s = .ok (.tup (tabD n)) s := by
  obtain ⟨out, e1, e2, e3⟩ := run_tab (isTab_of h)
  obtain ⟨s', e⟩ := every_ok blkM (cm_ok h) (by have := h.2; omega) e1 e2
  rw [e3] at e
  exact frame0_ok rfl e (flat_tab n)
theorem lev_ok {n : Nat} (h : N4 n) (s : Store) : plev [.int (n : Nat)] s = .ok (.tup (tabD n)) s := by
  obtain ⟨out, e1, e2, e3⟩ := run_law (isLaw_of h)
  obtain ⟨s', e⟩ := lawEvery_ok h.1 (by have := h.2; omega) e1 e2
  rw [e3] at e
  exact frame0_ok rfl e (flat_tab n)
/-! whole rows -/
abbrev pch : SemF := f_check_whole_row pcm (f_is_whole_row (f_is_row f_is_tuple (f_is_lot pint f_is_ascending) (f_fits_beside f_lies_within)))
abbrev pchW : SemF := frame0 pch
def isNon (r : R D) : Bool := match r with
  | .ok .non _ => true
  | _ => false
set_option maxHeartbeats 0
theorem ch1 : ((tab 1).all fun r => isNon (pch [.int 1, rwD r] [])) = true := by decide +kernel
theorem ch2 : ((tab 2).all fun r => isNon (pch [.int 2, rwD r] [])) = true := by decide +kernel
theorem ch3 : ((tab 3).all fun r => isNon (pch [.int 3, rwD r] [])) = true := by decide +kernel
end K29

namespace K29
open PySem L2 Ev
open PyProof.Rows hiding St
/-! ### rows by their numbers -/
set_option maxHeartbeats 0 in
theorem ch4 : ((tab 4).all fun r => isNon (pch [.int 4, rwD r] [])) = true := by decide +kernel
def idOk (n : Nat) : Bool := (List.range (tab n).length).all fun k => match (tab n)[k]? with
  | some r => (match idxP (rwD r).dat 0 (D.dats (tabD n)) with
    | some j => Nat.beq j k
    | none => false)
  | none => false
set_option maxHeartbeats 0
theorem id1 : idOk 1 = true := by decide +kernel
theorem id2 : idOk 2 = true := by decide +kernel
theorem id3 : idOk 3 = true := by decide +kernel
theorem id4 : idOk 4 = true := by decide +kernel
def smI (i : Int) : Bool := match i with
  | .ofNat n => Nat.ble n 9
  | .negSucc _ => false
def smOk (n : Nat) : Bool := Nat.ble (tab n).length 75 && (tab n).all fun r => Nat.ble r.length 4 && r.all fun k => Nat.ble k.length 4 && k.all smI
theorem sm1 : smOk 1 = true := by decide +kernel
theorem sm2 : smOk 2 = true := by decide +kernel
theorem sm3 : smOk 3 = true := by decide +kernel
theorem sm4 : smOk 4 = true := by decide +kernel
theorem idOk_of {n : Nat} (h : N4 n) : idOk n = true := by
  rcases h.cases with rfl | rfl | rfl | rfl
  · exact id1
  · exact id2
  · exact id3
  · exact id4
theorem smOk_of {n : Nat} (h : N4 n) : smOk n = true := by
  rcases h.cases with rfl | rfl | rfl | rfl
  · exact sm1
  · exact sm2
  · exact sm3
  · exact sm4
theorem chOk_of {n : Nat} (h : N4 n) : ((tab n).all fun r => isNon (pch [.int (n : Nat), rwD r] [])) = true := by
  rcases h.cases with rfl | rfl | rfl | rfl
  · exact ch1
  · exact ch2
  · exact ch3
  · exact ch4
theorem ch_ok {n : Nat} (h : N4 n) {r : List (List Int)} (m : r ∈ tab n) (s : Store) : pchW [.int (n : Nat), rwD r] s = .ok .non s := by
  have e := List.all_eq_true.mp (chOk_of h) r m
  unfold isNon at e
  split at e
  · rename_i s2 q
    exact frame0_ok (by simp [D.flats, flat_rw, D.flat]) q rfl
  · cases e
theorem id_ok {n k : Nat} (h : N4 n) {r : List (List Int)} (e : (tab n)[k]? = some r) : idxP (rwD r).dat 0 (D.dats (tabD n)) = some k := by
  have lk := (List.getElem?_eq_some_iff.mp e).1
  have q := List.all_eq_true.mp (idOk_of h) k (List.mem_range.mpr lk)
  rw [e] at q
  simp only at q
  split at q
  · rename_i j ej
    rw [ej, Nat.eq_of_beq_eq_true q]
  · cases q
/-! what may be told -/
theorem rps_map {A : Type} {n c : Nat} {f : A → PyData} : ∀ (xs : List A), (∀ x ∈ xs, Rp n c (f x)) → Rps n ((c + 2) * xs.length) (xs.map f)
  | [], _ => Rps.nil
  | x :: xs, h => Rps.cons (h x List.mem_cons_self) (rps_map xs fun y m => h y (List.mem_cons_of_mem _ m)) (by rw [List.length_cons, Nat.mul_succ]; omega)
theorem dats_map {A : Type} {f : A → D} : ∀ xs : List A, D.dats (xs.map f) = xs.map fun x => (f x).dat
  | [] => rfl
  | x :: xs => by rw [List.map_cons, D.dats, dats_map xs]; rfl
def natRp (n : Nat) : Bool := decide ((n : Int).natAbs.log2 < 1920) && decide ((PyData.shown (.int (n : Int))).length ≤ 20)
theorem natRp_all : ((List.range 10).all natRp) = true := by decide +kernel
theorem rp_sm {n : Nat} {i : Int} (h : smI i = true) : Rp n 20 (.int i) := by
  cases i with
  | ofNat m => exact Rp.int' (List.all_eq_true.mp natRp_all m (List.mem_range.mpr (by have := Nat.ble_eq.mp h; omega)))
  | negSucc m => cases h
theorem rp_view {n : Nat} {k : List Int} (hl : k.length ≤ 4) (h : k.all smI = true) : Rp (n + 1) 91 (rowD k).dat := by
  have q := rps_map (n := n) (c := 20) (f := fun i : Int => PyData.int i) k fun i m => rp_sm (List.all_eq_true.mp h i m)
  rw [rowD, D.dat, dats_map]
  exact q.tup (Nat.le_refl _) (by omega)
theorem rp_row {n : Nat} {r : List (List Int)} (hl : r.length ≤ 4) (h : (r.all fun k => Nat.ble k.length 4 && k.all smI) = true) : Rp (n + 2) 375 (rwD r).dat := by
  have q := rps_map (n := n + 1) (c := 91) (f := fun k : List Int => (rowD k).dat) r fun k m => by
    have z := List.all_eq_true.mp h k m
    rw [Bool.and_eq_true] at z
    exact rp_view (Nat.ble_eq.mp z.1) z.2
  rw [rwD, D.dat, dats_map]
  exact q.tup (Nat.le_refl _) (by omega)
theorem row_rp {n m : Nat} (h : N4 n) {r : List (List Int)} (mr : r ∈ tab n) : Rp (m + 2) 375 (rwD r).dat := by
  have e := smOk_of h
  unfold smOk at e
  rw [Bool.and_eq_true] at e
  have z := List.all_eq_true.mp e.2 r mr
  rw [Bool.and_eq_true] at z
  exact rp_row (Nat.ble_eq.mp z.1) z.2
theorem tab_len {n : Nat} (h : N4 n) : (tab n).length ≤ 75 := by
  have e := smOk_of h
  unfold smOk at e
  rw [Bool.and_eq_true] at e
  exact Nat.ble_eq.mp e.1
theorem tab_rp {n m : Nat} (h : N4 n) : Rp (m + 3) 30000 (D.tup (tabD n)).dat := by
  have q := rps_map (n := m + 2) (c := 375) (f := fun r : List (List Int) => (rwD r).dat) (tab n) fun r mr => row_rp h mr
  have := tab_len h
  rw [D.dat, dats_map]
  exact q.tup (Nat.le_refl _) (by omega)
theorem repr_flat {d : D} {c : Nat} (hf : d.flat = true) (h : Rp 12 c d.dat) (hc : c ≤ 16777216) (s : Store) : ∃ z, reprF [d] s = .ok (.str z) s := by
  refine ⟨d.dat.shown, ?_⟩
  show reprP (pd s d) s = _
  have e : pd s d = some d.dat := pdW_flat hf
  rw [e]
  exact reprP_ok' h hc
theorem repr_row {n : Nat} (h : N4 n) {r : List (List Int)} (m : r ∈ tab n) (s : Store) : ∃ z, reprF [rwD r] s = .ok (.str z) s := repr_flat (flat_rw r) (row_rp (m := 10) h m) (by omega) s
theorem repr_tab {n : Nat} (h : N4 n) (s : Store) : ∃ z, reprF [.tup (tabD n)] s = .ok (.str z) s := repr_flat (flat_tab n) (tab_rp (m := 9) h) (by omega) s
theorem repr_int {i : Int} (h : 0 ≤ i) (h2 : i ≤ 99) (s : Store) : ∃ z, reprF [.int i] s = .ok (.str z) s := by
  have q : ((List.range 100).all natRp) = true := by decide +kernel
  obtain ⟨m, rfl⟩ := Int.eq_ofNat_of_zero_le h
  exact repr_flat rfl (Rp.int' (n := 12) (List.all_eq_true.mp q m (List.mem_range.mpr (by omega)))) (by omega) s
/-! row_at, number_of -/
def EvM (c : SemF) : Prop := ∀ (n : Nat), N4 n → ∀ s : Store, c [.int (n : Nat)] s = .ok (.tup (tabD n)) s
def RowM (c : SemF) : Prop := ∀ (n k : Nat) (r : List (List Int)), N4 n → (tab n)[k]? = some r → ∀ s : Store, c [.int (n : Nat), .int (k : Nat)] s = .ok (rwD r) s
def NumM (c : SemF) : Prop := ∀ (n k : Nat) (r : List (List Int)), N4 n → (tab n)[k]? = some r → ∀ s : Store, c [.int (n : Nat), rwD r] s = .ok (.int (k : Nat)) s
def ChM (c : SemF) : Prop := ∀ (n : Nat) (r : List (List Int)), N4 n → r ∈ tab n → ∀ s : Store, c [.int (n : Nat), rwD r] s = .ok .non s
def IntM (c : SemF) : Prop := ∀ (i lo hi : Int), lo ≤ i → i ≤ hi → ∀ s : Store, c [.int i, .int lo, .int hi] s = .ok (.bl true) s
theorem evM : EvM pev := fun _ h s => ev_ok h s
theorem levM : EvM plev := fun _ h s => lev_ok h s
theorem chM : ChM pchW := fun _ _ h m s => ch_ok h m s
theorem intM : IntM pint := fun _ _ _ h1 h2 _ => int_ok h1 h2
theorem tab_get {n k : Nat} {r : List (List Int)} (e : (tab n)[k]? = some r) : (tabD n)[k]? = some (rwD r) := by rw [List.getElem?_map, e]; rfl
theorem ix_ok {n k : Nat} {r : List (List Int)} (h : N4 n) (e : (tab n)[k]? = some r) (s : Store) : ixF (.tup (tabD n)) (.int (k : Nat)) s = .ok (rwD r) s := by
  have lk := (List.getElem?_eq_some_iff.mp e).1
  have l75 := tab_len h
  have q := tab_get e
  have le : (tabD n).length = (tab n).length := List.length_map _
  have ea : atI (tabD n) (k : Int) = some (rwD r) := by
    unfold atI ixN
    rw [if_pos (by omega), if_pos (by omega)]
    simp only [Option.bind_some, Int.toNat_natCast]
    exact q
  unfold ixF
  simp only [ea]
  rfl
theorem row_ok {ce ci : SemF} (he : EvM ce) (hi : IntM ci) : RowM (f_row_at ce ci) := fun n k r h e s => by
  have lk := (List.getElem?_eq_some_iff.mp e).1
  have q1 := he n h s
  have le : (tabD n).length = (tab n).length := List.length_map _
  have q2 := hi (k : Int) 0 ((((tabD n).length : Nat) : Int) - 1) (by omega) (by omega) s
  have q3 := ix_ok h e s
  generalize tabD n = T at q1 q2 q3
  have a1 : (sSet 2 (eCall ce (aCons (eVar 0) aNil))) [some (.int (n : Nat)), some (.int (k : Nat)), none] s = .nx [some (.int (n : Nat)), some (.int (k : Nat)), some (.tup T)] s := by
    have q : (eCall ce (aCons (eVar 0) aNil)) [some (.int (n : Nat)), some (.int (k : Nat)), none] s = .ok (.tup T) s := q1
    rw [ev_sSet, q]
    rfl
  have a2 : (sIf (tfNot (tfB (eCall ci (aCons (eVar 1) (aCons (eC (.int 0)) (aCons (eBin subF (eCall lenF (aCons (eVar 2) aNil)) (eC (.int 1))) aNil)))))) sBad sNil) [some (.int (n : Nat)), some (.int (k : Nat)), some (.tup T)] s = .nx [some (.int (n : Nat)), some (.int (k : Nat)), some (.tup T)] s := by
    have q : (eCall ci (aCons (eVar 1) (aCons (eC (.int 0)) (aCons (eBin subF (eCall lenF (aCons (eVar 2) aNil)) (eC (.int 1))) aNil)))) [some (.int (n : Nat)), some (.int (k : Nat)), some (.tup T)] s = .ok (.bl true) s := q2
    rw [ev_sIf]
    unfold tfNot
    rw [ev_tfB, q]
    rfl
  have a3 : (sRet (eBin ixF (eVar 2) (eVar 1))) [some (.int (n : Nat)), some (.int (k : Nat)), some (.tup T)] s = .rt (rwD r) s := by
    have q : (eBin ixF (eVar 2) (eVar 1)) [some (.int (n : Nat)), some (.int (k : Nat)), some (.tup T)] s = .ok (rwD r) s := q3
    unfold sRet
    rw [q]
    rfl
  have eb : b_row_at ce ci [some (.int (n : Nat)), some (.int (k : Nat)), none] s = .rt (rwD r) s := then_nx a1 (then_nx a2 a3)
  unfold f_row_at semOf
  rw [if_pos (by simp)]
  have ee : (List.map some [D.int (n : Nat), D.int (k : Nat)] ++ List.replicate (3 - 2) none) = [some (.int (n : Nat)), some (.int (k : Nat)), none] := rfl
  rw [ee, eb]
theorem num_ok {cc ce : SemF} (hc : ChM cc) (he : EvM ce) : NumM (f_number_of cc ce) := fun n k r h e s => by
  have mr : r ∈ tab n := List.mem_of_getElem? e
  have q1 := he n h s
  have q2 := hc n r h mr s
  have q3 := id_ok h e
  have s1 : SeqAt.shaped (rwD r).dat = true := (row_rp (m := 10) h mr).shaped (by decide)
  have s2 : SeqAt.shaped (D.tup (tabD n)).dat = true := (tab_rp (m := 9) h).shaped (by decide)
  have p1 : pd s (rwD r) = some (rwD r).dat := pdW_flat (flat_rw r)
  have p2 : pd s (.tup (tabD n)) = some (D.tup (tabD n)).dat := pdW_flat (flat_tab n)
  have a1 : (sExpr (eCall cc (aCons (eVar 0) (aCons (eVar 1) aNil)))) [some (.int (n : Nat)), some (rwD r)] s = .nx [some (.int (n : Nat)), some (rwD r)] s := by
    have q : (eCall cc (aCons (eVar 0) (aCons (eVar 1) aNil))) [some (.int (n : Nat)), some (rwD r)] s = .ok .non s := q2
    rw [ev_sExpr, q]
    rfl
  have a2 : (sRet (eIdxZ (eCall ce (aCons (eVar 0) aNil)) (eVar 1))) [some (.int (n : Nat)), some (rwD r)] s = .rt (.int (k : Nat)) s := by
    have w1 : (eCall ce (aCons (eVar 0) aNil)) [some (.int (n : Nat)), some (rwD r)] s = .ok (.tup (tabD n)) s := q1
    have w2 : eVar 1 [some (.int (n : Nat)), some (rwD r)] s = .ok (rwD r) s := rfl
    have w : eIdxZ (eCall ce (aCons (eVar 0) aNil)) (eVar 1) [some (.int (n : Nat)), some (rwD r)] s = .ok (.int (k : Nat)) s := by
      unfold eIdxZ
      rw [w1]
      simp only [R.bind_ok]
      rw [w2]
      simp only [R.bind_ok]
      rw [p1, p2]
      rw [D.dat] at s2 ⊢
      simp only
      rw [if_pos ⟨s1, s2⟩, q3]
    unfold sRet
    rw [w]
    rfl
  have eb : b_number_of cc ce [some (.int (n : Nat)), some (rwD r)] s = .rt (.int (k : Nat)) s := then_nx a1 a2
  unfold f_number_of semOf
  rw [if_pos (by simp)]
  have ee : (List.map some [D.int (n : Nat), rwD r] ++ List.replicate (2 - 2) none) = [some (.int (n : Nat)), some (rwD r)] := rfl
  rw [ee, eb]
end K29

namespace K29
open PySem L2 Ev
open PyProof.Rows hiding St

theorem take_ok : Takes (frame1 f__law_take) := by
  intro st l a b n k u hl hp hk hu hu2
  obtain ⟨a0, b0, b1, n0, n1⟩ := hp
  have key : ∃ d a' n' s2, 0 ≤ d ∧ d < u ∧ PotOk a' b n' (k + 1) ∧ f__law_take [.loc 0, .int u] [.lst [.int a, .int b, .int n]] = .ok (.int d) (.lst [.int a', .int b, .int n'] :: s2) := by
    have hu3 : u < 1073741824 := by omega
    have at0 : ∀ x y z : D, atI [x, y, z] 0 = some x := fun _ _ _ => rfl
    have at1 : ∀ x y z : D, atI [x, y, z] 1 = some y := fun _ _ _ => rfl
    have at2 : ∀ x y z : D, atI [x, y, z] 2 = some z := fun _ _ _ => rfl
    by_cases ha : 0 < a
    · refine ⟨a % u, a / u, n, [], Int.emod_nonneg _ (by omega), Int.emod_lt_of_pos _ hu, ⟨Int.ediv_nonneg a0 (by omega), b0, b1, n0, by omega⟩, ?_⟩
      simp [b__law_take, -ev_atI, at0, at1, at2, ixN, ha, hu, hu3, szL]
    · have ha0 : a = 0 := by omega
      subst ha0
      obtain ⟨p, hp, p0, p1⟩ : ∃ p : Int, atI [D.int 2147483647, D.int 2147483629, D.int 2147483587, D.int 2147483579, D.int 2147483563] ((n + 1) % 5) = some (.int p) ∧ 0 < p ∧ p < 2147483648 := by
        have h : (n + 1) % 5 = 0 ∨ (n + 1) % 5 = 1 ∨ (n + 1) % 5 = 2 ∨ (n + 1) % 5 = 3 ∨ (n + 1) % 5 = 4 := by omega
        rcases h with h | h | h | h | h <;> rw [h] <;> exact ⟨_, rfl, by decide, by decide⟩
      have hn : 0 ≤ (n + 1) ∧ (n + 1) ≤ 100001 := by omega
      have hsq : 0 ≤ (n + 1) * (n + 1) ∧ (n + 1) * (n + 1) ≤ 100001 * 100001 := ⟨Int.mul_nonneg hn.1 hn.1, Int.mul_le_mul hn.2 hn.2 hn.1 (by decide)⟩
      have hb : 99887 * (n + 1) * (n + 1) = 99887 * ((n + 1) * (n + 1)) := Int.mul_assoc _ _ _
      have m1 : mulOk 99887 (n + 1) = true := mulOk_l (by decide)
      have m2 : mulOk (99887 * (n + 1)) (n + 1) = true := mulOk_r (by omega)
      have m3 : mulOk 307 (n + 1) = true := mulOk_l (by decide)
      have w : powOk (b + 99887 * (n + 1) * (n + 1) + 1151) 3 = true := powOk_3 (by omega)
      have m4 : ∀ x y : Int, mulOk (x % p) y = true := fun x y => mulOk_l (by
        have h1 := Int.emod_nonneg x (b := p) (by omega)
        have h2 := Int.emod_lt_of_pos x p0
        omega)
      refine ⟨((b + 99887 * (n + 1) * (n + 1) + 1151) ^ 3 % p * ((b + 99887 * (n + 1) * (n + 1) + 1151) ^ 3 % p % 10645 + 307 * (n + 1)) / 131) % u, 0, n + 1, [.lst [D.int 2147483647, D.int 2147483629, D.int 2147483587, D.int 2147483579, D.int 2147483563]], Int.emod_nonneg _ (by omega), Int.emod_lt_of_pos _ hu, ⟨by omega, b0, b1, by omega, by omega⟩, ?_⟩
      have z1 : ¬ ((0 : Int) < 0) := by omega
      have st1 : ixN 3 2 = some 2 := rfl
      simp [b__law_take, -ev_atI, at0, at1, at2, hp, p0, hu, szL, ev_pow, m1, m2, m3, m4, w, st1]
  obtain ⟨d, a', n', s2, h1, h2, h3, h4⟩ := key
  exact ⟨d, a', n', h1, h2, h3, frame1_ok hl rfl flat_pot h4 rfl flat_pot⟩
theorem pot_ok (ns : List Int) (st : Store) (l : Nat) (p : Int) (hl : st[l]? = some (.ro ns)) (p0 : 0 ≤ p) (pm : p < 1000) : ∃ a b, PotOk a b 0 0 ∧ f__law_pot [.loc l, .int p] st = .ok (.loc st.length) (st ++ [.lst [.int a, .int b, .int 0]]) := by
  have w1 : powOk 10 60 = true := by decide +kernel
  have w2 : powOk 1000000000000000000000000000000000000000000000000000000000000 5 = true := by decide +kernel
  have w3 : powOk 10 18 = true := by decide +kernel
  have main : ∀ c : Int, ∃ a b, PotOk a b 0 0 ∧ a = (if c < 0 then -c else c) % 1000000000000000000000000000000000000000000000000000000000000000000000000000000000000000000000000000000000000000000000000000000000000000000000000000000000000000000000000000000000000000000000000000000000000000000000000000000000000000000000000000000000000000000000000000000000000000000000000000000000000 * (if 1000000000000000000 ≤ (if c < 0 then -c else c) then 1 else 0) ∧ b = (c % 2305843009213693951 * 85013 + 9809 * p * p + 499) % 2305843009213693921 := fun c => by
    refine ⟨_, _, ⟨?_, Int.emod_nonneg _ (by decide), ?_, by decide, by decide⟩, rfl, rfl⟩
    · exact Int.mul_nonneg (Int.emod_nonneg _ (by decide)) (ite01 _)
    · have := Int.emod_lt_of_pos (c % 2305843009213693951 * 85013 + 9809 * p * p + 499) (b := 2305843009213693921) (by decide)
      omega
  have m2 : ∀ c : Int, mulOk ((if c < 0 then -c else c) % 1000000000000000000000000000000000000000000000000000000000000000000000000000000000000000000000000000000000000000000000000000000000000000000000000000000000000000000000000000000000000000000000000000000000000000000000000000000000000000000000000000000000000000000000000000000000000000000000000000000000000) (if 1000000000000000000 ≤ (if c < 0 then -c else c) then 1 else 0) = true := fun c => mulOk_r (ite01n _)
  have m3 : ∀ c : Int, mulOk (c % 2305843009213693951) 85013 = true := fun c => mulOk_r (by decide)
  have m4 : mulOk 9809 p = true := mulOk_l (by decide)
  have m5 : mulOk (9809 * p) p = true := mulOk_r (by omega)
  have m6 : mulOk 1711 p = true := mulOk_l (by decide)
  by_cases hp : p < ns.length
  · have hn : p.toNat < ns.length := by omega
    have e : atI (ns.map D.int) p = some (.int ns[p.toNat]) := by
      unfold atI ixN
      simp [p0, hp, List.getElem?_eq_getElem hn]
    obtain ⟨a, b, ok, ea, eb⟩ := main ns[p.toNat]
    refine ⟨a, b, ok, ?_⟩
    subst ea
    subst eb
    simp [b__law_pot, -ev_atI, hl, hp, e, ev_pow, w1, w2, w3, m2, m3, m4, m5, szL]
  · have e : Ev.cutD (ns.map D.int) none (some 1) = (ns.take 1).map D.int := by
      cases ns <;> simp [Ev.cutD, HT.sIx]
    have e2 : intsD (List.take 1 (List.map D.int ns)) = some (List.take 1 ns) := by
      rw [← List.map_take]
      exact intsD_map _
    obtain ⟨a, b, ok, ea, eb⟩ := main ((ns.take 1).sum % 1000003 + 1711 * p + 949)
    refine ⟨a, b, ok, ?_⟩
    subst ea
    subst eb
    simp [b__law_pot, -ev_atI, hl, hp, e, ev_pow, w1, w2, w3, m2, m3, m4, m5, m6, szL, sumQ, e2]

theorem cells_ok (ns : List Int) (hl : ns.length ≤ 63) : ∃ m : Nat, m ≤ 1 ∧ f__law_cells [.loc 0, .int 1] [.ro ns] = .ok (.loc 1) [.ro ns, .lst (intD 0 m)] := by
  obtain ⟨K, hK, k1, k2⟩ : ∃ K : Int, K = (if (if (ns.length : Int) < 1 then (ns.length : Int) else 1) > 1 then (if (ns.length : Int) < 1 then (ns.length : Int) else 1) else 1) ∧ 1 ≤ K ∧ K ≤ 1 := ⟨_, rfl, by split <;> omega, by split <;> (try split) <;> omega⟩
  have hr : rgF 0 K = fun s => R.ok (intD 0 K.toNat) s := by
    funext s
    have r1 : rgOk 0 = true := by decide
    have r2 : rgOk K = true := by simp [rgOk]; omega
    simp [rgF, r1, r2]
    omega
  refine ⟨K.toNat, by omega, ?_⟩
  simp [b__law_cells, szL, -gt_iff_lt, ← hK, hr]
theorem law_run (RR : SemF) (hR : ∀ (a b : Int) (st : Store) (l : Nat), st[l]? = some (.lst [.int a, .int b, .int 0]) → PotOk a b 0 0 → ∃ ys, RR [.loc l] st = .ok (.bl true) (st.set l (.lst ys))) (ns : List Int) (hl : ns.length ≤ 63) :
    ∃ st', f_law f__law_cells RR f__law_pot [.loc 0] [.ro ns] = .ok (.bl true) st' := by
  obtain ⟨m, hm, ec⟩ := cells_ok ns hl
  have lm : (intD 0 m).length = m := intD_length _ _
  obtain ⟨vs, st', q1, q2, q3, q4⟩ := compF_invW (gf := gN 1) (tf := tfYes) (ef := eCall RR (aCons (eCall f__law_pot (aCons (eVar 0) (aCons (eVar 1) aNil))) aNil)) (env := [some (.loc 0), none]) (ws := [(1, intD 0 m)])
    (· = .bl true) (fun _ s => s[0]? = some (.ro ns) ∧ s[1]? = some (.lst (intD 0 m))) (fun j s h => by simp [h.2]) (intD 0 m) 0 [.ro ns, .lst (intD 0 m)] ⟨rfl, rfl⟩ (fun d hd j s hj hI => by
      obtain ⟨i, hi, rfl⟩ := List.mem_map.mp hd
      have hi' := List.mem_range.mp hi
      obtain ⟨a, b, ok, ep⟩ := pot_ok ns s 0 (0 + (i : Int)) hI.1 (by omega) (by omega)
      obtain ⟨ys, er⟩ := hR a b (s ++ [.lst [.int a, .int b, .int 0]]) s.length (by simp) ok
      have l1 : 1 < s.length := lt_of_get hI.2
      refine ⟨_, .bl true, (s ++ [O.lst [.int a, .int b, .int 0]]).set s.length (.lst ys), rfl, rfl, ?_, rfl, ?_, ?_⟩
      · simp only [ev_eCall, ev_aCons, ev_eVar, List.set_cons_succ, List.set_cons_zero, List.getElem?_cons_succ, List.getElem?_cons_zero, ev_okV, R.bind_ok, ev_kCons, ev_aNil, ev_kCons2]
        rw [ep]
        simp only [R.bind_ok, ev_kCons, ev_aNil, ev_kCons2]
        exact er
      · rw [List.getElem?_set_ne (by omega), List.getElem?_append_left (by omega)]
        exact hI.1
      · rw [List.getElem?_set_ne (by omega), List.getElem?_append_left (by omega)]
        exact hI.2)
  have hz : m ≤ sizeLine := by rw [szL]; omega
  refine ⟨st', ?_⟩
  have e0 : f_law f__law_cells RR f__law_pot [.loc 0] [.ro ns] = outS (b_law f__law_cells RR f__law_pot [some (.loc 0), none] [.ro ns]) := rfl
  rw [e0]
  simp [b_law, -ev_semOf, ec, lm, hz, q1, allQ_true q3]

end K29

namespace K29
open PySem L2 Ev
open PyProof.Rows hiding St
/-! ### drawing -/
theorem set_back {st : Store} {i : Nat} {o : O} (h : st[i]? = some o) : st.set i o = st := by
  apply List.ext_getElem?
  intro j
  by_cases e : i = j
  · subst e
    rw [List.getElem?_set_self (lt_of_get h), h]
  · rw [List.getElem?_set_ne e]
abbrev someB (T : SemF) : Sf := sExpr (eBM appF (eVar 4) (aCons (eBM popAtF (eVar 3) (aCons (eCall T (aCons (eVar 0) (aCons (eCall lenF (aCons (eVar 3) aNil)) aNil))) aNil)) aNil))
theorem some_end {T : SemF} {S : Store} {l m n : Nat} {k : Int} {xs : List D} (gm : S[m]? = some (.lst xs)) (hr : rgOk k = true) (ht : k.toNat = n) {e' : EEnv} {s' : Store} {L : Nat} (he : e'[4]? = some (some (.loc L)))
   (h1 : loopF [] (gN 5) (someB T) (intD 0 n) [some (.loc l), some (.loc m), some (.int k), some (.loc S.length), some (.loc (S.length + 1)), none] (S ++ [.lst xs, .lst []]) = .nx e' s') : f__law_some T [.loc l, .loc m, .int k] S = .ok (.loc L) s' := by
  simp [b__law_some, gm, hr, ht, szL, h1, he]
theorem some_ok {T : SemF} (hT : Takes T) {st : Store} {l m n : Nat} {xs : List D} {a b q k : Int} (hl : st[l]? = some (.lst [.int a, .int b, .int q])) (hp : PotOk a b q k) (hm : st[m]? = some (.lst xs)) (hlm : l ≠ m) (hn : n ≤ xs.length) (hx : xs.length ≤ 50) (hk : k + n < 100000) :
    ∃ ys left a' q', f__law_some T [.loc l, .loc m, .int (n : Int)] st = .ok (.loc (st.length + 1)) (st.set l (.lst [.int a', .int b, .int q']) ++ [.lst left, .lst ys]) ∧ (ys ++ left).Perm xs ∧ ys.length = n ∧ PotOk a' b q' (k + n) := by
  have ll := lt_of_get hl
  have g0 : ∀ (P r f : O), (st.set l P ++ [r, f])[l]? = some P := fun P r f => by rw [List.getElem?_append_left (by rw [List.length_set]; exact ll), List.getElem?_set_self ll]
  have g1 : ∀ (P r f : O), (st.set l P ++ [r, f])[st.length]? = some r := fun P r f => by simp
  have g2 : ∀ (P r f : O), (st.set l P ++ [r, f])[st.length + 1]? = some f := fun P r f => by simp
  have s0 : ∀ (P Q r f : O), (st.set l P ++ [r, f]).set l Q = st.set l Q ++ [r, f] := fun P Q r f => by rw [List.set_append_left _ _ (by rw [List.length_set]; exact ll), List.set_set]
  have s1 : ∀ (P r f z : O), (st.set l P ++ [r, f]).set st.length z = st.set l P ++ [z, f] := fun P r f z => by simp
  have s2 : ∀ (P r f z : O), (st.set l P ++ [r, f]).set (st.length + 1) z = st.set l P ++ [r, z] := fun P r f z => by simp
  have st0 : st = st.set l (.lst [.int a, .int b, .int q]) := (set_back hl).symm
  obtain ⟨e', st', h1, f, r, a', q', x, he, hs, pm, fl, ok⟩ := loopF_nx (ws := []) (gf := gN 5) (bf := sExpr (eBM appF (eVar 4) (aCons (eBM popAtF (eVar 3) (aCons (eCall T (aCons (eVar 0) (aCons (eCall lenF (aCons (eVar 3) aNil)) aNil))) aNil)) aNil)))
    (fun j e s => ∃ (f r : List D) (a' q' : Int) (x : Option D), e = [some (.loc l), some (.loc m), some (.int (n : Int)), some (.loc st.length), some (.loc (st.length + 1)), x] ∧ s = st.set l (.lst [.int a', .int b, .int q']) ++ [.lst r, .lst f] ∧ (f ++ r).Perm xs ∧ f.length = j ∧ PotOk a' b q' (k + j))
    (fun _ _ _ _ => rfl) (intD 0 n) [some (.loc l), some (.loc m), some (.int (n : Int)), some (.loc st.length), some (.loc (st.length + 1)), none] (st.set l (.lst [.int a, .int b, .int q]) ++ [.lst xs, .lst []]) ⟨[], xs, a, q, none, rfl, rfl, List.Perm.refl _, rfl, by simpa using hp⟩
    (fun j d e s hj hI => by
      obtain ⟨f, r, a', q', x, rfl, rfl, pm, fl, ok⟩ := hI
      obtain ⟨jn, rfl⟩ := intD_at hj
      have hr : f.length + r.length = xs.length := by have := pm.length_eq; simpa using this
      obtain ⟨dd, a2, q2, d0, d1, ok2, eT⟩ := hT (st.set l (.lst [.int a', .int b, .int q']) ++ [.lst r, .lst f]) l a' b q' (k + j) (r.length : Int) (g0 _ _ _) ok (by omega) (by omega) (by omega)
      rw [s0] at eT
      have hd : dd.toNat < r.length := by omega
      have hy : r[dd.toNat]? = some r[dd.toNat] := List.getElem?_eq_getElem hd
      have eP := popAt_ok (g1 (.lst [.int a2, .int b, .int q2]) (.lst r) (.lst f)) d0 (by omega) hy
      rw [s1] at eP
      have hz : f.length < 16777216 := by omega
      refine ⟨_, [some (.loc l), some (.loc m), some (.int (n : Int)), some (.loc st.length), some (.loc (st.length + 1)), some (.int (j : Nat))], st.set l (.lst [.int a2, .int b, .int q2]) ++ [.lst (r.eraseIdx dd.toNat), .lst (f ++ [r[dd.toNat]])], rfl, .inl ?_, f ++ [r[dd.toNat]], r.eraseIdx dd.toNat, a2, q2, some (.int (j : Nat)), rfl, rfl, perm_pop pm hy, by simp [fl], ok2.up (by push_cast; omega)⟩
      simp [g1, g2, eT, eP, szL, hz, s2])
  rw [intD_length] at fl ok
  refine ⟨f, r, a', q', ?_, pm, fl, ok⟩
  subst he
  subst hs
  have e0 : f__law_some T [.loc l, .loc m, .int (n : Int)] st = f__law_some T [.loc l, .loc m, .int (n : Int)] (st.set l (.lst [.int a, .int b, .int q])) := by rw [← st0]
  rw [e0]
  have gm : (st.set l (.lst [.int a, .int b, .int q]))[m]? = some (.lst xs) := by rw [List.getElem?_set_ne hlm]; exact hm
  have hL : (st.set l (.lst [.int a, .int b, .int q])).length = st.length := List.length_set
  exact some_end (L := st.length + 1) gm (rgOk_nat (by omega)) (Int.toNat_natCast n) rfl (by rw [hL]; exact h1)
/-! drawing: the pot stands at 0, all else stays -/
def PotAt (S : Store) (k : Int) : Prop := ∃ a b q, S[0]? = some (.lst [.int a, .int b, .int q]) ∧ PotOk a b q k
def Grow (S S' : Store) : Prop := ∃ P gb, S' = S.set 0 P ++ gb
theorem Grow.get {S S' : Store} (g : Grow S S') {i : Nat} {o : O} (h : S[i]? = some o) (hi : i ≠ 0) : S'[i]? = some o := by
  obtain ⟨P, gb, rfl⟩ := g
  rw [List.getElem?_append_left (by rw [List.length_set]; exact lt_of_get h), List.getElem?_set_ne (Ne.symm hi)]
  exact h
theorem Grow.len {S S' : Store} (g : Grow S S') : S.length ≤ S'.length := by
  obtain ⟨P, gb, rfl⟩ := g
  rw [List.length_append, List.length_set]
  omega
theorem Grow.trans {S S' S'' : Store} (g : Grow S S') (h : Grow S' S'') (hs : 0 < S.length) : Grow S S'' := by
  obtain ⟨P, gb, rfl⟩ := g
  obtain ⟨P', gb', rfl⟩ := h
  exact ⟨P', gb ++ gb', by rw [List.set_append_left _ _ (by rw [List.length_set]; exact hs), List.set_set, List.append_assoc]⟩
theorem PotAt.pos {S : Store} {k : Int} (h : PotAt S k) : 0 < S.length := by
  obtain ⟨a, b, q, e, _⟩ := h
  exact lt_of_get e
theorem Grow.refl {S : Store} {k : Int} (h : PotAt S k) : Grow S S := by
  obtain ⟨a, b, q, e, _⟩ := h
  exact ⟨_, [], by rw [List.append_nil]; exact (set_back e).symm⟩
theorem Grow.push {S : Store} {k : Int} (h : PotAt S k) (gb : Store) : Grow S (S ++ gb) := by
  obtain ⟨a, b, q, e, _⟩ := h
  exact ⟨_, gb, by rw [set_back e]⟩
theorem PotAt.push {S : Store} {k : Int} (h : PotAt S k) (gb : Store) : PotAt (S ++ gb) k := by
  obtain ⟨a, b, q, e, p⟩ := h
  exact ⟨a, b, q, by rw [List.getElem?_append_left (lt_of_get e)]; exact e, p⟩
theorem PotAt.up {S : Store} {k j : Int} (h : PotAt S k) (hk : k ≤ j) : PotAt S j := by
  obtain ⟨a, b, q, e, p⟩ := h
  exact ⟨a, b, q, e, p.up hk⟩
theorem take0 {T : SemF} (hT : Takes T) {S : Store} {k u : Int} (h : PotAt S k) (hk : k < 100000) (hu : 0 < u) (hu2 : u < 1000000) : ∃ d S', 0 ≤ d ∧ d < u ∧ T [.loc 0, .int u] S = .ok (.int d) S' ∧ Grow S S' ∧ PotAt S' (k + 1) ∧ S'.length = S.length := by
  obtain ⟨a, b, q, e, p⟩ := h
  obtain ⟨d, a', n', h1, h2, h3, h4⟩ := hT S 0 a b q k u e p hk hu hu2
  exact ⟨d, _, h1, h2, h4, ⟨_, [], by rw [List.append_nil]⟩, ⟨a', b, n', by rw [List.getElem?_set_self (lt_of_get e)], h3⟩, List.length_set⟩
theorem some0 {T : SemF} (hT : Takes T) {S : Store} {k : Int} {m n : Nat} {xs : List D} (h : PotAt S k) (hm : S[m]? = some (.lst xs)) (hm0 : m ≠ 0) (hn : n ≤ xs.length) (hx : xs.length ≤ 50) (hk : k + n < 100000) :
    ∃ ys left L S', f__law_some T [.loc 0, .loc m, .int (n : Int)] S = .ok (.loc L) S' ∧ Grow S S' ∧ S'[L]? = some (.lst ys) ∧ S.length ≤ L ∧ (ys ++ left).Perm xs ∧ ys.length = n ∧ PotAt S' (k + n) := by
  obtain ⟨a, b, q, e, p⟩ := h
  obtain ⟨ys, left, a', q', h1, h2, h3, h4⟩ := some_ok hT e p hm (Ne.symm hm0) hn hx hk
  refine ⟨ys, left, _, _, h1, ⟨_, _, rfl⟩, by simp, by omega, h2, h3, a', b, q', ?_, h4⟩
  rw [List.getElem?_append_left (by rw [List.length_set]; exact lt_of_get e), List.getElem?_set_self (lt_of_get e)]
/-! sorted ints -/
def TakeM (c : SemF) : Prop := ∀ (S : Store) (k u : Int), PotAt S k → k < 100000 → 0 < u → u < 1000000 → ∃ d S', 0 ≤ d ∧ d < u ∧ c [.loc 0, .int u] S = .ok (.int d) S' ∧ Grow S S' ∧ PotAt S' (k + 1) ∧ S'.length = S.length
def SomeM (c : SemF) : Prop := ∀ (S : Store) (k : Int) (m n : Nat) (xs : List D), PotAt S k → S[m]? = some (.lst xs) → m ≠ 0 → n ≤ xs.length → xs.length ≤ 50 → k + n < 100000 →
  ∃ ys left L S', c [.loc 0, .loc m, .int (n : Int)] S = .ok (.loc L) S' ∧ Grow S S' ∧ S'[L]? = some (.lst ys) ∧ S.length ≤ L ∧ (ys ++ left).Perm xs ∧ ys.length = n ∧ PotAt S' (k + n)
theorem takeM_ok {T : SemF} (hT : Takes T) : TakeM T := fun S k u h hk hu hu2 => take0 hT h hk hu hu2
theorem someM_ok {T : SemF} (hT : Takes T) : SomeM (f__law_some T) := fun S k m n xs h hm hm0 hn hx hk => some0 hT h hm hm0 hn hx hk
theorem perm_inv {A : Type} {f : A → D} {g : D → A} (hg : ∀ x, g (f x) = x) {l : List D} {xs : List A} (h : l.Perm (xs.map f)) : l = (l.map g).map f ∧ (l.map g).Perm xs := by
  refine ⟨?_, ?_⟩
  · rw [List.map_map]
    symm
    have : ∀ y ∈ l, (f ∘ g) y = y := fun y hy => by
      obtain ⟨x, _, rfl⟩ := List.mem_map.mp (h.mem_iff.mp hy)
      show f (g (f x)) = f x
      rw [hg]
    rw [List.map_congr_left this]
    simp
  · have := h.map g
    rw [List.map_map] at this
    have e : xs.map (g ∘ f) = xs := by
      have z : ∀ x ∈ xs, (g ∘ f) x = id x := fun x _ => hg x
      rw [List.map_congr_left z]
      simp
    rw [e] at this
    exact this
end K29

namespace K29
open PySem L2 Ev
open PyProof.Rows hiding St
/-! ### drawn rows, plain -/
def insAll {A : Type} (x : A) : List A → List (List A)
  | [] => [[x]]
  | y :: ys => (x :: y :: ys) :: (insAll x ys).map (y :: ·)
def perms {A : Type} : List A → List (List A)
  | [] => [[]]
  | x :: xs => (perms xs).flatMap (insAll x)
theorem mem_ins {A : Type} (x : A) : ∀ (a b : List A), a ++ x :: b ∈ insAll x (a ++ b)
  | [], [] => by simp [insAll]
  | [], y :: b => by simp [insAll]
  | z :: a, b => by
    have := mem_ins x a b
    rw [List.cons_append, List.cons_append, insAll]
    exact List.mem_cons_of_mem _ (List.mem_map.mpr ⟨_, this, rfl⟩)
theorem mem_perms {A : Type} : ∀ (xs l : List A), l.Perm xs → l ∈ perms xs
  | [], l, h => by rw [List.Perm.eq_nil h, perms]; simp
  | x :: xs, l, h => by
    have mx : x ∈ l := h.symm.subset (List.mem_cons_self ..)
    obtain ⟨a, b, rfl⟩ := List.append_of_mem mx
    have p : (a ++ b).Perm xs := by
      have q : (x :: (a ++ b)).Perm (x :: xs) := (List.perm_middle.symm).trans h
      exact q.cons_inv
    rw [perms]
    exact List.mem_flatMap.mpr ⟨a ++ b, mem_perms xs _ p, mem_ins x a b⟩
def setM (v h : D) (row : List D) : Option (List D) := match h with
  | .int (.ofNat i) => match Nat.ble (i + 1) row.length with
    | true => some (row.set i v)
    | false => none
  | _ => none
def setAll (v : D) : List D → List D → Option (List D)
  | [], row => some row
  | h :: hs, row => match setM v h row with
    | some row => setAll v hs row
    | none => none
def lapD (left seen row : List D) (d : Nat) : Option (List D × List D × List D) :=
  let block := left.take (1 + d)
  let seen' := seen ++ block
  match sortOkJ seen' && (Nat.ble seen'.length 50 && Nat.ble left.length 50) with
  | true => match setAll (.tup (srtD seen')) block row with
    | some row => some (left.drop block.length, seen', row)
    | none => none
  | false => none
def goodR (n : Nat) (row : List D) : Bool := (tab n).any fun r => eqL (eqDn 5) (r.map rowD) row
def chkD (n : Nat) : Nat → List D → List D → List D → Bool
  | 0, _, _, row => goodR n row
  | m + 1, left, seen, row => (List.range (max 1 left.length)).all fun d => match lapD left seen row d with
    | some (left, seen, row) => chkD n m left seen row
    | none => false
def drOk (n : Nat) : Bool := (perms (intD 0 n)).all fun p => chkD n n p [] (List.replicate n .non)
set_option maxHeartbeats 0
theorem dr1 : drOk 1 = true := by decide +kernel
theorem dr2 : drOk 2 = true := by decide +kernel
theorem dr3 : drOk 3 = true := by decide +kernel
theorem dr4 : drOk 4 = true := by decide +kernel
theorem drOk_of {n : Nat} (h : N4 n) : drOk n = true := by
  rcases h.cases with rfl | rfl | rfl | rfl
  · exact dr1
  · exact dr2
  · exact dr3
  · exact dr4
theorem goodR_of {n : Nat} {row : List D} (h : goodR n row = true) : ∃ r ∈ tab n, D.tup row = rwD r := by
  obtain ⟨r, m, e⟩ := List.any_eq_true.mp h
  have q : r.map rowD = row := D.eqbs_eq (by rw [← eqL_eq (eqDn_eq 5)]; exact e)
  exact ⟨r, m, by rw [rwD, q]⟩
theorem cut_to {A : Type} (xs : List A) (k : Nat) : Ev.cutD xs none (some (k : Int)) = xs.take k := by
  have h2 : ¬ ((k : Int) < 0) := by omega
  simp only [Ev.cutD, HT.sIx, if_neg h2, Int.toNat_natCast, List.drop_zero, Nat.sub_zero]
  rcases Nat.le_total k xs.length with h | h
  · rw [Nat.min_eq_left h]
  · rw [Nat.min_eq_right h, List.take_of_length_le h, List.take_of_length_le (Nat.le_refl _)]
theorem cut_from {A : Type} (xs : List A) (k : Nat) : Ev.cutD xs (some (k : Int)) none = xs.drop k := by
  have h2 : ¬ ((k : Int) < 0) := by omega
  simp only [Ev.cutD, HT.sIx, if_neg h2, Int.toNat_natCast]
  rcases Nat.le_total k xs.length with h | h
  · rw [Nat.min_eq_left h]
    exact List.take_of_length_le (by rw [List.length_drop]; omega)
  · rw [Nat.min_eq_right h, List.drop_of_length_le h, List.drop_of_length_le (Nat.le_refl _), List.take_nil]
end K29

namespace K29
open PySem L2 Ev
open PyProof.Rows hiding St
/-! ### drawn rows, the walk -/
abbrev dA (ct : SemF) : Sf := sSet 3 (eIf (tfB (eVar 2)) (eVar 1) (eM (mBin addM (eC (.int 1)) (eCall ct (aCons (eVar 0) (aCons (eVar 1) aNil))))))
abbrev dB (cs : SemF) : Sf := sAsg (eTup (aCons (eCall cs (aCons (eVar 0) (aCons (eNew (nRange1 (eVar 1))) (aCons (eVar 3) aNil)))) (aCons (eNew (nLst aNil)) (aCons (eM (mBin mulM (eNew (nLst (aCons (eC .non) aNil))) (eVar 1))) aNil)))) (gT 3 (gsCons (gN 4) (gsCons (gN 5) (gsCons (gN 6) gsNil))))
abbrev dC1 (ct : SemF) : Sf := sSet 8 (eM (mSl (eVar 4) oNo (oSo (eM (mBin addM (eC (.int 1)) (eCall ct (aCons (eVar 0) (aCons (eCall max2F (aCons (eC (.int 1)) (aCons (eCall lenF (aCons (eVar 4) aNil)) aNil))) aNil))))))))
abbrev dC2 : Sf := sPar [4, 5] (aCons (eM (mSl (eVar 4) (oSo (eCall lenF (aCons (eVar 8) aNil))) oNo)) (aCons (eM (mBin addM (eVar 5) (eVar 8))) aNil))
abbrev dC3 : Sf := sFor (iVal (eVar 8)) (gN 9) (sAsg (eCall tupQ (nSorted (lOf (eVar 5)))) (gS (eVar 6) (eVar 9)))
abbrev dC (ct : SemF) : Sf := sSeq (dC1 ct) (sSeq dC2 dC3)
abbrev dD : Sf := sSetN 10 (nComp [9] (iRange1 (eVar 1)) (gN 9) (tfB (eNotN (eBin ixF (eVar 6) (eVar 9)))) (eVar 9))
abbrev dE (ct cs : SemF) : Sf := sFor (iVal (eIf (tfB (eVar 2)) (eNew (nLst aNil)) (eCall cs (aCons (eVar 0) (aCons (eVar 10) (aCons (eCall ct (aCons (eVar 0) (aCons (eCall lenF (aCons (eVar 10) aNil)) aNil))) aNil)))))) (gN 9) (sAsg (eC .non) (gS (eVar 6) (eVar 9)))
theorem dr_chain {ct cs : SemF} : b__law_drawn_row ct cs = sSeq (dA ct) (sSeq (dB cs) (sSeq (sFor (iRange1 (eVar 1)) (gN 7) (dC ct)) (sSeq dD (sSeq (dE ct cs) (sRet (eCall tupQ (qOf (eVar 6)))))))) := rfl
abbrev dV (n : Nat) (y3 y4 y5 y6 y7 y8 y9 y10 : Option D) : EEnv := [some (.loc 0), some (.int (n : Nat)), some (.bl true), y3, y4, y5, y6, y7, y8, y9, y10]
structure DrAt (S : Store) (k : Int) (l p r : Nat) (left seen row : List D) : Prop where
  pot : PotAt S k
  hl : S[l]? = some (.lst left)
  hp : S[p]? = some (.lst seen)
  hr : S[r]? = some (.lst row)
  l0 : l ≠ 0
  p0 : p ≠ 0
  r0 : r ≠ 0
  rl : r ≠ l
  rp : r ≠ p
section
variable {n l p r q : Nat} {S S' : Store} {k : Int} {left seen row row' block : List D} {y3 y4 y5 y6 y7 y8 y9 y10 : Option D} {ct cs : SemF} {d : Nat}
theorem DrAt.push (A : DrAt S k l p r left seen row) (gb : Store) : DrAt (S ++ gb) k l p r left seen row := by
  have g : ∀ {i : Nat} {o : O}, S[i]? = some o → (S ++ gb)[i]? = some o := fun h => by rw [List.getElem?_append_left (lt_of_get h)]; exact h
  exact ⟨A.pot.push gb, g A.hl, g A.hp, g A.hr, A.l0, A.p0, A.r0, A.rl, A.rp⟩
theorem set_pot (h : PotAt S k) (r0 : r ≠ 0) (o : O) : PotAt (S.set r o) k := by
  obtain ⟨a, b, c, h1, h2⟩ := h
  exact ⟨a, b, c, by rw [List.getElem?_set_ne r0]; exact h1, h2⟩
/-- one setting of a row -/
theorem set_ok (hp : S[p]? = some (.lst seen)) (hr : S[r]? = some (.lst row)) (hs : sortOkJ seen = true) {h : D} (e : setM (.tup (srtD seen)) h row = some row') : (sAsg (eCall tupQ (nSorted (lOf (eVar 5)))) (gS (eVar 6) (eVar 9))) (dV n y3 y4 (some (.loc p)) (some (.loc r)) y7 y8 (some h) y10) S = .nx (dV n y3 y4 (some (.loc p)) (some (.loc r)) y7 y8 (some h) y10) (S.set r (.lst row')) := by
  have e1 : (eCall tupQ (nSorted (lOf (eVar 5)))) (dV n y3 y4 (some (.loc p)) (some (.loc r)) y7 y8 (some h) y10) S = .ok (.tup (srtD seen)) S := by
    have e0 : lOf (eVar 5) (dV n y3 y4 (some (.loc p)) (some (.loc r)) y7 y8 (some h) y10) S = .ok seen S := by simp [hp]
    show (nSorted (lOf (eVar 5)) _ _).bind tupQ = _
    unfold nSorted
    rw [e0]
    simp only [R.bind_ok]
    rw [sortOk_I, if_pos hs, srtD_eq]
    rfl
  unfold setM at e
  split at e
  · rename_i i
    split at e
    · rename_i hi
      cases e
      have hi := Nat.ble_eq.mp hi
      have e2 : gS (eVar 6) (eVar 9) (.tup (srtD seen)) (dV n y3 y4 (some (.loc p)) (some (.loc r)) y7 y8 (some (.int (.ofNat i))) y10) S = .ok (dV n y3 y4 (some (.loc p)) (some (.loc r)) y7 y8 (some (.int (.ofNat i))) y10) (S.set r (.lst (row.set i (.tup (srtD seen))))) := by
        have q1 : eVar 6 (dV n y3 y4 (some (.loc p)) (some (.loc r)) y7 y8 (some (.int (.ofNat i))) y10) S = .ok (.loc r) S := rfl
        have q2 : eVar 9 (dV n y3 y4 (some (.loc p)) (some (.loc r)) y7 y8 (some (.int (.ofNat i))) y10) S = .ok (.int (.ofNat i)) S := rfl
        have q3 : ixN row.length (Int.ofNat i) = some i := by
          unfold ixN
          have a1 : (0 : Int) ≤ Int.ofNat i := Int.natCast_nonneg i
          have a2 : Int.ofNat i < (row.length : Nat) := by show (i : Int) < _; omega
          rw [if_pos a1, if_pos a2]
          rfl
        unfold gS
        rw [q1]
        simp only [R.bind_ok]
        rw [q2]
        simp only [R.bind_ok]
        unfold setL
        simp only [hr, q3, R.bind_ok]
      unfold sAsg
      rw [e1, sR_ok, e2]
      rfl
    · cases e
  · cases e
theorem setAll_ok (hs : sortOkJ seen = true) : ∀ (hs' : List D) (S : Store) (row row' : List D) (y9 : Option D), DrAt S k l p r left seen row → S[q]? = some (.lst block) → q ≠ r → setAll (.tup (srtD seen)) hs' row = some row' →
    ∃ z9 S', loopF [(q, block)] (gN 9) (sAsg (eCall tupQ (nSorted (lOf (eVar 5)))) (gS (eVar 6) (eVar 9))) hs' (dV n y3 (some (.loc l)) (some (.loc p)) (some (.loc r)) y7 y8 y9 y10) S = .nx (dV n y3 (some (.loc l)) (some (.loc p)) (some (.loc r)) y7 y8 z9 y10) S' ∧ DrAt S' k l p r left seen row'
  | [], S, row, row', y9, A, hq, _, e => by
    rw [setAll] at e
    cases e
    exact ⟨y9, S, by rw [loopF, if_pos (wOk_lst hq rfl)], A⟩
  | h :: hs', S, row, row', y9, A, hq, ne, e => by
    rw [setAll] at e
    split at e
    · rename_i row1 e1
      have a := set_ok (n := n) (y3 := y3) (y4 := some (.loc l)) (y7 := y7) (y8 := y8) (y10 := y10) A.hp A.hr hs e1
      have lr := lt_of_get A.hr
      have A1 : DrAt (S.set r (.lst row1)) k l p r left seen row1 := ⟨set_pot A.pot A.r0 _, by rw [List.getElem?_set_ne A.rl]; exact A.hl, by rw [List.getElem?_set_ne A.rp]; exact A.hp, by rw [List.getElem?_set_self lr], A.l0, A.p0, A.r0, A.rl, A.rp⟩
      obtain ⟨z9, S', b1, b2⟩ := setAll_ok hs hs' _ row1 row' (some h) A1 (by rw [List.getElem?_set_ne ne.symm]; exact hq) ne e
      refine ⟨z9, S', ?_, b2⟩
      rw [loopF, if_pos (wOk_lst hq rfl)]
      have g : gN 9 h (dV n y3 (some (.loc l)) (some (.loc p)) (some (.loc r)) y7 y8 y9 y10) S = .ok (dV n y3 (some (.loc l)) (some (.loc p)) (some (.loc r)) y7 y8 (some h) y10) S := rfl
      rw [g, sR_ok, a]
      exact b1
    · cases e
theorem dC_ok (ht : TakeM ct) (hk : k < 90000) (A : DrAt S k l p r left seen row) (hc : ∀ d, d < max 1 left.length → (lapD left seen row d).isSome = true) (l50 : left.length ≤ 50) :
    ∃ d l' p' z8 z9 S' left' seen' row', d < max 1 left.length ∧ lapD left seen row d = some (left', seen', row') ∧ dC ct (dV n y3 (some (.loc l)) (some (.loc p)) (some (.loc r)) y7 y8 y9 y10) S = .nx (dV n y3 (some (.loc l')) (some (.loc p')) (some (.loc r)) y7 z8 z9 y10) S' ∧ DrAt S' (k + 1) l' p' r left' seen' row' := by
  have hu : (0 : Int) < (max 1 left.length : Nat) := by omega
  obtain ⟨d, S1, d0, d1, e1, g1, P1, len1⟩ := ht S k ((max 1 left.length : Nat) : Int) A.pot (by omega) hu (by omega)
  obtain ⟨m, rfl⟩ := Int.eq_ofNat_of_zero_le d0
  have hm : m < max 1 left.length := by omega
  obtain ⟨⟨left', seen', row'⟩, hl⟩ := Option.isSome_iff_exists.mp (hc m hm)
  have A1 : DrAt S1 (k + 1) l p r left seen row := ⟨P1, g1.get A.hl A.l0, g1.get A.hp A.p0, g1.get A.hr A.r0, A.l0, A.p0, A.r0, A.rl, A.rp⟩
  obtain ⟨block, hb⟩ : ∃ block, block = left.take (1 + m) := ⟨_, rfl⟩
  have c1 : dC1 ct (dV n y3 (some (.loc l)) (some (.loc p)) (some (.loc r)) y7 y8 y9 y10) S = .nx (dV n y3 (some (.loc l)) (some (.loc p)) (some (.loc r)) y7 (some (.loc S1.length)) y9 y10) (S1 ++ [.lst block]) := by
    have q1 : eCall lenF (aCons (eVar 4) aNil) (dV n y3 (some (.loc l)) (some (.loc p)) (some (.loc r)) y7 y8 y9 y10) S = .ok (.int (left.length : Nat)) S := by
      have q : aCons (eVar 4) aNil (dV n y3 (some (.loc l)) (some (.loc p)) (some (.loc r)) y7 y8 y9 y10) S = .ok [.loc l] S := rfl
      show R.bind _ lenF = _
      rw [q, R.bind_ok, ev_lenL, A.hl]
      rfl
    have q2 : eCall max2F (aCons (eC (.int 1)) (aCons (eCall lenF (aCons (eVar 4) aNil)) aNil)) (dV n y3 (some (.loc l)) (some (.loc p)) (some (.loc r)) y7 y8 y9 y10) S = .ok (.int ((max 1 left.length : Nat) : Int)) S := by
      have q := acons_of (show eC (.int 1) (dV n y3 (some (.loc l)) (some (.loc p)) (some (.loc r)) y7 y8 y9 y10) S = .ok (.int 1) S from rfl) (acons_of q1 (show aNil _ S = .ok [] S from rfl))
      show R.bind _ max2F = _
      rw [q, R.bind_ok, ev_max2]
      congr 2
      split <;> omega
    have q3 : eCall ct (aCons (eVar 0) (aCons (eCall max2F (aCons (eC (.int 1)) (aCons (eCall lenF (aCons (eVar 4) aNil)) aNil))) aNil)) (dV n y3 (some (.loc l)) (some (.loc p)) (some (.loc r)) y7 y8 y9 y10) S = .ok (.int (m : Nat)) S1 := by
      have q := acons_of (show eVar 0 (dV n y3 (some (.loc l)) (some (.loc p)) (some (.loc r)) y7 y8 y9 y10) S = .ok (.loc 0) S from rfl) (acons_of q2 (show aNil _ S = .ok [] S from rfl))
      show R.bind _ ct = _
      rw [q, R.bind_ok, e1]
    have q4 : eM (mBin addM (eC (.int 1)) (eCall ct (aCons (eVar 0) (aCons (eCall max2F (aCons (eC (.int 1)) (aCons (eCall lenF (aCons (eVar 4) aNil)) aNil))) aNil)))) (dV n y3 (some (.loc l)) (some (.loc p)) (some (.loc r)) y7 y8 y9 y10) S = .ok (.int ((1 + m : Nat) : Int)) S1 := by
      have q0 : eC (.int 1) (dV n y3 (some (.loc l)) (some (.loc p)) (some (.loc r)) y7 y8 y9 y10) S = .ok (.int 1) S := rfl
      rw [ev_eM]
      unfold mBin
      rw [q0]
      simp only [R.bind_ok]
      rw [q3]
      simp only [R.bind_ok]
      show kMd (.v (.int (1 + (m : Nat)))) S1 = _
      rw [show (1 : Int) + (m : Nat) = ((1 + m : Nat) : Int) by omega]
      rfl
    have q5 : mSl (eVar 4) oNo (oSo (eM (mBin addM (eC (.int 1)) (eCall ct (aCons (eVar 0) (aCons (eCall max2F (aCons (eC (.int 1)) (aCons (eCall lenF (aCons (eVar 4) aNil)) aNil))) aNil)))))) (dV n y3 (some (.loc l)) (some (.loc p)) (some (.loc r)) y7 y8 y9 y10) S = .ok (.l block) S1 := by
      have w1 : eVar 4 (dV n y3 (some (.loc l)) (some (.loc p)) (some (.loc r)) y7 y8 y9 y10) S = .ok (.loc l) S := rfl
      generalize eM (mBin addM (eC (.int 1)) (eCall ct (aCons (eVar 0) (aCons (eCall max2F (aCons (eC (.int 1)) (aCons (eCall lenF (aCons (eVar 4) aNil)) aNil))) aNil)))) = f at q4 ⊢
      have w3 : oSo f (dV n y3 (some (.loc l)) (some (.loc p)) (some (.loc r)) y7 y8 y9 y10) S = .ok (some ((1 + m : Nat) : Int)) S1 := by
        unfold oSo
        rw [q4]
        rfl
      unfold mSl
      rw [w1]
      simp only [R.bind_ok, ev_oNo]
      rw [w3]
      simp only [R.bind_ok]
      unfold slF
      simp only [A1.hl]
      rw [cut_to, hb]
    unfold dC1
    rw [ev_sSet, ev_eM, q5]
    rfl
  have A2 := A1.push [Ev.O.lst block]
  have hB2 : (S1 ++ [Ev.O.lst block])[S1.length]? = some (.lst block) := by simp
  obtain ⟨S2, hS2⟩ : ∃ S2, S2 = S1 ++ [Ev.O.lst block] := ⟨_, rfl⟩
  rw [← hS2] at c1 A2 hB2
  have bl : block.length ≤ left.length := by rw [hb, List.length_take]; omega
  unfold lapD at hl
  simp only at hl
  rw [← hb] at hl
  split at hl
  · rename_i hcc
    rw [Bool.and_eq_true, Bool.and_eq_true] at hcc
    have hs50 := Nat.ble_eq.mp hcc.2.1
    split at hl
    · rename_i row1 er
      simp only [Option.some.injEq, Prod.mk.injEq] at hl
      obtain ⟨rfl, rfl, rfl⟩ := hl
      have c2 : dC2 (dV n y3 (some (.loc l)) (some (.loc p)) (some (.loc r)) y7 (some (.loc S1.length)) y9 y10) S2 = .nx (dV n y3 (some (.loc S2.length)) (some (.loc (S2.length + 1))) (some (.loc r)) y7 (some (.loc S1.length)) y9 y10) (S2 ++ [.lst (left.drop block.length), .lst (seen ++ block)]) := by
        have q1 : eCall lenF (aCons (eVar 8) aNil) (dV n y3 (some (.loc l)) (some (.loc p)) (some (.loc r)) y7 (some (.loc S1.length)) y9 y10) S2 = .ok (.int (block.length : Nat)) S2 := by
          have q : aCons (eVar 8) aNil (dV n y3 (some (.loc l)) (some (.loc p)) (some (.loc r)) y7 (some (.loc S1.length)) y9 y10) S2 = .ok [.loc S1.length] S2 := rfl
          show R.bind _ lenF = _
          rw [q, R.bind_ok, ev_lenL, hB2]
          rfl
        have q2 : eM (mSl (eVar 4) (oSo (eCall lenF (aCons (eVar 8) aNil))) oNo) (dV n y3 (some (.loc l)) (some (.loc p)) (some (.loc r)) y7 (some (.loc S1.length)) y9 y10) S2 = .ok (.loc S2.length) (S2 ++ [.lst (left.drop block.length)]) := by
          have w1 : eVar 4 (dV n y3 (some (.loc l)) (some (.loc p)) (some (.loc r)) y7 (some (.loc S1.length)) y9 y10) S2 = .ok (.loc l) S2 := rfl
          generalize eCall lenF (aCons (eVar 8) aNil) = f at q1 ⊢
          have w3 : oSo f (dV n y3 (some (.loc l)) (some (.loc p)) (some (.loc r)) y7 (some (.loc S1.length)) y9 y10) S2 = .ok (some (block.length : Nat)) S2 := by
            unfold oSo
            rw [q1]
            rfl
          rw [ev_eM]
          unfold mSl
          rw [w1]
          simp only [R.bind_ok]
          rw [w3]
          simp only [R.bind_ok, ev_oNo]
          unfold slF
          simp only [A2.hl]
          rw [cut_from]
          rfl
        have q3 : eM (mBin addM (eVar 5) (eVar 8)) (dV n y3 (some (.loc l)) (some (.loc p)) (some (.loc r)) y7 (some (.loc S1.length)) y9 y10) (S2 ++ [.lst (left.drop block.length)]) = .ok (.loc (S2.length + 1)) (S2 ++ [.lst (left.drop block.length), .lst (seen ++ block)]) := by
          have A3 := A2.push [Ev.O.lst (left.drop block.length)]
          have hB3 : (S2 ++ [Ev.O.lst (left.drop block.length)])[S1.length]? = some (.lst block) := by rw [List.getElem?_append_left (lt_of_get hB2)]; exact hB2
          have w1 : eVar 5 (dV n y3 (some (.loc l)) (some (.loc p)) (some (.loc r)) y7 (some (.loc S1.length)) y9 y10) (S2 ++ [.lst (left.drop block.length)]) = .ok (.loc p) (S2 ++ [.lst (left.drop block.length)]) := rfl
          have w2 : eVar 8 (dV n y3 (some (.loc l)) (some (.loc p)) (some (.loc r)) y7 (some (.loc S1.length)) y9 y10) (S2 ++ [.lst (left.drop block.length)]) = .ok (.loc S1.length) (S2 ++ [.lst (left.drop block.length)]) := rfl
          rw [ev_eM]
          unfold mBin
          rw [w1]
          simp only [R.bind_ok]
          rw [w2]
          simp only [R.bind_ok]
          rw [ev_addL, A3.hp, hB3, ev_addGet, if_pos (by rw [← List.length_append]; exact le_line (by omega))]
          simp only [R.bind_ok, ev_kMdL, List.length_append, List.length_singleton, List.append_assoc, List.cons_append, List.nil_append]
        have q4 := acons_of q2 (acons_of q3 (show aNil _ _ = .ok [] _ from rfl))
        unfold dC2 sPar
        rw [q4]
        rfl
      have A3 := A2.push [Ev.O.lst (left.drop block.length), Ev.O.lst (seen ++ block)]
      obtain ⟨S3, hS3⟩ : ∃ S3, S3 = S2 ++ [Ev.O.lst (left.drop block.length), Ev.O.lst (seen ++ block)] := ⟨_, rfl⟩
      rw [← hS3] at c2 A3
      have lr := lt_of_get A2.hr
      have l1 : 0 < S1.length := P1.pos
      have A4 : DrAt S3 (k + 1) S2.length (S2.length + 1) r (left.drop block.length) (seen ++ block) row := ⟨A3.pot, by rw [hS3]; simp, by rw [hS3]; simp, A3.hr, by rw [hS2, List.length_append]; omega, by omega, A.r0, by omega, by omega⟩
      have hB4 : S3[S1.length]? = some (.lst block) := by rw [hS3, List.getElem?_append_left (lt_of_get hB2)]; exact hB2
      have nBr : S1.length ≠ r := by have := lt_of_get A1.hr; omega
      obtain ⟨z9, S4, b1, b2⟩ := setAll_ok (n := n) (y3 := y3) (y7 := y7) (y8 := some (.loc S1.length)) (y10 := y10) hcc.1 block S3 row row1 y9 A4 hB4 nBr er
      have hi : iVal (eVar 8) (dV n y3 (some (.loc S2.length)) (some (.loc (S2.length + 1))) (some (.loc r)) y7 (some (.loc S1.length)) y9 y10) S3 = .ok ⟨block, [(S1.length, block)]⟩ S3 := by simp [hB4]
      exact ⟨m, _, _, _, z9, S4, _, _, _, hm, by unfold lapD; simp only; rw [← hb]; simp only [hcc.1, hcc.2.1, hcc.2.2, Bool.and_self, er], then_nx c1 (then_nx c2 (for_ok hi b1)), b2⟩
    · cases hl
  · cases hl
end
end K29

namespace K29
open PySem L2 Ev
open PyProof.Rows hiding St
/-! ### a drawn row, the whole -/
def lenOk (n : Nat) : Bool := (tab n).all fun r => Nat.beq r.length n
theorem len1 : lenOk 1 = true := by decide +kernel
theorem len2 : lenOk 2 = true := by decide +kernel
theorem len3 : lenOk 3 = true := by decide +kernel
theorem len4 : lenOk 4 = true := by decide +kernel
theorem row_len {n : Nat} (h : N4 n) {r : List (List Int)} (m : r ∈ tab n) : r.length = n := by
  have q : lenOk n = true := by
    rcases h.cases with rfl | rfl | rfl | rfl
    · exact len1
    · exact len2
    · exact len3
    · exact len4
  exact Nat.eq_of_beq_eq_true (List.all_eq_true.mp q r m)
theorem lapD_len {left seen row left' seen' row' : List D} {d : Nat} (h : lapD left seen row d = some (left', seen', row')) : left'.length ≤ left.length := by
  unfold lapD at h
  simp only at h
  split at h
  · split at h
    · simp only [Option.some.injEq, Prod.mk.injEq] at h
      rw [← h.1, List.length_drop]
      omega
    · cases h
  · cases h
theorem rng1_ok {n : Nat} {s : Store} {env : EEnv} (hn : n ≤ 100) (h0 : env[1]? = some (some (.int (n : Nat)))) : iRange1 (eVar 1) env s = .ok ⟨intD 0 n, []⟩ s := by
  have h := rg_nat (n := n) (s := s) (by omega)
  have e : eVar 1 env s = .ok (.int (n : Nat)) s := by simp [h0]
  rw [ev_iRange1, e, R.bind_ok]
  exact h
theorem range_k {j : Int} {s : Store} (h1 : 0 ≤ j) (h2 : j ≤ 100) : rgF 0 j s = .ok (intD 0 j.toNat) s := by
  unfold rgF
  rw [if_pos]
  · simp
  · simp [rgOk]
    omega
theorem range_new {n : Nat} {s : Store} {env : EEnv} (hn : n ≤ 100) (h0 : eVar 1 env s = .ok (.int (n : Nat)) s) : eNew (nRange1 (eVar 1)) env s = .ok (.loc s.length) (s ++ [.lst (intD 0 n)]) := by
  have q := range_k (j := (n : Nat)) (s := s) (by omega) (by omega)
  rw [Int.toNat_natCast] at q
  rw [ev_eNew, ev_nRange1, h0, R.bind_ok, ev_kR1, q, R.bind_ok, ev_kNew]
section
variable {n l p r q : Nat} {S S' : Store} {k : Int} {left seen row row' block : List D} {y3 y4 y5 y6 y7 y8 y9 y10 : Option D} {ct cs : SemF} {d : Nat}
theorem laps_ok (ht : TakeM ct) : ∀ (is : List D) (S : Store) (k : Int) (l p : Nat) (left seen row : List D) (y7 y8 y9 : Option D), k + is.length ≤ 90000 → DrAt S k l p r left seen row → left.length ≤ 50 → chkD n is.length left seen row = true →
    ∃ l' p' z7 z8 z9 S' left' seen' row', loopF [] (gN 7) (dC ct) is (dV n y3 (some (.loc l)) (some (.loc p)) (some (.loc r)) y7 y8 y9 y10) S = .nx (dV n y3 (some (.loc l')) (some (.loc p')) (some (.loc r)) z7 z8 z9 y10) S' ∧ DrAt S' (k + is.length) l' p' r left' seen' row' ∧ goodR n row' = true
  | [], S, k, l, p, left, seen, row, y7, y8, y9, hk, A, _, hc => ⟨l, p, y7, y8, y9, S, left, seen, row, by simp [loopF], by simpa using A, hc⟩
  | i :: is, S, k, l, p, left, seen, row, y7, y8, y9, hk, A, l50, hc => by
    rw [List.length_cons, chkD] at hc
    rw [List.length_cons] at hk
    have hc := List.all_eq_true.mp hc
    obtain ⟨d, l', p', z8, z9, S1, left', seen', row', d1, e1, b1, A1⟩ := dC_ok (n := n) (y3 := y3) (y7 := some i) (y8 := y8) (y9 := y9) (y10 := y10) ht (by omega) A (fun d hd => by
      have := hc d (List.mem_range.mpr hd)
      split at this
      · rename_i e; rw [e]; rfl
      · cases this) l50
    have h2 := hc d (List.mem_range.mpr d1)
    rw [e1] at h2
    have ll := lapD_len e1
    obtain ⟨l2, p2, x7, x8, x9, S2, left2, seen2, row2, b2, A2, g2⟩ := laps_ok ht is S1 (k + 1) l' p' left' seen' row' (some i) z8 z9 (by omega) A1 (by omega) h2
    refine ⟨l2, p2, x7, x8, x9, S2, left2, seen2, row2, ?_, by rw [List.length_cons, show k + ((is.length + 1 : Nat) : Int) = k + 1 + (is.length : Nat) by omega]; exact A2, g2⟩
    rw [loopF, if_pos (show wOk S [] = true from rfl)]
    have g : gN 7 i (dV n y3 (some (.loc l)) (some (.loc p)) (some (.loc r)) y7 y8 y9 y10) S = .ok (dV n y3 (some (.loc l)) (some (.loc p)) (some (.loc r)) (some i) y8 y9 y10) S := rfl
    rw [g, sR_ok, b1]
    exact b2
theorem mul_non {fo : Ef} {env : EEnv} {s s1 : Store} (hn : n ≤ 100) (h1 : fo env s = .ok (.loc s.length) s1) (hs : s1[s.length]? = some (.lst [.non])) (h2 : eVar 1 env s1 = .ok (.int (n : Nat)) s1) : eM (mBin mulM fo (eVar 1)) env s = .ok (.loc s1.length) (s1 ++ [.lst (List.replicate n .non)]) := by
  obtain ⟨k, hk⟩ : ∃ k : Int, k = (n : Nat) := ⟨_, rfl⟩
  have kn : k.toNat = n := by omega
  have l2 : -(2 ^ 63) ≤ k ∧ k < 2 ^ 63 ∧ [D.non].length * k.toNat ≤ sizeLine := ⟨by omega, by omega, le_line (by rw [List.length_singleton]; omega)⟩
  rw [← hk] at h2
  rw [ev_eM]
  unfold mBin
  rw [h1]
  simp only [R.bind_ok]
  rw [h2]
  simp only [R.bind_ok]
  rw [ev_mulL, hs, ev_mulGet, if_pos l2, kn]
  simp
theorem there_ok {r : List (List Int)} {R0 : Nat} {S3 : Store} (h : N4 n) (mr : r ∈ tab n) (er2 : row' = r.map rowD) (hR : S3[R0]? = some (.lst row')) : dD (dV n (some (.int (n : Nat))) (some (.loc l)) (some (.loc p)) (some (.loc R0)) y7 y8 y9 none) S3 = .nx (dV n (some (.int (n : Nat))) (some (.loc l)) (some (.loc p)) (some (.loc R0)) y7 y8 y9 (some (.loc S3.length))) (S3 ++ [.lst (intD 0 n)]) := by
  have n4 := h.2
  have lr : row'.length = n := by rw [er2, List.length_map]; exact row_len h mr
  have hi := rng1_ok (n := n) (s := S3) (env := dV n (some (.int (n : Nat))) (some (.loc l)) (some (.loc p)) (some (.loc R0)) y7 y8 y9 none) (by omega) rfl
  have e : nComp [9] (iRange1 (eVar 1)) (gN 9) (tfB (eNotN (eBin ixF (eVar 6) (eVar 9)))) (eVar 9) (dV n (some (.int (n : Nat))) (some (.loc l)) (some (.loc p)) (some (.loc R0)) y7 y8 y9 none) S3 = .ok (intD 0 n) S3 := by
    unfold nComp
    rw [hi]
    simp only [R.bind]
    rw [if_pos (show (intD 0 n).length ≤ sizeLine by rw [intD_length]; exact le_line (by omega)), compF_pick (rfl : wOk S3 [] = true) (fun d => some d) (intD 0 n)]
    · rw [List.filterMap_some]
    · intro d m
      obtain ⟨j, mj, rfl⟩ := List.mem_map.mp m
      have jn : j < n := List.mem_range.mp mj
      have ej : (0 : Int) + (j : Nat) = (j : Nat) := by omega
      rw [ej]
      refine ⟨dV n (some (.int (n : Nat))) (some (.loc l)) (some (.loc p)) (some (.loc R0)) y7 y8 (some (.int (j : Nat))) none, true, by simp [wipeE], ?_, fun _ => ⟨.int (j : Nat), rfl, rfl⟩, fun hb => by cases hb⟩
      obtain ⟨c, hc⟩ : ∃ c, r[j]? = some c := ⟨_, List.getElem?_eq_getElem (by rw [row_len h mr]; exact jn)⟩
      have ex : row'[j]? = some (rowD c) := by rw [er2, List.getElem?_map, hc]; rfl
      have ea : atI row' (j : Int) = some (rowD c) := by
        unfold atI ixN
        rw [if_pos (by omega), if_pos (by omega)]
        simp only [Option.bind_some, Int.toNat_natCast]
        exact ex
      have e6 : eBin ixF (eVar 6) (eVar 9) (dV n (some (.int (n : Nat))) (some (.loc l)) (some (.loc p)) (some (.loc R0)) y7 y8 (some (.int (j : Nat))) none) S3 = .ok (rowD c) S3 := by
        have w1 : eVar 6 (dV n (some (.int (n : Nat))) (some (.loc l)) (some (.loc p)) (some (.loc R0)) y7 y8 (some (.int (j : Nat))) none) S3 = .ok (.loc R0) S3 := rfl
        have w2 : eVar 9 (dV n (some (.int (n : Nat))) (some (.loc l)) (some (.loc p)) (some (.loc R0)) y7 y8 (some (.int (j : Nat))) none) S3 = .ok (.int (j : Nat)) S3 := rfl
        show R.bind _ _ = _
        rw [w1, R.bind_ok, w2, R.bind_ok]
        unfold ixF
        simp only [hR, ea]
        rfl
      have e7 : eNotN (eBin ixF (eVar 6) (eVar 9)) (dV n (some (.int (n : Nat))) (some (.loc l)) (some (.loc p)) (some (.loc R0)) y7 y8 (some (.int (j : Nat))) none) S3 = .ok (.bl true) S3 := by
        unfold eNotN
        rw [e6]
        rfl
      rw [ev_tfB, e7]
      rfl
  unfold dD
  rw [ev_sSetN, e]
  rfl
theorem two_ok {L : Nat} {S1 : Store} (n4 : n ≤ 4) (e1 : cs [.loc 0, .loc S.length, .int (n : Nat)] (S ++ [.lst (intD 0 n)]) = .ok (.loc L) S1) : dB cs (dV n (some (.int (n : Nat))) none none none none none none none) S = .nx (dV n (some (.int (n : Nat))) (some (.loc L)) (some (.loc S1.length)) (some (.loc (S1.length + 2))) none none none none) (S1 ++ [.lst [], .lst [.non], .lst (List.replicate n .non)]) := by
  have q1 := range_new (n := n) (s := S) (env := dV n (some (.int (n : Nat))) none none none none none none none) (by omega) rfl
  have q2 := acons_of (show eVar 0 (dV n (some (.int (n : Nat))) none none none none none none none) S = .ok (.loc 0) S from rfl) (acons_of q1 (acons_of (show eVar 3 _ _ = .ok (.int (n : Nat)) _ from rfl) (show aNil _ _ = .ok [] _ from rfl)))
  have q3 : eCall cs (aCons (eVar 0) (aCons (eNew (nRange1 (eVar 1))) (aCons (eVar 3) aNil))) (dV n (some (.int (n : Nat))) none none none none none none none) S = .ok (.loc L) S1 := by
    show R.bind _ cs = _
    rw [q2, R.bind_ok, e1]
  have q4 := enew_of (show aNil (dV n (some (.int (n : Nat))) none none none none none none none) S1 = .ok [] S1 from rfl) (by simp)
  have q5 := enew_of (acons_of (show eC .non (dV n (some (.int (n : Nat))) none none none none none none none) (S1 ++ [.lst []]) = .ok .non _ from rfl) (show aNil _ _ = .ok [] _ from rfl)) (by simp)
  have q6 := mul_non (n := n) (by omega) q5 (by simp) rfl
  have q7 := etup_of (acons_of q3 (acons_of q4 (acons_of q6 (show aNil _ _ = .ok [] _ from rfl)))) (by simp)
  unfold dB
  rw [ev_sAsg, q7]
  simp
theorem sem_rt {n a : Nat} {sf : Sf} {ds : List D} {env : EEnv} {st s : Store} {d : D} (hl : ds.length = a) (he : ds.map some ++ List.replicate (n - a) none = env) (h : sf env st = .rt d s) : semOf n a sf ds st = .ok d s := by
  subst he
  unfold semOf
  rw [if_pos hl, h]
def DrowM (c : SemF) : Prop := ∀ (S : Store) (k : Int) (n : Nat), N4 n → PotAt S k → k < 80000 → ∃ r ∈ tab n, ∃ S' k', c [.loc 0, .int (n : Nat), .bl true] S = .ok (rwD r) S' ∧ PotAt S' k'
theorem drow_ok (ht : TakeM ct) (hs : SomeM cs) : DrowM (f__law_drawn_row ct cs) := fun S k n h P hk => by
  have n4 := h.2
  have a1 : dA ct [some (.loc 0), some (.int (n : Nat)), some (.bl true), none, none, none, none, none, none, none, none] S = .nx (dV n (some (.int (n : Nat))) none none none none none none none) S := by
    have q : eIf (tfB (eVar 2)) (eVar 1) (eM (mBin addM (eC (.int 1)) (eCall ct (aCons (eVar 0) (aCons (eVar 1) aNil))))) [some (.loc 0), some (.int (n : Nat)), some (.bl true), none, none, none, none, none, none, none, none] S = .ok (.int (n : Nat)) S := rfl
    unfold dA
    rw [ev_sSet, q]
    rfl
  -- the drawn sequence
  obtain ⟨ys, lf, L, S1, e1, g1, hL, lL, pm, ly, P1⟩ := hs (S ++ [.lst (intD 0 n)]) k S.length n (intD 0 n) (P.push _) (by simp) (by have := P.pos; omega) (by rw [intD_length]; exact Nat.le_refl n) (by rw [intD_length]; omega) (by omega)
  have lf0 : lf = [] := by
    have := pm.length_eq
    rw [List.length_append, intD_length] at this
    exact List.eq_nil_of_length_eq_zero (by omega)
  subst lf0
  rw [List.append_nil] at pm
  have hL1 := lt_of_get hL
  have l1 : 0 < S.length := P.pos
  have a2 := two_ok n4 e1
  have A : DrAt (S1 ++ [.lst [], .lst [.non], .lst (List.replicate n .non)]) (k + n) L S1.length (S1.length + 2) ys [] (List.replicate n .non) := by
    have l2 : 0 < S1.length := P1.pos
    exact ⟨P1.push _, by rw [List.getElem?_append_left hL1]; exact hL, by simp, by simp, by rw [List.length_append] at lL; omega, by omega, by omega, by omega, by omega⟩
  obtain ⟨S2, hS2⟩ : ∃ S2, S2 = S1 ++ [Ev.O.lst [], Ev.O.lst [.non], Ev.O.lst (List.replicate n .non)] := ⟨_, rfl⟩
  rw [← hS2] at a2 A
  have hc := List.all_eq_true.mp (drOk_of h) ys (mem_perms _ _ pm)
  obtain ⟨l', p', z7, z8, z9, S3, left', seen', row', b1, A3, g3⟩ := laps_ok (n := n) (y3 := some (.int (n : Nat))) (y10 := none) ht (intD 0 n) S2 (k + n) L S1.length ys [] (List.replicate n .non) none none none (by rw [intD_length]; omega) A (by omega) (by rw [intD_length]; exact hc)
  obtain ⟨r, mr, er⟩ := goodR_of g3
  have er2 : row' = r.map rowD := by
    rw [rwD] at er
    exact D.tup.inj er
  have lr : row'.length = n := by rw [er2, List.length_map]; exact row_len h mr
  have a4 := there_ok (l := l') (p := p') (y7 := z7) (y8 := z8) (y9 := z9) h mr er2 A3.hr
  have A4 := A3.push [Ev.O.lst (intD 0 n)]
  have A5 := A4.push [Ev.O.lst []]
  have a5 : dE ct cs (dV n (some (.int (n : Nat))) (some (.loc l')) (some (.loc p')) (some (.loc (S1.length + 2))) z7 z8 z9 (some (.loc S3.length))) (S3 ++ [.lst (intD 0 n)]) = .nx (dV n (some (.int (n : Nat))) (some (.loc l')) (some (.loc p')) (some (.loc (S1.length + 2))) z7 z8 z9 (some (.loc S3.length))) (S3 ++ [.lst (intD 0 n)] ++ [.lst []]) := by
    refine for_ok (items := []) (ws := [((S3 ++ [Ev.O.lst (intD 0 n)]).length, [])]) (s1 := S3 ++ [.lst (intD 0 n)] ++ [.lst []]) ?_ ?_
    · have q : eIf (tfB (eVar 2)) (eNew (nLst aNil)) (eCall cs (aCons (eVar 0) (aCons (eVar 10) (aCons (eCall ct (aCons (eVar 0) (aCons (eCall lenF (aCons (eVar 10) aNil)) aNil))) aNil)))) (dV n (some (.int (n : Nat))) (some (.loc l')) (some (.loc p')) (some (.loc (S1.length + 2))) z7 z8 z9 (some (.loc S3.length))) (S3 ++ [.lst (intD 0 n)]) = .ok (.loc (S3 ++ [Ev.O.lst (intD 0 n)]).length) (S3 ++ [.lst (intD 0 n)] ++ [.lst []]) := enew_of (t := aNil) (env := dV n (some (.int (n : Nat))) (some (.loc l')) (some (.loc p')) (some (.loc (S1.length + 2))) z7 z8 z9 (some (.loc S3.length))) rfl (by simp)
      unfold iVal
      rw [q, R.bind_ok]
      simp
    · rw [loopF, if_pos (wOk_lst (by simp) rfl)]
  have a6 : sRet (eCall tupQ (qOf (eVar 6))) (dV n (some (.int (n : Nat))) (some (.loc l')) (some (.loc p')) (some (.loc (S1.length + 2))) z7 z8 z9 (some (.loc S3.length))) (S3 ++ [.lst (intD 0 n)] ++ [.lst []]) = .rt (rwD r) (S3 ++ [.lst (intD 0 n)] ++ [.lst []]) := by
    have q : qOf (eVar 6) (dV n (some (.int (n : Nat))) (some (.loc l')) (some (.loc p')) (some (.loc (S1.length + 2))) z7 z8 z9 (some (.loc S3.length))) (S3 ++ [.lst (intD 0 n)] ++ [.lst []]) = .ok row' (S3 ++ [.lst (intD 0 n)] ++ [.lst []]) := by
      have w1 : eVar 6 (dV n (some (.int (n : Nat))) (some (.loc l')) (some (.loc p')) (some (.loc (S1.length + 2))) z7 z8 z9 (some (.loc S3.length))) (S3 ++ [.lst (intD 0 n)] ++ [.lst []]) = .ok (.loc (S1.length + 2)) (S3 ++ [.lst (intD 0 n)] ++ [.lst []]) := rfl
      rw [ev_qOf, w1, R.bind_ok, ev_kQL, A5.hr]
      rfl
    have q2 : eCall tupQ (qOf (eVar 6)) (dV n (some (.int (n : Nat))) (some (.loc l')) (some (.loc p')) (some (.loc (S1.length + 2))) z7 z8 z9 (some (.loc S3.length))) (S3 ++ [.lst (intD 0 n)] ++ [.lst []]) = .ok (rwD r) (S3 ++ [.lst (intD 0 n)] ++ [.lst []]) := by
      show R.bind _ tupQ = _
      rw [q, R.bind_ok, ← er]
      rfl
    unfold sRet
    rw [q2]
    rfl
  have hi3 := rng1_ok (n := n) (s := S2) (env := dV n (some (.int (n : Nat))) (some (.loc L)) (some (.loc S1.length)) (some (.loc (S1.length + 2))) none none none none) (by omega) rfl
  have a3 : sFor (iRange1 (eVar 1)) (gN 7) (dC ct) (dV n (some (.int (n : Nat))) (some (.loc L)) (some (.loc S1.length)) (some (.loc (S1.length + 2))) none none none none) S2 = .nx (dV n (some (.int (n : Nat))) (some (.loc l')) (some (.loc p')) (some (.loc (S1.length + 2))) z7 z8 z9 none) S3 := for_ok hi3 b1
  have eb : b__law_drawn_row ct cs [some (.loc 0), some (.int (n : Nat)), some (.bl true), none, none, none, none, none, none, none, none] S = .rt (rwD r) (S3 ++ [.lst (intD 0 n)] ++ [.lst []]) := by
    rw [dr_chain]
    exact then_nx a1 (then_nx a2 (then_nx a3 (then_nx a4 (then_nx a5 a6))))
  exact ⟨r, mr, _, _, sem_rt rfl rfl eb, A5.pot⟩
end
end K29

namespace K29
open PySem L2 Ev
open PyProof.Rows hiding St
/-! ### the law's look, its pieces -/
theorem of_run {T : SemF} {st st' : Store} {l m : Nat} {xs : List D} {n d : Int} {x : D} (hm : st[m]? = some (.lst xs)) (hn : (xs.length : Int) = n) (eT : T [.loc l, .int n] st = .ok (.int d) st') (hm' : st'[m]? = some (.lst xs)) (hx : atI xs d = some x) : f__law_of T [.loc l, .loc m] st = .ok x st' := by
  simp [b__law_of, -ev_atI, hm, hn, eT, hm', hx]
def OfM (c : SemF) : Prop := ∀ (S : Store) (k : Int) (m : Nat) (xs : List D), PotAt S k → S[m]? = some (.lst xs) → m ≠ 0 → xs ≠ [] → xs.length < 100000 → k < 90000 → ∃ x ∈ xs, ∃ S', c [.loc 0, .loc m] S = .ok x S' ∧ Grow S S' ∧ PotAt S' (k + 1)
theorem of_ok {ct : SemF} (ht : TakeM ct) : OfM (f__law_of ct) := fun S k m xs h hm hm0 hx hl hk => by
  have lx : 0 < xs.length := by
    have : xs.length ≠ 0 := fun e => hx (List.length_eq_zero_iff.mp e)
    omega
  obtain ⟨d, S1, d0, d1, e1, g1, p1, n1⟩ := ht S k (xs.length : Int) h (by omega) (by omega) (by omega)
  have hd : d.toNat < xs.length := by omega
  have hx : atI xs d = some xs[d.toNat] := by
    rw [ev_atI]
    have e : ixN xs.length d = some d.toNat := by
      unfold ixN
      simp [d0, d1]
      all_goals omega
    rw [e]
    exact List.getElem?_eq_getElem hd
  exact ⟨xs[d.toNat], List.getElem_mem hd, S1, of_run hm rfl e1 (g1.get hm hm0) hx, g1, p1⟩

theorem call_of {c : SemF} {t : Af} {env : EEnv} {s s1 : Store} {ds : List D} {r : R D} (h1 : t env s = .ok ds s1) (h2 : c ds s1 = r) : eCall c t env s = r := by
  show R.bind _ c = _
  rw [h1]
  exact h2
theorem bin_of {F : F2} {f g : Ef} {env : EEnv} {s s1 s2 : Store} {x y : D} {r : R D} (h1 : f env s = .ok x s1) (h2 : g env s1 = .ok y s2) (h3 : F x y s2 = r) : eBin F f g env s = r := by
  show R.bind _ _ = _
  rw [h1, R.bind_ok, h2]
  exact h3
theorem one_of {f : Ef} {env : EEnv} {s s1 : Store} {x : D} (h1 : f env s = .ok x s1) : aCons f aNil env s = .ok [x] s1 := acons_of h1 rfl
theorem str_ne (z : Str) (s : Store) : eqF true (.str z) (.str z) s = .ok (.bl false) s := by simp [eqF]
theorem str_eq (z : Str) (s : Store) : eqF false (.str z) (.str z) s = .ok (.bl true) s := by simp [eqF]
theorem int_ne (i : Int) (s : Store) : eqF true (.int i) (.int i) s = .ok (.bl false) s := by simp
theorem skip_ok {p : Tf} {f : Sf} {env : EEnv} {s s1 : Store} (h : p env s = .ok false s1) : sIf p f sNil env s = .nx env s1 := by
  rw [ev_sIf, h]
  rfl
theorem tfB_of {f : Ef} {env : EEnv} {s s1 : Store} {b : Bool} (h : f env s = .ok (.bl b) s1) : tfB f env s = .ok b s1 := by
  rw [ev_tfB, h]
  rfl
theorem tab_lens : (tab 1).length = 1 ∧ (tab 2).length = 3 ∧ (tab 3).length = 13 ∧ (tab 4).length = 75 := ⟨rfl, rfl, rfl, rfl⟩
theorem tab_pos {n : Nat} (h : N4 n) : 0 < (tab n).length := by
  obtain ⟨a, b, c, d⟩ := tab_lens
  rcases h.cases with rfl | rfl | rfl | rfl <;> omega
abbrev rE (n : Nat) (y3 y4 y5 : Option D) : EEnv := [some (.loc 0), some (.int (n : Nat)), some (.tup (tabD n)), y3, y4, y5]
section
variable {n : Nat} {S S' : Store} {k : Int} {y3 y4 y5 : Option D} {co ce cl ct cr cn cd : SemF}
theorem len_ok (s : Store) : eCall lenF (aCons (eVar 2) aNil) (rE n y3 y4 y5) s = .ok (.int ((tab n).length : Nat)) s := by
  refine call_of (one_of (show eVar 2 (rE n y3 y4 y5) s = .ok (.tup (tabD n)) s from rfl)) ?_
  rw [ev_lenT, List.length_map]
theorem due_ok (h : N4 n) (s : Store) : eBin ixF (eNew (nLst (aCons (eC (.int 1)) (aCons (eC (.int 3)) (aCons (eC (.int 13)) (aCons (eC (.int 75)) (aCons (eC (.int 541)) aNil))))))) (eBin subF (eVar 1) (eC (.int 1))) (rE n y3 y4 y5) s = .ok (.int ((tab n).length : Nat)) (s ++ [.lst [.int 1, .int 3, .int 13, .int 75, .int 541]]) := by
  have q1 := enew_of (env := rE n y3 y4 y5) (s := s) (acons_of (show eC (.int 1) _ s = .ok (.int 1) s from rfl) (acons_of (show eC (.int 3) _ s = .ok (.int 3) s from rfl) (acons_of (show eC (.int 13) _ s = .ok (.int 13) s from rfl) (acons_of (show eC (.int 75) _ s = .ok (.int 75) s from rfl) (acons_of (show eC (.int 541) _ s = .ok (.int 541) s from rfl) (show aNil _ s = .ok [] s from rfl)))))) (by simp)
  have q2 : eBin subF (eVar 1) (eC (.int 1)) (rE n y3 y4 y5) (s ++ [.lst [.int 1, .int 3, .int 13, .int 75, .int 541]]) = .ok (.int ((n : Nat) - 1)) (s ++ [.lst [.int 1, .int 3, .int 13, .int 75, .int 541]]) := bin_of (show eVar 1 _ _ = .ok (.int (n : Nat)) _ from rfl) (show eC (.int 1) _ _ = .ok (.int 1) _ from rfl) rfl
  refine bin_of q1 q2 ?_
  have hs : (s ++ [Ev.O.lst [.int 1, .int 3, .int 13, .int 75, .int 541]])[s.length]? = some (.lst [.int 1, .int 3, .int 13, .int 75, .int 541]) := by simp
  obtain ⟨a, b, c, d⟩ := tab_lens
  have go : ∀ (i j : Int), atI [D.int 1, .int 3, .int 13, .int 75, .int 541] i = some (.int j) → ixF (.loc s.length) (.int i) (s ++ [.lst [.int 1, .int 3, .int 13, .int 75, .int 541]]) = .ok (.int j) (s ++ [.lst [.int 1, .int 3, .int 13, .int 75, .int 541]]) := fun i j h => by
    unfold ixF
    simp only [hs, h]
    rfl
  rcases h.cases with rfl | rfl | rfl | rfl
  · rw [a]; exact go _ _ rfl
  · rw [b]; exact go _ _ rfl
  · rw [c]; exact go _ _ rfl
  · rw [d]; exact go _ _ rfl
abbrev rR3 (cl : SemF) : Sf := sIf (tfOr (tfB (eBin (eqF true) (eCall lenF (aCons (eVar 2) aNil)) (eBin ixF (eNew (nLst (aCons (eC (.int 1)) (aCons (eC (.int 3)) (aCons (eC (.int 13)) (aCons (eC (.int 75)) (aCons (eC (.int 541)) aNil))))))) (eBin subF (eVar 1) (eC (.int 1)))))) (tfB (eBin (eqF true) (eCall reprF (aCons (eVar 2) aNil)) (eCall reprF (aCons (eCall cl (aCons (eVar 1) aNil)) aNil))))) (sRet (eC (.bl false))) sNil
theorem rR3_ok (hl : EvM cl) (h : N4 n) (s : Store) : rR3 cl (rE n y3 y4 y5) s = .nx (rE n y3 y4 y5) (s ++ [.lst [.int 1, .int 3, .int 13, .int 75, .int 541]]) := by
  obtain ⟨s1, hs1⟩ : ∃ s1, s1 = s ++ [Ev.O.lst [.int 1, .int 3, .int 13, .int 75, .int 541]] := ⟨_, rfl⟩
  have q1 := due_ok (y3 := y3) (y4 := y4) (y5 := y5) h s
  rw [← hs1] at q1 ⊢
  have t1 := tfB_of (bin_of (len_ok (y3 := y3) (y4 := y4) (y5 := y5) s) q1 (int_ne _ _))
  obtain ⟨z, hz⟩ := repr_tab h s1
  have t2 := tfB_of (bin_of (call_of (one_of (show eVar 2 (rE n y3 y4 y5) s1 = .ok (.tup (tabD n)) s1 from rfl)) hz) (call_of (one_of (call_of (one_of (show eVar 1 (rE n y3 y4 y5) s1 = .ok (.int (n : Nat)) s1 from rfl)) (hl n h s1))) hz) (str_ne z s1))
  refine skip_ok ?_
  unfold tfOr
  rw [t1]
  simp only [R.bind_ok, Bool.false_eq_true, if_false]
  exact t2
abbrev rB1 (cr : SemF) : Sf := sIf (tfB (eBin (eqF true) (eCall reprF (aCons (eCall cr (aCons (eVar 1) (aCons (eVar 3) aNil))) aNil)) (eCall reprF (aCons (eBin ixF (eVar 2) (eVar 3)) aNil)))) (sRet (eC (.bl false))) sNil
abbrev rB2 (cn : SemF) : Sf := sIf (tfB (eBin (eqF true) (eCall reprF (aCons (eCall cn (aKw 0 2 [1, 0] aNil (aCons (eBin ixF (eVar 2) (eVar 3)) (aCons (eVar 1) aNil)))) aNil)) (eCall reprF (aCons (eCall intF (aCons (eVar 3) aNil)) aNil)))) (sRet (eC (.bl false))) sNil
theorem kw_of {t : Af} {env : EEnv} {s s1 : Store} {a b : D} (h : t env s = .ok [a, b] s1) : aKw 0 2 [1, 0] aNil t env s = .ok [b, a] s1 := by
  unfold aKw
  show R.bind (t env s) _ = _
  rw [h]
  rfl
theorem rB_ok (hr : RowM cr) (hn : NumM cn) (h : N4 n) {j : Nat} (hj : j < (tab n).length) (s : Store) : sSeq (rB1 cr) (rB2 cn) (rE n (some (.int (j : Nat))) y4 y5) s = .nx (rE n (some (.int (j : Nat))) y4 y5) s := by
  obtain ⟨r, er⟩ : ∃ r, (tab n)[j]? = some r := ⟨_, List.getElem?_eq_getElem hj⟩
  have mr : r ∈ tab n := List.mem_of_getElem? er
  obtain ⟨z, hz⟩ := repr_row h mr s
  have l75 := tab_len h
  obtain ⟨z2, hz2⟩ := repr_int (i := (j : Nat)) (by omega) (by omega) s
  have ix : eBin ixF (eVar 2) (eVar 3) (rE n (some (.int (j : Nat))) y4 y5) s = .ok (rwD r) s := bin_of (show eVar 2 _ s = .ok (.tup (tabD n)) s from rfl) (show eVar 3 _ s = .ok (.int (j : Nat)) s from rfl) (ix_ok h er s)
  have v1 : eVar 1 (rE n (some (.int (j : Nat))) y4 y5) s = .ok (.int (n : Nat)) s := rfl
  have v3 : eVar 3 (rE n (some (.int (j : Nat))) y4 y5) s = .ok (.int (j : Nat)) s := rfl
  have b1 : rB1 cr (rE n (some (.int (j : Nat))) y4 y5) s = .nx (rE n (some (.int (j : Nat))) y4 y5) s :=
    skip_ok (tfB_of (bin_of (call_of (one_of (call_of (acons_of v1 (one_of v3)) (hr n j r h er s))) hz) (call_of (one_of ix) hz) (str_ne z s)))
  have b2 : rB2 cn (rE n (some (.int (j : Nat))) y4 y5) s = .nx (rE n (some (.int (j : Nat))) y4 y5) s :=
    skip_ok (tfB_of (bin_of (call_of (one_of (call_of (kw_of (acons_of ix (one_of v1))) (hn n j r h er s))) hz2) (call_of (one_of (call_of (one_of v3) (show intF [.int (j : Nat)] s = .ok (.int (j : Nat)) s from rfl))) hz2) (str_ne z2 s)))
  exact then_nx b1 b2
theorem numbers_ok (hr : RowM cr) (hn : NumM cn) (h : N4 n) (s : Store) : ∀ (js : List Nat) (y3 : Option D), (∀ j ∈ js, j < (tab n).length) → ∃ z3, loopF [] (gN 3) (sSeq (rB1 cr) (rB2 cn)) (js.map fun j => .int (j : Nat)) (rE n y3 y4 y5) s = .nx (rE n z3 y4 y5) s
  | [], y3, _ => ⟨y3, by simp [loopF]⟩
  | j :: js, y3, hj => by
    obtain ⟨z3, e⟩ := numbers_ok hr hn h s js (some (.int (j : Nat))) fun i m => hj i (List.mem_cons_of_mem _ m)
    refine ⟨z3, ?_⟩
    rw [List.map_cons, loopF, if_pos (show wOk s [] = true from rfl)]
    have g : gN 3 (.int (j : Nat)) (rE n y3 y4 y5) s = .ok (rE n (some (.int (j : Nat))) y4 y5) s := rfl
    rw [g, sR_ok, rB_ok hr hn h (hj j List.mem_cons_self) s]
    exact e
theorem draws_ok (ht : TakeM ct) (h : N4 n) : ∀ (is : List D) (S : Store) (k : Int), PotAt S k → k + is.length < 90000 →
    ∃ (js : List Nat) (S' : Store), compF [] (gN 5) tfYes (eCall ct (aCons (eVar 0) (aCons (eCall lenF (aCons (eVar 2) aNil)) aNil))) (rE n y3 y4 none) is S = .ok (js.map fun j => .int (j : Nat)) S' ∧ (∀ j ∈ js, j < (tab n).length) ∧ js.length = is.length ∧ PotAt S' (k + is.length) ∧ Grow S S'
  | [], S, k, P, _ => ⟨[], S, rfl, (fun _ m => nomatch m), rfl, by simpa using P, Grow.refl P⟩
  | i :: is, S, k, P, hk => by
    rw [List.length_cons] at hk
    have l75 := tab_len h
    have l0 := tab_pos h
    obtain ⟨d, S1, d0, d1, e1, g1, p1, n1⟩ := ht S k ((tab n).length : Nat) P (by omega) (by omega) (by omega)
    obtain ⟨m, rfl⟩ := Int.eq_ofNat_of_zero_le d0
    obtain ⟨js, S2, e2, h2, h3, p2, g2⟩ := draws_ok ht h is S1 (k + 1) p1 (by omega)
    refine ⟨m :: js, S2, ?_, fun j mj => ?_, by rw [List.length_cons, List.length_cons, h3], by rw [List.length_cons, show k + ((is.length + 1 : Nat) : Int) = k + 1 + (is.length : Nat) by omega]; exact p2, g1.trans g2 P.pos⟩
    · rw [compF, if_pos (show wOk S [] = true from rfl)]
      have g : gN 5 i (rE n y3 y4 none) S = .ok (rE n y3 y4 (some i)) S := rfl
      have y : tfYes (rE n y3 y4 (some i)) S = .ok true S := rfl
      have c : eCall ct (aCons (eVar 0) (aCons (eCall lenF (aCons (eVar 2) aNil)) aNil)) (rE n y3 y4 (some i)) S = .ok (.int (m : Nat)) S1 := call_of (acons_of (show eVar 0 _ S = .ok (.loc 0) S from rfl) (one_of (len_ok S))) e1
      rw [g, R.bind_ok, y, R.bind_ok, if_pos rfl, c, R.bind_ok, e2, R.bind_ok]
      rfl
    · rcases List.mem_cons.mp mj with rfl | mj
      · omega
      · exact h2 j mj
end
end K29

namespace K29
open PySem L2 Ev
open PyProof.Rows hiding St
/-! ### the law's look, the whole -/
abbrev rR1 (co : SemF) : Sf := sSet 1 (eCall co (aCons (eVar 0) (aCons (eNew (nLst (aCons (eC (.int 1)) (aCons (eC (.int 2)) (aCons (eC (.int 3)) (aCons (eC (.int 3)) (aCons (eC (.int 4)) (aCons (eC (.int 4)) (aCons (eC (.int 4)) (aCons (eC (.int 4)) aNil)))))))))) aNil)))
abbrev rR2 (ce : SemF) : Sf := sSet 2 (eCall ce (aCons (eVar 1) aNil))
abbrev rIt (ct : SemF) : Mf := mBin addM (eNew (nLst (aCons (eC (.int 0)) (aCons (eBin subF (eCall lenF (aCons (eVar 2) aNil)) (eC (.int 1))) aNil)))) (eNew (nComp [5] (iRange1 (eC (.int 4))) (gN 5) tfYes (eCall ct (aCons (eVar 0) (aCons (eCall lenF (aCons (eVar 2) aNil)) aNil)))))
abbrev rR4 (ct cr cn : SemF) : Sf := sFor (iM (rIt ct)) (gN 3) (sSeq (rB1 cr) (rB2 cn))
abbrev rR5 (cd : SemF) : Sf := sSet 4 (eCall cd (aCons (eVar 0) (aCons (eVar 1) (aCons (eC (.bl true)) aNil))))
abbrev rR6 (cr cn : SemF) : Sf := sRet (eBin (eqF false) (eCall reprF (aCons (eCall cr (aKw 0 2 [1, 0] aNil (aCons (eCall cn (aCons (eVar 1) (aCons (eVar 4) aNil))) (aCons (eVar 1) aNil)))) aNil)) (eCall reprF (aCons (eVar 4) aNil)))
theorem r_chain {co ce cl ct cr cn cd : SemF} : b__law_right co ce cl ct cr cn cd = sSeq (rR1 co) (sSeq (rR2 ce) (sSeq (rR3 cl) (sSeq (rR4 ct cr cn) (sSeq (rR5 cd) (rR6 cr cn))))) := rfl
section
variable {n : Nat} {S S' : Store} {k : Int} {y3 y4 y5 : Option D} {co ce cl ct cr cn cd : SemF}
theorem rR1_ok (ho : OfM co) (P : PotAt S k) (hk : k < 80000) : ∃ n S', N4 n ∧ rR1 co [some (.loc 0), none, none, none, none, none] S = .nx [some (.loc 0), some (.int (n : Nat)), none, none, none, none] S' ∧ PotAt S' (k + 1) := by
  obtain ⟨x, mx, S1, e1, g1, p1⟩ := ho (S ++ [.lst [.int 1, .int 2, .int 3, .int 3, .int 4, .int 4, .int 4, .int 4]]) k S.length [.int 1, .int 2, .int 3, .int 3, .int 4, .int 4, .int 4, .int 4] (P.push _) (by simp) (by have := P.pos; omega) (by simp) (by simp) (by omega)
  obtain ⟨n, hn, rfl⟩ : ∃ n : Nat, N4 n ∧ x = .int (n : Nat) := by
    simp only [List.mem_cons, List.not_mem_nil, or_false] at mx
    rcases mx with rfl | rfl | rfl | rfl | rfl | rfl | rfl | rfl
    · exact ⟨1, ⟨by decide, by decide⟩, rfl⟩
    · exact ⟨2, ⟨by decide, by decide⟩, rfl⟩
    · exact ⟨3, ⟨by decide, by decide⟩, rfl⟩
    · exact ⟨3, ⟨by decide, by decide⟩, rfl⟩
    · exact ⟨4, ⟨by decide, by decide⟩, rfl⟩
    · exact ⟨4, ⟨by decide, by decide⟩, rfl⟩
    · exact ⟨4, ⟨by decide, by decide⟩, rfl⟩
    · exact ⟨4, ⟨by decide, by decide⟩, rfl⟩
  refine ⟨n, S1, hn, ?_, p1⟩
  have e0 : (nLst (aCons (eC (.int 1)) (aCons (eC (.int 2)) (aCons (eC (.int 3)) (aCons (eC (.int 3)) (aCons (eC (.int 4)) (aCons (eC (.int 4)) (aCons (eC (.int 4)) (aCons (eC (.int 4)) aNil))))))))) = nLst (aCons (eC (.int 1)) (aCons (eC (.int 2)) (aCons (eC (.int 3)) (aCons (eC (.int 3)) (aCons (eC (.int 4)) (aCons (eC (.int 4)) (aCons (eC (.int 4)) (aCons (eC (.int 4)) aNil)))))))) := rfl
  have q1 := enew_of (env := [some (.loc 0), none, none, none, none, none]) (s := S) (acons_of (show eC (.int 1) _ S = .ok (.int 1) S from rfl) (acons_of (show eC (.int 2) _ S = .ok (.int 2) S from rfl) (acons_of (show eC (.int 3) _ S = .ok (.int 3) S from rfl) (acons_of (show eC (.int 3) _ S = .ok (.int 3) S from rfl) (acons_of (show eC (.int 4) _ S = .ok (.int 4) S from rfl) (acons_of (show eC (.int 4) _ S = .ok (.int 4) S from rfl) (acons_of (show eC (.int 4) _ S = .ok (.int 4) S from rfl) (one_of (show eC (.int 4) _ S = .ok (.int 4) S from rfl))))))))) (by simp)
  have q2 := call_of (c := co) (acons_of (show eVar 0 [some (.loc 0), none, none, none, none, none] S = .ok (.loc 0) S from rfl) (one_of q1)) e1
  unfold rR1
  rw [ev_sSet, q2]
  rfl
theorem rR4_ok (ht : TakeM ct) (hr : RowM cr) (hn : NumM cn) (h : N4 n) (P : PotAt S k) (hk : k < 80000) : ∃ z3 S', rR4 ct cr cn (rE n y3 y4 none) S = .nx (rE n z3 y4 none) S' ∧ PotAt S' (k + 4) := by
  have l0 := tab_pos h
  have l75 := tab_len h
  have q1 := enew_of (env := rE n y3 y4 none) (s := S) (acons_of (show eC (.int 0) _ S = .ok (.int 0) S from rfl) (one_of (bin_of (F := subF) (len_ok (n := n) (y3 := y3) (y4 := y4) (y5 := none) S) (show eC (.int 1) _ S = .ok (.int 1) S from rfl) (show subF (.int (((tab n).length : Nat) : Int)) (.int 1) S = .ok (.int ((((tab n).length : Nat) : Int) - 1)) S from rfl)))) (by simp)
  rw [show (((tab n).length : Nat) : Int) - 1 = (((tab n).length - 1 : Nat) : Int) by omega] at q1
  obtain ⟨S1, hS1⟩ : ∃ S1, S1 = S ++ [Ev.O.lst [.int 0, .int (((tab n).length - 1 : Nat) : Int)]] := ⟨_, rfl⟩
  rw [← hS1] at q1
  have P1 : PotAt S1 k := by rw [hS1]; exact P.push _
  obtain ⟨js, S2, e2, h2, h3, p2, g2⟩ := draws_ok (y3 := y3) (y4 := y4) ht h (intD 0 4) S1 k P1 (by rw [intD_length]; omega)
  rw [intD_length] at h3 p2
  have q2 : eNew (nComp [5] (iRange1 (eC (.int 4))) (gN 5) tfYes (eCall ct (aCons (eVar 0) (aCons (eCall lenF (aCons (eVar 2) aNil)) aNil)))) (rE n y3 y4 none) S1 = .ok (.loc S2.length) (S2 ++ [.lst (js.map fun j => .int (j : Nat))]) := by
    have hi : iRange1 (eC (.int 4)) (rE n y3 y4 none) S1 = .ok ⟨intD 0 4, []⟩ S1 := by
      have q := rg_nat (n := 4) (s := S1) (by decide)
      rw [ev_iRange1]
      exact q
    have e : nComp [5] (iRange1 (eC (.int 4))) (gN 5) tfYes (eCall ct (aCons (eVar 0) (aCons (eCall lenF (aCons (eVar 2) aNil)) aNil))) (rE n y3 y4 none) S1 = .ok (js.map fun j => .int (j : Nat)) S2 := by
      unfold nComp
      rw [hi, R.bind_ok, if_pos (show (intD 0 4).length ≤ sizeLine by rw [intD_length]; exact le_line (by omega))]
      exact e2
    rw [ev_eNew, e]
    rfl
  have a1 : S2[S.length]? = some (.lst [.int 0, .int (((tab n).length - 1 : Nat) : Int)]) := g2.get (by rw [hS1]; simp) (by have := P.pos; omega)
  have a2 : (S2 ++ [Ev.O.lst (js.map fun j => D.int (j : Nat))])[S.length]? = some (.lst [.int 0, .int (((tab n).length - 1 : Nat) : Int)]) := by rw [List.getElem?_append_left (lt_of_get a1)]; exact a1
  have a3 : (S2 ++ [Ev.O.lst (js.map fun j => D.int (j : Nat))])[S2.length]? = some (.lst (js.map fun j => D.int (j : Nat))) := by simp
  have q3 : rIt ct (rE n y3 y4 none) S = .ok (.l ([.int 0, .int (((tab n).length - 1 : Nat) : Int)] ++ js.map fun j => .int (j : Nat))) (S2 ++ [.lst (js.map fun j => .int (j : Nat))]) := by
    unfold rIt mBin
    rw [q1]
    simp only [R.bind_ok]
    rw [q2]
    simp only [R.bind_ok]
    rw [ev_addL, a2, a3, ev_addGet, if_pos (le_line (by rw [List.length_map, h3]; simp))]
  have hi : iM (rIt ct) (rE n y3 y4 none) S = .ok ⟨((0 : Nat) :: ((tab n).length - 1) :: js).map fun j => .int (j : Nat), []⟩ (S2 ++ [.lst (js.map fun j => .int (j : Nat))]) := by
    unfold iM
    rw [q3]
    rfl
  obtain ⟨z3, e4⟩ := numbers_ok (y4 := y4) (y5 := none) hr hn h (S2 ++ [.lst (js.map fun j => .int (j : Nat))]) (0 :: ((tab n).length - 1) :: js) y3 (fun j m => by
    rcases List.mem_cons.mp m with rfl | m
    · exact l0
    · rcases List.mem_cons.mp m with rfl | m
      · omega
      · exact h2 j m)
  exact ⟨z3, _, for_ok hi e4, p2.push _⟩
def RightM (c : SemF) : Prop := ∀ (S : Store), PotAt S 0 → ∃ (S' : Store) (k : Int), c [.loc 0] S = .ok (.bl true) S' ∧ PotAt S' k
theorem right_ok' (ho : OfM co) (he : EvM ce) (hl : EvM cl) (ht : TakeM ct) (hr : RowM cr) (hn : NumM cn) (hd : DrowM cd) : RightM (f__law_right co ce cl ct cr cn cd) := fun S P => by
  obtain ⟨n, S1, h, e1, P1⟩ := rR1_ok ho P (by decide)
  have e2 : rR2 ce [some (.loc 0), some (.int (n : Nat)), none, none, none, none] S1 = .nx (rE n none none none) S1 := by
    have q : eCall ce (aCons (eVar 1) aNil) [some (.loc 0), some (.int (n : Nat)), none, none, none, none] S1 = .ok (.tup (tabD n)) S1 := call_of (one_of (show eVar 1 _ S1 = .ok (.int (n : Nat)) S1 from rfl)) (he n h S1)
    unfold rR2
    rw [ev_sSet, q]
    rfl
  have e3 := rR3_ok (y3 := none) (y4 := none) (y5 := none) hl h S1
  obtain ⟨z3, S4, e4, P4⟩ := rR4_ok (y3 := none) (y4 := none) ht hr hn h (P1.push [.lst [.int 1, .int 3, .int 13, .int 75, .int 541]]) (by decide)
  obtain ⟨r, mr, S5, k5, e5, P5⟩ := hd S4 _ n h P4 (by decide)
  obtain ⟨j, hj, er⟩ : ∃ j, ∃ hj : j < (tab n).length, (tab n)[j] = r := List.getElem_of_mem mr
  have er : (tab n)[j]? = some r := by rw [List.getElem?_eq_getElem hj, er]
  have a5 : rR5 cd (rE n z3 none none) S4 = .nx (rE n z3 (some (rwD r)) none) S5 := by
    have q : eCall cd (aCons (eVar 0) (aCons (eVar 1) (aCons (eC (.bl true)) aNil))) (rE n z3 none none) S4 = .ok (rwD r) S5 := call_of (acons_of (show eVar 0 _ S4 = .ok (.loc 0) S4 from rfl) (acons_of (show eVar 1 _ S4 = .ok (.int (n : Nat)) S4 from rfl) (one_of (show eC (.bl true) _ S4 = .ok (.bl true) S4 from rfl)))) e5
    unfold rR5
    rw [ev_sSet, q]
    rfl
  have a6 : rR6 cr cn (rE n z3 (some (rwD r)) none) S5 = .rt (.bl true) S5 := by
    obtain ⟨z, hz⟩ := repr_row h mr S5
    have v1 : eVar 1 (rE n z3 (some (rwD r)) none) S5 = .ok (.int (n : Nat)) S5 := rfl
    have v4 : eVar 4 (rE n z3 (some (rwD r)) none) S5 = .ok (rwD r) S5 := rfl
    have w1 := call_of (c := cn) (acons_of v1 (one_of v4)) (hn n j r h er S5)
    have w2 := call_of (c := cr) (kw_of (acons_of w1 (one_of v1))) (hr n j r h er S5)
    have w3 := bin_of (call_of (one_of w2) hz) (call_of (one_of v4) hz) (str_eq z S5)
    unfold rR6 sRet
    rw [w3]
    rfl
  have eb : b__law_right co ce cl ct cr cn cd [some (.loc 0), none, none, none, none, none] S = .rt (.bl true) S5 := by
    rw [r_chain]
    exact then_nx e1 (then_nx e2 (then_nx e3 (then_nx e4 (then_nx a5 a6))))
  exact ⟨S5, k5, sem_rt rfl rfl eb, P5⟩
end
abbrev takeS : SemF := frame1 f__law_take
abbrev someS : SemF := f__law_some takeS
abbrev ofS : SemF := f__law_of takeS
abbrev drowS : SemF := f__law_drawn_row takeS someS
abbrev rowS : SemF := f_row_at pev pint
abbrev numS : SemF := f_number_of pchW pev
abbrev rightF : SemF := f__law_right ofS pev plev takeS rowS numS drowS
abbrev rightS : SemF := frame1 rightF
theorem rightM_ok : RightM rightF := right_ok' (of_ok (takeM_ok take_ok)) evM levM (takeM_ok take_ok) (row_ok evM intM) (num_ok chM evM) (drow_ok (takeM_ok take_ok) (someM_ok take_ok))
theorem right_ok (a b : Int) (st : Store) (l : Nat) (hl : st[l]? = some (.lst [.int a, .int b, .int 0])) (hp : PotOk a b 0 0) : ∃ ys, rightS [.loc l] st = .ok (.bl true) (st.set l (.lst ys)) := by
  obtain ⟨S', k, e, a', b', q', h0, _⟩ := rightM_ok [.lst [.int a, .int b, .int 0]] ⟨a, b, 0, rfl, hp⟩
  obtain ⟨s9, rfl⟩ : ∃ s9, S' = Ev.O.lst [.int a', .int b', .int q'] :: s9 := by
    cases S' with
    | nil => cases h0
    | cons y ys =>
      simp at h0
      exact ⟨ys, by rw [h0]⟩
  exact ⟨_, frame1_ok hl rfl flat_pot e rfl flat_pot⟩
section
variable {P : Program} {w : World} {K : PySem.W.Frag} {mg : Str → Option Value} {base : Heap} (T : Txt K mg)
theorem law_all : FnG T.g P w K mg base 60 T.d_law.a T.d_law.fd ["script"] (f_law f__law_cells rightS f__law_pot) := by
  have tk : FnG T.g P w K mg base 1 _ _ _ takeS := (ok__law_take (T := T) (k := 0)).frame1
  have sm : FnG T.g P w K mg base 2 _ _ _ someS := ok__law_some tk
  have of : FnG T.g P w K mg base 2 _ _ _ ofS := ok__law_of tk
  have dr : FnG T.g P w K mg base 3 _ _ _ drowS := ok__law_drawn_row (k := 2) (tk.mono (by decide)) sm
  have wi := ok_is_whole (T := T) (P := P) (w := w) (base := base) (k := 0)
  have ii := ok_is_integer wi
  have cm := ok_check_many ii
  have bl := ok_blocks_of (T := T) (P := P) (w := w) (base := base) (k := 0)
  have ev : FnZ T.g P w K mg base 5 _ _ _ pev := (ok_every_row (k := 4) (wn := 200) (cm.mono (by decide)) (bl.mono (by decide))).frame0
  have lv : FnG T.g P w K mg base 1 _ _ _ plev := (ok__law_every (T := T) (k := 0)).frame0
  have ro : FnG T.g P w K mg base 6 _ _ _ rowS := ok_row_at (k := 5) ev (ii.mono (by decide))
  have it := ok_is_tuple (T := T) (P := P) (w := w) (base := base) (k := 0)
  have as := ok_is_ascending (T := T) (P := P) (w := w) (base := base) (k := 0)
  have lo := ok_is_lot (k := 4) (ii.mono (by decide)) (as.mono (by decide))
  have li := ok_lies_within (T := T) (P := P) (w := w) (base := base) (k := 0)
  have fb := ok_fits_beside (k := 4) (li.mono (by decide))
  have ir := ok_is_row (k := 8) (it.mono (by decide)) (lo.mono (by decide)) (fb.mono (by decide))
  have wr := ok_is_whole_row (k := 10) (ir.mono (by decide))
  have ck := (ok_check_whole_row (k := 12) (cm.mono (by decide)) (wr.mono (by decide))).frame0
  have nu := ok_number_of (k := 14) (ck.mono (by decide)) (ev.mono (by decide))
  have right := (ok__law_right (k := 30) (of.mono (by decide)) (ev.mono (by decide)) (lv.mono (by decide)) (tk.mono (by decide)) (ro.mono (by decide)) (nu.mono (by decide)) (dr.mono (by decide))).frame1
  have cells := ok__law_cells (T := T) (P := P) (w := w) (base := base) (k := 0)
  have pot := ok__law_pot (T := T) (P := P) (w := w) (base := base) (k := 0)
  exact (ok_law (k := 40) (cells.mono (by decide)) (right.mono (by decide)) (pot.mono (by decide))).mono (by decide)
end
theorem walk {l : PySem.W.OpenLaw} {q : Program} {loose : List Str} {XP : (Str → Option Value) → Heap → Prop} {YP : World → Heap → Prop} {d : DefRec} {K : Params → PySem.W.Frag} (hn : l.most = some 63) (hdf : d.params.defaults = [])
    (hY : ∀ (w : World) (h : Heap), YP w h → (K w.params).In h)
    (F : ∀ (w : World) (mg : Str → Option Value) (fa : Addr) (h : Heap), (K w.params).In h → h.Ns mainGlobals mg → mg d.name = some (.ref fa) →
      ∃ T : Txt (K w.params) mg, T.d_law.a = fa ∧ ∀ (s : Shared) (v : Value), BindsTo s T.d_law.fd ⟨[v], []⟩ [("script", v)]) : PySem.W.WalkO q loose XP YP l.row.toRowW d [] (fun f vs => PySem.call f vs) :=
  walk_g (n := 63) (k := 60) (x := "script") hn (by decide) hdf ⟨rfl, by decide, by decide⟩ hY (fun w mg fa h X G e => by
    obtain ⟨T, rfl, hb⟩ := F w mg fa h X G e
    exact ⟨T.g, T.d_law.fd, rfl, hb, fun base _ _ => law_all T⟩) (law_run rightS right_ok)
end K29

open PySem PySem.W PyProof.Rows in
set_option maxRecDepth 100000 in
set_option maxHeartbeats 0 in
theorem PySem.Challenge.cw_fewplaymany_k29_all_rows_of_views_counte_holds : PySem.Challenge.rw_fewplaymany_k29_all_rows_of_views_counte.Holds := by
  w_on; o_law; k_head; (case hw => w_witness2)
  k_fill
  refine K29.walk (l := PySem.Challenge.rw_fewplaymany_k29_all_rows_of_views_counte) rfl rfl (fun w h Y => PySem.W.kIn_of Y) ?F
  case F =>
    intro w mg fa h KX G hmg
    refine' K29.facts (l := PySem.Challenge.rw_fewplaymany_k29_all_rows_of_views_counte) (w := w) KX G hmg ?x__law_cells ?l__law_cells ?c__law_cells ?k__law_cells ?x__law_take ?l__law_take ?c__law_take ?k__law_take ?x__law_of ?l__law_of ?c__law_of ?k__law_of ?x_is_whole ?l_is_whole ?c_is_whole ?k_is_whole ?x_is_integer ?l_is_integer ?c_is_integer ?k_is_integer ?x_check_many ?l_check_many ?c_check_many ?k_check_many ?x_blocks_of ?l_blocks_of ?c_blocks_of ?k_blocks_of ?x_every_row ?l_every_row ?c_every_row ?k_every_row ?x__law_every ?l__law_every ?c__law_every ?k__law_every ?x_row_at ?l_row_at ?c_row_at ?k_row_at ?x_is_tuple ?l_is_tuple ?c_is_tuple ?k_is_tuple ?x_is_ascending ?l_is_ascending ?c_is_ascending ?k_is_ascending ?x_is_lot ?l_is_lot ?c_is_lot ?k_is_lot ?x_lies_within ?l_lies_within ?c_lies_within ?k_lies_within ?x_fits_beside ?l_fits_beside ?c_fits_beside ?k_fits_beside ?x_is_row ?l_is_row ?c_is_row ?k_is_row ?x_is_whole_row ?l_is_whole_row ?c_is_whole_row ?k_is_whole_row ?x_check_whole_row ?l_check_whole_row ?c_check_whole_row ?k_check_whole_row ?x_number_of ?l_number_of ?c_number_of ?k_number_of ?x__law_some ?l__law_some ?c__law_some ?k__law_some ?x__law_drawn_row ?l__law_drawn_row ?c__law_drawn_row ?k__law_drawn_row ?x__law_right ?l__law_right ?c__law_right ?k__law_right ?x__law_pot ?l__law_pot ?c__law_pot ?k__law_pot ?x_law ?l_law ?c_law ?k_law ?g_MOST_HANDS ?z_len ?z_tuple ?z_list ?z_range ?z_max ?z_min ?z_sum ?z_all ?z_any ?z_sorted ?z_abs ?z_int ?z_repr ?z_enumerate ?z_zip ?z_isinstance ?z_set ?z_str ?z_dict ?z_bool ?z_reversed ?z_type
    (case x__law_cells => k_is)
    (case l__law_cells => k_is)
    (case c__law_cells => k_is)
    (case k__law_cells => k_is)
    (case x__law_take => k_is)
    (case l__law_take => k_is)
    (case c__law_take => k_is)
    (case k__law_take => k_is)
    (case x__law_of => k_is)
    (case l__law_of => k_is)
    (case c__law_of => k_is)
    (case k__law_of => k_is)
    (case x_is_whole => k_is)
    (case l_is_whole => k_is)
    (case c_is_whole => k_is)
    (case k_is_whole => k_is)
    (case x_is_integer => k_is)
    (case l_is_integer => k_is)
    (case c_is_integer => k_is)
    (case k_is_integer => k_is)
    (case x_check_many => k_is)
    (case l_check_many => k_is)
    (case c_check_many => k_is)
    (case k_check_many => k_is)
    (case x_blocks_of => k_is)
    (case l_blocks_of => k_is)
    (case c_blocks_of => k_is)
    (case k_blocks_of => k_is)
    (case x_every_row => k_is)
    (case l_every_row => k_is)
    (case c_every_row => k_is)
    (case k_every_row => k_is)
    (case x__law_every => k_is)
    (case l__law_every => k_is)
    (case c__law_every => k_is)
    (case k__law_every => k_is)
    (case x_row_at => k_is)
    (case l_row_at => k_is)
    (case c_row_at => k_is)
    (case k_row_at => k_is)
    (case x_is_tuple => k_is)
    (case l_is_tuple => k_is)
    (case c_is_tuple => k_is)
    (case k_is_tuple => k_is)
    (case x_is_ascending => k_is)
    (case l_is_ascending => k_is)
    (case c_is_ascending => k_is)
    (case k_is_ascending => k_is)
    (case x_is_lot => k_is)
    (case l_is_lot => k_is)
    (case c_is_lot => k_is)
    (case k_is_lot => k_is)
    (case x_lies_within => k_is)
    (case l_lies_within => k_is)
    (case c_lies_within => k_is)
    (case k_lies_within => k_is)
    (case x_fits_beside => k_is)
    (case l_fits_beside => k_is)
    (case c_fits_beside => k_is)
    (case k_fits_beside => k_is)
    (case x_is_row => k_is)
    (case l_is_row => k_is)
    (case c_is_row => k_is)
    (case k_is_row => k_is)
    (case x_is_whole_row => k_is)
    (case l_is_whole_row => k_is)
    (case c_is_whole_row => k_is)
    (case k_is_whole_row => k_is)
    (case x_check_whole_row => k_is)
    (case l_check_whole_row => k_is)
    (case c_check_whole_row => k_is)
    (case k_check_whole_row => k_is)
    (case x_number_of => k_is)
    (case l_number_of => k_is)
    (case c_number_of => k_is)
    (case k_number_of => k_is)
    (case x__law_some => k_is)
    (case l__law_some => k_is)
    (case c__law_some => k_is)
    (case k__law_some => k_is)
    (case x__law_drawn_row => k_is)
    (case l__law_drawn_row => k_is)
    (case c__law_drawn_row => k_is)
    (case k__law_drawn_row => k_is)
    (case x__law_right => k_is)
    (case l__law_right => k_is)
    (case c__law_right => k_is)
    (case k__law_right => k_is)
    (case x__law_pot => k_is)
    (case l__law_pot => k_is)
    (case c__law_pot => k_is)
    (case k__law_pot => k_is)
    (case x_law => k_is)
    (case l_law => k_is)
    (case c_law => k_is)
    (case k_law => k_is)
    (case g_MOST_HANDS => k_is)
    (case z_len => k_is)
    (case z_tuple => k_is)
    (case z_list => k_is)
    (case z_range => k_is)
    (case z_max => k_is)
    (case z_min => k_is)
    (case z_sum => k_is)
    (case z_all => k_is)
    (case z_any => k_is)
    (case z_sorted => k_is)
    (case z_abs => k_is)
    (case z_int => k_is)
    (case z_repr => k_is)
    (case z_enumerate => k_is)
    (case z_zip => k_is)
    (case z_isinstance => k_is)
    (case z_set => k_is)
    (case z_str => k_is)
    (case z_dict => k_is)
    (case z_bool => k_is)
    (case z_reversed => k_is)
    (case z_type => k_is)

