import PyProof.Rows.All
import Wide.All
import OpenK.AllK
import Wide.FinOn
import PySem.Challenge.RW_fewplaymany_k35_whole_levels_step_by_ste
import HandS.ForMost
import HandS.Star
import HandS.IsInst
import HandS.Property
import HandS.Wide
import HandS.WideBits
import HandS.TupAny
import HandS.TupMul
import HandS.Style
import HandS.Deep
import HandS.RaiseMore
import HandS.Conv
import PyProof.ReprRoads
import HandS.Walk
import HandS.Zip
import HandS.Small
import HandS.Strs
import KE.SortData
import HandS.Iter
import HandS.More
set_option Elab.async false
set_option linter.all false
set_option maxRecDepth 100000
set_option autoImplicit false
/-! Ev1: a small functional reading of the text: values as trees, a store of lists and instances; how it lies within the layer's heap. -/
namespace Ev
open PySem L2

/-- a value: a tree; what can be changed stands in the store, by its place -/
inductive D where
  | non | bl (b : Bool) | int (i : Int) | str (s : Str) | tup (xs : List D) | loc (l : Nat)
/-- what stands in the store: the script, a list, an instance (its class's number, its fields by their numbers), a dict with text or int keys -/
inductive O where
  | ro (ns : List Int) | lst (xs : List D) | ins (c : Nat) (fs : List (Nat × D)) | dic (kvs : List (Key × D))
abbrev Store := List O
inductive R (A : Type) where
  | ok (a : A) (s : Store) | bad
def R.bind {A B : Type} (r : R A) (f : A → Store → R B) : R B := match r with | .ok a s => f a s | .bad => .bad
@[simp] theorem R.bind_ok {A B : Type} (a : A) (s : Store) (f : A → Store → R B) : (R.ok a s).bind f = f a s := rfl
@[simp] theorem R.bind_bad {A B : Type} (f : A → Store → R B) : (R.bad : R A).bind f = .bad := rfl
theorem R.bind_eq {A B : Type} {r : R A} {f : A → Store → R B} {b : B} {s' : Store} (h : r.bind f = .ok b s') : ∃ a s, r = .ok a s ∧ f a s = .ok b s' := by
  cases r with
  | ok a s => exact ⟨a, s, rfl, h⟩
  | bad => cases h

/-- the numbers' meaning: K the written part, the class at a number, the field's name at a number -/
structure Gh where
  K : PySem.W.Frag
  cl : Nat → Addr
  fld : Nat → Str
  nc : Nat
  nf : Nat

def O.mut : O → Bool
  | .ro _ => false
  | _ => true
def mutAt (st : Store) (l : Nat) : Prop := ∃ o, st[l]? = some o ∧ o.mut = true

mutual
def VR (K : PySem.W.Frag) (ρ : Nat → Addr) (n : Nat) (H : Hp) : D → V → Prop
  | .non, v => v = .non
  | .bl b, v => v = .bl b
  | .int i, v => v = .int i
  | .str s, v => v = .str s
  | .tup xs, v => ∃ a ys, v = .ref a ∧ SqT K H a ys ∧ VRs K ρ n H xs ys
  | .loc l, v => l < n ∧ v = .ref (ρ l)
def VRs (K : PySem.W.Frag) (ρ : Nat → Addr) (n : Nat) (H : Hp) : List D → List V → Prop
  | [], ys => ys = []
  | x :: xs, ys => ∃ y zs, ys = y :: zs ∧ VR K ρ n H x y ∧ VRs K ρ n H xs zs
end

def RoL (K : PySem.W.Frag) (H : Hp) (a : Addr) (xs : List V) : Prop :=
  (∃ o, H a = some (.frz o (.lst xs))) ∨
    ∃ (o : Obj) (its : Array Value) (n : Nat), K.lookup a = some o ∧ o.cls = .type "list" ∧ o.dict = none ∧ o.data = .seq its n ∧ its.size ≤ sizeLine ∧ Vals xs its.toList
theorem RoL.sq {K : PySem.W.Frag} {H : Hp} {a : Addr} {xs : List V} (h : RoL K H a xs) : SqL K H a xs := by
  rcases h with ⟨o, h⟩ | h
  · exact .inl (.inr ⟨o, h⟩)
  · exact .inr h

/-- the fields, one by one -/
def FR (g : Gh) (ρ : Nat → Addr) (n : Nat) (H : Hp) : List (Nat × D) → List (Str × V) → Prop
  | [], gs => gs = []
  | (i, d) :: fs, gs => i < g.nf ∧ ∃ v hs, gs = (g.fld i, v) :: hs ∧ VR g.K ρ n H d v ∧ FR g ρ n H fs hs
def KR (K : PySem.W.Frag) (ρ : Nat → Addr) (n : Nat) (H : Hp) : List (Key × D) → List (Key × V) → Prop
  | [], gs => gs = []
  | (k, d) :: fs, gs => ∃ v hs, gs = (k, v) :: hs ∧ VR K ρ n H d v ∧ KR K ρ n H fs hs

def OR (g : Gh) (ρ : Nat → Addr) (n : Nat) (H : Hp) (a : Addr) : O → Prop
  | .ro ns => RoL g.K H a (ns.map V.int)
  | .lst xs => ∃ ys, H a = some (.lst ys) ∧ VRs g.K ρ n H xs ys
  | .ins c fs => c < g.nc ∧ ∃ dx gs, H a = some (.ins (g.cl c) dx gs) ∧ FR g ρ n H fs gs
  | .dic kvs => ∃ gs, H a = some (.dK gs) ∧ KR g.K ρ n H kvs gs

structure Rel (g : Gh) (ρ : Nat → Addr) (st : Store) (H : Hp) : Prop where
  obj : ∀ (l : Nat) (o : O), st[l]? = some o → OR g ρ st.length H (ρ l) o
  inj : ∀ l l', mutAt st l → mutAt st l' → ρ l = ρ l' → l = l'

/-- what stays -/
structure Post (g : Gh) (ρ : Nat → Addr) (st : Store) (H : Hp) (ρ' : Nat → Addr) (st' : Store) (H' : Hp) : Prop where
  rel : Rel g ρ' st' H'
  len : st.length ≤ st'.length
  old : ∀ l, l < st.length → ρ' l = ρ l
  keep : ∀ b o, H b = some o → (∀ l, mutAt st l → ρ l ≠ b) → H' b = some o
  fresh : ∀ l, st.length ≤ l → l < st'.length → H (ρ' l) = none
  kind : ∀ (l : Nat) (o o' : O), st[l]? = some o → st'[l]? = some o' → o.mut = o'.mut

section
variable {g : Gh} {K : PySem.W.Frag} {ρ ρ' ρ1 ρ2 : Nat → Addr} {st st' st1 st2 : Store} {H H' H1 H2 : Hp} {n n' : Nat}

theorem OR.tracked {a : Addr} {o : O} (h : OR g ρ n H a o) (m : o.mut = true) : ∃ u, H a = some u ∧ Mut (some u) := by
  cases o with
  | ro ns => cases m
  | lst xs => obtain ⟨ys, e, _⟩ := h; exact ⟨_, e, trivial⟩
  | ins c fs => obtain ⟨_, dx, gs, e, _⟩ := h; exact ⟨_, e, trivial⟩
  | dic kvs => obtain ⟨gs, e, _⟩ := h; exact ⟨_, e, trivial⟩
theorem Rel.mutSome (R : Rel g ρ st H) {l : Nat} (m : mutAt st l) : ∃ u, H (ρ l) = some u ∧ Mut (some u) := by
  obtain ⟨o, e, m⟩ := m
  exact OR.tracked (R.obj l o e) m

/-- what is no list, instance, dict stays -/
theorem Post.keepN (P : Post g ρ st H ρ' st' H') (R : Rel g ρ st H) {b : Addr} {o : HO} (e : H b = some o) (m : ¬ Mut (some o)) : H' b = some o :=
  P.keep b o e fun l ml q => by
    obtain ⟨u, e', m'⟩ := R.mutSome ml
    rw [q, e] at e'
    cases e'
    exact m m'
def TK (K : PySem.W.Frag) (H H' : Hp) : Prop := ∀ a ys, SqT K H a ys → SqT K H' a ys
theorem TK.of (h : ∀ b o, H b = some o → ¬ Mut (some o) → H' b = some o) : TK K H H' := fun a ys q => by
  rcases q with (q | ⟨o, q⟩) | q
  · exact .inl (.inl (h _ _ q fun z => z))
  · exact .inl (.inr ⟨o, h _ _ q fun z => z⟩)
  · exact .inr q
theorem RoL.of (h : ∀ b o, H b = some o → ¬ Mut (some o) → H' b = some o) {a : Addr} {xs : List V} (q : RoL K H a xs) : RoL K H' a xs := by
  rcases q with ⟨o, q⟩ | q
  · exact .inl ⟨o, h _ _ q fun z => z⟩
  · exact .inr q
theorem Post.tk (P : Post g ρ st H ρ' st' H') (R : Rel g ρ st H) : TK g.K H H' := TK.of fun b o e m => P.keepN R e m

mutual
theorem VR.mono (ho : ∀ l, l < n → ρ' l = ρ l) (hn : n ≤ n') (t : TK K H H') : ∀ {d : D} {v : V}, VR K ρ n H d v → VR K ρ' n' H' d v
  | .non, _, h => h
  | .bl _, _, h => h
  | .int _, _, h => h
  | .str _, _, h => h
  | .tup xs, _, h => by
    obtain ⟨a, ys, e, q, r⟩ := h
    exact ⟨a, ys, e, t _ _ q, VRs.mono ho hn t r⟩
  | .loc l, _, h => by
    obtain ⟨h1, h2⟩ := h
    exact ⟨Nat.lt_of_lt_of_le h1 hn, by rw [ho l h1]; exact h2⟩
theorem VRs.mono (ho : ∀ l, l < n → ρ' l = ρ l) (hn : n ≤ n') (t : TK K H H') : ∀ {ds : List D} {vs : List V}, VRs K ρ n H ds vs → VRs K ρ' n' H' ds vs
  | [], _, h => h
  | x :: xs, _, h => by
    obtain ⟨y, zs, e, r, rs⟩ := h
    exact ⟨y, zs, e, VR.mono ho hn t r, VRs.mono ho hn t rs⟩
end
theorem FR.mono (ho : ∀ l, l < n → ρ' l = ρ l) (hn : n ≤ n') (t : TK g.K H H') : ∀ {fs : List (Nat × D)} {gs : List (Str × V)}, FR g ρ n H fs gs → FR g ρ' n' H' fs gs
  | [], _, h => h
  | (i, d) :: fs, _, h => by
    obtain ⟨hi, v, hs, e, r, rs⟩ := h
    exact ⟨hi, v, hs, e, r.mono ho hn t, FR.mono ho hn t rs⟩
theorem KR.mono (ho : ∀ l, l < n → ρ' l = ρ l) (hn : n ≤ n') (t : TK K H H') : ∀ {fs : List (Key × D)} {gs : List (Key × V)}, KR K ρ n H fs gs → KR K ρ' n' H' fs gs
  | [], _, h => h
  | (i, d) :: fs, _, h => by
    obtain ⟨v, hs, e, r, rs⟩ := h
    exact ⟨v, hs, e, r.mono ho hn t, KR.mono ho hn t rs⟩
theorem Post.vr (P : Post g ρ st H ρ' st' H') (R : Rel g ρ st H) {d : D} {v : V} (h : VR g.K ρ st.length H d v) : VR g.K ρ' st'.length H' d v := h.mono P.old P.len (P.tk R)
theorem Post.vrs (P : Post g ρ st H ρ' st' H') (R : Rel g ρ st H) {d : List D} {v : List V} (h : VRs g.K ρ st.length H d v) : VRs g.K ρ' st'.length H' d v := h.mono P.old P.len (P.tk R)

theorem Post.refl (R : Rel g ρ st H) : Post g ρ st H ρ st H :=
  ⟨R, Nat.le_refl _, fun _ _ => rfl, fun _ _ e _ => e, fun l h1 h2 => absurd h2 (Nat.not_lt.mpr h1), fun l o o' e e' => by rw [e] at e'; cases e'; rfl⟩
theorem get_of_lt {A : Type} {st : List A} {l : Nat} (h : l < st.length) : ∃ o, st[l]? = some o := ⟨st[l], List.getElem?_eq_getElem h⟩
theorem lt_of_get {A : Type} {st : List A} {l : Nat} {o : A} (h : st[l]? = some o) : l < st.length := (List.getElem?_eq_some_iff.mp h).1
theorem Post.mutB (P : Post g ρ st H ρ' st' H') {l : Nat} (m : mutAt st' l) (h : l < st.length) : mutAt st l := by
  obtain ⟨o', e', m⟩ := m
  obtain ⟨o, e⟩ := get_of_lt h
  exact ⟨o, e, by rw [P.kind l o o' e e']; exact m⟩
theorem Post.mutF (P : Post g ρ st H ρ' st' H') {l : Nat} (m : mutAt st l) : mutAt st' l := by
  obtain ⟨o, e, m⟩ := m
  obtain ⟨o', e'⟩ := get_of_lt (Nat.lt_of_lt_of_le (lt_of_get e) P.len)
  exact ⟨o', e', by rw [← P.kind l o o' e e']; exact m⟩
/-- tracked stays tracked -/
theorem Post.there (P : Post g ρ st H ρ' st' H') {b : Addr} {o : HO} (e : H b = some o) : ∃ o', H' b = some o' := by
  by_cases h : ∃ l, mutAt st l ∧ ρ l = b
  · obtain ⟨l, m, rfl⟩ := h
    have hl : l < st.length := by obtain ⟨_, e, _⟩ := m; exact lt_of_get e
    obtain ⟨u, e', _⟩ := P.rel.mutSome (P.mutF m)
    rw [P.old l hl] at e'
    exact ⟨u, e'⟩
  · exact ⟨o, P.keep b o e fun l m q => h ⟨l, m, q⟩⟩
theorem Post.freeB (P : Post g ρ st H ρ' st' H') {b : Addr} (e : H' b = none) : H b = none := by
  cases q : H b with
  | none => rfl
  | some o =>
    obtain ⟨o', e'⟩ := P.there q
    rw [e] at e'
    cases e'
theorem Post.trans (P : Post g ρ st H ρ1 st1 H1) (Q : Post g ρ1 st1 H1 ρ2 st2 H2) : Post g ρ st H ρ2 st2 H2 where
  rel := Q.rel
  len := Nat.le_trans P.len Q.len
  old := fun l h => (Q.old l (Nat.lt_of_lt_of_le h P.len)).trans (P.old l h)
  keep := fun b o e h => Q.keep b o (P.keep b o e h) fun l m q => by
    by_cases hl : l < st.length
    · exact h l (P.mutB m hl) ((P.old l hl).symm.trans q)
    · have hl1 : l < st1.length := by obtain ⟨_, e, _⟩ := m; exact lt_of_get e
      have := P.fresh l (Nat.le_of_not_lt hl) hl1
      rw [q, e] at this
      cases this
  fresh := fun l h1 h2 => by
    by_cases hl : l < st1.length
    · rw [Q.old l hl]; exact P.fresh l h1 hl
    · exact P.freeB (Q.fresh l (Nat.le_of_not_lt hl) h2)
  kind := fun l o o' e e' => by
    obtain ⟨o1, e1⟩ := get_of_lt (Nat.lt_of_lt_of_le (lt_of_get e) P.len)
    exact (P.kind l o o1 e e1).trans (Q.kind l o1 o' e1 e')

/-! ### one step of the heap -/
theorem upd_keepN {p : Addr} {u : HO} (hp : H p = none) : ∀ b o, H b = some o → upd H p u b = some o := fun b o e => by
  rw [upd_ne (ne_of_none e hp)]
  exact e
/-- every object is kept: so is what is told of them -/
theorem OR.kept (h : ∀ b o, H b = some o → H' b = some o) (ho : ∀ l, l < n → ρ' l = ρ l) (hn : n ≤ n') {a : Addr} {o : O} (q : OR g ρ n H a o) : OR g ρ' n' H' a o := by
  have t : TK g.K H H' := TK.of fun b o e _ => h b o e
  cases o with
  | ro ns => exact RoL.of (fun b o e _ => h b o e) q
  | lst xs => obtain ⟨ys, e, r⟩ := q; exact ⟨ys, h _ _ e, r.mono ho hn t⟩
  | ins c fs => obtain ⟨hc, dx, gs, e, r⟩ := q; exact ⟨hc, dx, gs, h _ _ e, r.mono ho hn t⟩
  | dic kvs => obtain ⟨gs, e, r⟩ := q; exact ⟨gs, h _ _ e, r.mono ho hn t⟩
/-- new objects that nothing of ours tells of -/
theorem Rel.more (R : Rel g ρ st H) (h : ∀ b o, H b = some o → H' b = some o) : Post g ρ st H ρ st H' where
  rel := ⟨fun l o e => OR.kept h (fun _ _ => rfl) (Nat.le_refl _) (R.obj l o e), R.inj⟩
  len := Nat.le_refl _
  old := fun _ _ => rfl
  keep := fun b o e _ => h b o e
  fresh := fun l h1 h2 => absurd h2 (Nat.not_lt.mpr h1)
  kind := fun l o o' e e' => by rw [e] at e'; cases e'; rfl
theorem Rel.tup (R : Rel g ρ st H) {p : Addr} {u : HO} (hp : H p = none) : Post g ρ st H ρ st (upd H p u) := R.more (upd_keepN hp)

/-- the next place -/
def nxt (ρ : Nat → Addr) (n : Nat) (p : Addr) : Nat → Addr := fun l => if l = n then p else ρ l
theorem nxt_same {p : Addr} : nxt ρ n p n = p := if_pos rfl
theorem nxt_old {p : Addr} : ∀ l, l < n → nxt ρ n p l = ρ l := fun l h => if_neg (Nat.ne_of_lt h)
theorem mutAt_lt {l : Nat} (m : mutAt st l) : l < st.length := by obtain ⟨_, e, _⟩ := m; exact lt_of_get e
/-- a place is given to an object that is there and has none -/
theorem Rel.name (R : Rel g ρ st H) {p : Addr} {o : O} (hn : ∀ l, mutAt st l → ρ l ≠ p) (new : OR g ρ st.length H p o) : Rel g (nxt ρ st.length p) (st ++ [o]) H where
  obj := fun l u e => by
    have hl : st.length ≤ (st ++ [o]).length := by simp
    by_cases h : l < st.length
    · rw [List.getElem?_append_left h] at e
      rw [nxt_old l h]
      exact OR.kept (fun _ _ e => e) nxt_old hl (R.obj l u e)
    · have hlt := lt_of_get e
      have e2 : l = st.length := by simp at hlt; omega
      subst e2
      rw [List.getElem?_append_right (Nat.le_refl _)] at e
      simp at e
      subst e
      rw [nxt_same]
      exact OR.kept (fun _ _ e => e) nxt_old hl new
  inj := fun l l' m m' q => by
    have lo : ∀ l, mutAt (st ++ [o]) l → l < st.length ∧ mutAt st l ∨ l = st.length := fun l m => by
      obtain ⟨u, e, mu⟩ := m
      by_cases h : l < st.length
      · rw [List.getElem?_append_left h] at e
        exact .inl ⟨h, u, e, mu⟩
      · have hlt := lt_of_get e
        simp at hlt
        exact .inr (by omega)
    rcases lo l m with ⟨h1, m1⟩ | h1 <;> rcases lo l' m' with ⟨h2, m2⟩ | h2
    · rw [nxt_old l h1, nxt_old l' h2] at q
      exact R.inj l l' m1 m2 q
    · subst h2
      rw [nxt_old l h1, nxt_same] at q
      exact absurd q (hn l m1)
    · subst h1
      rw [nxt_old l' h2, nxt_same] at q
      exact absurd q.symm (hn l' m2)
    · rw [h1, h2]
/-- a new object with a place -/
theorem Rel.push (R : Rel g ρ st H) {p : Addr} {u : HO} {o : O} (hp : H p = none) (new : OR g ρ st.length (upd H p u) p o) : Post g ρ st H (nxt ρ st.length p) (st ++ [o]) (upd H p u) where
  rel := (R.tup hp).rel.name (fun l m q => by
    obtain ⟨v, e, _⟩ := R.mutSome m
    rw [q, hp] at e
    cases e) new
  len := by simp
  old := nxt_old
  keep := fun b o e _ => upd_keepN hp b o e
  fresh := fun l h1 h2 => by
    have e2 : l = st.length := by simp at h2; omega
    subst e2
    rw [nxt_same]
    exact hp
  kind := fun l o o' e e' => by
    rw [List.getElem?_append_left (lt_of_get e), e] at e'
    cases e'
    rfl
/-- an object changed -/
theorem Rel.set (R : Rel g ρ st H) {l : Nat} {o o' : O} {u : HO} (hl : st[l]? = some o) (m : o.mut = true) (m' : o'.mut = true) (new : OR g ρ st.length (upd H (ρ l) u) (ρ l) o') :
    Post g ρ st H ρ (st.set l o') (upd H (ρ l) u) := by
  have ml : mutAt st l := ⟨o, hl, m⟩
  obtain ⟨u0, e0, mu0⟩ := R.mutSome ml
  have hlt := lt_of_get hl
  have kn : ∀ b v, H b = some v → ¬ Mut (some v) → upd H (ρ l) u b = some v := fun b v e nm => by
    rw [upd_ne]
    · exact e
    · intro q
      subst q
      rw [e0] at e
      cases e
      exact nm mu0
  have t : TK g.K H (upd H (ρ l) u) := TK.of kn
  have mm : ∀ j, mutAt (st.set l o') j → mutAt st j := fun j mj => by
    obtain ⟨v, e, mv⟩ := mj
    by_cases hj : j = l
    · subst hj; exact ml
    · rw [List.getElem?_set_ne (Ne.symm hj)] at e
      exact ⟨v, e, mv⟩
  refine ⟨⟨fun j v e => ?_, fun j j' a b q => R.inj j j' (mm j a) (mm j' b) q⟩, by simp, fun _ _ => rfl, fun b v e h => ?_, fun j h1 h2 => ?_, fun j v v' e e' => ?_⟩
  · rw [List.length_set]
    by_cases hj : j = l
    · subst hj
      rw [List.getElem?_set_self hlt] at e
      cases e
      exact new
    · rw [List.getElem?_set_ne (Ne.symm hj)] at e
      have q := R.obj j v e
      have ne : v.mut = true → ρ j ≠ ρ l := fun mv z => hj (R.inj j l ⟨v, e, mv⟩ ml z)
      cases v with
      | ro ns => exact RoL.of kn q
      | lst xs => obtain ⟨ys, e1, r⟩ := q; exact ⟨ys, by rw [upd_ne (ne rfl)]; exact e1, r.mono (fun _ _ => rfl) (Nat.le_refl _) t⟩
      | ins c fs => obtain ⟨hc, dx, gs, e1, r⟩ := q; exact ⟨hc, dx, gs, by rw [upd_ne (ne rfl)]; exact e1, r.mono (fun _ _ => rfl) (Nat.le_refl _) t⟩
      | dic kvs => obtain ⟨gs, e1, r⟩ := q; exact ⟨gs, by rw [upd_ne (ne rfl)]; exact e1, r.mono (fun _ _ => rfl) (Nat.le_refl _) t⟩
  · rw [upd_ne (Ne.symm (h l ml))]
    exact e
  · rw [List.length_set] at h2
    exact absurd h2 (Nat.not_lt.mpr h1)
  · by_cases hj : j = l
    · subst hj
      rw [List.getElem?_set_self hlt] at e'
      cases e'
      rw [hl] at e
      cases e
      rw [m, m']
    · rw [List.getElem?_set_ne (Ne.symm hj), e] at e'
      cases e'
      rfl
end

/-! ### lists of values -/
section
variable {K : PySem.W.Frag} {ρ : Nat → Addr} {n : Nat} {H : Hp}
theorem VRs.nil : VRs K ρ n H [] [] := by unfold VRs; rfl
theorem VRs.cons {d : D} {v : V} {ds : List D} {vs : List V} (h : VR K ρ n H d v) (t : VRs K ρ n H ds vs) : VRs K ρ n H (d :: ds) (v :: vs) := by
  unfold VRs
  exact ⟨v, vs, rfl, h, t⟩
theorem VRs.length : ∀ {ds : List D} {vs : List V}, VRs K ρ n H ds vs → ds.length = vs.length
  | [], _, h => by unfold VRs at h; subst h; rfl
  | d :: ds, _, h => by
    unfold VRs at h
    obtain ⟨y, zs, rfl, _, t⟩ := h
    rw [List.length_cons, List.length_cons, VRs.length t]
theorem VRs.append : ∀ {ds es : List D} {vs ws : List V}, VRs K ρ n H ds vs → VRs K ρ n H es ws → VRs K ρ n H (ds ++ es) (vs ++ ws)
  | [], _, _, _, h, t => by unfold VRs at h; subst h; exact t
  | d :: ds, _, _, _, h, t => by
    unfold VRs at h
    obtain ⟨y, zs, rfl, r, h⟩ := h
    exact .cons r (VRs.append h t)
theorem VRs.get : ∀ {ds : List D} {vs : List V} {i : Nat} {d : D}, VRs K ρ n H ds vs → ds[i]? = some d → ∃ v, vs[i]? = some v ∧ VR K ρ n H d v
  | [], _, _, _, _, e => by simp at e
  | x :: ds, _, 0, d, h, e => by
    unfold VRs at h
    obtain ⟨y, zs, rfl, r, h⟩ := h
    simp at e
    subst e
    exact ⟨y, by simp, r⟩
  | x :: ds, _, i + 1, d, h, e => by
    unfold VRs at h
    obtain ⟨y, zs, rfl, r, h⟩ := h
    obtain ⟨v, e1, e2⟩ := VRs.get (i := i) h (by simpa using e)
    exact ⟨v, by simpa using e1, e2⟩
theorem VRs.getB : ∀ {ds : List D} {vs : List V} {i : Nat} {v : V}, VRs K ρ n H ds vs → vs[i]? = some v → ∃ d, ds[i]? = some d ∧ VR K ρ n H d v
  | [], _, _, _, h, e => by unfold VRs at h; subst h; simp at e
  | x :: ds, _, 0, d, h, e => by
    unfold VRs at h
    obtain ⟨y, zs, rfl, r, h⟩ := h
    simp at e
    subst e
    exact ⟨x, by simp, r⟩
  | x :: ds, _, i + 1, d, h, e => by
    unfold VRs at h
    obtain ⟨y, zs, rfl, r, h⟩ := h
    obtain ⟨v, e1, e2⟩ := VRs.getB (i := i) h (by simpa using e)
    exact ⟨v, by simpa using e1, e2⟩
theorem VRs.set {d : D} {v : V} (r : VR K ρ n H d v) : ∀ {ds : List D} {vs : List V} (i : Nat), VRs K ρ n H ds vs → VRs K ρ n H (ds.set i d) (vs.set i v)
  | [], _, _, h => by unfold VRs at h; subst h; exact .nil
  | x :: ds, _, 0, h => by
    unfold VRs at h
    obtain ⟨y, zs, rfl, _, h⟩ := h
    exact .cons r h
  | x :: ds, _, i + 1, h => by
    unfold VRs at h
    obtain ⟨y, zs, rfl, q, h⟩ := h
    exact .cons q (VRs.set r i h)
theorem VRs.take : ∀ {ds : List D} {vs : List V} (i : Nat), VRs K ρ n H ds vs → VRs K ρ n H (ds.take i) (vs.take i)
  | [], _, _, h => by unfold VRs at h; subst h; simp [VRs]
  | x :: ds, _, 0, h => by simp [VRs]
  | x :: ds, _, i + 1, h => by
    unfold VRs at h
    obtain ⟨y, zs, rfl, q, h⟩ := h
    exact .cons q (VRs.take i h)
theorem VRs.drop : ∀ {ds : List D} {vs : List V} (i : Nat), VRs K ρ n H ds vs → VRs K ρ n H (ds.drop i) (vs.drop i)
  | [], _, _, h => by unfold VRs at h; subst h; simp [VRs]
  | x :: ds, _, 0, h => h
  | x :: ds, _, i + 1, h => by
    unfold VRs at h
    obtain ⟨y, zs, rfl, q, h⟩ := h
    exact VRs.drop i h
theorem VRs.ints : ∀ {ns : List Int}, VRs K ρ n H (ns.map D.int) (ns.map V.int)
  | [] => .nil
  | k :: ns => .cons (by simp [VR]) VRs.ints
theorem VRs.rep : ∀ {ds : List D} {vs : List V} (k : Nat), VRs K ρ n H ds vs → VRs K ρ n H (List.replicate k ds).flatten (List.replicate k vs).flatten
  | _, _, 0, _ => .nil
  | _, _, k + 1, h => by
    rw [List.replicate_succ, List.replicate_succ, List.flatten_cons, List.flatten_cons]
    exact h.append (VRs.rep k h)
end

/-! ### fields -/
def fget : List (Nat × D) → Nat → Option D
  | [], _ => none
  | (j, d) :: fs, i => if j = i then some d else fget fs i
def fput (i : Nat) (d : D) : List (Nat × D) → List (Nat × D)
  | [] => [(i, d)]
  | (j, e) :: fs => if j = i then (j, d) :: fs else (j, e) :: fput i d fs
section
variable {g : Gh} {ρ : Nat → Addr} {n : Nat} {H : Hp}
theorem FR.get (inj : ∀ i j, i < g.nf → j < g.nf → g.fld i = g.fld j → i = j) {i : Nat} {d : D} (hi : i < g.nf) : ∀ {fs : List (Nat × D)} {gs : List (Str × V)}, FR g ρ n H fs gs → fget fs i = some d → ∃ v, gs.lookup (g.fld i) = some v ∧ VR g.K ρ n H d v
  | [], _, _, e => by cases e
  | (j, e) :: fs, _, h, q => by
    obtain ⟨hj, v, hs, rfl, r, rs⟩ := h
    unfold fget at q
    by_cases hij : j = i
    · subst hij
      rw [if_pos rfl] at q
      cases q
      exact ⟨v, by simp, r⟩
    · rw [if_neg hij] at q
      obtain ⟨w, e1, e2⟩ := FR.get inj hi rs q
      refine ⟨w, ?_, e2⟩
      have ne : (g.fld i == g.fld j) = false := beq_eq_false_iff_ne.mpr fun z => hij (inj _ _ hj hi z.symm)
      rw [List.lookup_cons, ne]
      exact e1
theorem FR.none_of {x : Str} : ∀ {fs : List (Nat × D)} {gs : List (Str × V)}, FR g ρ n H fs gs → (∀ i, i < g.nf → g.fld i ≠ x) → gs.lookup x = none
  | [], _, h, _ => by
    have h : _ = [] := h
    subst h
    rfl
  | (j, e) :: fs, _, h, q => by
    obtain ⟨hj, v, hs, rfl, r, rs⟩ := h
    have ne : (x == g.fld j) = false := beq_eq_false_iff_ne.mpr fun z => q j hj z.symm
    rw [List.lookup_cons, ne]
    exact FR.none_of rs q
theorem FR.put (inj : ∀ i j, i < g.nf → j < g.nf → g.fld i = g.fld j → i = j) {i : Nat} {d : D} {v : V} (hi : i < g.nf) (r : VR g.K ρ n H d v) : ∀ {fs : List (Nat × D)} {gs : List (Str × V)}, FR g ρ n H fs gs → FR g ρ n H (fput i d fs) (putF (g.fld i) v gs)
  | [], _, h => by
    have h : _ = [] := h
    subst h
    exact ⟨hi, v, [], rfl, r, rfl⟩
  | (j, e) :: fs, _, h => by
    obtain ⟨hj, w, hs, rfl, r1, rs⟩ := h
    unfold fput putF
    by_cases hij : j = i
    · subst hij
      rw [if_pos rfl, if_pos rfl]
      exact ⟨hj, v, hs, rfl, r, rs⟩
    · rw [if_neg hij, if_neg fun z => hij (inj _ _ hj hi z)]
      exact ⟨hj, w, _, rfl, r1, FR.put inj hi r rs⟩
theorem FR.length : ∀ {fs : List (Nat × D)} {gs : List (Str × V)}, FR g ρ n H fs gs → gs.length = fs.length
  | [], _, h => by
    have h : _ = [] := h
    subst h
    rfl
  | (j, e) :: fs, _, h => by
    obtain ⟨hj, w, hs, rfl, r1, rs⟩ := h
    simp [FR.length rs]
end

/-! ### the frame's names -/
abbrev EEnv := List (Option D)
structure EnvR (K : PySem.W.Frag) (ρ : Nat → Addr) (n : Nat) (H : Hp) (env : EEnv) (σ : St) : Prop where
  len : env.length = σ.length
  get : ∀ (i : Nat) (d : D), env[i]? = some (some d) → ∃ v, σ[i]? = some (some v) ∧ VR K ρ n H d v
section
variable {g : Gh} {K : PySem.W.Frag} {ρ ρ' : Nat → Addr} {st st' : Store} {H H' : Hp} {n n' : Nat} {env : EEnv} {σ : St}
theorem EnvR.mono (ho : ∀ l, l < n → ρ' l = ρ l) (hn : n ≤ n') (t : TK K H H') (h : EnvR K ρ n H env σ) : EnvR K ρ' n' H' env σ :=
  ⟨h.len, fun i d e => by
    obtain ⟨v, e', r⟩ := h.get i d e
    exact ⟨v, e', r.mono ho hn t⟩⟩
theorem Post.envr (P : Post g ρ st H ρ' st' H') (R : Rel g ρ st H) (h : EnvR g.K ρ st.length H env σ) : EnvR g.K ρ' st'.length H' env σ := h.mono P.old P.len (P.tk R)
theorem EnvR.set (h : EnvR K ρ n H env σ) {d : D} {v : V} (r : VR K ρ n H d v) (i : Nat) : EnvR K ρ n H (env.set i (some d)) (σ.set i (some v)) := by
  refine ⟨by simp [h.len], fun j e q => ?_⟩
  by_cases hj : i = j
  · subst hj
    have hl : i < env.length := by
      have := lt_of_get q
      simpa using this
    rw [List.getElem?_set_self hl] at q
    cases q
    exact ⟨v, List.getElem?_set_self (by rw [← h.len]; exact hl), r⟩
  · rw [List.getElem?_set_ne hj] at q
    obtain ⟨w, e', r'⟩ := h.get j e q
    exact ⟨w, by rw [List.getElem?_set_ne hj]; exact e', r'⟩
theorem EnvR.wipeAt (h : EnvR K ρ n H env σ) (i : Nat) : EnvR K ρ n H (env.set i none) (σ.set i none) := by
  refine ⟨by simp [h.len], fun j e q => ?_⟩
  by_cases hj : i = j
  · subst hj
    have hl : i < env.length := by
      have := lt_of_get q
      simpa using this
    rw [List.getElem?_set_self hl] at q
    cases q
  · rw [List.getElem?_set_ne hj] at q
    obtain ⟨w, e', r'⟩ := h.get j e q
    exact ⟨w, by rw [List.getElem?_set_ne hj]; exact e', r'⟩
def wipeE (env : EEnv) : List Nat → EEnv
  | [] => env
  | v :: vs => (wipeE env vs).set v none
theorem EnvR.wipe (h : EnvR K ρ n H env σ) : ∀ vs : List Nat, EnvR K ρ n H (wipeE env vs) (wipe σ vs)
  | [] => h
  | v :: vs => by
    unfold wipeE L2.wipe
    exact (EnvR.wipe h vs).wipeAt v
end
end Ev

/-! Ev2: the judgements by functions; values, operators, displays, calls of built-ins. -/
namespace Ev
open PySem L2

theorem pe_imp {X : Cx} {e : Expr} {t t' : TE} (h : PE X e t) (k : ∀ σ H Q, t' σ H Q → t σ H Q) : PE X e t' := ⟨fun pins s σ H Q I q => h.run pins s σ H Q I (k σ H Q q)⟩
theorem pt_imp {X : Cx} {e : Expr} {t t' : TT} (h : PT X e t) (k : ∀ σ H Q, t' σ H Q → t σ H Q) : PT X e t' := ⟨fun pins s σ H Q I q => h.run pins s σ H Q I (k σ H Q q)⟩
theorem pw_imp {X : Cx} {e : Expr} {t t' : TT} (h : PW X e t) (k : ∀ σ H Q, t' σ H Q → t σ H Q) : PW X e t' := ⟨fun wh pins s σ H Q I q => h.run wh pins s σ H Q I (k σ H Q q)⟩
theorem pa_imp {X : Cx} {e : List Expr} {t t' : TA} (h : PA X e t) (k : ∀ σ H Q, t' σ H Q → t σ H Q) : PA X e t' := ⟨fun pos pins s σ H Q I q => h.run pos pins s σ H Q I (k σ H Q q)⟩
theorem ps_imp {X : Cx} {e : Stmt} {t t' : TS} (h : PS X e t) (k : ∀ D σ H, t' D σ H → t D σ H) : PS X e t' := ⟨fun pins s σ H D I q => h.run pins s σ H D I (k D σ H q)⟩
theorem pss_imp {X : Cx} {e : List Stmt} {t t' : TS} (h : PSs X e t) (k : ∀ D σ H, t' D σ H → t D σ H) : PSs X e t' := ⟨fun pins s σ H D I q => h.run pins s σ H D I (k D σ H q)⟩
theorem pe_both {X : Cx} {e : Expr} {t t' : TE} (h : PE X e t) (h' : PE X e t') : PE X e (fun σ H Q => t σ H Q ∨ t' σ H Q) := ⟨fun pins s σ H Q I q => q.elim (h.run pins s σ H Q I) (h'.run pins s σ H Q I)⟩

/-! ### judgements -/
abbrev Ef := EEnv → Store → R D
abbrev Tf := EEnv → Store → R Bool
abbrev Af := EEnv → Store → R (List D)
def tE (g : Gh) (f : Ef) : TE := fun σ H Q => ∃ ρ st env v st', Rel g ρ st H ∧ EnvR g.K ρ st.length H env σ ∧ f env st = .ok v st' ∧ ∀ ρ' H' x, Post g ρ st H ρ' st' H' → VR g.K ρ' st'.length H' v x → Q x H'
def tT (g : Gh) (f : Tf) : TT := fun σ H Q => ∃ ρ st env v st', Rel g ρ st H ∧ EnvR g.K ρ st.length H env σ ∧ f env st = .ok v st' ∧ ∀ ρ' H', Post g ρ st H ρ' st' H' → Q v H'
def tA (g : Gh) (f : Af) : TA := fun σ H Q => ∃ ρ st env v st', Rel g ρ st H ∧ EnvR g.K ρ st.length H env σ ∧ f env st = .ok v st' ∧ ∀ ρ' H' x, Post g ρ st H ρ' st' H' → VRs g.K ρ' st'.length H' v x → Q x H'
/-- a sequence: a list or a tuple of these items, that nobody changes (a list without a place, or a tuple) -/
def Seq (K : PySem.W.Frag) (H : Hp) (p : Addr) (ys : List V) : Prop := SqL K H p ys ∨ SqT K H p ys
def tQ (g : Gh) (f : Af) : TE := fun σ H Q => ∃ ρ st env v st', Rel g ρ st H ∧ EnvR g.K ρ st.length H env σ ∧ f env st = .ok v st' ∧
  ∀ ρ' H' p ys, Post g ρ st H ρ' st' H' → Seq g.K H' p ys → VRs g.K ρ' st'.length H' v ys → Q (.ref p) H'
/-- a list just made, without a place -/
def tN (g : Gh) (f : Af) : TE := fun σ H Q => ∃ ρ st env v st', Rel g ρ st H ∧ EnvR g.K ρ st.length H env σ ∧ f env st = .ok v st' ∧
  ∀ ρ' H' p ys, Post g ρ st H ρ' st' H' → H' p = some (.lst ys) → (∀ l, mutAt st' l → ρ' l ≠ p) → H p = none → VRs g.K ρ' st'.length H' v ys → Q (.ref p) H'
abbrev EV (g : Gh) (X : Cx) (e : Expr) (f : Ef) : Prop := PE X e (tE g f)
abbrev TV (g : Gh) (X : Cx) (e : Expr) (f : Tf) : Prop := PT X e (tT g f)
abbrev AV (g : Gh) (X : Cx) (e : List Expr) (f : Af) : Prop := PA X e (tA g f)
abbrev QV (g : Gh) (X : Cx) (e : Expr) (f : Af) : Prop := PE X e (tQ g f)
abbrev NV (g : Gh) (X : Cx) (e : Expr) (f : Af) : Prop := PE X e (tN g f)

/-- the built-ins' names that no module's name hides -/
def blts : List Str := ["len", "tuple", "list", "range", "max", "min", "sum", "all", "any", "sorted", "abs", "int", "repr", "enumerate", "zip", "isinstance", "set", "str", "dict", "bool", "reversed", "type"]
structure XG (g : Gh) (X : Cx) : Prop where
  K : X.K = g.K
  calm : X.calm = true
  hu : X.A.units + 200 < cLine
  hg : X.A.guards = some []
  nd : X.N.Nodup
  bl : ∀ x ∈ blts, X.mg x = none
  cls : ∀ c, c < g.nc → Cls g.K (g.cl c)
  na : ∀ c, c < g.nc → ∀ i, i < g.nf → NoAttr g.K (g.cl c) (g.fld i)
  inj : ∀ i j, i < g.nf → j < g.nf → g.fld i = g.fld j → i = j
theorem XG.blk {g : Gh} {X : Cx} (x : XG g X) (s : Shared) (H : Hp) (sc : Scope) (e : PySem.Env) (fp : List Addr) : XG g (X.blk s H sc e fp) := ⟨x.K, x.calm, x.hu, x.hg, x.nd, x.bl, x.cls, x.na, x.inj⟩
theorem XG.mg {g : Gh} {X : Cx} (x : XG g X) (n : Str) (h : n ∈ blts := by decide) : X.mg n = none := x.bl n h

section
variable {g : Gh} {X : Cx} {e a b : Expr} {pos : Pos} {f fa fb : Ef}

/-! ### names, constants -/
def eVar (i : Nat) : Ef := fun env st => match env[i]? with | some (some d) => .ok d st | _ => .bad
def eC (d : D) : Ef := fun _ st => .ok d st
theorem e_var (i : Nat) {x : Str} (hN : X.N[i]? = some x := by rfl) (hv : Vis X.env.scope x := by first | exact Or.inl rfl | exact Or.inr (Or.inl rfl) | exact Or.inr (Or.inr rfl)) (hd : (x == ("__debug__" : Str)) = false := by decide)
    (hcd : (x == ("__classdict__" : Str)) = false := by decide) : EV g X (.Name x pos) (eVar i) :=
  pe_imp (pe_var hN hv hd hcd) fun σ H Q ⟨ρ, st, env, v, st', Rl, E, h, k⟩ => by
    unfold eVar at h
    split at h
    · rename_i d q
      cases h
      obtain ⟨w, e1, r⟩ := E.get i v q
      exact ⟨w, e1, k ρ H w (Post.refl Rl) r⟩
    · cases h
theorem c_of {v : V} {d : D} {e : Expr} (h : PE X e (tC v)) (hd : ∀ (K : PySem.W.Frag) (ρ : Nat → Addr) (n : Nat) (H : Hp), VR K ρ n H d v) : EV g X e (eC d) :=
  pe_imp h fun σ H Q ⟨ρ, st, env, v, st', Rl, E, h, k⟩ => by
    cases h
    exact k ρ H _ (Post.refl Rl) (hd _ _ _ _)
theorem e_int {i : Int} {j : Nat} : EV g X (.Constant (.int i) j pos) (eC (.int i)) := c_of pe_int fun _ _ _ _ => by simp [VR]
theorem e_bl {i : Bool} {j : Nat} : EV g X (.Constant (.bool i) j pos) (eC (.bl i)) := c_of pe_bl fun _ _ _ _ => by simp [VR]
theorem e_non {j : Nat} : EV g X (.Constant .none j pos) (eC .non) := c_of pe_non fun _ _ _ _ => by simp [VR]
theorem e_str {i : Str} {j : Nat} : EV g X (.Constant (.str i) j pos) (eC (.str i)) := c_of pe_str fun _ _ _ _ => by simp [VR]
theorem e_globI {x : Str} {i : Int} {t : Tok} (hm : X.mg x = some (.int i t)) (hg : Gl X x := by rfl) (hd : (x == ("__debug__" : Str)) = false := by decide) : EV g X (.Name x pos) (eC (.int i)) :=
  c_of (v := .int i) (pe_glob hg hm ⟨t, rfl⟩ hd) fun _ _ _ _ => by simp [VR]
theorem e_globS {x : Str} {i : Str} {t : Tok} (hm : X.mg x = some (.str i t)) (hg : Gl X x := by rfl) (hd : (x == ("__debug__" : Str)) = false := by decide) : EV g X (.Name x pos) (eC (.str i)) :=
  c_of (v := .str i) (pe_glob hg hm ⟨t, rfl⟩ hd) fun _ _ _ _ => by simp [VR]

/-! ### operators -/
abbrev F2 := D → D → Store → R D
def Op2 (g : Gh) (r : R2) (F : F2) : Prop := ∀ (ρ : Nat → Addr) (st : Store) (H : Hp) (d1 d2 : D) (x y : V) (v : D) (st' : Store) (Q : VK), Rel g ρ st H → VR g.K ρ st.length H d1 x → VR g.K ρ st.length H d2 y →
  F d1 d2 st = .ok v st' → (∀ ρ' H' z, Post g ρ st H ρ' st' H' → VR g.K ρ' st'.length H' v z → Q z H') → r x y H Q
def eBin (F : F2) (fa fb : Ef) : Ef := fun env st => (fa env st).bind fun x s1 => (fb env s1).bind fun y s2 => F x y s2
theorem two_of {r : R2} {F : F2} {ta tb : TE} (hF : Op2 g r F) : ∀ σ H Q, tE g (eBin F fa fb) σ H Q → tOp r (tE g fa) (tE g fb) σ H Q := fun σ H Q ⟨ρ, st, env, v, st', Rl, E, h, k⟩ => by
  obtain ⟨x1, s1, e1, h⟩ := R.bind_eq h
  obtain ⟨x2, s2, e2, h⟩ := R.bind_eq h
  refine ⟨ρ, st, env, x1, s1, Rl, E, e1, fun ρ1 H1 y1 P1 r1 => ?_⟩
  refine ⟨ρ1, s1, env, x2, s2, P1.rel, P1.envr Rl E, e2, fun ρ2 H2 y2 P2 r2 => ?_⟩
  exact hF ρ2 s2 H2 x1 x2 y1 y2 v st' Q P2.rel (P2.vr P1.rel r1) r2 h fun ρ' H' z P r => k ρ' H' z ((P1.trans P2).trans P) r
theorem e_op {op : Operator} {r : R2} {F : F2} (ho : OpR X (binaryOp op) r) (hF : Op2 g r F) (ha : EV g X a fa) (hb : EV g X b fb) : EV g X (.BinOp a op b pos) (eBin F fa fb) :=
  pe_imp (pe_op ho ha hb) (two_of (ta := tE g fa) (tb := tE g fb) hF)
theorem e_cmp {op : CmpOp} {r : R2} {F : F2} (ho : OpR X (compareOp op) r) (hF : Op2 g r F) (ha : EV g X a fa) (hb : EV g X b fb) (hm : behindInMarks op b = false) : EV g X (.Compare a [op] [b] pos) (eBin F fa fb) :=
  pe_imp (pe_cmpR ho ha hb hm) (two_of (ta := tE g fa) (tb := tE g fb) hF)
/-- a value that is a bool, as a test -/
def toB (r : R D) : R Bool := r.bind fun d s => match d with | .bl b => .ok b s | _ => .bad
theorem toB_eq {r : R D} {b : Bool} {s : Store} (h : toB r = .ok b s) : r = .ok (.bl b) s := by
  obtain ⟨d, s1, e, h⟩ := R.bind_eq h
  cases d with
  | bl c => cases h; exact e
  | _ => cases h
def tfB (f : Ef) : Tf := fun env st => toB (f env st)
theorem tB_of {f : Ef} : ∀ σ H Q, tT g (tfB f) σ H Q → tB (tE g f) σ H Q := fun σ H Q ⟨ρ, st, env, v, st', Rl, E, h, k⟩ => by
  refine ⟨ρ, st, env, .bl v, st', Rl, E, toB_eq h, fun ρ1 H1 y1 P1 r1 => ?_⟩
  simp only [VR] at r1
  exact ⟨v, r1, k ρ1 H1 P1⟩
theorem t_cmp {op : CmpOp} {r : R2} {F : F2} (ho : OpR X (compareOp op) r) (hF : Op2 g r F) (ha : EV g X a fa) (hb : EV g X b fb) (hm : behindInMarks op b = false) : TV g X (.Compare a [op] [b] pos) (tfB (eBin F fa fb)) :=
  pt_imp (pt_cmpR ho ha hb hm) fun σ H Q h => by
    obtain ⟨ρ, st, env, v, st', Rl, E, h, k⟩ := h
    refine two_of (ta := tE g fa) (tb := tE g fb) hF σ H _ ⟨ρ, st, env, .bl v, st', Rl, E, toB_eq h, fun ρ1 H1 y1 P1 r1 => ?_⟩
    simp only [VR] at r1
    exact ⟨v, r1, k ρ1 H1 P1⟩
theorem t_val (h : EV g X e f) (he : ∀ whole, isTrue e X.env whole = (do let v ← whole; standAt e.pos; holding [v] (truthy v)) := by intro _; rfl) : TV g X e (tfB f) := pt_imp (pt_val h he) tB_of

/-! ### and, or, not, if -/
def tfAnd (p q : Tf) : Tf := fun env st => (p env st).bind fun b s => if b = true then q env s else .ok false s
def tfOr (p q : Tf) : Tf := fun env st => (p env st).bind fun b s => if b = true then .ok true s else q env s
def tfNot (p : Tf) : Tf := fun env st => (p env st).bind fun b s => .ok (!b) s
variable {p q : Tf} {rest : List Expr}
theorem t_not (h : TV g X a p) : TV g X (.UnaryOp .Not a pos) (tfNot p) := pt_imp (pt_not h) fun σ H Q ⟨ρ, st, env, v, st', Rl, E, h, k⟩ => by
  obtain ⟨x1, s1, e1, h⟩ := R.bind_eq h
  cases h
  exact ⟨ρ, st, env, x1, _, Rl, E, e1, fun ρ1 H1 P1 => k ρ1 H1 P1⟩
theorem w_and1 (h : TV g X a p) : PW X (.BoolOp .And [a] pos) (tT g p) := pw_and1 h
theorem w_or1 (h : TV g X a p) : PW X (.BoolOp .Or [a] pos) (tT g p) := pw_or1 h
theorem w_and (h : TV g X a p) (h' : PW X (.BoolOp .And (b :: rest) pos) (tT g q)) : PW X (.BoolOp .And (a :: b :: rest) pos) (tT g (tfAnd p q)) :=
  pw_imp (pw_and h h') fun σ H Q ⟨ρ, st, env, v, st', Rl, E, h, k⟩ => by
    obtain ⟨x1, s1, e1, h⟩ := R.bind_eq h
    refine ⟨ρ, st, env, x1, s1, Rl, E, e1, fun ρ1 H1 P1 => ?_⟩
    cases x1 with
    | true => exact iteT ⟨ρ1, s1, env, v, st', P1.rel, P1.envr Rl E, h, fun ρ2 H2 P2 => k ρ2 H2 (P1.trans P2)⟩
    | false =>
      cases h
      exact iteF (k ρ1 H1 P1)
theorem w_or (h : TV g X a p) (h' : PW X (.BoolOp .Or (b :: rest) pos) (tT g q)) : PW X (.BoolOp .Or (a :: b :: rest) pos) (tT g (tfOr p q)) :=
  pw_imp (pw_or h h') fun σ H Q ⟨ρ, st, env, v, st', Rl, E, h, k⟩ => by
    obtain ⟨x1, s1, e1, h⟩ := R.bind_eq h
    refine ⟨ρ, st, env, x1, s1, Rl, E, e1, fun ρ1 H1 P1 => ?_⟩
    cases x1 with
    | false => exact iteF ⟨ρ1, s1, env, v, st', P1.rel, P1.envr Rl E, h, fun ρ2 H2 P2 => k ρ2 H2 (P1.trans P2)⟩
    | true =>
      cases h
      exact iteT (k ρ1 H1 P1)
theorem t_w (h : PW X e (tT g p)) : TV g X e p := h.pt
/-- .. as values: all but the last are bools -/
def eAnd (f h : Ef) : Ef := fun env st => (toB (f env st)).bind fun b s => if b = true then h env s else .ok (.bl false) s
def eOr (f h : Ef) : Ef := fun env st => (toB (f env st)).bind fun b s => if b = true then .ok (.bl true) s else h env s
def eNot (f : Ef) : Ef := fun env st => (toB (f env st)).bind fun b s => .ok (.bl (!b)) s
theorem e_one {op : BoolOp} (h : EV g X a fa) : EV g X (.BoolOp op [a] pos) fa := pe_one h
theorem e_and (h : EV g X a fa) (h' : EV g X (.BoolOp .And (b :: rest) pos) fb) : EV g X (.BoolOp .And (a :: b :: rest) pos) (eAnd fa fb) :=
  pe_imp (pe_and h h') fun σ H Q ⟨ρ, st, env, v, st', Rl, E, h, k⟩ => by
    obtain ⟨x1, s1, e1, h⟩ := R.bind_eq h
    refine ⟨ρ, st, env, .bl x1, s1, Rl, E, toB_eq e1, fun ρ1 H1 y1 P1 r1 => ?_⟩
    simp only [VR] at r1
    refine ⟨x1, r1, ?_⟩
    cases x1 with
    | true => exact iteT ⟨ρ1, s1, env, v, st', P1.rel, P1.envr Rl E, h, fun ρ2 H2 y2 P2 r2 => k ρ2 H2 y2 (P1.trans P2) r2⟩
    | false =>
      cases h
      exact iteF (k ρ1 H1 _ P1 (by simp [VR]))
theorem e_or (h : EV g X a fa) (h' : EV g X (.BoolOp .Or (b :: rest) pos) fb) : EV g X (.BoolOp .Or (a :: b :: rest) pos) (eOr fa fb) :=
  pe_imp (pe_or h h') fun σ H Q ⟨ρ, st, env, v, st', Rl, E, h, k⟩ => by
    obtain ⟨x1, s1, e1, h⟩ := R.bind_eq h
    refine ⟨ρ, st, env, .bl x1, s1, Rl, E, toB_eq e1, fun ρ1 H1 y1 P1 r1 => ?_⟩
    simp only [VR] at r1
    refine ⟨x1, r1, ?_⟩
    cases x1 with
    | false => exact iteF ⟨ρ1, s1, env, v, st', P1.rel, P1.envr Rl E, h, fun ρ2 H2 y2 P2 r2 => k ρ2 H2 y2 (P1.trans P2) r2⟩
    | true =>
      cases h
      exact iteT (k ρ1 H1 _ P1 (by simp [VR]))
theorem e_not (h : EV g X a fa) : EV g X (.UnaryOp .Not a pos) (eNot fa) :=
  pe_imp (pe_not h) fun σ H Q ⟨ρ, st, env, v, st', Rl, E, h, k⟩ => by
    obtain ⟨x1, s1, e1, h⟩ := R.bind_eq h
    cases h
    refine ⟨ρ, st, env, .bl x1, _, Rl, E, toB_eq e1, fun ρ1 H1 y1 P1 r1 => ?_⟩
    simp only [VR] at r1
    exact ⟨x1, r1, k ρ1 H1 _ P1 (by simp [VR])⟩
def eIf (p : Tf) (f h : Ef) : Ef := fun env st => (p env st).bind fun b s => if b = true then f env s else h env s
theorem e_if {c : Expr} (hc : TV g X c p) (ha : EV g X a fa) (hb : EV g X b fb) : EV g X (.IfExp c a b pos) (eIf p fa fb) :=
  pe_imp (pe_ifExp hc ha hb) fun σ H Q ⟨ρ, st, env, v, st', Rl, E, h, k⟩ => by
    obtain ⟨x1, s1, e1, h⟩ := R.bind_eq h
    refine ⟨ρ, st, env, x1, s1, Rl, E, e1, fun ρ1 H1 P1 => ?_⟩
    have go : ∀ {f : Ef}, f env s1 = .ok v st' → tE g f σ H1 Q := fun h => ⟨ρ1, s1, env, v, st', P1.rel, P1.envr Rl E, h, fun ρ2 H2 y2 P2 r2 => k ρ2 H2 y2 (P1.trans P2) r2⟩
    cases x1 with
    | true => exact iteT (go h)
    | false => exact iteF (go h)

/-! ### argument lists, displays -/
def aNil : Af := fun _ st => .ok [] st
def aCons (f : Ef) (t : Af) : Af := fun env st => (f env st).bind fun x s1 => (t env s1).bind fun xs s2 => .ok (x :: xs) s2
def aStar (f t : Af) : Af := fun env st => (f env st).bind fun x s1 => (t env s1).bind fun xs s2 => .ok (x ++ xs) s2
variable {es : List Expr} {t : Af} {h : Af}
theorem a_nil : AV g X [] aNil := pa_imp pa_nil fun σ H Q ⟨ρ, st, env, v, st', Rl, E, h, k⟩ => by
  cases h
  exact k ρ H [] (Post.refl Rl) .nil
theorem a_cons (ha : EV g X e f) (hr : AV g X es t) (hs : starEach (e :: es) X.env = (false, eval e X.env) :: starEach es X.env := by rfl) : AV g X (e :: es) (aCons f t) :=
  pa_imp (pa_cons ha hr hs) fun σ H Q ⟨ρ, st, env, v, st', Rl, E, h, k⟩ => by
    obtain ⟨x1, s1, e1, h⟩ := R.bind_eq h
    obtain ⟨x2, s2, e2, h⟩ := R.bind_eq h
    cases h
    refine ⟨ρ, st, env, x1, s1, Rl, E, e1, fun ρ1 H1 y1 P1 r1 => ?_⟩
    refine ⟨ρ1, s1, env, x2, _, P1.rel, P1.envr Rl E, e2, fun ρ2 H2 y2 P2 r2 => ?_⟩
    exact k ρ2 H2 _ (P1.trans P2) (.cons (P2.vr P1.rel r1) r2)
theorem a_star (x : XG g X) {p : Pos} (ha : QV g X e h) (hr : AV g X es t) (hs : starEach (.Starred e p :: es) X.env = (true, eval e X.env) :: starEach es X.env := by rfl) : AV g X (.Starred e p :: es) (aStar h t) :=
  pa_imp (StX.pa_star ha hr hs) fun σ H Q ⟨ρ, st, env, v, st', Rl, E, h, k⟩ => by
    obtain ⟨x1, s1, e1, h⟩ := R.bind_eq h
    obtain ⟨x2, s2, e2, h⟩ := R.bind_eq h
    cases h
    refine ⟨ρ, st, env, x1, s1, Rl, E, e1, fun ρ1 H1 p y1 P1 sq r1 => ?_⟩
    refine ⟨p, y1, rfl, by rw [x.K]; exact sq.symm, ?_⟩
    refine ⟨ρ1, s1, env, x2, _, P1.rel, P1.envr Rl E, e2, fun ρ2 H2 y2 P2 r2 => ?_⟩
    exact k ρ2 H2 _ (P1.trans P2) ((P2.vrs P1.rel r1).append r2)
def eTup (t : Af) : Ef := fun env st => (t env st).bind fun xs s => if xs.length ≤ sizeLine then .ok (.tup xs) s else .bad
theorem e_tup {k1 : Nat} (ha : AV g X es t) : EV g X (.Tuple es k1 pos) (eTup t) := pe_imp (pe_tup ha) fun σ H Q ⟨ρ, st, env, v, st', Rl, E, h, k⟩ => by
  obtain ⟨x1, s1, e1, h⟩ := R.bind_eq h
  split at h
  · rename_i hz
    cases h
    refine ⟨ρ, st, env, x1, _, Rl, E, e1, fun ρ1 H1 ys P1 r1 => ⟨by rw [← r1.length]; exact hz, fun p hp => ?_⟩⟩
    have P2 := P1.rel.tup (u := HO.tup ys) hp
    refine k ρ1 _ _ (P1.trans P2) ?_
    unfold VR
    exact ⟨p, ys, rfl, SqT.of upd_same, P2.vrs P1.rel r1⟩
  · cases h
/-- a list display, without a place -/
def nLst (t : Af) : Af := fun env st => (t env st).bind fun xs s => if xs.length ≤ sizeLine then .ok xs s else .bad
theorem n_lst (ha : AV g X es t) : NV g X (.List es pos) (nLst t) := pe_imp (pe_lst ha) fun σ H Q ⟨ρ, st, env, v, st', Rl, E, h, k⟩ => by
  obtain ⟨x1, s1, e1, h⟩ := R.bind_eq h
  split at h
  · rename_i hz
    cases h
    refine ⟨ρ, st, env, _, _, Rl, E, e1, fun ρ1 H1 ys P1 r1 => ⟨by rw [← r1.length]; exact hz, fun p hp => ?_⟩⟩
    have P2 := P1.rel.tup (u := HO.lst ys) hp
    refine k ρ1 _ p ys (P1.trans P2) upd_same (fun l m q => ?_) (P1.freeB hp) (P2.vrs P1.rel r1)
    obtain ⟨u, e2, _⟩ := P1.rel.mutSome m
    rw [q, hp] at e2
    cases e2
  · cases h
/-- a list with a place -/
def eNew (h : Af) : Ef := fun env st => (h env st).bind fun xs s => .ok (.loc s.length) (s ++ [.lst xs])
theorem Post.named {g : Gh} {ρ ρ1 : Nat → Addr} {st s1 : Store} {H H1 : Hp} {p : Addr} {o : O} (P : Post g ρ st H ρ1 s1 H1) (hn : ∀ l, mutAt s1 l → ρ1 l ≠ p) (hp : H p = none) (new : OR g ρ1 s1.length H1 p o) :
    Post g ρ st H (nxt ρ1 s1.length p) (s1 ++ [o]) H1 where
  rel := P.rel.name hn new
  len := by simp; exact Nat.le_succ_of_le P.len
  old := fun l hl => by rw [nxt_old l (Nat.lt_of_lt_of_le hl P.len)]; exact P.old l hl
  keep := P.keep
  fresh := fun l h1 h2 => by
    by_cases hl : l < s1.length
    · rw [nxt_old l hl]; exact P.fresh l h1 hl
    · have e2 : l = s1.length := by simp at h2; omega
      subst e2
      rw [nxt_same]
      exact hp
  kind := fun l o o' e e' => by
    rw [List.getElem?_append_left (Nat.lt_of_lt_of_le (lt_of_get e) P.len)] at e'
    exact P.kind l o o' e e'
theorem e_new (hn : NV g X e h) : EV g X e (eNew h) := pe_imp hn fun σ H Q ⟨ρ, st, env, v, st', Rl, E, h, k⟩ => by
  obtain ⟨x1, s1, e1, h⟩ := R.bind_eq h
  cases h
  refine ⟨ρ, st, env, x1, s1, Rl, E, e1, fun ρ1 H1 p ys P1 hl hn hp r1 => ?_⟩
  refine k _ H1 _ (P1.named (o := .lst x1) hn hp ⟨ys, hl, r1⟩) ?_
  unfold VR
  exact ⟨by simp, by rw [nxt_same]⟩
theorem q_new (hn : NV g X e h) : QV g X e h := pe_imp hn fun σ H Q ⟨ρ, st, env, v, st', Rl, E, h, k⟩ =>
  ⟨ρ, st, env, v, st', Rl, E, h, fun ρ1 H1 p ys P1 hl hn hp r1 => k ρ1 H1 p ys P1 (.inl (SqL.of hl)) r1⟩
/-- a value that is a sequence -/
def toQ (r : R D) : R (List D) := r.bind fun d s => match d with
  | .tup xs => .ok xs s
  | .loc l => match s[l]? with
    | some (.lst xs) => .ok xs s
    | some (.ro ns) => .ok (ns.map .int) s
    | _ => .bad
  | _ => .bad
def qOf (f : Ef) : Af := fun env st => toQ (f env st)
theorem seq_of {g : Gh} {ρ : Nat → Addr} {s : Store} {H : Hp} {d : D} {x : V} {xs : List D} {s' : Store} (Rl : Rel g ρ s H) (r : VR g.K ρ s.length H d x) (h : toQ (.ok d s) = .ok xs s') :
    s' = s ∧ ∃ p ys, x = .ref p ∧ Seq g.K H p ys ∧ VRs g.K ρ s.length H xs ys := by
  unfold toQ at h
  simp only [R.bind_ok] at h
  cases d with
  | tup zs =>
    cases h
    unfold VR at r
    obtain ⟨a, ys, e, q, rs⟩ := r
    exact ⟨rfl, a, ys, e, .inr q, rs⟩
  | loc l =>
    unfold VR at r
    obtain ⟨hl, e⟩ := r
    simp only at h
    split at h
    · rename_i zs q
      cases h
      obtain ⟨ys, e1, rs⟩ := Rl.obj l _ q
      exact ⟨rfl, ρ l, ys, e, .inl (SqL.of e1), rs⟩
    · rename_i ns q
      cases h
      exact ⟨rfl, ρ l, _, e, .inl (RoL.sq (Rl.obj l _ q)), VRs.ints⟩
    · cases h
  | _ => cases h
theorem q_of (ha : EV g X e f) : QV g X e (qOf f) := pe_imp ha fun σ H Q ⟨ρ, st, env, v, st', Rl, E, h, k⟩ => by
  obtain ⟨d, s1, e1, h'⟩ := R.bind_eq h
  refine ⟨ρ, st, env, d, s1, Rl, E, e1, fun ρ1 H1 x P1 r1 => ?_⟩
  obtain ⟨es, p, ys, ex, sq, rs⟩ := seq_of (s' := st') P1.rel r1 h'
  subst es
  subst ex
  exact k ρ1 H1 p ys P1 sq rs
end
end Ev

/-! Ev3: operators and built-ins by functions. -/
namespace Ev
open PySem L2 PyProof.Rows

theorem R.no {A : Type} {a : A} {s : Store} (h : (R.bad : R A) = .ok a s) : False := by cases h

/-! ### a value, or a list just made -/
inductive Mv where
  | v (d : D) | l (xs : List D)
abbrev Mf := EEnv → Store → R Mv
def MR (g : Gh) (ρ : Nat → Addr) (st0 st : Store) (H0 H : Hp) (x : V) : Mv → Prop
  | .v d => VR g.K ρ st.length H d x
  | .l xs => ∃ p ys, x = .ref p ∧ H p = some (.lst ys) ∧ (∀ l, mutAt st l → ρ l ≠ p) ∧ H0 p = none ∧ VRs g.K ρ st.length H xs ys
def tM (g : Gh) (f : Mf) : TE := fun σ H Q => ∃ ρ st env v st', Rel g ρ st H ∧ EnvR g.K ρ st.length H env σ ∧ f env st = .ok v st' ∧ ∀ ρ' H' x, Post g ρ st H ρ' st' H' → MR g ρ' st st' H H' x v → Q x H'
abbrev MV (g : Gh) (X : Cx) (e : Expr) (f : Mf) : Prop := PE X e (tM g f)
def eM (f : Mf) : Ef := fun env st => (f env st).bind fun m s => match m with
  | .v d => .ok d s
  | .l xs => .ok (.loc s.length) (s ++ [.lst xs])
def qM (f : Mf) : Af := fun env st => (f env st).bind fun m s => match m with
  | .v d => toQ (.ok d s)
  | .l xs => .ok xs s

section
variable {g : Gh} {X : Cx} {e a b : Expr} {pos : Pos} {f fa fb : Ef}
theorem e_m {f : Mf} (h : MV g X e f) : EV g X e (eM f) := pe_imp h fun σ H Q ⟨ρ, st, env, v, st', Rl, E, h, k⟩ => by
  obtain ⟨m, s1, e1, h⟩ := R.bind_eq h
  refine ⟨ρ, st, env, m, s1, Rl, E, e1, fun ρ1 H1 x P1 r1 => ?_⟩
  cases m with
  | v d =>
    cases h
    exact k ρ1 H1 x P1 r1
  | l xs =>
    cases h
    obtain ⟨p, ys, ex, hl, hn, hp, r2⟩ := r1
    refine k _ H1 _ (P1.named (o := .lst xs) hn hp ⟨ys, hl, r2⟩) ?_
    unfold VR
    exact ⟨by simp, by rw [nxt_same]; exact ex⟩
theorem q_m {f : Mf} (h : MV g X e f) : QV g X e (qM f) := pe_imp h fun σ H Q ⟨ρ, st, env, v, st', Rl, E, h, k⟩ => by
  obtain ⟨m, s1, e1, h⟩ := R.bind_eq h
  refine ⟨ρ, st, env, m, s1, Rl, E, e1, fun ρ1 H1 x P1 r1 => ?_⟩
  cases m with
  | v d =>
    obtain ⟨es, p, ys, ex, sq, rs⟩ := seq_of (s' := st') P1.rel r1 h
    subst es
    subst ex
    exact k ρ1 H1 p ys P1 sq rs
  | l xs =>
    cases h
    obtain ⟨p, ys, ex, hl, hn, hp, r2⟩ := r1
    subst ex
    exact k ρ1 H1 p ys P1 (.inl (SqL.of hl)) r2

/-! ### operators that may make a list -/
abbrev F2M := D → D → Store → R Mv
def Op2M (g : Gh) (r : R2) (F : F2M) : Prop := ∀ (ρ : Nat → Addr) (st : Store) (H : Hp) (d1 d2 : D) (x y : V) (v : Mv) (st' : Store) (Q : VK), Rel g ρ st H → VR g.K ρ st.length H d1 x → VR g.K ρ st.length H d2 y →
  F d1 d2 st = .ok v st' → (∀ ρ' H' z, Post g ρ st H ρ' st' H' → MR g ρ' st st' H H' z v → Q z H') → r x y H Q
def mBin (F : F2M) (fa fb : Ef) : Mf := fun env st => (fa env st).bind fun x s1 => (fb env s1).bind fun y s2 => F x y s2
theorem MR.back {ρ ρ1 : Nat → Addr} {st st1 st' : Store} {H H1 H' : Hp} {ρ' : Nat → Addr} {x : V} {m : Mv} (P : Post g ρ st H ρ1 st1 H1) (h : MR g ρ' st1 st' H1 H' x m) : MR g ρ' st st' H H' x m := by
  cases m with
  | v d => exact h
  | l xs =>
    obtain ⟨p, ys, ex, hl, hn, hp, r2⟩ := h
    exact ⟨p, ys, ex, hl, hn, P.freeB hp, r2⟩
theorem m_op {op : Operator} {r : R2} {F : F2M} (ho : OpR X (binaryOp op) r) (hF : Op2M g r F) (ha : EV g X a fa) (hb : EV g X b fb) : MV g X (.BinOp a op b pos) (mBin F fa fb) :=
  pe_imp (pe_op ho ha hb) fun σ H Q ⟨ρ, st, env, v, st', Rl, E, h, k⟩ => by
    obtain ⟨x1, s1, e1, h⟩ := R.bind_eq h
    obtain ⟨x2, s2, e2, h⟩ := R.bind_eq h
    refine ⟨ρ, st, env, x1, s1, Rl, E, e1, fun ρ1 H1 y1 P1 r1 => ?_⟩
    refine ⟨ρ1, s1, env, x2, s2, P1.rel, P1.envr Rl E, e2, fun ρ2 H2 y2 P2 r2 => ?_⟩
    exact hF ρ2 s2 H2 x1 x2 y1 y2 v st' Q P2.rel (P2.vr P1.rel r1) r2 h fun ρ' H' z P r => k ρ' H' z ((P1.trans P2).trans P) (r.back (P1.trans P2))
/-- a list just made, told -/
theorem MR.made {ρ : Nat → Addr} {st : Store} {H : Hp} {p : Addr} {xs : List D} {ys : List V} (Rl : Rel g ρ st H) (hp : H p = none) (r : VRs g.K ρ st.length H xs ys) :
    Post g ρ st H ρ st (upd H p (.lst ys)) ∧ MR g ρ st st H (upd H p (.lst ys)) (.ref p) (.l xs) := by
  have P := Rl.tup (u := HO.lst ys) hp
  refine ⟨P, p, ys, rfl, upd_same, fun l m q => ?_, hp, P.vrs Rl r⟩
  obtain ⟨u, e2, _⟩ := Rl.mutSome m
  rw [q, hp] at e2
  cases e2
theorem VR.tupMade {ρ : Nat → Addr} {st : Store} {H : Hp} {p : Addr} {xs : List D} {ys : List V} (Rl : Rel g ρ st H) (hp : H p = none) (r : VRs g.K ρ st.length H xs ys) :
    Post g ρ st H ρ st (upd H p (.tup ys)) ∧ VR g.K ρ st.length (upd H p (.tup ys)) (.tup xs) (.ref p) := by
  have P := Rl.tup (u := HO.tup ys) hp
  refine ⟨P, ?_⟩
  unfold VR
  exact ⟨p, ys, rfl, SqT.of upd_same, P.vrs Rl r⟩

/-! ### arithmetic -/
def addM : F2M := fun x y st => match x, y with
  | .int i, .int j => .ok (.v (.int (i + j))) st
  | .str s, .str z => if s.length + z.length ≤ sizeLine then .ok (.v (.str (s ++ z))) st else .bad
  | .tup xs, .tup ys => if xs.length + ys.length ≤ sizeLine then .ok (.v (.tup (xs ++ ys))) st else .bad
  | .loc k, .loc l => match st[k]?, st[l]? with
    | some (.lst xs), some (.lst ys) => if xs.length + ys.length ≤ sizeLine then .ok (.l (xs ++ ys)) st else .bad
    | _, _ => .bad
  | _, _ => .bad
theorem op_addM (x : XG g X) : ∃ r, OpR X (binaryOp .Add) r ∧ Op2M g r addM := by
  refine ⟨_, op_add.or (op_add_str.or (op_catA.or op_cat)), fun ρ st H d1 d2 x1 y1 v st' Q Rl r1 r2 h k => ?_⟩
  rw [x.K]
  cases d1 <;> cases d2 <;> simp only [addM] at h <;> (try exact (R.no h).elim)
  · cases h
    simp only [VR] at r1 r2
    subst r1; subst r2
    exact .inl ⟨_, _, rfl, rfl, k ρ H _ (Post.refl Rl) (by simp [MR, VR])⟩
  · simp only [VR] at r1 r2
    subst r1; subst r2
    split at h
    · rename_i hz
      cases h
      exact .inr (.inl ⟨_, _, rfl, rfl, hz, k ρ H _ (Post.refl Rl) (by simp [MR, VR])⟩)
    · cases h
  · rename_i xs ys
    split at h
    · rename_i hz
      cases h
      unfold VR at r1 r2
      obtain ⟨p, us, rfl, q1, s1⟩ := r1
      obtain ⟨q, ws, rfl, q2, s2⟩ := r2
      refine .inr (.inr (.inl ⟨p, q, us, ws, rfl, rfl, q1, q2, by rw [← s1.length, ← s2.length]; exact hz, fun e => ?_, fun e1 e2 => ?_, fun _ _ t ht => ?_⟩))
      · subst e
        have e0 := s1.length
        obtain rfl : xs = [] := List.length_eq_zero_iff.mp (by simpa using e0)
        refine k ρ H _ (Post.refl Rl) ?_
        unfold MR VR
        exact ⟨q, ws, rfl, q2, s2⟩
      · subst e2
        have e0 := s2.length
        obtain rfl : ys = [] := List.length_eq_zero_iff.mp (by simpa using e0)
        refine k ρ H _ (Post.refl Rl) ?_
        unfold MR VR
        exact ⟨p, us, rfl, q1, by simpa using s1⟩
      · obtain ⟨P, r⟩ := VR.tupMade Rl ht (s1.append s2)
        exact k ρ _ _ P r
    · cases h
  · rename_i l1 l2
    split at h
    · rename_i xs ys o1 o2
      split at h
      · rename_i hz
        cases h
        unfold VR at r1 r2
        obtain ⟨_, rfl⟩ := r1
        obtain ⟨_, rfl⟩ := r2
        obtain ⟨us, e1, s1⟩ := Rl.obj l1 _ o1
        obtain ⟨ws, e2, s2⟩ := Rl.obj l2 _ o2
        refine .inr (.inr (.inr ⟨_, _, us, ws, rfl, rfl, e1, e2, by rw [← s1.length, ← s2.length]; exact hz, fun t ht => ?_⟩))
        obtain ⟨P, r⟩ := MR.made Rl ht (s1.append s2)
        exact k ρ _ _ P r
      · cases h
    · cases h
/-- may this product be reckoned -/
def mulOk (i j : Int) : Bool := decide (i.natAbs < 18446744073709551616) || decide (j.natAbs < 18446744073709551616) || decide (i.natAbs.log2 + j.natAbs.log2 < 1000000)
theorem op_mulA : OpR X (binaryOp .Mult) (rI (fun i j => mulOk i j = true) fun i j => .int (i * j)) := opI fun i j _ _ _ _ _ hc q => by
  refine mul_int q ?_
  unfold mulOk at hc
  rw [Bool.or_eq_true, Bool.or_eq_true, decide_eq_true_eq, decide_eq_true_eq, decide_eq_true_eq] at hc
  rcases hc with (h | h) | h
  · exact CMul.ok (.inl ⟨by omega, by omega⟩)
  · exact CMul.ok (.inr ⟨by omega, by omega⟩)
  · exact CMulW.ok h
def mulM : F2M := fun x y st => match x, y with
  | .int i, .int j => if mulOk i j = true then .ok (.v (.int (i * j))) st else .bad
  | .loc l, .int k => match st[l]? with
    | some (.lst xs) => if -(2 ^ 63) ≤ k ∧ k < 2 ^ 63 ∧ xs.length * k.toNat ≤ sizeLine then .ok (.l (List.replicate k.toNat xs).flatten) st else .bad
    | _ => .bad
  | .tup xs, .int k => if xs ≠ [] ∧ 2 ≤ k ∧ k ≤ 1000 ∧ xs.length ≤ 1000 then .ok (.v (.tup (List.replicate k.toNat xs).flatten)) st else .bad
  | _, _ => .bad
theorem op_mulM (x : XG g X) : ∃ r, OpR X (binaryOp .Mult) r ∧ Op2M g r mulM := by
  refine ⟨_, op_mulA.or (op_rep.or op_repT), fun ρ st H d1 d2 x1 y1 v st' Q Rl r1 r2 h k => ?_⟩
  rw [x.K]
  cases d1 <;> cases d2 <;> simp only [mulM] at h <;> (try exact (R.no h).elim)
  · simp only [VR] at r1 r2
    subst r1; subst r2
    split at h
    · rename_i hz
      cases h
      exact .inl ⟨_, _, rfl, rfl, hz, k ρ H _ (Post.refl Rl) (by simp [MR, VR])⟩
    · cases h
  · rename_i xs n
    split at h
    · rename_i hz
      cases h
      unfold VR at r1 r2
      obtain ⟨p, us, rfl, q1, s1⟩ := r1
      subst r2
      refine .inr (.inr ⟨p, n, us, rfl, rfl, q1, fun e => hz.1 ?_, hz.2.1, hz.2.2.1, by rw [← s1.length]; exact hz.2.2.2, fun t ht => ?_⟩)
      · subst e
        exact List.length_eq_zero_iff.mp (by simpa using s1.length)
      · obtain ⟨P, r⟩ := VR.tupMade Rl ht (s1.rep n.toNat)
        exact k ρ _ _ P r
    · cases h
  · rename_i l n
    split at h
    · rename_i xs o1
      split at h
      · rename_i hz
        cases h
        unfold VR at r1 r2
        obtain ⟨_, rfl⟩ := r1
        subst r2
        obtain ⟨us, e1, s1⟩ := Rl.obj l _ o1
        refine .inr (.inl ⟨_, n, us, rfl, rfl, e1, hz.1, hz.2.1, by rw [← s1.length]; exact hz.2.2, fun t ht => ?_⟩)
        obtain ⟨P, r⟩ := MR.made Rl ht (s1.rep n.toNat)
        exact k ρ _ _ P r
      · cases h
    · cases h

/-- two ints -/
def iF (c : Int → Int → Bool) (h : Int → Int → D) : F2 := fun x y st => match x, y with
  | .int i, .int j => if c i j = true then .ok (h i j) st else .bad
  | _, _ => .bad
theorem op_iF {C : Int → Int → Prop} {gV : Int → Int → V} {c : Int → Int → Bool} {h : Int → Int → D} (hc : ∀ i j, c i j = true → C i j) (hh : ∀ i j (K : PySem.W.Frag) (ρ : Nat → Addr) (n : Nat) (H : Hp), VR K ρ n H (h i j) (gV i j)) :
    Op2 g (rI C gV) (iF c h) := fun ρ st H d1 d2 x1 y1 v st' Q Rl r1 r2 q k => by
  cases d1 <;> cases d2 <;> simp only [iF] at q <;> (try exact (R.no q).elim)
  simp only [VR] at r1 r2
  subst r1; subst r2
  split at q
  · rename_i hz
    cases q
    exact ⟨_, _, rfl, rfl, hc _ _ hz, k ρ H _ (Post.refl Rl) (hh _ _ _ _ _ _)⟩
  · cases q
theorem op_subA : OpR X (binaryOp .Sub) (rI (fun _ _ => True) fun i j => .int (i - j)) := opI fun _ _ _ _ _ _ _ _ q => sub_int q
def subF : F2 := iF (fun _ _ => true) fun i j => .int (i - j)
theorem o_sub : Op2 g (rI (fun _ _ => True) fun i j => .int (i - j)) subF := op_iF (fun _ _ _ => trivial) (by simp [VR])
def modF : F2 := iF (fun _ j => decide (0 < j)) fun i j => .int (i % j)
theorem o_mod : Op2 g (rI (fun _ j => 0 < j) fun i j => .int (i % j)) modF := op_iF (fun _ _ h => of_decide_eq_true h) (by simp [VR])
def fdivF : F2 := iF (fun _ j => decide (0 < j) && decide (j < 1073741824)) fun i j => .int (i / j)
theorem o_fdiv : Op2 g (rI CDiv fun i j => .int (i / j)) fdivF := op_iF (fun _ _ h => by simpa [CDiv] using h) (by simp [VR])
def powOk (i j : Int) : Bool := decide (0 ≤ j) && (decide (j ≤ 1000000 ∧ i.natAbs < 2 ^ 64) || decide ((Builtin.Int.intBits i : Int) * j ≤ 2 ^ 27))
theorem op_powA : OpR X (binaryOp .Pow) (rI (fun i j => powOk i j = true) fun i j => .int (i ^ j.toNat)) := opI fun i j _ _ _ _ _ hc q => by
  unfold powOk at hc
  rw [Bool.and_eq_true, Bool.or_eq_true, decide_eq_true_eq, decide_eq_true_eq, decide_eq_true_eq] at hc
  rcases hc.2 with h | h
  · exact PyProof.Rows.pow_int_small hc.1 h.1 h.2 q
  · exact PyProof.Rows.pow_int hc.1 h q
def powF : F2 := iF powOk fun i j => .int (i ^ j.toNat)
theorem o_pow : Op2 g (rI (fun i j => powOk i j = true) fun i j => .int (i ^ j.toNat)) powF := op_iF (fun _ _ h => h) (by simp [VR])
def shlF : F2 := iF (fun i j => decide (0 ≤ j) && decide (j ≤ 1000000) && decide (i.natAbs < 2 ^ 64)) fun i j => .int (i * 2 ^ j.toNat)
theorem o_shl : Op2 g (rI CPow fun i j => .int (i * 2 ^ j.toNat)) shlF := op_iF (fun _ _ h => by
  rw [Bool.and_eq_true, Bool.and_eq_true, decide_eq_true_eq, decide_eq_true_eq, decide_eq_true_eq] at h
  exact ⟨h.1.1, h.1.2, h.2⟩) (by simp [VR])
def shrF : F2 := iF (fun _ j => decide (0 ≤ j)) fun i j => .int (i / 2 ^ j.toNat)
theorem o_shr : Op2 g (rI (fun _ j => 0 ≤ j) fun i j => .int (i / 2 ^ j.toNat)) shrF := op_iF (fun _ _ h => of_decide_eq_true h) (by simp [VR])

theorem e_sub (ha : EV g X a fa) (hb : EV g X b fb) : EV g X (.BinOp a .Sub b pos) (eBin subF fa fb) := e_op op_subA o_sub ha hb
theorem e_mod (ha : EV g X a fa) (hb : EV g X b fb) : EV g X (.BinOp a .Mod b pos) (eBin modF fa fb) := e_op op_mod o_mod ha hb
theorem e_fdiv (ha : EV g X a fa) (hb : EV g X b fb) : EV g X (.BinOp a .FloorDiv b pos) (eBin fdivF fa fb) := e_op op_fdiv o_fdiv ha hb
theorem e_pow (ha : EV g X a fa) (hb : EV g X b fb) : EV g X (.BinOp a .Pow b pos) (eBin powF fa fb) := e_op op_powA o_pow ha hb
theorem e_shl (ha : EV g X a fa) (hb : EV g X b fb) : EV g X (.BinOp a .LShift b pos) (eBin shlF fa fb) := e_op op_shl o_shl ha hb
theorem e_shr (ha : EV g X a fa) (hb : EV g X b fb) : EV g X (.BinOp a .RShift b pos) (eBin shrF fa fb) := e_op op_shr o_shr ha hb
theorem m_add (x : XG g X) (ha : EV g X a fa) (hb : EV g X b fb) : MV g X (.BinOp a .Add b pos) (mBin addM fa fb) := let ⟨_, h1, h2⟩ := op_addM x; m_op h1 h2 ha hb
theorem m_mul (x : XG g X) (ha : EV g X a fa) (hb : EV g X b fb) : MV g X (.BinOp a .Mult b pos) (mBin mulM fa fb) := let ⟨_, h1, h2⟩ := op_mulM x; m_op h1 h2 ha hb
def eNeg (f : Ef) : Ef := fun env st => (f env st).bind fun d s => match d with | .int i => .ok (.int (-i)) s | _ => .bad
theorem e_neg (ha : EV g X a fa) : EV g X (.UnaryOp .USub a pos) (eNeg fa) := pe_imp (pe_un un_neg ha) fun σ H Q ⟨ρ, st, env, v, st', Rl, E, h, k⟩ => by
  obtain ⟨d, s1, e1, h⟩ := R.bind_eq h
  refine ⟨ρ, st, env, d, s1, Rl, E, e1, fun ρ1 H1 x P1 r1 => ?_⟩
  cases d <;> simp only at h <;> (try exact (R.no h).elim)
  cases h
  simp only [VR] at r1
  exact ⟨_, r1, k ρ1 H1 _ P1 (by simp [VR])⟩

/-! ### comparisons of ints -/
def cmpF (c : Int → Int → Bool) : F2 := iF (fun _ _ => true) fun i j => .bl (c i j)
theorem op_ltA : OpR X (compareOp .Lt) (rI (fun _ _ => True) fun i j => .bl (decide (i < j))) := fun pins s σ H x y v u Q I rx ry ⟨i, j, h1, h2, _, q⟩ => op_lt pins s σ H x y v u Q I rx ry ⟨i, j, h1, h2, q⟩
theorem op_leA : OpR X (compareOp .LtE) (rI (fun _ _ => True) fun i j => .bl (decide (i ≤ j))) := fun pins s σ H x y v u Q I rx ry ⟨i, j, h1, h2, _, q⟩ => op_le pins s σ H x y v u Q I rx ry ⟨i, j, h1, h2, q⟩
theorem op_gtA : OpR X (compareOp .Gt) (rI (fun _ _ => True) fun i j => .bl (decide (j < i))) := fun pins s σ H x y v u Q I rx ry ⟨i, j, h1, h2, _, q⟩ => op_gt pins s σ H x y v u Q I rx ry ⟨i, j, h1, h2, q⟩
theorem op_geA : OpR X (compareOp .GtE) (rI (fun _ _ => True) fun i j => .bl (decide (j ≤ i))) := fun pins s σ H x y v u Q I rx ry ⟨i, j, h1, h2, _, q⟩ => op_ge pins s σ H x y v u Q I rx ry ⟨i, j, h1, h2, q⟩
def ltF : F2 := cmpF fun i j => decide (i < j)
def leF : F2 := cmpF fun i j => decide (i ≤ j)
def gtF : F2 := cmpF fun i j => decide (j < i)
def geF : F2 := cmpF fun i j => decide (j ≤ i)
theorem o_lt : Op2 g (rI (fun _ _ => True) fun i j => .bl (decide (i < j))) ltF := op_iF (fun _ _ _ => trivial) (by simp [VR])
theorem o_le : Op2 g (rI (fun _ _ => True) fun i j => .bl (decide (i ≤ j))) leF := op_iF (fun _ _ _ => trivial) (by simp [VR])
theorem o_gt : Op2 g (rI (fun _ _ => True) fun i j => .bl (decide (j < i))) gtF := op_iF (fun _ _ _ => trivial) (by simp [VR])
theorem o_ge : Op2 g (rI (fun _ _ => True) fun i j => .bl (decide (j ≤ i))) geF := op_iF (fun _ _ _ => trivial) (by simp [VR])
theorem e_lt (ha : EV g X a fa) (hb : EV g X b fb) : EV g X (.Compare a [.Lt] [b] pos) (eBin ltF fa fb) := e_cmp op_ltA o_lt ha hb (nomark _)
theorem e_le (ha : EV g X a fa) (hb : EV g X b fb) : EV g X (.Compare a [.LtE] [b] pos) (eBin leF fa fb) := e_cmp op_leA o_le ha hb (nomark _)
theorem e_gt (ha : EV g X a fa) (hb : EV g X b fb) : EV g X (.Compare a [.Gt] [b] pos) (eBin gtF fa fb) := e_cmp op_gtA o_gt ha hb (nomark _)
theorem e_ge (ha : EV g X a fa) (hb : EV g X b fb) : EV g X (.Compare a [.GtE] [b] pos) (eBin geF fa fb) := e_cmp op_geA o_ge ha hb (nomark _)
theorem t_lt (ha : EV g X a fa) (hb : EV g X b fb) : TV g X (.Compare a [.Lt] [b] pos) (tfB (eBin ltF fa fb)) := t_cmp op_ltA o_lt ha hb (nomark _)
theorem t_le (ha : EV g X a fa) (hb : EV g X b fb) : TV g X (.Compare a [.LtE] [b] pos) (tfB (eBin leF fa fb)) := t_cmp op_leA o_le ha hb (nomark _)
theorem t_gt (ha : EV g X a fa) (hb : EV g X b fb) : TV g X (.Compare a [.Gt] [b] pos) (tfB (eBin gtF fa fb)) := t_cmp op_gtA o_gt ha hb (nomark _)
theorem t_ge (ha : EV g X a fa) (hb : EV g X b fb) : TV g X (.Compare a [.GtE] [b] pos) (tfB (eBin geF fa fb)) := t_cmp op_geA o_ge ha hb (nomark _)
/-- low <= x <= high -/
def eChain (F G : F2) (fa fb fc : Ef) : Ef := fun env st => (fa env st).bind fun x s1 => (fb env s1).bind fun y s2 => (toB (F x y s2)).bind fun k s3 => if k = true then (fc env s3).bind fun z s4 => G y z s4 else .ok (.bl false) s3
theorem ch_of {c : Expr} {fc : Ef} {r r' : R2} {F G : F2} (hF : Op2 g r F) (hG : Op2 g r' G) : ∀ σ H Q, tE g (eChain F G fa fb fc) σ H Q → tChain r r' (tE g fa) (tE g fb) (tE g fc) σ H Q :=
  fun σ H Q ⟨ρ, st, env, v, st', Rl, E, h, k⟩ => by
    obtain ⟨x1, s1, e1, h⟩ := R.bind_eq h
    obtain ⟨x2, s2, e2, h⟩ := R.bind_eq h
    obtain ⟨x3, s3, e3, h⟩ := R.bind_eq h
    refine ⟨ρ, st, env, x1, s1, Rl, E, e1, fun ρ1 H1 y1 P1 r1 => ?_⟩
    refine ⟨ρ1, s1, env, x2, s2, P1.rel, P1.envr Rl E, e2, fun ρ2 H2 y2 P2 r2 => ?_⟩
    refine hF ρ2 s2 H2 x1 x2 y1 y2 (.bl x3) s3 _ P2.rel (P2.vr P1.rel r1) r2 (toB_eq e3) fun ρ3 H3 z P3 r3 => ?_
    simp only [VR] at r3
    subst r3
    refine ⟨x3, rfl, ?_⟩
    have P13 := (P1.trans P2).trans P3
    cases x3 with
    | false =>
      cases h
      exact iteF (k ρ3 H3 _ P13 (by simp [VR]))
    | true =>
      obtain ⟨x4, s4, e4, h⟩ := R.bind_eq h
      refine iteT ⟨ρ3, s3, env, x4, s4, P3.rel, P13.envr Rl E, e4, fun ρ4 H4 y4 P4 r4 => ?_⟩
      exact hG ρ4 s4 H4 x2 x4 y2 y4 v st' Q P4.rel (P4.vr P3.rel (P3.vr P2.rel r2)) r4 h fun ρ' H' w P r => k ρ' H' w ((P13.trans P4).trans P) r
theorem e_lele {c : Expr} {fc : Ef} (ha : EV g X a fa) (hb : EV g X b fb) (hc : EV g X c fc) (hm : lastMarks [.LtE, .LtE] [b, c] = false := by with_unfolding_all rfl) : EV g X (.Compare a [.LtE, .LtE] [b, c] pos) (eChain leF leF fa fb fc) :=
  pe_imp (pe_chain op_leA op_leA ha hb hc hm) (ch_of (c := c) o_le o_le)

/-! ### is, is not: None, bools -/
def isNF : D → Bool := fun d => match d with | .non => true | _ => false
theorem VR.isN {K : PySem.W.Frag} {ρ : Nat → Addr} {n : Nat} {H : Hp} {d : D} {x : V} (r : VR K ρ n H d x) : decide (x = .non) = isNF d := by
  cases d with
  | non => simp only [VR] at r; subst r; rfl
  | bl b => simp only [VR] at r; subst r; rfl
  | int b => simp only [VR] at r; subst r; rfl
  | str b => simp only [VR] at r; subst r; rfl
  | tup b => unfold VR at r; obtain ⟨p, ys, rfl, _⟩ := r; rfl
  | loc b => unfold VR at r; obtain ⟨_, rfl⟩ := r; rfl
def eIsN (f : Ef) : Ef := fun env st => (f env st).bind fun d s => .ok (.bl (isNF d)) s
def eNotN (f : Ef) : Ef := fun env st => (f env st).bind fun d s => .ok (.bl (!isNF d)) s
variable {j : Nat} {pos' : Pos}
theorem isN_of {f : Ef} : ∀ σ H Q, tE g (eIsN f) σ H Q → tIsN (tE g f) σ H Q := fun σ H Q ⟨ρ, st, env, v, st', Rl, E, h, k⟩ => by
  obtain ⟨d, s1, e1, h⟩ := R.bind_eq h
  cases h
  refine ⟨ρ, st, env, d, _, Rl, E, e1, fun ρ1 H1 x P1 r1 => ?_⟩
  show Q (V.bl (decide (x = V.non))) H1
  rw [r1.isN]
  exact k ρ1 H1 _ P1 (by simp [VR])
theorem notN_of {f : Ef} : ∀ σ H Q, tE g (eNotN f) σ H Q → tNotN (tE g f) σ H Q := fun σ H Q ⟨ρ, st, env, v, st', Rl, E, h, k⟩ => by
  obtain ⟨d, s1, e1, h⟩ := R.bind_eq h
  cases h
  refine ⟨ρ, st, env, d, _, Rl, E, e1, fun ρ1 H1 x P1 r1 => ?_⟩
  show Q (V.bl (!decide (x = V.non))) H1
  rw [r1.isN]
  exact k ρ1 H1 _ P1 (by simp [VR])
theorem pc_impE {op : CmpOp} {t t' : TE} (h : PC X op a b t) (k : ∀ σ H Q, t' σ H Q → t σ H Q) : PC X op a b t' := ⟨fun pins s σ H Q I q => h.run pins s σ H Q I (k σ H Q q)⟩
theorem e_isN (ha : EV g X a fa) : EV g X (.Compare a [.Is] [.Constant .none j pos'] pos) (eIsN fa) := pe_cmp (pc_impE (pc_isN ha) isN_of) rfl
theorem e_notN (ha : EV g X a fa) : EV g X (.Compare a [.IsNot] [.Constant .none j pos'] pos) (eNotN fa) := pe_cmp (pc_impE (pc_notN ha) notN_of) rfl
theorem t_isN (ha : EV g X a fa) : TV g X (.Compare a [.Is] [.Constant .none j pos'] pos) (tfB (eIsN fa)) := pt_imp (pt_cmp (pc_impE (pc_isN ha) isN_of) rfl) tB_of
theorem t_notN (ha : EV g X a fa) : TV g X (.Compare a [.IsNot] [.Constant .none j pos'] pos) (tfB (eNotN fa)) := pt_imp (pt_cmp (pc_impE (pc_notN ha) notN_of) rfl) tB_of
def isBF (neg : Bool) : F2 := fun x y st => match x, y with
  | .bl i, .bl j => .ok (.bl (if neg then !decide (i = j) else decide (i = j))) st
  | _, _ => .bad
theorem o_isB : Op2 g rIsB (isBF false) := fun ρ st H d1 d2 x1 y1 v st' Q Rl r1 r2 q k => by
  cases d1 <;> cases d2 <;> simp only [isBF] at q <;> (try exact (R.no q).elim)
  simp only [VR] at r1 r2
  subst r1; subst r2
  cases q
  exact ⟨_, _, rfl, rfl, k ρ H _ (Post.refl Rl) (by simp [VR])⟩
theorem o_notB : Op2 g rNotB (isBF true) := fun ρ st H d1 d2 x1 y1 v st' Q Rl r1 r2 q k => by
  cases d1 <;> cases d2 <;> simp only [isBF] at q <;> (try exact (R.no q).elim)
  simp only [VR] at r1 r2
  subst r1; subst r2
  cases q
  exact ⟨_, _, rfl, rfl, k ρ H _ (Post.refl Rl) (by simp [VR])⟩
theorem e_isB (ha : EV g X a fa) (hb : EV g X b fb) : EV g X (.Compare a [.Is] [b] pos) (eBin (isBF false) fa fb) := e_cmp op_isBl o_isB ha hb (nomark _)
theorem e_notB (ha : EV g X a fa) (hb : EV g X b fb) : EV g X (.Compare a [.IsNot] [b] pos) (eBin (isBF true) fa fb) := e_cmp op_notBl o_notB ha hb (nomark _)
theorem t_isB (ha : EV g X a fa) (hb : EV g X b fb) : TV g X (.Compare a [.Is] [b] pos) (tfB (eBin (isBF false) fa fb)) := t_cmp op_isBl o_isB ha hb (nomark _)
theorem t_notB (ha : EV g X a fa) (hb : EV g X b fb) : TV g X (.Compare a [.IsNot] [b] pos) (tfB (eBin (isBF true) fa fb)) := t_cmp op_notBl o_notB ha hb (nomark _)
end

/-! ### data at any depth: ==, repr -/
mutual
def pdW (f : Nat → Option (List PyData)) : D → Option PyData
  | .non => some .none
  | .bl b => some (.bool b)
  | .int i => some (.int i)
  | .str s => some (.str s)
  | .tup xs => (pdWs f xs).map .tuple
  | .loc l => (f l).map .list
def pdWs (f : Nat → Option (List PyData)) : List D → Option (List PyData)
  | [] => some []
  | x :: xs => (pdW f x).bind fun a => (pdWs f xs).map fun b => a :: b
end
def pdN (st : Store) : Nat → Nat → Option (List PyData)
  | 0, _ => none
  | k + 1, l => match st[l]? with
    | some (.lst xs) => pdWs (pdN st k) xs
    | some (.ro ns) => some (ns.map .int)
    | _ => none
def pd (st : Store) (d : D) : Option PyData := pdW (pdN st 3) d
section
variable {g : Gh} {ρ : Nat → Addr} {st : Store} {H : Hp}
theorem dpAll_ints {K : PySem.W.Frag} : ∀ ns : List Int, DpAll K H (ns.map V.int) (ns.map PyData.int)
  | [] => .nil
  | n :: ns => .cons (.int n) (dpAll_ints ns)
mutual
theorem pdW_dp {f : Nat → Option (List PyData)} (hf : ∀ l ds, f l = some ds → l < st.length → ∃ xs, SqL g.K H (ρ l) xs ∧ DpAll g.K H xs ds) : ∀ {d : D} {v : V} {p : PyData}, VR g.K ρ st.length H d v → pdW f d = some p → Dp g.K H v p
  | .non, v, p, r, h => by simp only [VR] at r; subst r; simp only [pdW] at h; cases h; exact .non
  | .bl b, v, p, r, h => by simp only [VR] at r; subst r; simp only [pdW] at h; cases h; exact .bl b
  | .int b, v, p, r, h => by simp only [VR] at r; subst r; simp only [pdW] at h; cases h; exact .int b
  | .str b, v, p, r, h => by simp only [VR] at r; subst r; simp only [pdW] at h; cases h; exact .str b
  | .tup xs, v, p, r, h => by
    unfold VR at r
    obtain ⟨a, ys, rfl, q, rs⟩ := r
    simp only [pdW, Option.map_eq_some_iff] at h
    obtain ⟨ds, e, rfl⟩ := h
    exact .tup q (pdWs_dp hf rs e)
  | .loc l, v, p, r, h => by
    unfold VR at r
    obtain ⟨hl, rfl⟩ := r
    simp only [pdW, Option.map_eq_some_iff] at h
    obtain ⟨ds, e, rfl⟩ := h
    obtain ⟨xs, q, a⟩ := hf l ds e hl
    exact .lst q a
theorem pdWs_dp {f : Nat → Option (List PyData)} (hf : ∀ l ds, f l = some ds → l < st.length → ∃ xs, SqL g.K H (ρ l) xs ∧ DpAll g.K H xs ds) : ∀ {ds : List D} {vs : List V} {ps : List PyData}, VRs g.K ρ st.length H ds vs → pdWs f ds = some ps → DpAll g.K H vs ps
  | [], vs, ps, r, h => by
    unfold VRs at r
    subst r
    simp only [pdWs] at h
    cases h
    exact .nil
  | x :: xs, vs, ps, r, h => by
    unfold VRs at r
    obtain ⟨y, zs, rfl, r1, rs⟩ := r
    simp only [pdWs, Option.bind_eq_some_iff, Option.map_eq_some_iff] at h
    obtain ⟨a, e1, b, e2, rfl⟩ := h
    exact .cons (pdW_dp hf r1 e1) (pdWs_dp hf rs e2)
end
theorem pdN_dp (Rl : Rel g ρ st H) : ∀ (k l : Nat) (ds : List PyData), pdN st k l = some ds → l < st.length → ∃ xs, SqL g.K H (ρ l) xs ∧ DpAll g.K H xs ds
  | 0, _, _, h, _ => by cases h
  | k + 1, l, ds, h, hl => by
    unfold pdN at h
    split at h
    · rename_i xs e
      obtain ⟨ys, e1, rs⟩ := Rl.obj l _ e
      exact ⟨ys, SqL.of e1, pdWs_dp (pdN_dp Rl k) rs h⟩
    · rename_i ns e
      cases h
      exact ⟨_, RoL.sq (Rl.obj l _ e), dpAll_ints ns⟩
    · cases h
theorem pd_dp (Rl : Rel g ρ st H) {d : D} {v : V} {p : PyData} (r : VR g.K ρ st.length H d v) (h : pd st d = some p) : Dp g.K H v p := pdW_dp (pdN_dp Rl 3) r h
end
section
variable {g : Gh} {X : Cx} {e a b : Expr} {pos : Pos} {f fa fb : Ef}
def eqG (neg : Bool) : F2 := fun x y st => match pd st x, pd st y with
  | some d, some e => if SeqAt.shaped d = true ∧ SeqAt.shaped e = true then .ok (.bl (if neg then !PyData.eqv d e else PyData.eqv d e)) st else .bad
  | _, _ => .bad
theorem o_eqG (x : XG g X) : Op2 g (rEqD X.K) (eqG false) := fun ρ st H d1 d2 x1 y1 v st' Q Rl r1 r2 q k => by
  unfold eqG at q
  split at q
  · rename_i d e e1 e2
    split at q
    · rename_i hz
      cases q
      rw [x.K]
      exact ⟨d, e, pd_dp Rl r1 e1, pd_dp Rl r2 e2, hz.1, hz.2, k ρ H _ (Post.refl Rl) (by simp [VR])⟩
    · cases q
  · cases q
theorem o_neG (x : XG g X) : Op2 g (rNeD X.K) (eqG true) := fun ρ st H d1 d2 x1 y1 v st' Q Rl r1 r2 q k => by
  unfold eqG at q
  split at q
  · rename_i d e e1 e2
    split at q
    · rename_i hz
      cases q
      rw [x.K]
      exact ⟨d, e, pd_dp Rl r1 e1, pd_dp Rl r2 e2, hz.1, hz.2, k ρ H _ (Post.refl Rl) (by simp [VR])⟩
    · cases q
  · cases q
def eqF (neg : Bool) : F2 := fun x y st => match x, y with
  | .str a, .str b => .ok (.bl (if neg then !decide (a = b) else decide (a = b))) st
  | x, y => eqG neg x y st
theorem opR_or {op : Value → Value → Sem Value} {r1 r2 : R2} (h1 : OpR X op r1) (h2 : OpR X op r2) : OpR X op (fun x y H Q => r1 x y H Q ∨ r2 x y H Q) := fun pins s σ H x y v u Q I rx ry h => h.elim (h1 pins s σ H x y v u Q I rx ry) (h2 pins s σ H x y v u Q I rx ry)
theorem o_eq (x : XG g X) : Op2 g (fun x y H Q => rEqD X.K x y H Q ∨ rEq x y H Q) (eqF false) := fun ρ st H d1 d2 x1 y1 v st' Q Rl r1 r2 q k => by
  unfold eqF at q
  split at q
  · rename_i a b
    cases q
    simp only [VR] at r1 r2
    subst r1
    subst r2
    refine .inr ⟨rfl, ?_⟩
    refine k ρ H _ (Post.refl Rl) ?_
    simp [VR]
  · exact .inl (o_eqG x ρ st H d1 d2 x1 y1 v st' Q Rl r1 r2 q k)
theorem o_ne (x : XG g X) : Op2 g (fun x y H Q => rNeD X.K x y H Q ∨ rNe x y H Q) (eqF true) := fun ρ st H d1 d2 x1 y1 v st' Q Rl r1 r2 q k => by
  unfold eqF at q
  split at q
  · rename_i a b
    cases q
    simp only [VR] at r1 r2
    subst r1
    subst r2
    refine .inr ⟨rfl, ?_⟩
    refine k ρ H _ (Post.refl Rl) ?_
    simp [VR]
  · exact .inl (o_neG x ρ st H d1 d2 x1 y1 v st' Q Rl r1 r2 q k)
theorem XG.hu64 (x : XG g X) : X.A.units + 64 < cLine := by have := x.hu; omega
theorem e_eq (x : XG g X) (ha : EV g X a fa) (hb : EV g X b fb) : EV g X (.Compare a [.Eq] [b] pos) (eBin (eqF false) fa fb) := e_cmp (opR_or (op_eqD x.hu64) op_eq) (o_eq x) ha hb (nomark _)
theorem e_ne (x : XG g X) (ha : EV g X a fa) (hb : EV g X b fb) : EV g X (.Compare a [.NotEq] [b] pos) (eBin (eqF true) fa fb) := e_cmp (opR_or (op_neD x.hu64) op_ne) (o_ne x) ha hb (nomark _)
theorem t_eq (x : XG g X) (ha : EV g X a fa) (hb : EV g X b fb) : TV g X (.Compare a [.Eq] [b] pos) (tfB (eBin (eqF false) fa fb)) := t_cmp (opR_or (op_eqD x.hu64) op_eq) (o_eq x) ha hb (nomark _)
theorem t_ne (x : XG g X) (ha : EV g X a fa) (hb : EV g X b fb) : TV g X (.Compare a [.NotEq] [b] pos) (tfB (eBin (eqF true) fa fb)) := t_cmp (opR_or (op_neD x.hu64) op_ne) (o_ne x) ha hb (nomark _)

/-- repr -/
def rRepr (K : PySem.W.Frag) : List V → Hp → VK → Prop := fun xs H Q => ∃ x d, xs = [x] ∧ Dp K H x d ∧ d.showable = true ∧ SeqAt.shaped d = true ∧ d.shown.length ≤ sizeLine ∧ Q (.str d.shown) H
theorem call_repr (x : XG g X) : CallR X (.builtin "repr") (rRepr X.K) := by
  intro pins s σ H xs us Q I r h
  obtain ⟨y, d, rfl, hd, hs, hh, hz, q⟩ := h
  obtain ⟨u, rfl, ru⟩ := vals1 r
  have fin : ∀ t, EP X pins σ Q (.str d.shown t) { s with toks := s.toks + 1 } := fun t => ⟨.str d.shown, H, I.tok _, ⟨_, rfl⟩, q⟩
  cases hd with
  | non => cases ru; exact PySem.P.repr_of_none (fin _)
  | bl b => cases ru; exact PySem.P.repr_of_bool (fin _)
  | int i =>
    obtain ⟨t, rfl⟩ := ru
    exact PySem.P.repr_of_int (of_decide_eq_true (by simpa [PyData.showable] using hs)) (fin _)
  | str z =>
    obtain ⟨t, rfl⟩ := ru
    exact PySem.P.repr_of_str (fin _) (by simpa [PyData.shown] using hz)
  | @lst p zs ds sq al =>
    cases ru
    obtain ⟨as, rd⟩ := Dp.reads I _ _ (.ref p) (.lst sq al) rfl
    exact repr_of_reads' rd hs (PyData.noDict_hsm (PyData.hasDict_of_canLay _ (SeqAt.canLay_of_shaped hh))) x.hg (by have := SeqAt.depth_of_shaped hh; have := x.hu; omega) (fun _ _ e => e)
      (fun h' u tk hk => ⟨.str _, H, I.kept hk, ⟨_, rfl⟩, q⟩) hz
  | @tup p zs ds sq al =>
    cases ru
    obtain ⟨as, rd⟩ := Dp.reads I _ _ (.ref p) (.tup sq al) rfl
    exact repr_of_reads' rd hs (PyData.noDict_hsm (PyData.hasDict_of_canLay _ (SeqAt.canLay_of_shaped hh))) x.hg (by have := SeqAt.depth_of_shaped hh; have := x.hu; omega) (fun _ _ e => e)
      (fun h' u tk hk => ⟨.str _, H, I.kept hk, ⟨_, rfl⟩, q⟩) hz

/-! ### calls of built-ins by their arguments -/
abbrev FA := List D → Store → R D
def OpA (g : Gh) (r : List V → Hp → VK → Prop) (F : FA) : Prop := ∀ (ρ : Nat → Addr) (st : Store) (H : Hp) (ds : List D) (vs : List V) (v : D) (st' : Store) (Q : VK), Rel g ρ st H → VRs g.K ρ st.length H ds vs →
  F ds st = .ok v st' → (∀ ρ' H' z, Post g ρ st H ρ' st' H' → VR g.K ρ' st'.length H' v z → Q z H') → r vs H Q
def eCall (F : FA) (t : Af) : Ef := fun env st => (t env st).bind F
theorem cb_of {r : List V → Hp → VK → Prop} {F : FA} {t : Af} (hF : OpA g r F) : ∀ σ H Q, tE g (eCall F t) σ H Q → tCB r (tA g t) σ H Q := fun σ H Q ⟨ρ, st, env, v, st', Rl, E, h, k⟩ => by
  obtain ⟨ds, s1, e1, h⟩ := R.bind_eq h
  refine ⟨ρ, st, env, ds, s1, Rl, E, e1, fun ρ1 H1 vs P1 r1 => ?_⟩
  exact hF ρ1 s1 H1 ds vs v st' Q P1.rel r1 h fun ρ' H' z P r => k ρ' H' z (P1.trans P) r
variable {es : List Expr} {t : Af} {x : Str} {p : Pos} {id T : String} {r : List V → Hp → VK → Prop} {F : FA}
theorem e_callB (hc : CallR X (.builtin id) r) (hF : OpA g r F) (hm : X.mg x = none) (ha : AV g X (e :: es) t) (hg : Gl X x := by rfl) (hv : bootBuiltins x = some (.builtin id) := by decide +kernel) (hn : x ≠ "__name__" := by decide) (hdb : (x == ("__debug__" : Str)) = false := by decide)
    (he : starEach (e :: es) X.env = (false, eval e X.env) :: starEach es X.env := by rfl) (hpl : (backTo pos (starEach es X.env)).any (·.1) = false := by rfl) : EV g X (.Call (.Name x p) (e :: es) [] pos) (eCall F t) :=
  pe_imp (pe_callB hc hg hm hv ha hn hdb he hpl) (cb_of hF)
theorem e_callT (hc : CallR X (.type T) r) (hF : OpA g r F) (hm : X.mg x = none) (ha : AV g X (e :: es) t) (hg : Gl X x := by rfl) (hv : bootBuiltins x = some (.type T) := by decide +kernel) (hn : x ≠ "__name__" := by decide) (hdb : (x == ("__debug__" : Str)) = false := by decide)
    (he : starEach (e :: es) X.env = (false, eval e X.env) :: starEach es X.env := by rfl) (hpl : (backTo pos (starEach es X.env)).any (·.1) = false := by rfl) : EV g X (.Call (.Name x p) (e :: es) [] pos) (eCall F t) :=
  pe_imp (pe_callTy hc hg hm hv ha hn hdb he hpl) (cb_of hF)
/-- .. of one sequence -/
abbrev FQ := List D → Store → R D
def OpQ (g : Gh) (r : List V → Hp → VK → Prop) (F : FQ) : Prop := ∀ (ρ : Nat → Addr) (st : Store) (H : Hp) (p : Addr) (ys : List V) (xs : List D) (v : D) (st' : Store) (Q : VK), Rel g ρ st H → Seq g.K H p ys → VRs g.K ρ st.length H xs ys →
  F xs st = .ok v st' → (∀ ρ' H' z, Post g ρ st H ρ' st' H' → VR g.K ρ' st'.length H' v z → Q z H') → r [.ref p] H Q
theorem cq_of {r : List V → Hp → VK → Prop} {F : FQ} {t : Af} (hF : OpQ g r F) : ∀ σ H Q, tE g (eCall F t) σ H Q → tCB r (tCons (tQ g t) tNil) σ H Q := fun σ H Q ⟨ρ, st, env, v, st', Rl, E, h, k⟩ => by
  obtain ⟨xs, s1, e1, h⟩ := R.bind_eq h
  refine ⟨ρ, st, env, xs, s1, Rl, E, e1, fun ρ1 H1 p ys P1 sq r1 => ?_⟩
  exact hF ρ1 s1 H1 p ys xs v st' Q P1.rel sq r1 h fun ρ' H' z P r => k ρ' H' z (P1.trans P) r
theorem e_callQ {F : FQ} (hc : CallR X (.builtin id) r) (hF : OpQ g r F) (hm : X.mg x = none) (ha : QV g X e t) (hg : Gl X x := by rfl) (hv : bootBuiltins x = some (.builtin id) := by decide +kernel) (hn : x ≠ "__name__" := by decide) (hdb : (x == ("__debug__" : Str)) = false := by decide)
    (he : starEach [e] X.env = (false, eval e X.env) :: starEach [] X.env := by rfl) : EV g X (.Call (.Name x p) [e] [] pos) (eCall F t) :=
  pe_imp (pe_callB hc hg hm hv (pa_cons ha pa_nil he) hn hdb he rfl) (cq_of hF)
theorem e_callTQ {F : FQ} (hc : CallR X (.type T) r) (hF : OpQ g r F) (hm : X.mg x = none) (ha : QV g X e t) (hg : Gl X x := by rfl) (hv : bootBuiltins x = some (.type T) := by decide +kernel) (hn : x ≠ "__name__" := by decide) (hdb : (x == ("__debug__" : Str)) = false := by decide)
    (he : starEach [e] X.env = (false, eval e X.env) :: starEach [] X.env := by rfl) : EV g X (.Call (.Name x p) [e] [] pos) (eCall F t) :=
  pe_imp (pe_callTy hc hg hm hv (pa_cons ha pa_nil he) hn hdb he rfl) (cq_of hF)
/-- .. of one list -/
def tQL (g : Gh) (f : Af) : TE := fun σ H Q => ∃ ρ st env v st', Rel g ρ st H ∧ EnvR g.K ρ st.length H env σ ∧ f env st = .ok v st' ∧
  ∀ ρ' H' p ys, Post g ρ st H ρ' st' H' → SqL g.K H' p ys → VRs g.K ρ' st'.length H' v ys → Q (.ref p) H'
abbrev LV (g : Gh) (X : Cx) (e : Expr) (f : Af) : Prop := PE X e (tQL g f)
theorem l_new {t : Af} (hn : NV g X e t) : LV g X e t := pe_imp hn fun σ H Q ⟨ρ, st, env, v, st', Rl, E, h, k⟩ =>
  ⟨ρ, st, env, v, st', Rl, E, h, fun ρ1 H1 p ys P1 hl hn hp r1 => k ρ1 H1 p ys P1 (SqL.of hl) r1⟩
def toL (r : R D) : R (List D) := r.bind fun d s => match d with
  | .loc l => match s[l]? with
    | some (.lst xs) => .ok xs s
    | some (.ro ns) => .ok (ns.map .int) s
    | _ => .bad
  | _ => .bad
def lOf (f : Ef) : Af := fun env st => toL (f env st)
theorem lst_of {ρ : Nat → Addr} {s : Store} {H : Hp} {d : D} {x : V} {xs : List D} {s' : Store} (Rl : Rel g ρ s H) (r : VR g.K ρ s.length H d x) (h : toL (.ok d s) = .ok xs s') :
    s' = s ∧ ∃ p ys, x = .ref p ∧ SqL g.K H p ys ∧ VRs g.K ρ s.length H xs ys := by
  unfold toL at h
  simp only [R.bind_ok] at h
  cases d with
  | loc l =>
    unfold VR at r
    obtain ⟨hl, e⟩ := r
    simp only at h
    split at h
    · rename_i zs q
      cases h
      obtain ⟨ys, e1, rs⟩ := Rl.obj l _ q
      exact ⟨rfl, ρ l, ys, e, SqL.of e1, rs⟩
    · rename_i ns q
      cases h
      exact ⟨rfl, ρ l, _, e, RoL.sq (Rl.obj l _ q), VRs.ints⟩
    · cases h
  | _ => cases h
theorem l_of (ha : EV g X e f) : LV g X e (lOf f) := pe_imp ha fun σ H Q ⟨ρ, st, env, v, st', Rl, E, h, k⟩ => by
  obtain ⟨d, s1, e1, h'⟩ := R.bind_eq h
  refine ⟨ρ, st, env, d, s1, Rl, E, e1, fun ρ1 H1 x P1 r1 => ?_⟩
  obtain ⟨es, p, ys, ex, sq, rs⟩ := lst_of (s' := st') P1.rel r1 h'
  subst es
  subst ex
  exact k ρ1 H1 p ys P1 sq rs
def lM (f : Mf) : Af := fun env st => (f env st).bind fun m s => match m with
  | .v d => toL (.ok d s)
  | .l xs => .ok xs s
theorem l_m {f : Mf} (h : MV g X e f) : LV g X e (lM f) := pe_imp h fun σ H Q ⟨ρ, st, env, v, st', Rl, E, h, k⟩ => by
  obtain ⟨m, s1, e1, h⟩ := R.bind_eq h
  refine ⟨ρ, st, env, m, s1, Rl, E, e1, fun ρ1 H1 x P1 r1 => ?_⟩
  cases m with
  | v d =>
    obtain ⟨es, p, ys, ex, sq, rs⟩ := lst_of (s' := st') P1.rel r1 h
    subst es
    subst ex
    exact k ρ1 H1 p ys P1 sq rs
  | l xs =>
    cases h
    obtain ⟨p, ys, ex, hl, hn, hp, r2⟩ := r1
    subst ex
    exact k ρ1 H1 p ys P1 (SqL.of hl) r2
def OpL (g : Gh) (r : List V → Hp → VK → Prop) (F : FQ) : Prop := ∀ (ρ : Nat → Addr) (st : Store) (H : Hp) (p : Addr) (ys : List V) (xs : List D) (v : D) (st' : Store) (Q : VK), Rel g ρ st H → SqL g.K H p ys → VRs g.K ρ st.length H xs ys →
  F xs st = .ok v st' → (∀ ρ' H' z, Post g ρ st H ρ' st' H' → VR g.K ρ' st'.length H' v z → Q z H') → r [.ref p] H Q
theorem cl_of {r : List V → Hp → VK → Prop} {F : FQ} {t : Af} (hF : OpL g r F) : ∀ σ H Q, tE g (eCall F t) σ H Q → tCB r (tCons (tQL g t) tNil) σ H Q := fun σ H Q ⟨ρ, st, env, v, st', Rl, E, h, k⟩ => by
  obtain ⟨xs, s1, e1, h⟩ := R.bind_eq h
  refine ⟨ρ, st, env, xs, s1, Rl, E, e1, fun ρ1 H1 p ys P1 sq r1 => ?_⟩
  exact hF ρ1 s1 H1 p ys xs v st' Q P1.rel sq r1 h fun ρ' H' z P r => k ρ' H' z (P1.trans P) r
theorem e_callL {F : FQ} (hc : CallR X (.builtin id) r) (hF : OpL g r F) (hm : X.mg x = none) (ha : LV g X e t) (hg : Gl X x := by rfl) (hv : bootBuiltins x = some (.builtin id) := by decide +kernel) (hn : x ≠ "__name__" := by decide) (hdb : (x == ("__debug__" : Str)) = false := by decide)
    (he : starEach [e] X.env = (false, eval e X.env) :: starEach [] X.env := by rfl) : EV g X (.Call (.Name x p) [e] [] pos) (eCall F t) :=
  pe_imp (pe_callB hc hg hm hv (pa_cons ha pa_nil he) hn hdb he rfl) (cl_of hF)
end
end Ev

/-! Ev4: what is walked, targets, statements, loops, comprehensions by functions. -/
namespace Ev
open PySem L2 PyProof.Rows

/-! ### equal values, by a reckoned test -/
mutual
def D.eqb : D → D → Bool
  | .non, .non => true
  | .bl a, .bl b => a == b
  | .int a, .int b => decide (a = b)
  | .str a, .str b => decide (a = b)
  | .tup a, .tup b => D.eqbs a b
  | .loc a, .loc b => a == b
  | _, _ => false
def D.eqbs : List D → List D → Bool
  | [], [] => true
  | x :: xs, y :: ys => D.eqb x y && D.eqbs xs ys
  | _, _ => false
end
mutual
theorem D.eqb_eq : ∀ {a b : D}, D.eqb a b = true → a = b
  | .non, b, h => by cases b <;> simp [D.eqb] at h <;> rfl
  | .bl x, b, h => by cases b <;> simp [D.eqb] at h; subst h; rfl
  | .int x, b, h => by cases b <;> simp [D.eqb] at h; subst h; rfl
  | .str x, b, h => by cases b <;> simp [D.eqb] at h; subst h; rfl
  | .tup x, b, h => by cases b <;> simp [D.eqb] at h; rw [D.eqbs_eq h]
  | .loc x, b, h => by cases b <;> simp [D.eqb] at h; subst h; rfl
theorem D.eqbs_eq : ∀ {a b : List D}, D.eqbs a b = true → a = b
  | [], b, h => by cases b <;> simp [D.eqbs] at h; rfl
  | x :: xs, b, h => by cases b <;> simp [D.eqbs] at h; rw [D.eqb_eq h.1, D.eqbs_eq h.2]
end
mutual
theorem D.eqb_self : ∀ a : D, D.eqb a a = true
  | .non => rfl
  | .bl x => by simp [D.eqb]
  | .int x => by simp [D.eqb]
  | .str x => by simp [D.eqb]
  | .tup x => by simp only [D.eqb]; exact D.eqbs_self x
  | .loc x => by simp [D.eqb]
theorem D.eqbs_self : ∀ a : List D, D.eqbs a a = true
  | [] => rfl
  | x :: xs => by simp only [D.eqbs, Bool.and_eq_true]; exact ⟨D.eqb_self x, D.eqbs_self xs⟩
end
/-- a list that is looked at while it is walked: its place, its items -/
abbrev Wt := List (Nat × List D)
def wOk (st : Store) : Wt → Bool
  | [] => true
  | (l, xs) :: ws => (match st[l]? with | some (.lst ys) => D.eqbs ys xs | some (.ro _) => true | _ => false) && wOk st ws
theorem wOk_nil (st : Store) : wOk st [] = true := rfl
theorem wOk_lst {st : Store} {l : Nat} {xs : List D} {ws : Wt} (h : st[l]? = some (.lst xs)) (h' : wOk st ws = true) : wOk st ((l, xs) :: ws) = true := by
  simp only [wOk, h, D.eqbs_self, h', Bool.and_self]
theorem wOk_ro {st : Store} {l : Nat} {xs : List D} {ns : List Int} {ws : Wt} (h : st[l]? = some (.ro ns)) (h' : wOk st ws = true) : wOk st ((l, xs) :: ws) = true := by
  simp only [wOk, h, h', Bool.and_self]
/-- what is walked: the items, the lists that are looked at -/
structure Src where
  items : List D
  ws : Wt

/-- the walk J gives the items, as long as the lists looked at are as they were -/
structure WalkD (g : Gh) (ρ : Nat → Addr) (st : Store) (H : Hp) (J : It) (s : Src) (G : Hp → Prop) (Y : Nat → Hp → V → Hp → Prop) : Prop where
  walk : Walk J s.items.length G Y
  stay : ∀ ρ2 st2 H2, Post g ρ st H ρ2 st2 H2 → wOk st2 s.ws = true → G H2
  gives : ∀ i H2 x H3 ρ2 st2, Post g ρ st H ρ2 st2 H2 → wOk st2 s.ws = true → i < s.items.length → Y i H2 x H3 → ∃ d, s.items[i]? = some d ∧ Post g ρ2 st2 H2 ρ2 st2 H3 ∧ VR g.K ρ2 st2.length H3 d x
abbrev If := EEnv → Store → R Src
def tI (g : Gh) (f : If) : TI := fun σ H R => ∃ ρ st env s st', Rel g ρ st H ∧ EnvR g.K ρ st.length H env σ ∧ f env st = .ok s st' ∧ ∀ ρ' H' J G Y, Post g ρ st H ρ' st' H' → WalkD g ρ' st' H' J s G Y → R J H'
abbrev IV (g : Gh) (X : Cx) (tg e : Expr) (f : If) : Prop := PI X tg e (tI g f)
theorem pi_imp {X : Cx} {tg e : Expr} {t t' : TI} (h : PI X tg e t) (k : ∀ σ H R, t' σ H R → t σ H R) : PI X tg e t' := ⟨fun pins s σ H R I q => h.run pins s σ H R I (k σ H R q)⟩
theorem pi_both {X : Cx} {tg e : Expr} {t t' : TI} (h : PI X tg e t) (h' : PI X tg e t') : PI X tg e (fun σ H R => t σ H R ∨ t' σ H R) := ⟨fun pins s σ H R I q => q.elim (h.run pins s σ H R I) (h'.run pins s σ H R I)⟩

/-- a list (a tuple) at p that keeps these items -/
def StL (g : Gh) (ρ : Nat → Addr) (st : Store) (H : Hp) (p : Addr) (xs : List D) (ws : Wt) : Prop :=
  ∀ ρ2 st2 H2, Post g ρ st H ρ2 st2 H2 → wOk st2 ws = true → ∃ us, SqL g.K H2 p us ∧ VRs g.K ρ2 st2.length H2 xs us
def StT (g : Gh) (ρ : Nat → Addr) (st : Store) (H : Hp) (p : Addr) (xs : List D) : Prop :=
  ∃ us, ∀ ρ2 st2 H2, Post g ρ st H ρ2 st2 H2 → SqT g.K H2 p us ∧ VRs g.K ρ2 st2.length H2 xs us

section
variable {g : Gh} {X : Cx} {tg e a b : Expr} {pos : Pos} {f : Ef}
theorem StL.place {ρ : Nat → Addr} {st : Store} {H : Hp} {l : Nat} {xs : List D} (Rl : Rel g ρ st H) (hl : l < st.length)
    (h : st[l]? = some (.lst xs) ∨ ∃ ns, st[l]? = some (.ro ns) ∧ xs = ns.map .int) : StL g ρ st H (ρ l) xs [(l, xs)] := fun ρ2 st2 H2 P w => by
  rcases h with e | ⟨ns, e, rfl⟩
  · obtain ⟨o2, e2⟩ := get_of_lt (Nat.lt_of_lt_of_le hl P.len)
    simp only [wOk, e2, Bool.and_true] at w
    cases o2 with
    | lst zs =>
      simp only at w
      obtain rfl := D.eqbs_eq w
      obtain ⟨us, e3, rs3⟩ := P.rel.obj l _ e2
      rw [P.old l hl] at e3
      exact ⟨us, SqL.of e3, rs3⟩
    | ro ns => exact absurd (P.kind l _ _ e e2) (by simp [O.mut])
    | ins c fs => simp at w
    | dic kvs => simp at w
  · have ro := Rl.obj l _ e
    exact ⟨_, RoL.sq (RoL.of (fun b o eb m => P.keepN Rl eb m) ro), VRs.ints⟩
theorem StL.temp {ρ : Nat → Addr} {st : Store} {H : Hp} {p : Addr} {xs : List D} {ys : List V} (Rl : Rel g ρ st H) (hl : H p = some (.lst ys)) (hn : ∀ l, mutAt st l → ρ l ≠ p) (r : VRs g.K ρ st.length H xs ys) : StL g ρ st H p xs [] :=
  fun ρ2 st2 H2 P w => ⟨ys, SqL.of (P.keep p _ hl hn), P.vrs Rl r⟩
theorem StT.of {ρ : Nat → Addr} {st : Store} {H : Hp} {p : Addr} {xs : List D} {ys : List V} (Rl : Rel g ρ st H) (hq : SqT g.K H p ys) (r : VRs g.K ρ st.length H xs ys) : StT g ρ st H p xs :=
  ⟨ys, fun ρ2 st2 H2 P => ⟨P.tk Rl _ _ hq, P.vrs Rl r⟩⟩
theorem walkL {ρ : Nat → Addr} {st : Store} {H : Hp} {p : Addr} {xs : List D} {ws : Wt} (S : StL g ρ st H p xs ws) :
    WalkD g ρ st H (Itl g.K p) ⟨xs, ws⟩ (fun H => ∃ us, SqL g.K H p us ∧ us.length = xs.length) (fun i H x H' => H' = H ∧ ∀ us, SqL g.K H p us → us[i]? = some x) where
  walk := ⟨fun i H hi ⟨us, q, hl⟩ => by
      have hi' : i < us.length := by rw [hl]; exact hi
      exact ⟨us, us[i], q, List.getElem?_eq_getElem hi'⟩,
    fun H ⟨us, q, hl⟩ => ⟨us, q, Nat.le_of_eq hl⟩, fun i H x H' hi _ y => y⟩
  stay := fun ρ2 st2 H2 P w => by
    obtain ⟨us, q, r⟩ := S ρ2 st2 H2 P w
    exact ⟨us, q, r.length.symm⟩
  gives := fun i H2 x H3 ρ2 st2 P w hi ⟨eH, y⟩ => by
    subst eH
    obtain ⟨us, q, r⟩ := S ρ2 st2 H3 P w
    obtain ⟨d, e1, e2⟩ := r.getB (y us q)
    exact ⟨d, e1, Post.refl P.rel, e2⟩
theorem walkT {ρ : Nat → Addr} {st : Store} {H : Hp} {p : Addr} {xs : List D} {us : List V} (S : ∀ ρ2 st2 H2, Post g ρ st H ρ2 st2 H2 → SqT g.K H2 p us ∧ VRs g.K ρ2 st2.length H2 xs us) (hl : us.length = xs.length) :
    WalkD g ρ st H (Itt g.K p) ⟨xs, []⟩ (fun H => SqT g.K H p us) (YAt us) where
  walk := by
    have w := walk_tup (K := g.K) (a := p) (xs := us)
    rw [hl] at w
    exact w
  stay := fun ρ2 st2 H2 P w => (S ρ2 st2 H2 P).1
  gives := fun i H2 x H3 ρ2 st2 P w hi ⟨eH, y⟩ => by
    subst eH
    obtain ⟨q, r⟩ := S ρ2 st2 H3 P
    obtain ⟨d, e1, e2⟩ := r.getB y
    exact ⟨d, e1, Post.refl P.rel, e2⟩

/-- a walked value: a tuple, or a list with a place -/
def srcV (d : D) (s : Store) : R Src := match d with
  | .tup xs => .ok ⟨xs, []⟩ s
  | .loc l => match s[l]? with
    | some (.lst xs) => .ok ⟨xs, [(l, xs)]⟩ s
    | some (.ro ns) => .ok ⟨ns.map .int, [(l, ns.map .int)]⟩ s
    | _ => .bad
  | _ => .bad
def iVal (f : Ef) : If := fun env st => (f env st).bind srcV
theorem i_val (x : XG g X) (h : EV g X e f) : IV g X tg e (iVal f) := pi_imp (pi_both (pi_list h) (pi_tup h)) fun σ H Rw ⟨ρ, st, env, s, st', Rl, E, h, k⟩ => by
  obtain ⟨d, s1, e1, h⟩ := R.bind_eq h
  cases d with
  | tup xs =>
    cases h
    refine .inr ⟨ρ, st, env, _, _, Rl, E, e1, fun ρ1 H1 v P1 r1 => ?_⟩
    unfold VR at r1
    obtain ⟨p, ys, rfl, q, r⟩ := r1
    obtain ⟨us, S⟩ := StT.of P1.rel q r
    rw [x.K]
    refine ⟨p, rfl, ⟨ys, q⟩, k ρ1 H1 _ _ _ P1 (walkT S ?_)⟩
    exact ((S _ _ _ (Post.refl P1.rel)).2.length).symm
  | loc l =>
    refine .inl ⟨ρ, st, env, _, _, Rl, E, e1, fun ρ1 H1 v P1 r1 => ?_⟩
    unfold VR at r1
    obtain ⟨hl, rfl⟩ := r1
    simp only [srcV] at h
    rw [x.K]
    split at h
    · rename_i xs q
      cases h
      have S := StL.place P1.rel hl (.inl q)
      obtain ⟨us, q1, _⟩ := S _ _ _ (Post.refl P1.rel) (wOk_lst q rfl)
      exact ⟨ρ1 l, rfl, ⟨us, q1⟩, k ρ1 H1 _ _ _ P1 (walkL S)⟩
    · rename_i ns q
      cases h
      have S := StL.place P1.rel hl (.inr ⟨ns, q, rfl⟩)
      obtain ⟨us, q1, _⟩ := S _ _ _ (Post.refl P1.rel) (wOk_ro q rfl)
      exact ⟨ρ1 l, rfl, ⟨us, q1⟩, k ρ1 H1 _ _ _ P1 (walkL S)⟩
    · cases h
  | _ => cases h
def iNew (t : Af) : If := fun env st => (t env st).bind fun xs s => .ok ⟨xs, []⟩ s
theorem i_new {t : Af} (x : XG g X) (h : NV g X e t) : IV g X tg e (iNew t) := pi_imp (pi_list h) fun σ H Rw ⟨ρ, st, env, s, st', Rl, E, h, k⟩ => by
  obtain ⟨xs, s1, e1, h⟩ := R.bind_eq h
  cases h
  refine ⟨ρ, st, env, _, _, Rl, E, e1, fun ρ1 H1 p ys P1 hl hn hp r => ?_⟩
  rw [x.K]
  exact ⟨p, rfl, ⟨ys, SqL.of hl⟩, k ρ1 H1 _ _ _ P1 (walkL (StL.temp P1.rel hl hn r))⟩
def iM (f : Mf) : If := fun env st => (f env st).bind fun m s => match m with
  | .v d => srcV d s
  | .l xs => .ok ⟨xs, []⟩ s
theorem i_m {f : Mf} (x : XG g X) (h : MV g X e f) : IV g X tg e (iM f) := pi_imp (pi_both (pi_list h) (pi_tup h)) fun σ H Rw ⟨ρ, st, env, s, st', Rl, E, h, k⟩ => by
  obtain ⟨m, s1, e1, h⟩ := R.bind_eq h
  cases m with
  | l xs =>
    cases h
    refine .inl ⟨ρ, st, env, _, _, Rl, E, e1, fun ρ1 H1 v P1 r1 => ?_⟩
    obtain ⟨p, ys, rfl, hl, hn, hp, r⟩ := r1
    rw [x.K]
    exact ⟨p, rfl, ⟨ys, SqL.of hl⟩, k ρ1 H1 _ _ _ P1 (walkL (StL.temp P1.rel hl hn r))⟩
  | v d =>
    cases d with
    | tup xs =>
      cases h
      refine .inr ⟨ρ, st, env, _, _, Rl, E, e1, fun ρ1 H1 v P1 r1 => ?_⟩
      unfold MR VR at r1
      obtain ⟨p, ys, rfl, q, r⟩ := r1
      obtain ⟨us, S⟩ := StT.of P1.rel q r
      rw [x.K]
      refine ⟨p, rfl, ⟨ys, q⟩, k ρ1 H1 _ _ _ P1 (walkT S ?_)⟩
      exact ((S _ _ _ (Post.refl P1.rel)).2.length).symm
    | loc l =>
      refine .inl ⟨ρ, st, env, _, _, Rl, E, e1, fun ρ1 H1 v P1 r1 => ?_⟩
      unfold MR VR at r1
      obtain ⟨hl, rfl⟩ := r1
      simp only [srcV] at h
      rw [x.K]
      split at h
      · rename_i xs q
        cases h
        have S := StL.place P1.rel hl (.inl q)
        obtain ⟨us, q1, _⟩ := S _ _ _ (Post.refl P1.rel) (wOk_lst q rfl)
        exact ⟨ρ1 l, rfl, ⟨us, q1⟩, k ρ1 H1 _ _ _ P1 (walkL S)⟩
      · rename_i ns q
        cases h
        have S := StL.place P1.rel hl (.inr ⟨ns, q, rfl⟩)
        obtain ⟨us, q1, _⟩ := S _ _ _ (Post.refl P1.rel) (wOk_ro q rfl)
        exact ⟨ρ1 l, rfl, ⟨us, q1⟩, k ρ1 H1 _ _ _ P1 (walkL S)⟩
      · cases h
    | _ => cases h

/-! ### ranges -/
def intD (lo : Int) (n : Nat) : List D := (List.range n).map fun i => .int (lo + (i : Nat))
theorem intD_length (lo : Int) (n : Nat) : (intD lo n).length = n := by unfold intD; simp
theorem intD_get {lo : Int} {n i : Nat} (h : i < n) : (intD lo n)[i]? = some (.int (lo + (i : Nat))) := by
  unfold intD
  rw [List.getElem?_map, List.getElem?_range h]
  rfl
def rgOk (j : Int) : Bool := decide (-(2 ^ 62) ≤ j) && decide (j < 2 ^ 62)
theorem rgOk_eq {j : Int} (h : rgOk j = true) : -(2 ^ 62) ≤ j ∧ j < 2 ^ 62 := by
  unfold rgOk at h
  rw [Bool.and_eq_true, decide_eq_true_eq, decide_eq_true_eq] at h
  exact h
theorem walkR {ρ : Nat → Addr} {st : Store} {H : Hp} {lo : Int} {n : Nat} : WalkD g ρ st H (Itr lo n) ⟨intD lo n, []⟩ (fun _ => True) (YFn fun i => .int (lo + (i : Nat))) where
  walk := by
    show Walk _ (intD lo n).length _ _
    rw [intD_length]
    exact walk_range
  stay := fun _ _ _ _ _ => trivial
  gives := fun i H2 x H3 ρ2 st2 P w hi ⟨eH, ex⟩ => by
    subst eH
    subst ex
    have hi' : i < n := by
      have h : i < (intD lo n).length := hi
      rw [intD_length] at h
      exact h
    exact ⟨_, intD_get hi', Post.refl P.rel, by simp [VR]⟩
def iRange1 (f : Ef) : If := fun env st => (f env st).bind fun d s => match d with
  | .int j => if rgOk j = true then .ok ⟨intD 0 j.toNat, []⟩ s else .bad
  | _ => .bad
theorem i_range1 {p : Pos} (x : XG g X) (h : EV g X a f) (hg : Gl X "range" := by rfl) (hs : starEach [a] X.env = [(false, eval a X.env)] := by rfl) : IV g X tg (.Call (.Name "range" p) [a] [] pos) (iRange1 f) :=
  pi_imp (pi_range1 hg (x.mg "range") (pa_cons h pa_nil hs) hs) fun σ H Rw ⟨ρ, st, env, s, st', Rl, E, h, k⟩ => by
    obtain ⟨d, s1, e1, h⟩ := R.bind_eq h
    cases d with
    | int j =>
      simp only at h
      split at h
      · rename_i hz
        cases h
        refine ⟨ρ, st, env, _, _, Rl, E, e1, fun ρ1 H1 v P1 r1 => ?_⟩
        simp only [VR] at r1
        subst r1
        exact ⟨j, rfl, (rgOk_eq hz).1, (rgOk_eq hz).2, k ρ1 H1 _ _ _ P1 walkR⟩
      · cases h
    | _ => cases h
def iRange2 (f h : Ef) : If := fun env st => (f env st).bind fun d s => (h env s).bind fun d2 s2 => match d, d2 with
  | .int i, .int j => if rgOk i = true ∧ rgOk j = true then .ok ⟨intD i (j - i).toNat, []⟩ s2 else .bad
  | _, _ => .bad
theorem i_range2 {p : Pos} {f2 : Ef} (x : XG g X) (h : EV g X a f) (h2 : EV g X b f2) (hg : Gl X "range" := by rfl) (hs : starEach [a, b] X.env = [(false, eval a X.env), (false, eval b X.env)] := by rfl) (hs2 : starEach [b] X.env = [(false, eval b X.env)] := by rfl) :
    IV g X tg (.Call (.Name "range" p) [a, b] [] pos) (iRange2 f f2) :=
  pi_imp (pi_range2 hg (x.mg "range") (pa_cons h (pa_cons h2 pa_nil hs2) (by rw [hs, hs2])) hs hs2) fun σ H Rw ⟨ρ, st, env, s, st', Rl, E, h, k⟩ => by
    obtain ⟨d, s1, e1, h⟩ := R.bind_eq h
    obtain ⟨d2, s2, e2, h⟩ := R.bind_eq h
    cases d <;> cases d2 <;> simp only at h <;> (try exact (R.no h).elim)
    split at h
    · rename_i hz
      cases h
      refine ⟨ρ, st, env, _, _, Rl, E, e1, fun ρ1 H1 v P1 r1 => ?_⟩
      refine ⟨ρ1, s1, env, _, _, P1.rel, P1.envr Rl E, e2, fun ρ2 H2 v2 P2 r2 => ?_⟩
      simp only [VR] at r1 r2
      subst r1
      subst r2
      exact ⟨_, _, rfl, ⟨(rgOk_eq hz.1).1, (rgOk_eq hz.1).2, (rgOk_eq hz.2).1, (rgOk_eq hz.2).2⟩, k ρ2 H2 _ _ _ (P1.trans P2) walkR⟩
    · cases h

/-! ### enumerate, zip: pairs -/
def enumD (k : Nat) : List D → List D
  | [] => []
  | x :: xs => .tup [.int (k : Nat), x] :: enumD (k + 1) xs
theorem enumD_length : ∀ (k : Nat) (xs : List D), (enumD k xs).length = xs.length
  | _, [] => rfl
  | k, x :: xs => by simp [enumD, enumD_length (k + 1) xs]
theorem enumD_get : ∀ (k : Nat) (xs : List D) (i : Nat) (d : D), xs[i]? = some d → (enumD k xs)[i]? = some (.tup [.int ((k + i : Nat) : Int), d])
  | _, [], i, d, h => by simp at h
  | k, x :: xs, 0, d, h => by simp at h; subst h; simp [enumD]
  | k, x :: xs, i + 1, d, h => by
    have := enumD_get (k + 1) xs i d (by simpa using h)
    simp only [enumD, List.getElem?_cons_succ]
    rw [this]
    have e : k + 1 + i = k + (i + 1) := by omega
    rw [e]
def zipD : List D → List D → List D
  | x :: xs, y :: ys => .tup [x, y] :: zipD xs ys
  | _, _ => []
theorem zipD_length : ∀ (xs ys : List D), (zipD xs ys).length = min xs.length ys.length
  | [], _ => by simp [zipD]
  | x :: xs, [] => by simp [zipD]
  | x :: xs, y :: ys => by simp [zipD, zipD_length xs ys]
theorem zipD_get : ∀ (xs ys : List D) (i : Nat) (d e : D), xs[i]? = some d → ys[i]? = some e → (zipD xs ys)[i]? = some (.tup [d, e])
  | [], _, i, d, e, h, _ => by simp at h
  | x :: xs, [], i, d, e, _, h => by simp at h
  | x :: xs, y :: ys, 0, d, e, h, h' => by simp at h h'; subst h; subst h'; simp [zipD]
  | x :: xs, y :: ys, i + 1, d, e, h, h' => by
    simp only [zipD, List.getElem?_cons_succ]
    exact zipD_get xs ys i d e (by simpa using h) (by simpa using h')
/-- a new pair -/
theorem pair_new {ρ : Nat → Addr} {st : Store} {H : Hp} {T : Addr} {x y : V} {d e : D} (Rl : Rel g ρ st H) (hT : H T = none) (r1 : VR g.K ρ st.length H d x) (r2 : VR g.K ρ st.length H e y) :
    Post g ρ st H ρ st (upd H T (.tup [x, y])) ∧ VR g.K ρ st.length (upd H T (.tup [x, y])) (.tup [d, e]) (.ref T) := VR.tupMade Rl hT (.cons r1 (.cons r2 .nil))
theorem walkE {ρ : Nat → Addr} {st : Store} {H : Hp} {p : Addr} {xs : List D} {ws : Wt} (S : StL g ρ st H p xs ws) :
    WalkD g ρ st H (Ite g.K p) ⟨enumD 0 xs, ws⟩ (fun H => ∃ us, SqL g.K H p us ∧ us.length = xs.length)
      (fun i H v H' => ∃ T x, v = .ref T ∧ H T = none ∧ H' = upd H T (.tup [.int (i : Nat), x]) ∧ ∀ us, SqL g.K H p us → us[i]? = some x) where
  walk := ⟨fun i H hi ⟨us, q, hl⟩ => by
      have hi' : i < us.length := by
        rw [hl]
        have h : i < (enumD 0 xs).length := hi
        rw [enumD_length] at h
        exact h
      exact ⟨us, us[i], q, List.getElem?_eq_getElem hi'⟩,
    fun H ⟨us, q, hl⟩ => ⟨us, q, by show us.length ≤ (enumD 0 xs).length; rw [enumD_length, hl]; exact Nat.le_refl _⟩, fun i H x H' hi _ y => y⟩
  stay := fun ρ2 st2 H2 P w => by
    obtain ⟨us, q, r⟩ := S ρ2 st2 H2 P w
    exact ⟨us, q, r.length.symm⟩
  gives := fun i H2 v H3 ρ2 st2 P w hi ⟨T, x, ev, hT, eH, y⟩ => by
    subst ev
    subst eH
    obtain ⟨us, q, r⟩ := S ρ2 st2 H2 P w
    obtain ⟨d, e1, e2⟩ := r.getB (y us q)
    obtain ⟨Pn, rn⟩ := pair_new (d := .int (i : Nat)) (x := V.int (i : Nat)) P.rel hT (by simp [VR]) e2
    refine ⟨_, ?_, Pn, rn⟩
    have e3 := enumD_get 0 xs i d e1
    rw [Nat.zero_add] at e3
    exact e3
def srcEnum (s : Src) : Src := ⟨enumD 0 s.items, s.ws⟩
/-- a list that is walked as an argument: with a place, or just made -/
def tW (g : Gh) (f : If) : TE := fun σ H Q => ∃ ρ st env s st', Rel g ρ st H ∧ EnvR g.K ρ st.length H env σ ∧ f env st = .ok s st' ∧ ∀ ρ' H' p, Post g ρ st H ρ' st' H' → StL g ρ' st' H' p s.items s.ws → (∃ us, SqL g.K H' p us) → Q (.ref p) H'
abbrev WV (g : Gh) (X : Cx) (e : Expr) (f : If) : Prop := PE X e (tW g f)
def srcL (d : D) (s : Store) : R Src := match d with
  | .loc l => match s[l]? with
    | some (.lst xs) => .ok ⟨xs, [(l, xs)]⟩ s
    | some (.ro ns) => .ok ⟨ns.map .int, [(l, ns.map .int)]⟩ s
    | _ => .bad
  | _ => .bad
theorem srcL_ok {ρ : Nat → Addr} {s : Store} {H : Hp} {d : D} {x : V} {w : Src} {s' : Store} (Rl : Rel g ρ s H) (r : VR g.K ρ s.length H d x) (h : srcL d s = .ok w s') :
    s' = s ∧ ∃ p, x = .ref p ∧ StL g ρ s H p w.items w.ws ∧ ∃ us, SqL g.K H p us := by
  cases d with
  | loc l =>
    unfold VR at r
    obtain ⟨hl, rfl⟩ := r
    simp only [srcL] at h
    split at h
    · rename_i xs q
      cases h
      have S := StL.place Rl hl (.inl q)
      obtain ⟨us, q1, _⟩ := S _ _ _ (Post.refl Rl) (wOk_lst q rfl)
      exact ⟨rfl, ρ l, rfl, S, us, q1⟩
    · rename_i ns q
      cases h
      have S := StL.place Rl hl (.inr ⟨ns, q, rfl⟩)
      obtain ⟨us, q1, _⟩ := S _ _ _ (Post.refl Rl) (wOk_ro q rfl)
      exact ⟨rfl, ρ l, rfl, S, us, q1⟩
    · cases h
  | _ => cases h
def wVal (f : Ef) : If := fun env st => (f env st).bind srcL
theorem w_val (h : EV g X e f) : WV g X e (wVal f) := pe_imp h fun σ H Q ⟨ρ, st, env, s, st', Rl, E, h, k⟩ => by
  obtain ⟨d, s1, e1, h⟩ := R.bind_eq h
  refine ⟨ρ, st, env, d, s1, Rl, E, e1, fun ρ1 H1 x P1 r1 => ?_⟩
  obtain ⟨es, p, ex, S, us, q⟩ := srcL_ok P1.rel r1 h
  subst es
  subst ex
  exact k ρ1 H1 p P1 S ⟨us, q⟩
theorem w_new {t : Af} (h : NV g X e t) : WV g X e (iNew t) := pe_imp h fun σ H Q ⟨ρ, st, env, s, st', Rl, E, h, k⟩ => by
  obtain ⟨xs, s1, e1, h⟩ := R.bind_eq h
  cases h
  exact ⟨ρ, st, env, _, _, Rl, E, e1, fun ρ1 H1 p ys P1 hl hn hp r => k ρ1 H1 p P1 (StL.temp P1.rel hl hn r) ⟨ys, SqL.of hl⟩⟩
def wM (f : Mf) : If := fun env st => (f env st).bind fun m s => match m with
  | .v d => srcL d s
  | .l xs => .ok ⟨xs, []⟩ s
theorem w_m {f : Mf} (h : MV g X e f) : WV g X e (wM f) := pe_imp h fun σ H Q ⟨ρ, st, env, s, st', Rl, E, h, k⟩ => by
  obtain ⟨m, s1, e1, h⟩ := R.bind_eq h
  refine ⟨ρ, st, env, m, s1, Rl, E, e1, fun ρ1 H1 x P1 r1 => ?_⟩
  cases m with
  | v d =>
    obtain ⟨es, p, ex, S, us, q⟩ := srcL_ok P1.rel r1 h
    subst es
    subst ex
    exact k ρ1 H1 p P1 S ⟨us, q⟩
  | l xs =>
    cases h
    obtain ⟨p, ys, ex, hl, hn, hp, r2⟩ := r1
    subst ex
    exact k ρ1 H1 p P1 (StL.temp P1.rel hl hn r2) ⟨ys, SqL.of hl⟩
variable {elts : List Expr} {kk : Nat} {tpos p : Pos}
def iEnum (f : If) : If := fun env st => (f env st).bind fun s s1 => .ok (srcEnum s) s1
theorem i_enum {f : If} (x : XG g X) (h : WV g X a f) (hg : Gl X "enumerate" := by rfl) (hs : starEach [a] X.env = [(false, eval a X.env)] := by rfl) :
    IV g X (.Tuple elts kk tpos) (.Call (.Name "enumerate" p) [a] [] pos) (iEnum f) :=
  pi_imp (pi_enum hg (x.mg "enumerate") (pa_cons h pa_nil hs) hs) fun σ H Rw ⟨ρ, st, env, s, st', Rl, E, h, k⟩ => by
    obtain ⟨w, s1, e1, h⟩ := R.bind_eq h
    cases h
    refine ⟨ρ, st, env, w, _, Rl, E, e1, fun ρ1 H1 p P1 S ⟨us, q⟩ => ?_⟩
    rw [x.K]
    exact ⟨p, us, rfl, q, k ρ1 H1 _ _ _ P1 (walkE S)⟩
/-- a tuple that is walked as an argument -/
def tWT (g : Gh) (f : If) : TE := fun σ H Q => ∃ ρ st env s st', Rel g ρ st H ∧ EnvR g.K ρ st.length H env σ ∧ f env st = .ok s st' ∧ ∀ ρ' H' p, Post g ρ st H ρ' st' H' → StT g ρ' st' H' p s.items → Q (.ref p) H'
def srcT (d : D) (s : Store) : R Src := match d with
  | .tup xs => .ok ⟨xs, []⟩ s
  | _ => .bad
theorem srcT_ok {ρ : Nat → Addr} {s : Store} {H : Hp} {d : D} {x : V} {w : Src} {s' : Store} (Rl : Rel g ρ s H) (r : VR g.K ρ s.length H d x) (h : srcT d s = .ok w s') :
    s' = s ∧ w.ws = [] ∧ ∃ p, x = .ref p ∧ StT g ρ s H p w.items := by
  cases d with
  | tup xs =>
    unfold VR at r
    obtain ⟨p, ys, rfl, q, r⟩ := r
    cases h
    exact ⟨rfl, rfl, p, rfl, StT.of Rl q r⟩
  | _ => cases h
theorem StL.len {ρ : Nat → Addr} {st : Store} {H : Hp} {p : Addr} {xs : List D} {ws : Wt} (S : StL g ρ st H p xs ws) {ρ2 : Nat → Addr} {st2 : Store} {H2 : Hp} (P : Post g ρ st H ρ2 st2 H2) (w : wOk st2 ws = true) : ∃ us, SqL g.K H2 p us ∧ us.length = xs.length := by
  obtain ⟨us, q, r⟩ := S ρ2 st2 H2 P w
  exact ⟨us, q, r.length.symm⟩
theorem StL.later {ρ ρ1 : Nat → Addr} {st st1 : Store} {H H1 : Hp} {p : Addr} {xs : List D} {ws : Wt} (S : StL g ρ st H p xs ws) (P : Post g ρ st H ρ1 st1 H1) : StL g ρ1 st1 H1 p xs ws := fun ρ2 st2 H2 P2 w => S ρ2 st2 H2 (P.trans P2) w
theorem StT.later {ρ ρ1 : Nat → Addr} {st st1 : Store} {H H1 : Hp} {p : Addr} {xs : List D} (S : StT g ρ st H p xs) (P : Post g ρ st H ρ1 st1 H1) : StT g ρ1 st1 H1 p xs := let ⟨us, h⟩ := S; ⟨us, fun ρ2 st2 H2 P2 => h ρ2 st2 H2 (P.trans P2)⟩
theorem wOk_append {st : Store} : ∀ {a b : Wt}, wOk st (a ++ b) = true → wOk st a = true ∧ wOk st b = true
  | [], b, h => ⟨rfl, h⟩
  | (l, xs) :: a, b, h => by
    simp only [List.cons_append, wOk, Bool.and_eq_true] at h ⊢
    exact ⟨⟨h.1, (wOk_append h.2).1⟩, (wOk_append h.2).2⟩
def srcZip (s t : Src) : Src := ⟨zipD s.items t.items, s.ws ++ t.ws⟩
theorem walkZ {ρ : Nat → Addr} {st : Store} {H : Hp} {p q : Addr} {xs ys : List D} {ws vs : Wt} (S : StL g ρ st H p xs ws) (T : StL g ρ st H q ys vs) :
    WalkD g ρ st H (Itz g.K p q) ⟨zipD xs ys, ws ++ vs⟩ (fun H => (∃ us, SqL g.K H p us ∧ us.length = xs.length) ∧ ∃ us, SqL g.K H q us ∧ us.length = ys.length)
      (fun i H v H' => ∃ T x y, v = .ref T ∧ H T = none ∧ H' = upd H T (.tup [x, y]) ∧ (∀ us, SqL g.K H p us → us[i]? = some x) ∧ ∀ us, SqL g.K H q us → us[i]? = some y) where
  walk := ⟨fun i H hi ⟨⟨us, q1, l1⟩, vs, q2, l2⟩ => by
      have h : i < (zipD xs ys).length := hi
      rw [zipD_length] at h
      have h1 : i < us.length := by omega
      have h2 : i < vs.length := by omega
      exact ⟨us, vs, us[i], vs[i], q1, q2, List.getElem?_eq_getElem h1, List.getElem?_eq_getElem h2⟩,
    fun H ⟨⟨us, q1, l1⟩, vs, q2, l2⟩ => ⟨us, vs, q1, q2, by
      show us.length ≤ (zipD xs ys).length ∨ vs.length ≤ (zipD xs ys).length
      rw [zipD_length]
      omega⟩, fun i H x H' hi _ y => y⟩
  stay := fun ρ2 st2 H2 P w => ⟨S.len P (wOk_append w).1, T.len P (wOk_append w).2⟩
  gives := fun i H2 v H3 ρ2 st2 P w hi ⟨T', x, y, ev, hT, eH, y1, y2⟩ => by
    subst ev
    subst eH
    obtain ⟨us, q1, r1⟩ := S ρ2 st2 H2 P (wOk_append w).1
    obtain ⟨vs, q2, r2⟩ := T ρ2 st2 H2 P (wOk_append w).2
    obtain ⟨d, e1, e2⟩ := r1.getB (y1 us q1)
    obtain ⟨d', e1', e2'⟩ := r2.getB (y2 vs q2)
    obtain ⟨Pn, rn⟩ := pair_new P.rel hT e2 e2'
    exact ⟨_, zipD_get xs ys i d d' e1 e1', Pn, rn⟩
theorem walkZT {ρ : Nat → Addr} {st : Store} {H : Hp} {p q : Addr} {xs ys : List D} (S : StT g ρ st H p xs) (T : StT g ρ st H q ys) :
    WalkD g ρ st H (RZ.ItzT g.K p q) ⟨zipD xs ys, []⟩ (fun H => (∃ us, SqT g.K H p us ∧ us.length = xs.length) ∧ ∃ us, SqT g.K H q us ∧ us.length = ys.length)
      (fun i H v H' => ∃ T x y, v = .ref T ∧ H T = none ∧ H' = upd H T (.tup [x, y]) ∧ (∀ us, SqT g.K H p us → us[i]? = some x) ∧ ∀ us, SqT g.K H q us → us[i]? = some y) where
  walk := ⟨fun i H hi ⟨⟨us, q1, l1⟩, vs, q2, l2⟩ => by
      have h : i < (zipD xs ys).length := hi
      rw [zipD_length] at h
      have h1 : i < us.length := by omega
      have h2 : i < vs.length := by omega
      exact ⟨us, vs, us[i], vs[i], q1, q2, List.getElem?_eq_getElem h1, List.getElem?_eq_getElem h2⟩,
    fun H ⟨⟨us, q1, l1⟩, vs, q2, l2⟩ => ⟨us, vs, q1, q2, by
      show us.length ≤ (zipD xs ys).length ∨ vs.length ≤ (zipD xs ys).length
      rw [zipD_length]
      omega⟩, fun i H x H' hi _ y => y⟩
  stay := fun ρ2 st2 H2 P w => by
    obtain ⟨us, h⟩ := S
    obtain ⟨vs, h'⟩ := T
    obtain ⟨q1, r1⟩ := h ρ2 st2 H2 P
    obtain ⟨q2, r2⟩ := h' ρ2 st2 H2 P
    exact ⟨⟨us, q1, r1.length.symm⟩, vs, q2, r2.length.symm⟩
  gives := fun i H2 v H3 ρ2 st2 P w hi ⟨T', x, y, ev, hT, eH, y1, y2⟩ => by
    subst ev
    subst eH
    obtain ⟨us, h⟩ := S
    obtain ⟨vs, h'⟩ := T
    obtain ⟨q1, r1⟩ := h ρ2 st2 H2 P
    obtain ⟨q2, r2⟩ := h' ρ2 st2 H2 P
    obtain ⟨d, e1, e2⟩ := r1.getB (y1 us q1)
    obtain ⟨d', e1', e2'⟩ := r2.getB (y2 vs q2)
    obtain ⟨Pn, rn⟩ := pair_new P.rel hT e2 e2'
    exact ⟨_, zipD_get xs ys i d d' e1 e1', Pn, rn⟩
/-- a list or a tuple as an argument of zip -/
def tW2 (g : Gh) (f : If) : TE := fun σ H Q => ∃ ρ st env s st', Rel g ρ st H ∧ EnvR g.K ρ st.length H env σ ∧ f env st = .ok s st' ∧
  ∀ ρ' H' p, Post g ρ st H ρ' st' H' → (StL g ρ' st' H' p s.items s.ws ∧ (∃ us, SqL g.K H' p us)) ∨ (StT g ρ' st' H' p s.items ∧ s.ws = []) → Q (.ref p) H'
end
end Ev

/-! Ev5: fields, items, slices, built-ins, targets, statements. -/
namespace Ev
open PySem L2 PyProof.Rows

section
variable {g : Gh} {X : Cx} {e a b o : Expr} {pos : Pos} {f fa fb : Ef}
/-! ### fields -/
def fldF (i : Nat) (d : D) (s : Store) : R D := match d with
  | .loc l => match s[l]? with
    | some (.ins _ fs) => match fget fs i with
      | some v => .ok v s
      | none => .bad
    | _ => .bad
  | _ => .bad
def eFld (i : Nat) (f : Ef) : Ef := fun env st => (f env st).bind (fldF i)
theorem e_fld (x : XG g X) (i : Nat) {n : Str} (h : EV g X e f) (hn : g.fld i = n) (hi : i < g.nf) (hb : attributeBase e n X.env (eval e X.env) = eval e X.env := by rfl) : EV g X (.Attribute e n pos) (eFld i f) := by
  subst hn
  refine pe_imp (pe_fld h hb) fun σ H Q ⟨ρ, st, env, v, st', Rl, E, h, k⟩ => ?_
  obtain ⟨d, s1, e1, h⟩ := R.bind_eq h
  refine ⟨ρ, st, env, d, s1, Rl, E, e1, fun ρ1 H1 y P1 r1 => ?_⟩
  cases d with
  | loc l =>
    unfold VR at r1
    obtain ⟨hl, rfl⟩ := r1
    simp only [fldF] at h
    split at h
    · rename_i c fs q
      split at h
      · rename_i w q2
        cases h
        obtain ⟨hc, dx, gs, e2, r2⟩ := P1.rel.obj l _ q
        obtain ⟨u, e3, r3⟩ := r2.get x.inj hi q2
        rw [x.K]
        exact ⟨ρ1 l, _, dx, gs, u, rfl, e2, x.cls c hc, x.na c hc i hi, e3, k ρ1 H1 u P1 r3⟩
      · cases h
    · cases h
  | _ => cases h

/-! ### items -/
theorem atI_vrs {ρ : Nat → Addr} {n : Nat} {H : Hp} {ds : List D} {vs : List V} {i : Int} {d : D} (r : VRs g.K ρ n H ds vs) (h : atI ds i = some d) : ∃ v, atI vs i = some v ∧ VR g.K ρ n H d v := by
  unfold atI at h ⊢
  rw [← r.length]
  rw [Option.bind_eq_some_iff] at h
  obtain ⟨j, e1, e2⟩ := h
  obtain ⟨v, e3, e4⟩ := r.get e2
  exact ⟨v, by rw [e1]; exact e3, e4⟩
def okO (r : Option D) (s : Store) : R D := match r with | some d => .ok d s | none => .bad
def ixF : F2 := fun x y st => match x, y with
  | .tup xs, .int i => okO (atI xs i) st
  | .loc l, .int i => match st[l]? with
    | some (.lst xs) => okO (atI xs i) st
    | some (.ro ns) => okO (atI (ns.map D.int) i) st
    | _ => .bad
  | .str z, .int i => if z.length ≤ sizeLine then okO ((atI z.cps.toList i).map fun c => .str ⟨#[c]⟩) st else .bad
  | _, _ => .bad
theorem okO_eq {r : Option D} {s s' : Store} {d : D} (h : okO r s = .ok d s') : r = some d ∧ s' = s := by
  cases r with
  | none => cases h
  | some e => cases h; exact ⟨rfl, rfl⟩
theorem o_ix (x : XG g X) : Op2 g (rIx X.K) ixF := fun ρ st H d1 d2 x1 y1 v st' Q Rl r1 r2 h k => by
  rw [x.K]
  cases d1 <;> cases d2 <;> simp only [ixF] at h <;> (try exact (R.no h).elim)
  · rename_i z i
    simp only [VR] at r1 r2
    subst r1; subst r2
    split at h
    · rename_i hz
      obtain ⟨e, rfl⟩ := okO_eq h
      rw [Option.map_eq_some_iff] at e
      obtain ⟨c, e, rfl⟩ := e
      exact .inr (.inr ⟨z, i, c, rfl, rfl, hz, e, k ρ H _ (Post.refl Rl) (by simp [VR])⟩)
    · cases h
  · unfold VR at r1 r2
    obtain ⟨p, ys, rfl, q, r⟩ := r1
    subst r2
    obtain ⟨e, rfl⟩ := okO_eq h
    obtain ⟨w, e1, e2⟩ := atI_vrs r e
    exact .inr (.inl ⟨p, ys, _, w, rfl, rfl, q, e1, k ρ H w (Post.refl Rl) e2⟩)
  · rename_i l i
    unfold VR at r1 r2
    obtain ⟨hl, rfl⟩ := r1
    subst r2
    split at h
    · rename_i xs q
      obtain ⟨ys, q1, r⟩ := Rl.obj l _ q
      obtain ⟨e, rfl⟩ := okO_eq h
      obtain ⟨w, e1, e2⟩ := atI_vrs r e
      exact .inl ⟨ρ l, ys, i, w, rfl, rfl, SqL.of q1, e1, k ρ H w (Post.refl Rl) e2⟩
    · rename_i ns q
      have ro := Rl.obj l _ q
      obtain ⟨e, rfl⟩ := okO_eq h
      obtain ⟨w, e1, e2⟩ := atI_vrs (VRs.ints (ns := ns)) e
      exact .inl ⟨ρ l, _, i, w, rfl, rfl, RoL.sq ro, e1, k ρ H w (Post.refl Rl) e2⟩
    · cases h
theorem e_ix (x : XG g X) (ha : EV g X a fa) (hb : EV g X b fb) (hs : PlainIx b := by exact fun _ _ => rfl) : EV g X (.Subscript a b pos) (eBin ixF fa fb) :=
  pe_imp (pe_ix ix_seq ha hb hs) (two_of (ta := tE g fa) (tb := tE g fb) (o_ix x))

/-! ### slices -/
abbrev Of := EEnv → Store → R (Option Int)
def tO (g : Gh) (f : Of) : TO := fun σ H Q => ∃ ρ st env v st', Rel g ρ st H ∧ EnvR g.K ρ st.length H env σ ∧ f env st = .ok v st' ∧ ∀ ρ' H', Post g ρ st H ρ' st' H' → Q v H'
def oNo : Of := fun _ st => .ok none st
def oSo (f : Ef) : Of := fun env st => (f env st).bind fun d s => match d with | .int i => .ok (some i) s | _ => .bad
theorem po_imp {X : Cx} {e : Option Expr} {t t' : TO} (h : PO X e t) (k : ∀ σ H Q, t' σ H Q → t σ H Q) : PO X e t' := ⟨fun pins s σ H Q I q => h.run pins s σ H Q I (k σ H Q q)⟩
theorem o_no : PO X none (tO g oNo) := po_imp po_none fun σ H Q ⟨ρ, st, env, v, st', Rl, E, h, k⟩ => by
  cases h
  exact k ρ H (Post.refl Rl)
theorem o_so (h : EV g X e f) : PO X (some e) (tO g (oSo f)) := po_imp (po_some h) fun σ H Q ⟨ρ, st, env, v, st', Rl, E, h, k⟩ => by
  obtain ⟨d, s1, e1, h⟩ := R.bind_eq h
  refine ⟨ρ, st, env, d, s1, Rl, E, e1, fun ρ1 H1 y P1 r1 => ?_⟩
  cases d with
  | int i =>
    cases h
    simp only [VR] at r1
    exact ⟨i, r1, k ρ1 H1 P1⟩
  | _ => cases h
def cutD {A : Type} (xs : List A) (lo hi : Option Int) : List A := (xs.drop (HT.sIx xs.length 0 lo)).take (HT.sIx xs.length xs.length hi - HT.sIx xs.length 0 lo)
theorem cut_vrs {ρ : Nat → Addr} {n : Nat} {H : Hp} {ds : List D} {vs : List V} (r : VRs g.K ρ n H ds vs) (lo hi : Option Int) : VRs g.K ρ n H (cutD ds lo hi) (cutV vs lo hi) := by
  unfold cutD cutV
  rw [← r.length]
  exact (r.drop _).take _
def slF (d : D) (lo hi : Option Int) (st : Store) : R Mv := match d with
  | .tup xs => .ok (.v (.tup (cutD xs lo hi))) st
  | .loc l => match st[l]? with
    | some (.lst xs) => .ok (.l (cutD xs lo hi)) st
    | some (.ro ns) => .ok (.l (cutD (ns.map D.int) lo hi)) st
    | _ => .bad
  | .str z => if z.length ≤ sizeLine then .ok (.v (.str (cutS z lo hi))) st else .bad
  | _ => .bad
def mSl (f : Ef) (fl fh : Of) : Mf := fun env st => (f env st).bind fun d s1 => (fl env s1).bind fun lo s2 => (fh env s2).bind fun hi s3 => slF d lo hi s3
theorem cutV_whole {A : Type} (xs : List A) (lo hi : Option Int) (h : HT.sIx xs.length 0 lo = 0 ∧ HT.sIx xs.length xs.length hi = xs.length) : cutD xs lo hi = xs := by
  unfold cutD
  rw [h.1, h.2]
  simp
theorem m_slice (x : XG g X) {lo hi : Option Expr} {fl fh : Of} {p2 : Pos} (he : EV g X e f) (hl : PO X lo (tO g fl)) (hu : PO X hi (tO g fh)) : MV g X (.Subscript e (.Slice lo hi none p2) pos) (mSl f fl fh) :=
  pe_imp (pe_slice (sl_list.or (sl_tupA.or sl_str)) he hl hu) fun σ H Q ⟨ρ, st, env, v, st', Rl, E, h, k⟩ => by
    obtain ⟨d, s1, e1, h⟩ := R.bind_eq h
    obtain ⟨lo, s2, e2, h⟩ := R.bind_eq h
    obtain ⟨hi, s3, e3, h⟩ := R.bind_eq h
    refine ⟨ρ, st, env, d, s1, Rl, E, e1, fun ρ1 H1 y P1 r1 => ?_⟩
    refine ⟨ρ1, s1, env, lo, s2, P1.rel, P1.envr Rl E, e2, fun ρ2 H2 P2 => ?_⟩
    refine ⟨ρ2, s2, env, hi, s3, P2.rel, (P1.trans P2).envr Rl E, e3, fun ρ3 H3 P3 => ?_⟩
    have P13 := (P1.trans P2).trans P3
    have r3 := P3.vr P2.rel (P2.vr P1.rel r1)
    rw [x.K]
    cases d with
    | tup xs =>
      cases h
      unfold VR at r3
      obtain ⟨p, ys, rfl, q, r⟩ := r3
      refine .inr (.inl ⟨p, ys, rfl, q, fun w => ?_, fun _ t ht => ?_⟩)
      · refine k ρ3 H3 _ P13 ?_
        unfold MR VR
        refine ⟨p, ys, rfl, q, ?_⟩
        rw [cutV_whole xs lo hi (by rw [r.length]; exact w)]
        exact r
      · obtain ⟨P, rn⟩ := VR.tupMade P3.rel ht (cut_vrs r lo hi)
        exact k ρ3 _ _ (P13.trans P) rn
    | loc l =>
      unfold VR at r3
      obtain ⟨hl, rfl⟩ := r3
      simp only [slF] at h
      split at h
      · rename_i xs q
        cases h
        obtain ⟨ys, q1, r⟩ := P3.rel.obj l _ q
        refine .inl ⟨ρ3 l, ys, rfl, SqL.of q1, fun t ht => ?_⟩
        obtain ⟨P, rn⟩ := MR.made P3.rel ht (cut_vrs r lo hi)
        exact k ρ3 _ _ (P13.trans P) (rn.back P13)
      · rename_i ns q
        cases h
        have ro := P3.rel.obj l _ q
        refine .inl ⟨ρ3 l, _, rfl, RoL.sq ro, fun t ht => ?_⟩
        obtain ⟨P, rn⟩ := MR.made P3.rel ht (cut_vrs (VRs.ints (ns := ns)) lo hi)
        exact k ρ3 _ _ (P13.trans P) (rn.back P13)
      · cases h
    | str z =>
      simp only [slF] at h
      split at h
      · rename_i hz
        cases h
        simp only [VR] at r3
        subst r3
        exact .inr (.inr ⟨z, rfl, hz, k ρ3 H3 _ P13 (by simp [MR, VR])⟩)
      · cases h
    | _ => cases h

/-! ### in, not in: flat things -/
def flatD : D → Bool
  | .non => true
  | .bl _ => true
  | .int _ => true
  | .str _ => true
  | _ => false
def eqD : D → D → Bool
  | .non, .non => true
  | .bl a, .bl b => a == b
  | .bl a, .int b => (if a then 1 else 0) == b
  | .int a, .bl b => a == (if b then 1 else 0)
  | .int a, .int b => a == b
  | .str a, .str b => a == b
  | _, _ => false
theorem flat_vr {ρ : Nat → Addr} {n : Nat} {H : Hp} {d : D} {v : V} (r : VR g.K ρ n H d v) (f : flatD d = true) : flatV v = true := by
  cases d <;> simp [flatD] at f <;> simp only [VR] at r <;> subst r <;> rfl
theorem eq_vr {ρ : Nat → Addr} {n : Nat} {H : Hp} {d e : D} {v w : V} (r : VR g.K ρ n H d v) (r' : VR g.K ρ n H e w) (f : flatD d = true) (f' : flatD e = true) : eqV v w = eqD d e := by
  cases d <;> simp [flatD] at f <;> cases e <;> simp [flatD] at f' <;> simp only [VR] at r r' <;> subst r <;> subst r' <;> rfl
theorem flats_vr {ρ : Nat → Addr} {n : Nat} {H : Hp} : ∀ {ds : List D} {vs : List V}, VRs g.K ρ n H ds vs → ds.all flatD = true → vs.all flatV = true
  | [], _, r, _ => by unfold VRs at r; subst r; rfl
  | d :: ds, _, r, f => by
    unfold VRs at r
    obtain ⟨v, vs, rfl, r1, rs⟩ := r
    rw [List.all_cons, Bool.and_eq_true] at f ⊢
    exact ⟨flat_vr r1 f.1, flats_vr rs f.2⟩
theorem in_vr {ρ : Nat → Addr} {n : Nat} {H : Hp} {x : D} {y : V} (r : VR g.K ρ n H x y) (fx : flatD x = true) : ∀ {ds : List D} {vs : List V}, VRs g.K ρ n H ds vs → ds.all flatD = true → inV y vs = ds.any fun d => eqD d x
  | [], _, r, _ => by unfold VRs at r; subst r; rfl
  | d :: ds, _, rr, f => by
    unfold VRs at rr
    obtain ⟨v, vs, rfl, r1, rs⟩ := rr
    rw [List.all_cons, Bool.and_eq_true] at f
    have ih := in_vr r fx rs f.2
    unfold inV at ih ⊢
    rw [List.any_cons, List.any_cons, ih, eq_vr r1 r f.1 fx]
def inQ (neg : Bool) (x : D) (xs : List D) (st : Store) : R D :=
  if flatD x = true ∧ xs.all flatD = true then .ok (.bl (if neg then !xs.any fun d => eqD d x else xs.any fun d => eqD d x)) st else .bad
def eIn (neg : Bool) (f : Ef) (t : Af) : Ef := fun env st => (f env st).bind fun x s1 => (t env s1).bind fun xs s2 => inQ neg x xs s2
theorem in_of {t : Af} {neg : Bool} (x : XG g X) : ∀ σ H Q, tE g (eIn neg f t) σ H Q → tOp (rIn X.K neg) (tE g f) (tQ g t) σ H Q := fun σ H Q ⟨ρ, st, env, v, st', Rl, E, h, k⟩ => by
  obtain ⟨d, s1, e1, h⟩ := R.bind_eq h
  obtain ⟨ds, s2, e2, h⟩ := R.bind_eq h
  unfold inQ at h
  split at h
  · rename_i hz
    cases h
    refine ⟨ρ, st, env, d, s1, Rl, E, e1, fun ρ1 H1 y P1 r1 => ?_⟩
    refine ⟨ρ1, s1, env, ds, _, P1.rel, P1.envr Rl E, e2, fun ρ2 H2 p ys P2 sq r2 => ?_⟩
    have r1' := P2.vr P1.rel r1
    rw [x.K]
    refine ⟨p, ys, rfl, sq, flat_vr r1' hz.1, flats_vr r2 hz.2, ?_⟩
    rw [in_vr r1' hz.1 r2 hz.2]
    exact k ρ2 H2 _ (P1.trans P2) (by simp [VR])
  · cases h
theorem e_in {t : Af} (x : XG g X) (ha : EV g X a f) (hb : QV g X b t) (hm : behindInMarks .In b = false := by rfl) : EV g X (.Compare a [.In] [b] pos) (eIn false f t) := pe_imp (pe_cmpR op_in_seq ha hb hm) (in_of (neg := false) x)
theorem e_notIn {t : Af} (x : XG g X) (ha : EV g X a f) (hb : QV g X b t) (hm : behindInMarks .NotIn b = false := by rfl) : EV g X (.Compare a [.NotIn] [b] pos) (eIn true f t) := pe_imp (pe_cmpR op_notIn_seq ha hb hm) (in_of (neg := true) x)
theorem tt_of {r : R2} {F : Ef} {ta tb : TE} (h : ∀ σ H Q, tE g F σ H Q → tOp r ta tb σ H Q) : ∀ σ H Q, tT g (tfB F) σ H Q → tTest (tOp r ta tb) σ H Q := fun σ H Q ⟨ρ, st, env, v, st', Rl, E, q, k⟩ => by
  refine h σ H _ ⟨ρ, st, env, .bl v, st', Rl, E, toB_eq q, fun ρ1 H1 y1 P1 r1 => ?_⟩
  simp only [VR] at r1
  exact ⟨v, r1, k ρ1 H1 P1⟩
theorem t_in {t : Af} (x : XG g X) (ha : EV g X a f) (hb : QV g X b t) (hm : behindInMarks .In b = false := by rfl) : TV g X (.Compare a [.In] [b] pos) (tfB (eIn false f t)) := pt_imp (pt_cmpR op_in_seq ha hb hm) (tt_of (in_of (neg := false) x))
theorem t_notIn {t : Af} (x : XG g X) (ha : EV g X a f) (hb : QV g X b t) (hm : behindInMarks .NotIn b = false := by rfl) : TV g X (.Compare a [.NotIn] [b] pos) (tfB (eIn true f t)) := pt_imp (pt_cmpR op_notIn_seq ha hb hm) (tt_of (in_of (neg := true) x))

/-! ### built-ins -/
variable {es : List Expr} {t : Af} {p : Pos}
def lenQ : FQ := fun xs st => .ok (.int xs.length) st
theorem o_lenQ (x : XG g X) : OpQ g (fun xs H Q => ∃ p ys, xs = [V.ref p] ∧ (SqL X.K H p ys ∨ SqT X.K H p ys) ∧ Q (.int ys.length) H) lenQ := fun ρ st H p ys xs v st' Q Rl sq r h k => by
  cases h
  rw [x.K]
  exact ⟨p, ys, rfl, sq, k ρ H _ (Post.refl Rl) (by simp [VR, r.length])⟩
theorem e_lenQ (x : XG g X) (h : QV g X e t) (hg : Gl X "len" := by rfl) (he : starEach [e] X.env = (false, eval e X.env) :: starEach [] X.env := by rfl) : EV g X (.Call (.Name "len" p) [e] [] pos) (eCall lenQ t) := e_callQ call_len_seq (o_lenQ x) (x.mg "len") h hg (by decide +kernel) (by decide) (by decide) he
def lenF : FA := fun ds st => match ds with
  | [.str z] => if z.length ≤ sizeLine then .ok (.int z.length) st else .bad
  | [d] => (toQ (.ok d st)).bind lenQ
  | _ => .bad
theorem o_len (x : XG g X) : OpA g (fun xs H Q => (∃ p ys, xs = [V.ref p] ∧ (SqL X.K H p ys ∨ SqT X.K H p ys) ∧ Q (.int ys.length) H) ∨ ∃ z, xs = [.str z] ∧ z.length ≤ sizeLine ∧ Q (.int z.length) H) lenF := fun ρ st H ds vs v st' Q Rl r h k => by
  have one : ∀ d, ds = [d] → ∃ y, vs = [y] ∧ VR g.K ρ st.length H d y := fun d e => by
    subst e
    unfold VRs at r
    obtain ⟨y, zs, rfl, r1, rs⟩ := r
    unfold VRs at rs
    subst rs
    exact ⟨y, rfl, r1⟩
  unfold lenF at h
  split at h
  · obtain ⟨y, rfl, r1⟩ := one _ rfl
    split at h
    · rename_i hz
      cases h
      simp only [VR] at r1
      subst r1
      exact .inr ⟨_, rfl, hz, k ρ H _ (Post.refl Rl) (by simp [VR])⟩
    · cases h
  · obtain ⟨y, rfl, r1⟩ := one _ rfl
    obtain ⟨xs, s1, e1, h2⟩ := R.bind_eq h
    obtain ⟨es, p, ys, rfl, sq, rs⟩ := seq_of Rl r1 e1
    subst es
    exact .inl (o_lenQ x ρ _ H p ys xs v st' Q Rl sq rs h2 k)
  · cases h
theorem e_len (x : XG g X) (h : EV g X e f) (hg : Gl X "len" := by rfl) (he : starEach [e] X.env = (false, eval e X.env) :: starEach [] X.env := by rfl) : EV g X (.Call (.Name "len" p) [e] [] pos) (eCall lenF (aCons f aNil)) :=
  e_callB (call_len_seq.or call_len_str) (o_len x) (x.mg "len") (a_cons h a_nil he) hg (by decide +kernel) (by decide) (by decide) he rfl
def tupQ : FQ := fun xs st => .ok (.tup xs) st
theorem o_tupQ (x : XG g X) : OpQ g (fun xs H Q => ∃ p ys, xs = [V.ref p] ∧ ((SqL X.K H p ys ∧ ∀ l, H l = none → Q (.ref l) (upd H l (.tup ys))) ∨ (SqT X.K H p ys ∧ Q (.ref p) H))) tupQ := fun ρ st H p ys xs v st' Q Rl sq r h k => by
  cases h
  rw [x.K]
  rcases sq with q | q
  · refine ⟨p, ys, rfl, .inl ⟨q, fun l hl => ?_⟩⟩
    obtain ⟨P, rn⟩ := VR.tupMade Rl hl r
    exact k ρ _ _ P rn
  · refine ⟨p, ys, rfl, .inr ⟨q, k ρ H _ (Post.refl Rl) ?_⟩⟩
    unfold VR
    exact ⟨p, ys, rfl, q, r⟩
theorem e_tuple (x : XG g X) (h : QV g X e t) (hg : Gl X "tuple" := by rfl) (he : starEach [e] X.env = (false, eval e X.env) :: starEach [] X.env := by rfl) : EV g X (.Call (.Name "tuple" p) [e] [] pos) (eCall tupQ t) := e_callTQ call_tuple_of (o_tupQ x) (x.mg "tuple") h hg (by decide +kernel) (by decide) (by decide) he
/-- list(..) of a sequence -/
theorem n_list (x : XG g X) (h : QV g X e t) (hg : Gl X "list" := by rfl) (he : starEach [e] X.env = (false, eval e X.env) :: starEach [] X.env := by rfl) : NV g X (.Call (.Name "list" p) [e] [] pos) t :=
  pe_imp (pe_callTy call_list_of hg (x.mg "list") (by decide +kernel) (pa_cons h pa_nil he) (by decide) (by decide) he rfl) fun σ H Q ⟨ρ, st, env, v, st', Rl, E, h, k⟩ => by
    refine ⟨ρ, st, env, v, st', Rl, E, h, fun ρ1 H1 p ys P1 sq r => ?_⟩
    rw [x.K]
    refine ⟨p, ys, rfl, sq, fun l hl => ?_⟩
    have P2 := P1.rel.tup (u := HO.lst ys) hl
    refine k ρ1 _ l ys (P1.trans P2) upd_same (fun j m q => ?_) (P1.freeB hl) (P2.vrs P1.rel r)
    obtain ⟨u, e2, _⟩ := P1.rel.mutSome m
    rw [q, hl] at e2
    cases e2
def rgF (lo hi : Int) (s : Store) : R (List D) := if rgOk lo = true ∧ rgOk hi = true ∧ (hi - lo).toNat ≤ 16777216 then .ok (intD lo (hi - lo).toNat) s else .bad
theorem rg_vrs {ρ : Nat → Addr} {n : Nat} {H : Hp} (lo hi : Int) : VRs g.K ρ n H (intD lo (hi - lo).toNat) (rgV lo hi) := by
  unfold intD rgV
  have go : ∀ l : List Nat, VRs g.K ρ n H (l.map fun i => D.int (lo + (i : Nat))) (l.map fun i => V.int (lo + (i : Nat))) := fun l => by
    induction l with
    | nil => exact .nil
    | cons a l ih => exact .cons (by simp [VR]) ih
  exact go _
def nRange1 (f : Ef) : Af := fun env st => (f env st).bind fun d s => match d with | .int j => rgF 0 j s | _ => .bad
theorem rgF_ok {lo hi : Int} {s s' : Store} {xs : List D} (h : rgF lo hi s = .ok xs s') : RgOk lo hi ∧ xs = intD lo (hi - lo).toNat ∧ s' = s := by
  unfold rgF at h
  split at h
  · rename_i hz
    cases h
    have h1 := rgOk_eq hz.1
    have h2 := rgOk_eq hz.2.1
    exact ⟨⟨h1.1, h1.2, h2.1, h2.2, by have := hz.2.2; omega⟩, rfl, rfl⟩
  · cases h
variable {p2 pos2 : Pos}
theorem n_listRange1 (x : XG g X) (h : EV g X a f) (hg : Gl X "list" := by rfl) (hg2 : Gl X "range" := by rfl) (na : starEach [a] X.env = (false, eval a X.env) :: starEach [] X.env := by rfl)
    (ne : starEach [Expr.Call (.Name "range" p2) [a] [] pos2] X.env = (false, eval (Expr.Call (.Name "range" p2) [a] [] pos2) X.env) :: starEach [] X.env := by rfl) :
    NV g X (.Call (.Name "list" p) [.Call (.Name "range" p2) [a] [] pos2] [] pos) (nRange1 f) :=
  pe_imp (pe_listRg x.calm hg (x.mg "list") (prg_1 hg2 (x.mg "range") h na) ne) fun σ H Q ⟨ρ, st, env, v, st', Rl, E, h, k⟩ => by
    obtain ⟨d, s1, e1, h⟩ := R.bind_eq h
    cases d with
    | int j =>
      obtain ⟨ok, rfl, rfl⟩ := rgF_ok h
      refine ⟨ρ, st, env, _, _, Rl, E, e1, fun ρ1 H1 y P1 r => ?_⟩
      simp only [VR] at r
      subst r
      refine ⟨j, rfl, ok, fun l hl => ?_⟩
      have P2 := P1.rel.tup (u := HO.lst (rgV 0 j)) hl
      refine k ρ1 _ l _ (P1.trans P2) upd_same (fun j m q => ?_) (P1.freeB hl) (rg_vrs 0 j)
      obtain ⟨u, e2, _⟩ := P1.rel.mutSome m
      rw [q, hl] at e2
      cases e2
    | _ => cases h
/-- ints, bools of a list -/
def intsD : List D → Option (List Int)
  | [] => some []
  | .int i :: xs => (intsD xs).map fun r => i :: r
  | _ => none
def blsD : List D → Option (List Bool)
  | [] => some []
  | .bl i :: xs => (blsD xs).map fun r => i :: r
  | _ => none
theorem intsD_vrs {ρ : Nat → Addr} {n : Nat} {H : Hp} : ∀ {ds : List D} {vs : List V} {ns : List Int}, VRs g.K ρ n H ds vs → intsD ds = some ns → vs = ns.map V.int
  | [], _, ns, r, h => by
    unfold VRs at r
    subst r
    simp only [intsD] at h
    cases h
    rfl
  | .int i :: xs, _, ns, r, h => by
    unfold VRs at r
    obtain ⟨v, vs, rfl, r1, rs⟩ := r
    simp only [intsD, Option.map_eq_some_iff] at h
    obtain ⟨ms, e, rfl⟩ := h
    simp only [VR] at r1
    subst r1
    rw [intsD_vrs rs e]
    rfl
  | .non :: xs, _, ns, r, h => by simp [intsD] at h
  | .bl _ :: xs, _, ns, r, h => by simp [intsD] at h
  | .str _ :: xs, _, ns, r, h => by simp [intsD] at h
  | .tup _ :: xs, _, ns, r, h => by simp [intsD] at h
  | .loc _ :: xs, _, ns, r, h => by simp [intsD] at h
theorem blsD_vrs {ρ : Nat → Addr} {n : Nat} {H : Hp} : ∀ {ds : List D} {vs : List V} {ns : List Bool}, VRs g.K ρ n H ds vs → blsD ds = some ns → vs = ns.map V.bl
  | [], _, ns, r, h => by
    unfold VRs at r
    subst r
    simp only [blsD] at h
    cases h
    rfl
  | .bl i :: xs, _, ns, r, h => by
    unfold VRs at r
    obtain ⟨v, vs, rfl, r1, rs⟩ := r
    simp only [blsD, Option.map_eq_some_iff] at h
    obtain ⟨ms, e, rfl⟩ := h
    simp only [VR] at r1
    subst r1
    rw [blsD_vrs rs e]
    rfl
  | .non :: xs, _, ns, r, h => by simp [blsD] at h
  | .int _ :: xs, _, ns, r, h => by simp [blsD] at h
  | .str _ :: xs, _, ns, r, h => by simp [blsD] at h
  | .tup _ :: xs, _, ns, r, h => by simp [blsD] at h
  | .loc _ :: xs, _, ns, r, h => by simp [blsD] at h
theorem intsD_map : ∀ ns : List Int, intsD (ns.map D.int) = some ns
  | [] => rfl
  | n :: ns => by simp [intsD, intsD_map ns]
theorem blsD_map : ∀ ns : List Bool, blsD (ns.map D.bl) = some ns
  | [] => rfl
  | n :: ns => by simp [blsD, blsD_map ns]
def sumQ : FQ := fun xs st => match intsD xs with | some ns => .ok (.int ns.sum) st | none => .bad
theorem o_sum (x : XG g X) : OpL g (rSum X.K) sumQ := fun ρ st H p ys xs v st' Q Rl sq r h k => by
  unfold sumQ at h
  split at h
  · rename_i ns e
    cases h
    obtain rfl := intsD_vrs r e
    rw [x.K]
    exact ⟨p, ns, rfl, sq, k ρ H _ (Post.refl Rl) (by simp [VR])⟩
  · cases h
theorem e_sum (x : XG g X) (h : LV g X e t) (hg : Gl X "sum" := by rfl) (he : starEach [e] X.env = (false, eval e X.env) :: starEach [] X.env := by rfl) : EV g X (.Call (.Name "sum" p) [e] [] pos) (eCall sumQ t) := e_callL (cr_sum x.calm) (o_sum x) (x.mg "sum") h hg (by decide +kernel) (by decide) (by decide) he
def allQ : FQ := fun xs st => match blsD xs with | some ns => .ok (.bl (ns.all id)) st | none => .bad
def anyQ : FQ := fun xs st => match blsD xs with | some ns => .ok (.bl (ns.any id)) st | none => .bad
theorem o_all (x : XG g X) : OpL g (rAll X.K) allQ := fun ρ st H p ys xs v st' Q Rl sq r h k => by
  unfold allQ at h
  split at h
  · rename_i ns e
    cases h
    obtain rfl := blsD_vrs r e
    rw [x.K]
    exact ⟨p, ns, rfl, sq, k ρ H _ (Post.refl Rl) (by simp [VR])⟩
  · cases h
theorem o_any (x : XG g X) : OpL g (rAny X.K) anyQ := fun ρ st H p ys xs v st' Q Rl sq r h k => by
  unfold anyQ at h
  split at h
  · rename_i ns e
    cases h
    obtain rfl := blsD_vrs r e
    rw [x.K]
    exact ⟨p, ns, rfl, sq, k ρ H _ (Post.refl Rl) (by simp [VR])⟩
  · cases h
theorem e_all (x : XG g X) (h : LV g X e t) (hg : Gl X "all" := by rfl) (he : starEach [e] X.env = (false, eval e X.env) :: starEach [] X.env := by rfl) : EV g X (.Call (.Name "all" p) [e] [] pos) (eCall allQ t) := e_callL (cr_all x.calm) (o_all x) (x.mg "all") h hg (by decide +kernel) (by decide) (by decide) he
theorem e_any (x : XG g X) (h : LV g X e t) (hg : Gl X "any" := by rfl) (he : starEach [e] X.env = (false, eval e X.env) :: starEach [] X.env := by rfl) : EV g X (.Call (.Name "any" p) [e] [] pos) (eCall anyQ t) := e_callL (cr_any x.calm) (o_any x) (x.mg "any") h hg (by decide +kernel) (by decide) (by decide) he
def maxI : Int → List Int → Int
  | m, [] => m
  | m, n :: ns => maxI (if n > m then n else m) ns
def minI : Int → List Int → Int
  | m, [] => m
  | m, n :: ns => minI (if n < m then n else m) ns
theorem minI_le : ∀ (ns : List Int) (m : Int), minI m ns ≤ m ∧ ∀ y ∈ ns, minI m ns ≤ y
  | [], m => ⟨Int.le_refl _, by simp⟩
  | n :: ns, m => by
    have ih := minI_le ns (if n < m then n else m)
    unfold minI
    refine ⟨?_, fun y hy => ?_⟩
    · have := ih.1; split at this <;> split <;> omega
    · rcases List.mem_cons.mp hy with rfl | hy
      · have := ih.1; split at this <;> split <;> omega
      · exact ih.2 y hy
theorem minI_mem : ∀ (ns : List Int) (m : Int), minI m ns = m ∨ minI m ns ∈ ns
  | [], m => .inl rfl
  | n :: ns, m => by
    unfold minI
    rcases minI_mem ns (if n < m then n else m) with h | h
    · rw [h]
      split
      · exact .inr List.mem_cons_self
      · exact .inl rfl
    · exact .inr (List.mem_cons_of_mem _ h)
def minQ : FQ := fun xs st => match intsD xs with | some (n :: ns) => .ok (.int (minI n ns)) st | _ => .bad
theorem o_min (x : XG g X) : OpL g (rMin X.K) minQ := fun ρ st H p ys xs v st' Q Rl sq r h k => by
  unfold minQ at h
  split at h
  · rename_i n ns e
    cases h
    obtain rfl := intsD_vrs r e
    rw [x.K]
    refine ⟨p, n :: ns, rfl, sq, by simp, fun m hm hle => ?_⟩
    have e2 : m = minI n ns := by
      have h1 := hle (minI n ns) (by rcases minI_mem ns n with h | h; rw [h]; exact List.mem_cons_self; exact List.mem_cons_of_mem _ h)
      have h2 : minI n ns ≤ m := by
        rcases List.mem_cons.mp hm with rfl | h
        · exact (minI_le ns m).1
        · exact (minI_le ns n).2 m h
      omega
    subst e2
    exact k ρ H _ (Post.refl Rl) (by simp [VR])
  · cases h
theorem e_minL (x : XG g X) (h : LV g X e t) (hg : Gl X "min" := by rfl) (he : starEach [e] X.env = (false, eval e X.env) :: starEach [] X.env := by rfl) : EV g X (.Call (.Name "min" p) [e] [] pos) (eCall minQ t) := e_callL (cr_min x.calm) (o_min x) (x.mg "min") h hg (by decide +kernel) (by decide) (by decide) he
/-- one flat argument, two -/
theorem vrs1 {ρ : Nat → Addr} {n : Nat} {H : Hp} {d : D} {vs : List V} (r : VRs g.K ρ n H [d] vs) : ∃ y, vs = [y] ∧ VR g.K ρ n H d y := by
  unfold VRs at r
  obtain ⟨y, zs, rfl, r1, rs⟩ := r
  unfold VRs at rs
  subst rs
  exact ⟨y, rfl, r1⟩
theorem vrs2 {ρ : Nat → Addr} {n : Nat} {H : Hp} {d e : D} {vs : List V} (r : VRs g.K ρ n H [d, e] vs) : ∃ y z, vs = [y, z] ∧ VR g.K ρ n H d y ∧ VR g.K ρ n H e z := by
  unfold VRs at r
  obtain ⟨y, zs, rfl, r1, rs⟩ := r
  obtain ⟨z, rfl, r2⟩ := vrs1 rs
  exact ⟨y, z, rfl, r1, r2⟩
def absF : FA := fun ds st => match ds with | [.int i] => .ok (.int (if i < 0 then -i else i)) st | _ => .bad
theorem o_abs : OpA g (fun xs H Q => ∃ i, xs = [.int i] ∧ Q (.int (if i < 0 then -i else i)) H) absF := fun ρ st H ds vs v st' Q Rl r h k => by
  unfold absF at h
  split at h
  · cases h
    obtain ⟨y, rfl, r1⟩ := vrs1 r
    simp only [VR] at r1
    subst r1
    exact ⟨_, rfl, k ρ H _ (Post.refl Rl) (by simp [VR])⟩
  · cases h
theorem e_abs (x : XG g X) (h : EV g X e f) (hg : Gl X "abs" := by rfl) (he : starEach [e] X.env = (false, eval e X.env) :: starEach [] X.env := by rfl) : EV g X (.Call (.Name "abs" p) [e] [] pos) (eCall absF (aCons f aNil)) :=
  e_callB call_abs o_abs (x.mg "abs") (a_cons h a_nil he) hg (by decide +kernel) (by decide) (by decide) he rfl
def intF : FA := fun ds st => match ds with | [.int i] => .ok (.int i) st | [.bl b] => .ok (.int (if b then 1 else 0)) st | _ => .bad
theorem o_int : OpA g (fun xs H Q => (∃ i, xs = [.int i] ∧ Q (.int i) H) ∨ ∃ k, xs = [.bl k] ∧ Q (.int (if k then 1 else 0)) H) intF := fun ρ st H ds vs v st' Q Rl r h k => by
  unfold intF at h
  split at h
  · cases h
    obtain ⟨y, rfl, r1⟩ := vrs1 r
    simp only [VR] at r1
    subst r1
    exact .inl ⟨_, rfl, k ρ H _ (Post.refl Rl) (by simp [VR])⟩
  · cases h
    obtain ⟨y, rfl, r1⟩ := vrs1 r
    simp only [VR] at r1
    subst r1
    exact .inr ⟨_, rfl, k ρ H _ (Post.refl Rl) (by simp [VR])⟩
  · cases h
theorem e_intC (x : XG g X) (h : EV g X e f) (hg : Gl X "int" := by rfl) (he : starEach [e] X.env = (false, eval e X.env) :: starEach [] X.env := by rfl) : EV g X (.Call (.Name "int" p) [e] [] pos) (eCall intF (aCons f aNil)) :=
  e_callT call_int1 o_int (x.mg "int") (a_cons h a_nil he) hg (by decide +kernel) (by decide) (by decide) he rfl
def max2F : FA := fun ds st => match ds with | [.int i, .int j] => .ok (.int (if j > i then j else i)) st | _ => .bad
def min2F : FA := fun ds st => match ds with | [.int i, .int j] => .ok (.int (if j < i then j else i)) st | _ => .bad
theorem o_max2 : OpA g (fun xs H Q => ∃ i j, xs = [.int i, .int j] ∧ Q (.int (if j > i then j else i)) H) max2F := fun ρ st H ds vs v st' Q Rl r h k => by
  unfold max2F at h
  split at h
  · cases h
    obtain ⟨y, z, rfl, r1, r2⟩ := vrs2 r
    simp only [VR] at r1 r2
    subst r1; subst r2
    exact ⟨_, _, rfl, k ρ H _ (Post.refl Rl) (by simp [VR])⟩
  · cases h
theorem o_min2 : OpA g (fun xs H Q => ∃ i j, xs = [.int i, .int j] ∧ Q (.int (if j < i then j else i)) H) min2F := fun ρ st H ds vs v st' Q Rl r h k => by
  unfold min2F at h
  split at h
  · cases h
    obtain ⟨y, z, rfl, r1, r2⟩ := vrs2 r
    simp only [VR] at r1 r2
    subst r1; subst r2
    exact ⟨_, _, rfl, k ρ H _ (Post.refl Rl) (by simp [VR])⟩
  · cases h
theorem e_max2 (x : XG g X) (ha : AV g X [a, b] t) (hg : Gl X "max" := by rfl) (he : starEach [a, b] X.env = (false, eval a X.env) :: starEach [b] X.env := by rfl) (hp : (backTo pos (starEach [b] X.env)).any (·.1) = false := by rfl) : EV g X (.Call (.Name "max" p) [a, b] [] pos) (eCall max2F t) :=
  e_callB (call_max2 x.calm) o_max2 (x.mg "max") ha hg (by decide +kernel) (by decide) (by decide) he hp
theorem e_min2 (x : XG g X) (ha : AV g X [a, b] t) (hg : Gl X "min" := by rfl) (he : starEach [a, b] X.env = (false, eval a X.env) :: starEach [b] X.env := by rfl) (hp : (backTo pos (starEach [b] X.env)).any (·.1) = false := by rfl) : EV g X (.Call (.Name "min" p) [a, b] [] pos) (eCall min2F t) :=
  e_callB (call_min2 x.calm) o_min2 (x.mg "min") ha hg (by decide +kernel) (by decide) (by decide) he hp
/-- repr of a value, of a list just made -/
def reprP (p : Option PyData) (st : Store) : R D := match p with
  | some d => if d.showable = true ∧ SeqAt.shaped d = true ∧ d.shown.length ≤ sizeLine then .ok (.str d.shown) st else .bad
  | none => .bad
def reprF : FA := fun ds st => match ds with | [d] => reprP (pd st d) st | _ => .bad
theorem o_repr (x : XG g X) : OpA g (rRepr X.K) reprF := fun ρ st H ds vs v st' Q Rl r h k => by
  unfold reprF at h
  split at h
  · rename_i d
    obtain ⟨y, rfl, r1⟩ := vrs1 r
    unfold reprP at h
    split at h
    · rename_i q e
      split at h
      · rename_i hz
        cases h
        rw [x.K]
        exact ⟨y, q, rfl, pd_dp Rl r1 e, hz.1, hz.2.1, hz.2.2, k ρ H _ (Post.refl Rl) (by simp [VR])⟩
      · cases h
    · cases h
  · cases h
theorem e_repr (x : XG g X) (h : EV g X e f) (hg : Gl X "repr" := by rfl) (he : starEach [e] X.env = (false, eval e X.env) :: starEach [] X.env := by rfl) : EV g X (.Call (.Name "repr" p) [e] [] pos) (eCall reprF (aCons f aNil)) :=
  e_callB (call_repr x) (o_repr x) (x.mg "repr") (a_cons h a_nil he) hg (by decide +kernel) (by decide) (by decide) he rfl
def reprQ : FQ := fun xs st => reprP ((pdWs (pdN st 3) xs).map .list) st
theorem o_reprQ (x : XG g X) : OpL g (rRepr X.K) reprQ := fun ρ st H p ys xs v st' Q Rl sq r h k => by
  unfold reprQ reprP at h
  split at h
  · rename_i q e
    rw [Option.map_eq_some_iff] at e
    obtain ⟨ds, e, rfl⟩ := e
    split at h
    · rename_i hz
      cases h
      rw [x.K]
      exact ⟨_, _, rfl, .lst sq (pdWs_dp (pdN_dp Rl 3) r e), hz.1, hz.2.1, hz.2.2, k ρ H _ (Post.refl Rl) (by simp [VR])⟩
    · cases h
  · cases h
theorem e_reprL (x : XG g X) (h : LV g X e t) (hg : Gl X "repr" := by rfl) (he : starEach [e] X.env = (false, eval e X.env) :: starEach [] X.env := by rfl) : EV g X (.Call (.Name "repr" p) [e] [] pos) (eCall reprQ t) := e_callL (call_repr x) (o_reprQ x) (x.mg "repr") h hg (by decide +kernel) (by decide) (by decide) he
/-- isinstance of a built-in class -/
def tyN (st : Store) : D → Option String
  | .non => some "NoneType"
  | .bl _ => some "bool"
  | .int _ => some "int"
  | .str _ => some "str"
  | .tup _ => some "tuple"
  | .loc l => match st[l]? with
    | some (.lst _) => some "list"
    | some (.ro _) => some "list"
    | some (.dic _) => some "dict"
    | _ => none
def isiF (T : String) (d : D) (st : Store) : R D := match (tyN st d).bind fun n => kitB n T with | some b => .ok (.bl b) st | none => .bad
theorem tyN_ok {ρ : Nat → Addr} {st : Store} {H : Hp} {d : D} {v : V} {n : String} (Rl : Rel g ρ st H) (r : VR g.K ρ st.length H d v) (h : tyN st d = some n) : TyX g.K H v (.type n) := by
  cases d with
  | non => simp only [VR] at r; subst r; cases h; exact .base .non
  | bl b => simp only [VR] at r; subst r; cases h; exact .base (.bl b)
  | int b => simp only [VR] at r; subst r; cases h; exact .base (.int b)
  | str b => simp only [VR] at r; subst r; cases h; exact .base (.str b)
  | tup xs =>
    unfold VR at r
    obtain ⟨p, ys, rfl, q, _⟩ := r
    cases h
    rcases q with (q | ⟨o, q⟩) | ⟨o, its, n, q, hc, _⟩
    · exact .base (.tup q)
    · exact .fTuple q
    · exact .kTuple q hc
  | loc l =>
    unfold VR at r
    obtain ⟨hl, rfl⟩ := r
    simp only [tyN] at h
    split at h
    · rename_i xs q
      cases h
      obtain ⟨ys, q1, _⟩ := Rl.obj l _ q
      exact .base (.lst q1)
    · rename_i ns q
      cases h
      rcases Rl.obj l _ q with ⟨o, q⟩ | ⟨o, its, n, q, hc, _⟩
      · exact .base (.frz q)
      · exact .kList q hc
    · rename_i kvs q
      cases h
      obtain ⟨ys, q1, _⟩ := Rl.obj l _ q
      exact .base (.dK q1)
    · cases h
def eIsi (T : String) (f : Ef) : Ef := fun env st => (f env st).bind (isiF T)
theorem e_isi (x : XG g X) (T : String) {n : Str} (h : EV g X e f) (hn : n ∈ blts := by decide) (hv : bootBuiltins n = some (.type T) := by decide +kernel) (hg : Gl X "isinstance" := by rfl) (hg2 : Gl X n := by rfl)
    (hs : starEach [e, .Name n p2] X.env = (false, eval e X.env) :: starEach [.Name n p2] X.env := by rfl) (hs2 : starEach [.Name n p2] X.env = (false, eval (.Name n p2) X.env) :: starEach [] X.env := by rfl) (hp : (backTo pos (starEach [.Name n p2] X.env)).any (·.1) = false := by rfl)
    (h1 : n ≠ "__name__" := by decide) (h2 : (n == ("__debug__" : Str)) = false := by decide) :
    EV g X (.Call (.Name "isinstance" p) [e, .Name n p2] [] pos) (eIsi T f) :=
  pe_imp (pe_callB call_isi hg (x.mg "isinstance") (by decide +kernel) (pa_cons h (pa_cons (pe_bltn (v := .ty T) hg2 (x.bl n hn) hv rfl h1 h2) pa_nil hs2) hs) (by decide) (by decide) hs hp) fun σ H Q ⟨ρ, st, env, v, st', Rl, E, h, k⟩ => by
    obtain ⟨d, s1, e1, h⟩ := R.bind_eq h
    unfold isiF at h
    split at h
    · rename_i b q
      cases h
      rw [Option.bind_eq_some_iff] at q
      obtain ⟨n, q1, q2⟩ := q
      refine ⟨ρ, st, env, d, _, Rl, E, e1, fun ρ1 H1 y P1 r1 => ?_⟩
      rw [x.K]
      exact ⟨y, .ty T, _, _, b, rfl, .ty T, tyN_ok P1.rel r1 q1, kit_ty q2, k ρ1 H1 _ P1 (by simp [VR])⟩
    · cases h
end
end Ev

/-! Ev6: targets, statements, loops, comprehensions. -/
namespace Ev
open PySem L2
open PyProof.Rows hiding St

/-! ### targets -/
def Off (ws : List Nat) (σ σ' : St) : Prop := σ'.length = σ.length ∧ ∀ j : Nat, j ∉ ws → σ'[j]? = σ[j]?
theorem Off.refl (σ : St) (ws : List Nat) : Off ws σ σ := ⟨rfl, fun _ _ => rfl⟩
theorem Off.set (σ : St) (i : Nat) (v : Option V) : Off [i] σ (σ.set i v) := ⟨by simp, fun j hj => by rw [List.getElem?_set_ne]; simp at hj; exact fun e => hj e.symm⟩
theorem Off.trans {ws vs : List Nat} {σ σ1 σ2 : St} (a : Off ws σ σ1) (b : Off vs σ1 σ2) : Off (ws ++ vs) σ σ2 := ⟨b.1.trans a.1, fun j hj => by
  rw [List.mem_append, not_or] at hj
  rw [b.2 j hj.2, a.2 j hj.1]⟩
theorem wipe_in {σ : St} {i : Nat} : ∀ {vs : List Nat}, i ∈ vs → (wipe σ vs)[i]? = if i < σ.length then some none else none
  | [], h => by simp at h
  | v :: vs, h => by
    unfold L2.wipe
    by_cases hi : v = i
    · subst hi
      rw [List.getElem?_set]
      simp [wipe_length]
    · rw [List.getElem?_set_ne hi]
      exact wipe_in (by rcases List.mem_cons.mp h with e | h; exact absurd e.symm hi; exact h)
theorem Off.wipe {ws vs : List Nat} {σ σ' : St} (h : Off ws σ σ') (hs : ∀ j ∈ ws, j ∈ vs) : wipe σ' vs = wipe σ vs := by
  refine List.ext_getElem? fun j => ?_
  by_cases hj : j ∈ vs
  · rw [wipe_in hj, wipe_in hj, h.1]
  · rw [wipe_out hj, wipe_out hj]
    exact h.2 j fun z => hj (hs j z)
abbrev Gf := D → EEnv → Store → R EEnv
abbrev Gfs := List D → EEnv → Store → R EEnv
def tG (g : Gh) (ws : List Nat) (f : Gf) : TG := fun v σ H Q => ∃ ρ st env d env' st', Rel g ρ st H ∧ EnvR g.K ρ st.length H env σ ∧ VR g.K ρ st.length H d v ∧ f d env st = .ok env' st' ∧
  ∀ ρ' H' σ', Post g ρ st H ρ' st' H' → EnvR g.K ρ' st'.length H' env' σ' → Off ws σ σ' → Q σ' H'
def tGs (g : Gh) (ws : List Nat) (f : Gfs) : TGs := fun vs σ H Q => ∃ ρ st env ds env' st', Rel g ρ st H ∧ EnvR g.K ρ st.length H env σ ∧ VRs g.K ρ st.length H ds vs ∧ f ds env st = .ok env' st' ∧
  ∀ ρ' H' σ', Post g ρ st H ρ' st' H' → EnvR g.K ρ' st'.length H' env' σ' → Off ws σ σ' → Q σ' H'
abbrev GV (g : Gh) (X : Cx) (e : Expr) (ws : List Nat) (f : Gf) : Prop := PG X e (tG g ws f)
abbrev GVs (g : Gh) (X : Cx) (e : List Expr) (ws : List Nat) (f : Gfs) : Prop := PGs X e (tGs g ws f)
theorem pg_imp {X : Cx} {e : Expr} {t t' : TG} (h : PG X e t) (k : ∀ v σ H Q, t' v σ H Q → t v σ H Q) : PG X e t' := ⟨fun pins s σ H v u Q I r q => h.run pins s σ H v u Q I r (k v σ H Q q)⟩
theorem pgs_imp {X : Cx} {e : List Expr} {t t' : TGs} (h : PGs X e t) (k : ∀ v σ H Q, t' v σ H Q → t v σ H Q) : PGs X e t' := ⟨fun pins s σ H v u Q I r q => h.run pins s σ H v u Q I r (k v σ H Q q)⟩
section
variable {g : Gh} {X : Cx} {e a b o : Expr} {es : List Expr} {pos : Pos} {f fa fb : Ef}
def gN (i : Nat) : Gf := fun d env st => .ok (env.set i (some d)) st
theorem g_name (x : XG g X) (i : Nat) {n : Str} (hi : X.N[i]? = some n := by rfl) (hx : Loc X.env.scope n := by first | exact Or.inl rfl | exact Or.inr rfl)
    (hf : X.fn n = true ∨ X.env.scope.names.lookup n = some .local := by first | exact .inl rfl | exact .inr rfl) : GV g X (.Name n pos) [i] (gN i) :=
  pg_imp (pg_name x.nd hi hx hf) fun v σ H Q ⟨ρ, st, env, d, env', st', Rl, E, r, h, k⟩ => by
    cases h
    exact k ρ H _ (Post.refl Rl) (E.set r i) (Off.set σ i _)
def gsNil : Gfs := fun ds env st => match ds with | [] => .ok env st | _ => .bad
def gsCons (f : Gf) (h : Gfs) : Gfs := fun ds env st => match ds with | d :: ds => (f d env st).bind fun e s => h ds e s | [] => .bad
theorem gs_nil : GVs g X [] [] gsNil := pgs_imp pgs_nil fun vs σ H Q ⟨ρ, st, env, ds, env', st', Rl, E, r, h, k⟩ => by
  cases ds with
  | nil =>
    cases h
    unfold VRs at r
    exact ⟨r, k ρ H σ (Post.refl Rl) E (Off.refl σ _)⟩
  | cons d ds => cases h
theorem gs_cons {ws vs : List Nat} {f : Gf} {h : Gfs} (h1 : GV g X e ws f) (h2 : GVs g X es vs h) (hs : (assignEach (e :: es) X.env).map (·.2) = assign e X.env :: (assignEach es X.env).map (·.2) := by rfl) : GVs g X (e :: es) (ws ++ vs) (gsCons f h) :=
  pgs_imp (pgs_cons h1 h2 hs) fun us σ H Q ⟨ρ, st, env, ds, env', st', Rl, E, r, h, k⟩ => by
    cases ds with
    | nil => cases h
    | cons d ds =>
      obtain ⟨e1, s1, h1, h⟩ := R.bind_eq h
      unfold VRs at r
      obtain ⟨y, zs, rfl, r1, rs⟩ := r
      refine ⟨y, zs, rfl, ρ, st, env, d, e1, s1, Rl, E, r1, h1, fun ρ1 H1 σ1 P1 E1 o1 => ?_⟩
      exact ⟨ρ1, s1, e1, ds, env', st', P1.rel, E1, P1.vrs Rl rs, h, fun ρ2 H2 σ2 P2 E2 o2 => k ρ2 H2 σ2 (P1.trans P2) E2 (o1.trans o2)⟩
def gT (n : Nat) (h : Gfs) : Gf := fun d env st => match d with | .tup ds => if ds.length = n then h ds env st else .bad | _ => .bad
theorem g_tup (x : XG g X) {k0 n : Nat} {ws : List Nat} {h : Gfs} (hh : GVs g X es ws h) (hn : (assignEach es X.env).length = n := by rfl) (hst : (assignEach es X.env).findIdx? (·.1) = none := by rfl) : GV g X (.Tuple es k0 pos) ws (gT n h) :=
  pg_imp (pg_tup x.calm hh hn hst) fun v σ H Q ⟨ρ, st, env, d, env', st', Rl, E, r, h, k⟩ => by
    cases d with
    | tup ds =>
      simp only [gT] at h
      split at h
      · rename_i hl
        unfold VR at r
        obtain ⟨p, ys, rfl, q, rs⟩ := r
        rw [x.K]
        exact ⟨p, ys, rfl, q, by rw [← rs.length]; exact hl, ρ, st, env, ds, env', st', Rl, E, rs, h, k⟩
      · cases h
    | _ => cases h
/-- o[i] = v on a list -/
def setL (o i v : D) (s : Store) : R Unit := match o, i with
  | .loc l, .int k => match s[l]? with
    | some (.lst xs) => match ixN xs.length k with
      | some j => .ok () (s.set l (.lst (xs.set j v)))
      | none => .bad
    | _ => .bad
  | _, _ => .bad
theorem setL_ok {ρ : Nat → Addr} {s s' : Store} {H : Hp} {o i v : D} {x y z : V} {Q : Hp → Prop} (Rl : Rel g ρ s H) (r1 : VR g.K ρ s.length H o x) (r2 : VR g.K ρ s.length H i y) (r3 : VR g.K ρ s.length H v z)
    (h : setL o i v s = .ok () s') (k : ∀ H', Post g ρ s H ρ s' H' → Q H') : rSetL x y z H Q := by
  cases o <;> cases i <;> simp only [setL] at h <;> (try exact (R.no h).elim)
  split at h
  · rename_i l kk _ xs q
    split at h
    · rename_i j hj
      cases h
      unfold VR at r1 r2
      obtain ⟨hl, rfl⟩ := r1
      subst r2
      obtain ⟨ys, q1, rs⟩ := Rl.obj l _ q
      refine ⟨ρ l, ys, kk, j, rfl, rfl, q1, by rw [← rs.length]; exact hj, k _ ?_⟩
      refine Rl.set q rfl rfl ⟨ys.set j z, upd_same, ?_⟩
      have t : TK g.K H (upd H (ρ l) (.lst (ys.set j z))) := TK.of fun b o e nm => by
        rw [upd_ne]
        · exact e
        · intro w
          subst w
          rw [q1] at e
          cases e
          exact nm trivial
      exact VRs.mono (fun _ _ => rfl) (Nat.le_refl _) t (rs.set r3 j)
    · cases h
  · cases h
def gS (fo fi : Ef) : Gf := fun d env st => (fo env st).bind fun o s1 => (fi env s1).bind fun i s2 => (setL o i d s2).bind fun _ s3 => .ok env s3
theorem g_sub (ho : EV g X o fa) (hi : EV g X a fb)
    (ha : ∀ v, assign (.Subscript o a pos) X.env v = (do
      let ov ← holding [v] (eval o X.env)
      let iv ← holding [v, ov] (eval a X.env)
      standAt pos
      holding [v, ov, iv] (setItem ov iv v)
      release [v, ov, iv] []) := by intro _; rfl) : GV g X (.Subscript o a pos) [] (gS fa fb) :=
  pg_imp (pg_sub ho hi set_list ha) fun v σ H Q ⟨ρ, st, env, d, env', st', Rl, E, r, h, k⟩ => by
    obtain ⟨d1, s1, e1, h⟩ := R.bind_eq h
    obtain ⟨d2, s2, e2, h⟩ := R.bind_eq h
    obtain ⟨_, s3, e3, h⟩ := R.bind_eq h
    cases h
    refine ⟨ρ, st, env, d1, s1, Rl, E, e1, fun ρ1 H1 y1 P1 r1 => ?_⟩
    refine ⟨ρ1, s1, env, d2, s2, P1.rel, P1.envr Rl E, e2, fun ρ2 H2 y2 P2 r2 => ?_⟩
    have P12 := P1.trans P2
    exact setL_ok P2.rel (P2.vr P1.rel r1) r2 (P12.vr Rl r) e3 fun H' P => k ρ2 H' σ (P12.trans P) ((P12.trans P).envr Rl E) (Off.refl σ _)

/-! ### statements -/
inductive RS where
  | nx (env : EEnv) (s : Store) | rt (d : D) (s : Store) | bk (env : EEnv) (s : Store) | ct (env : EEnv) (s : Store) | bad
abbrev Sf := EEnv → Store → RS
def SRes (g : Gh) (ρ : Nat → Addr) (st : Store) (H : Hp) (Dd : Ends) : RS → Prop
  | .nx env' st' => ∀ ρ' H' σ', Post g ρ st H ρ' st' H' → EnvR g.K ρ' st'.length H' env' σ' → Dd.nx σ' H'
  | .rt d st' => ∀ ρ' H' x, Post g ρ st H ρ' st' H' → VR g.K ρ' st'.length H' d x → Dd.rt x H'
  | .bk env' st' => ∀ ρ' H' σ', Post g ρ st H ρ' st' H' → EnvR g.K ρ' st'.length H' env' σ' → Dd.bk σ' H'
  | .ct env' st' => ∀ ρ' H' σ', Post g ρ st H ρ' st' H' → EnvR g.K ρ' st'.length H' env' σ' → Dd.ct σ' H'
  | .bad => False
theorem SRes.later {ρ ρ1 : Nat → Addr} {st st1 : Store} {H H1 : Hp} {Dd : Ends} {r : RS} (P : Post g ρ st H ρ1 st1 H1) (h : SRes g ρ st H Dd r) : SRes g ρ1 st1 H1 Dd r := by
  cases r with
  | nx env' st' => exact fun ρ' H' σ' P' E' => h ρ' H' σ' (P.trans P') E'
  | rt d st' => exact fun ρ' H' x P' r' => h ρ' H' x (P.trans P') r'
  | bk env' st' => exact fun ρ' H' σ' P' E' => h ρ' H' σ' (P.trans P') E'
  | ct env' st' => exact fun ρ' H' σ' P' E' => h ρ' H' σ' (P.trans P') E'
  | bad => exact h
def tS (g : Gh) (f : Sf) : TS := fun Dd σ H => ∃ ρ st env, Rel g ρ st H ∧ EnvR g.K ρ st.length H env σ ∧ SRes g ρ st H Dd (f env st)
abbrev SV (g : Gh) (X : Cx) (st : Stmt) (f : Sf) : Prop := PS X st (tS g f)
abbrev SVs (g : Gh) (X : Cx) (st : List Stmt) (f : Sf) : Prop := PSs X st (tS g f)
def sR {A : Type} (r : R A) (k : A → Store → RS) : RS := match r with | .ok a s => k a s | .bad => .bad
@[simp] theorem sR_ok {A : Type} (a : A) (s : Store) (k : A → Store → RS) : sR (.ok a s) k = k a s := rfl
@[simp] theorem sR_bad {A : Type} (k : A → Store → RS) : sR (.bad : R A) k = .bad := rfl
theorem sR_of {A : Type} {r : R A} {k : A → Store → RS} {ρ : Nat → Addr} {st : Store} {H : Hp} {Dd : Ends} (h : SRes g ρ st H Dd (sR r k)) : ∃ a s, r = .ok a s ∧ SRes g ρ st H Dd (k a s) := by
  cases r with
  | ok a s => exact ⟨a, s, rfl, h⟩
  | bad => exact h.elim
variable {st : Stmt} {rest : List Stmt} {sf sh : Sf}
def sNil : Sf := fun env st => .nx env st
def RS.then (r : RS) (h : Sf) : RS := match r with | .nx e s => h e s | r => r
def sSeq (f h : Sf) : Sf := fun env st => (f env st).then h
theorem ss_nil : SVs g X [] sNil := pss_imp pss_nil fun Dd σ H ⟨ρ, st, env, Rl, E, h⟩ => h ρ H σ (Post.refl Rl) E
theorem ss_cons (h1 : SV g X st sf) (h2 : SVs g X rest sh) : SVs g X (st :: rest) (sSeq sf sh) := pss_imp (pss_cons h1 h2) fun Dd σ H ⟨ρ, st, env, Rl, E, h⟩ => by
  refine ⟨ρ, st, env, Rl, E, ?_⟩
  unfold sSeq at h
  cases e : sf env st with
  | nx e1 s1 =>
    rw [e] at h
    exact fun ρ1 H1 σ1 P1 E1 => ⟨ρ1, s1, e1, P1.rel, E1, h.later P1⟩
  | rt d s1 => rw [e] at h; exact h
  | bk e1 s1 => rw [e] at h; exact h
  | ct e1 s1 => rw [e] at h; exact h
  | bad => rw [e] at h; exact h
theorem ss_one (h : SV g X st sf) : SVs g X [st] sf := pss_one h
def sPass : Sf := fun env st => .nx env st
def sBrk : Sf := fun env st => .bk env st
def sCt : Sf := fun env st => .ct env st
def sBad : Sf := fun _ _ => .bad
theorem s_pass : SV g X (.Pass pos) sPass := ps_imp ps_pass fun Dd σ H ⟨ρ, st, env, Rl, E, h⟩ => h ρ H σ (Post.refl Rl) E
theorem s_brk : SV g X (.Break pos) sBrk := ps_imp ps_break fun Dd σ H ⟨ρ, st, env, Rl, E, h⟩ => h ρ H σ (Post.refl Rl) E
theorem s_ct : SV g X (.Continue pos) sCt := ps_imp ps_continue fun Dd σ H ⟨ρ, st, env, Rl, E, h⟩ => h ρ H σ (Post.refl Rl) E
theorem s_never : SV g X st sBad := ps_imp ps_never fun Dd σ H ⟨ρ, st, env, Rl, E, h⟩ => h
theorem ss_never : SVs g X rest sBad := pss_imp pss_never fun Dd σ H ⟨ρ, st, env, Rl, E, h⟩ => h
def sExpr (f : Ef) : Sf := fun env st => sR (f env st) fun _ s => .nx env s
theorem s_expr (he : EV g X e f) (hs : swapsWith e none pos.line X.env = pure false := by rfl) : SV g X (.Expr e pos) (sExpr f) := ps_imp (ps_expr he hs) fun Dd σ H ⟨ρ, st, env, Rl, E, h⟩ => by
  obtain ⟨d, s1, e1, h⟩ := sR_of h
  exact ⟨ρ, st, env, d, s1, Rl, E, e1, fun ρ1 H1 x P1 r1 => h ρ1 H1 σ P1 (P1.envr Rl E)⟩
def sRet (f : Ef) : Sf := fun env st => sR (f env st) fun d s => .rt d s
theorem s_ret (he : EV g X e f) : SV g X (.Return (some e) pos) (sRet f) := ps_imp (ps_ret he) fun Dd σ H ⟨ρ, st, env, Rl, E, h⟩ => by
  obtain ⟨d, s1, e1, h⟩ := sR_of h
  exact ⟨ρ, st, env, d, s1, Rl, E, e1, fun ρ1 H1 x P1 r1 => h ρ1 H1 x P1 r1⟩
def sRetN : Sf := fun _ st => .rt .non st
theorem s_retN : SV g X (.Return none pos) sRetN := ps_imp ps_retN fun Dd σ H ⟨ρ, st, env, Rl, E, h⟩ => h ρ H .non (Post.refl Rl) (by simp [VR])
def sIf (p : Tf) (f h : Sf) : Sf := fun env st => sR (p env st) fun b s => if b = true then f env s else h env s
theorem s_if {c : Expr} {p : Tf} {sa sb : List Stmt} (hc : TV g X c p) (ha : SVs g X sa sf) (hb : SVs g X sb sh) : SV g X (.If c sa sb pos) (sIf p sf sh) := ps_imp (ps_if hc ha hb) fun Dd σ H ⟨ρ, st, env, Rl, E, h⟩ => by
  obtain ⟨b, s1, e1, h⟩ := sR_of h
  refine ⟨ρ, st, env, b, s1, Rl, E, e1, fun ρ1 H1 P1 => ?_⟩
  cases b with
  | true => exact iteT ⟨ρ1, s1, env, P1.rel, P1.envr Rl E, h.later P1⟩
  | false => exact iteF ⟨ρ1, s1, env, P1.rel, P1.envr Rl E, h.later P1⟩
def sSet (i : Nat) (f : Ef) : Sf := fun env st => sR (f env st) fun d s => .nx (env.set i (some d)) s
theorem s_set (x : XG g X) (i : Nat) {n : Str} {pos' : Pos} (he : EV g X e f) (hi : X.N[i]? = some n := by rfl) (hx : Loc X.env.scope n := by first | exact Or.inl rfl | exact Or.inr rfl) (hs : swapsWith e (some (.Name n pos')) pos.line X.env = pure false := by rfl)
    (hf : X.fn n = true ∨ X.env.scope.names.lookup n = some .local := by first | exact .inl rfl | exact .inr rfl) : SV g X (.Assign [.Name n pos'] e pos) (sSet i f) :=
  ps_imp (ps_set x.nd hi hx he hs hf) fun Dd σ H ⟨ρ, st, env, Rl, E, h⟩ => by
    obtain ⟨d, s1, e1, h⟩ := sR_of h
    exact ⟨ρ, st, env, d, s1, Rl, E, e1, fun ρ1 H1 y P1 r1 => h ρ1 H1 _ P1 ((P1.envr Rl E).set r1 i)⟩
def sAsg (f : Ef) (gf : Gf) : Sf := fun env st => sR (f env st) fun d s => sR (gf d env s) fun e s => .nx e s
theorem s_asg {tg : Expr} {ws : List Nat} {gf : Gf} (he : EV g X e f) (hg : GV g X tg ws gf) (hs : swapsWithSole [tg] e pos.line X.env = pure false := by rfl) (hw : swappedStores [tg] e X.env = pure none := by rfl)
    (h1 : (assignEach [tg] X.env).map (·.2) = [assign tg X.env] := by rfl) : SV g X (.Assign [tg] e pos) (sAsg f gf) :=
  ps_imp (ps_asg he hg hs hw h1) fun Dd σ H ⟨ρ, st, env, Rl, E, h⟩ => by
    obtain ⟨d, s1, e1, h⟩ := sR_of h
    obtain ⟨e2, s2, e3, h⟩ := sR_of h
    refine ⟨ρ, st, env, d, s1, Rl, E, e1, fun ρ1 H1 y P1 r1 => ?_⟩
    exact ⟨ρ1, s1, env, d, e2, s2, P1.rel, P1.envr Rl E, r1, e3, fun ρ2 H2 σ2 P2 E2 _ => h ρ2 H2 σ2 (P1.trans P2) E2⟩
/-- a, b = x, y of local names -/
def sPar (is : List Nat) (t : Af) : Sf := fun env st => sR (t env st) fun ds s => if ds.length = is.length then .nx ((is.zip ds).foldl (fun e p => e.set p.1 (some p.2)) env) s else .bad
theorem s_par2 (x : XG g X) (i j : Nat) {n m : Str} {px py pt : Pos} {kt k2 : Nat} {pt2 : Pos} {t : Af} (ha : AV g X [a, b] t) (hi : X.N[i]? = some n := by rfl) (hj : X.N[j]? = some m := by rfl) (hij : i ≠ j := by decide)
    (hx : X.env.scope.names.lookup n = some .local := by rfl) (hy : X.env.scope.names.lookup m = some .local := by rfl)
    (hw : swappedStores [.Tuple [.Name n px, .Name m py] kt pt] (.Tuple [a, b] k2 pt2) X.env = pure (some [n, m]) := by rfl)
    (hs : swapsWithSole [.Tuple [.Name n px, .Name m py] kt pt] (.Tuple [a, b] k2 pt2) pos.line X.env = pure false := by rfl) :
    SV g X (.Assign [.Tuple [.Name n px, .Name m py] kt pt] (.Tuple [a, b] k2 pt2) pos) (sPar [i, j] t) :=
  ps_imp (ps_par x.calm x.nd hi hj hij hx hy ha hw hs) fun Dd σ H ⟨ρ, st, env, Rl, E, h⟩ => by
    obtain ⟨ds, s1, e1, h⟩ := sR_of h
    refine ⟨ρ, st, env, ds, s1, Rl, E, e1, fun ρ1 H1 vs P1 r1 => ?_⟩
    split at h
    · rename_i hl
      match ds, hl with
      | [d1, d2], _ =>
        obtain ⟨y, z, rfl, r1, r2⟩ := vrs2 r1
        exact ⟨y, z, rfl, h ρ1 H1 _ P1 (((P1.envr Rl E).set r1 i).set r2 j)⟩
    · exact h.elim
theorem s_par3 (x : XG g X) (i j l : Nat) {c : Expr} {n m q : Str} {px py pz pt : Pos} {kt k2 : Nat} {pt2 : Pos} {t : Af} (ha : AV g X [a, b, c] t) (hi : X.N[i]? = some n := by rfl) (hj : X.N[j]? = some m := by rfl) (hl : X.N[l]? = some q := by rfl) (hij : i ≠ j := by decide) (hil : i ≠ l := by decide) (hjl : j ≠ l := by decide)
    (hx : X.env.scope.names.lookup n = some .local := by rfl) (hy : X.env.scope.names.lookup m = some .local := by rfl) (hz : X.env.scope.names.lookup q = some .local := by rfl)
    (hw : swappedStores [.Tuple [.Name n px, .Name m py, .Name q pz] kt pt] (.Tuple [a, b, c] k2 pt2) X.env = pure (some [n, m, q]) := by rfl)
    (hs : swapsWithSole [.Tuple [.Name n px, .Name m py, .Name q pz] kt pt] (.Tuple [a, b, c] k2 pt2) pos.line X.env = pure false := by rfl) :
    SV g X (.Assign [.Tuple [.Name n px, .Name m py, .Name q pz] kt pt] (.Tuple [a, b, c] k2 pt2) pos) (sPar [i, j, l] t) :=
  ps_imp (ps_par3 x.calm x.nd hi hj hl hij hil hjl hx hy hz ha hw hs) fun Dd σ H ⟨ρ, st, env, Rl, E, h⟩ => by
    obtain ⟨ds, s1, e1, h⟩ := sR_of h
    refine ⟨ρ, st, env, ds, s1, Rl, E, e1, fun ρ1 H1 vs P1 r1 => ?_⟩
    split at h
    · rename_i hl
      match ds, hl with
      | [d1, d2, d3], _ =>
        unfold VRs at r1
        obtain ⟨y, zs, rfl, r1, rs⟩ := r1
        obtain ⟨z, w, rfl, r2, r3⟩ := vrs2 rs
        exact ⟨y, z, w, rfl, h ρ1 H1 _ P1 ((((P1.envr Rl E).set r1 i).set r2 j).set r3 l)⟩
    · exact h.elim
/-- o.f = v -/
def putO (i : Nat) (o v : D) (s : Store) : R Unit := match o with
  | .loc l => match s[l]? with
    | some (.ins c fs) => if fs.length < 1000 then .ok () (s.set l (.ins c (fput i v fs))) else .bad
    | _ => .bad
  | _ => .bad
def sFldE (i : Nat) (fo fv : Ef) : Sf := fun env st => sR (fv env st) fun v s1 => sR (fo env s1) fun o s2 => sR (putO i o v s2) fun _ s3 => .nx env s3
theorem s_fld (x : XG g X) (i : Nat) {n : Str} {pos' : Pos} (ho : EV g X o fa) (hv : EV g X e f) (hn : g.fld i = n) (hi : i < g.nf) (hs : swapsWith e (some (.Attribute o n pos')) pos.line X.env = pure false := by rfl) :
    SV g X (.Assign [.Attribute o n pos'] e pos) (sFldE i fa f) := by
  subst hn
  refine ps_imp (ps_fld ho hv hs) fun Dd σ H ⟨ρ, st, env, Rl, E, h⟩ => ?_
  obtain ⟨v, s1, e1, h⟩ := sR_of h
  obtain ⟨d, s2, e2, h⟩ := sR_of h
  obtain ⟨_, s3, e3, h⟩ := sR_of h
  refine ⟨ρ, st, env, v, s1, Rl, E, e1, fun ρ1 H1 y P1 r1 => ?_⟩
  refine ⟨ρ1, s1, env, d, s2, P1.rel, P1.envr Rl E, e2, fun ρ2 H2 z P2 r2 => ?_⟩
  cases d with
  | loc l =>
    simp only [putO] at e3
    split at e3
    · rename_i c fs q
      split at e3
      · rename_i hz
        cases e3
        unfold VR at r2
        obtain ⟨hl, rfl⟩ := r2
        obtain ⟨hc, dx, gs, q1, rf⟩ := P2.rel.obj l _ q
        rw [x.K]
        refine ⟨ρ2 l, _, dx, gs, rfl, q1, x.cls c hc, x.na c hc i hi, by rw [rf.length]; exact hz, ?_⟩
        have P12 := P1.trans P2
        have r1' := P2.vr P1.rel r1
        have t : TK g.K H2 (upd H2 (ρ2 l) (.ins (g.cl c) dx (putF (g.fld i) y gs))) := TK.of fun b o e nm => by
          rw [upd_ne]
          · exact e
          · intro w
            subst w
            rw [q1] at e
            cases e
            exact nm trivial
        have P3 : Post g ρ2 s2 H2 ρ2 (s2.set l (.ins c (fput i v fs))) (upd H2 (ρ2 l) (.ins (g.cl c) dx (putF (g.fld i) y gs))) :=
          P2.rel.set q rfl rfl ⟨hc, dx, _, upd_same, FR.mono (fun _ _ => rfl) (Nat.le_refl _) t (rf.put x.inj hi r1')⟩
        exact h ρ2 _ σ (P12.trans P3) ((P12.trans P3).envr Rl E)
      · cases e3
    · cases e3
  | _ => cases e3

/-! ### loops -/
def RS.loop (r : RS) (k : Sf) : RS := match r with
  | .nx e s => k e s
  | .ct e s => k e s
  | .bk e s => .nx e s
  | .rt v s => .rt v s
  | .bad => .bad
def loopF (ws : Wt) (gf : Gf) (bf : Sf) : List D → Sf
  | [], env, st => if wOk st ws = true then .nx env st else .bad
  | d :: ds, env, st => if wOk st ws = true then sR (gf d env st) fun e s => (bf e s).loop (loopF ws gf bf ds) else .bad
theorem loop_res {ρ : Nat → Addr} {st : Store} {H : Hp} {Dd : Ends} {r : RS} {k : Sf} {N : St → Hp → Prop} (h : SRes g ρ st H Dd (r.loop k))
    (hN : ∀ e s ρ' H' σ', SRes g ρ st H Dd (k e s) → Post g ρ st H ρ' s H' → EnvR g.K ρ' s.length H' e σ' → N σ' H') : SRes g ρ st H { Dd with nx := N, ct := N, bk := Dd.nx } r := by
  cases r with
  | nx e s => exact fun ρ' H' σ' P E => hN e s ρ' H' σ' h P E
  | ct e s => exact fun ρ' H' σ' P E => hN e s ρ' H' σ' h P E
  | bk e s => exact h
  | rt v s => exact h
  | bad => exact h
def sFor (f : If) (gf : Gf) (bf : Sf) : Sf := fun env st => sR (f env st) fun s s1 => loopF s.ws gf bf s.items env s1
theorem s_for {tg iter : Expr} {body : List Stmt} {fi : If} {ws : List Nat} {gf : Gf} {bf : Sf} (x : XG g X) (hi : IV g X tg iter fi) (hg : GV g X tg ws gf) (hb : SVs g X body bf)
    (hp : PassesOwn (model X.prog X.w) X.A X.env X.xe := by exact PassesOwn.never) (hs : ∀ x, foldedSetIterable iter X.env x = pure x := by intro _; rfl) : SV g X (.For tg iter body [] pos) (sFor fi gf bf) :=
  ps_imp (ps_for hp x.calm hi hg hb hs) fun Dd σ H ⟨ρ, st, env, Rl, E, h⟩ => by
    obtain ⟨s, s1, e1, h⟩ := sR_of h
    refine ⟨ρ, st, env, s, s1, Rl, E, e1, fun ρ1 H1 J G Y P1 W => ?_⟩
    have h1 := h.later P1
    refine for_it W.walk (fun i σ' H' => ∃ ρ2 st2 env2, Post g ρ1 s1 H1 ρ2 st2 H' ∧ EnvR g.K ρ2 st2.length H' env2 σ' ∧ SRes g ρ2 st2 H' Dd (loopF s.ws gf bf (s.items.drop i) env2 st2))
      ⟨ρ1, s1, env, Post.refl P1.rel, P1.envr Rl E, by rw [List.drop_zero]; exact h1⟩ (fun i σ' H' hi ⟨ρ2, st2, env2, P2, E2, h2⟩ => ?_) (fun i v σ' H' H'' hi ⟨ρ2, st2, env2, P2, E2, h2⟩ y => ?_) (fun σ' H' ⟨ρ2, st2, env2, P2, E2, h2⟩ => ?_)
    · refine W.stay ρ2 st2 H' P2 ?_
      cases hd : s.items.drop i with
      | nil =>
        rw [hd] at h2
        unfold loopF at h2
        by_cases w : wOk st2 s.ws = true
        · exact w
        · rw [if_neg w] at h2; exact h2.elim
      | cons d ds =>
        rw [hd] at h2
        unfold loopF at h2
        by_cases w : wOk st2 s.ws = true
        · exact w
        · rw [if_neg w] at h2; exact h2.elim
    · have hdr : s.items.drop i = s.items[i] :: s.items.drop (i + 1) := List.drop_eq_getElem_cons hi
      rw [hdr] at h2
      unfold loopF at h2
      by_cases w : wOk st2 s.ws = true
      · rw [if_pos w] at h2
        obtain ⟨d, ed, P3, r3⟩ := W.gives i H' v H'' ρ2 st2 P2 w hi y
        rw [List.getElem?_eq_getElem hi] at ed
        cases ed
        obtain ⟨e4, s4, q4, h4⟩ := sR_of h2
        refine ⟨ρ2, st2, env2, _, e4, s4, P3.rel, P3.envr P2.rel E2, r3, q4, fun ρ5 H5 σ5 P5 E5 _ => ?_⟩
        have P35 := P3.trans P5
        refine ⟨ρ5, s4, e4, P5.rel, E5, loop_res (h4.later P35) fun e s ρ' H6 σ6 hk P6 E6 => ?_⟩
        exact ⟨ρ', s, e, (P2.trans P35).trans P6, E6, hk.later P6⟩
      · rw [if_neg w] at h2; exact h2.elim
    · rw [List.drop_of_length_le (Nat.le_refl _)] at h2
      unfold loopF at h2
      by_cases w : wOk st2 s.ws = true
      · rw [if_pos w] at h2
        exact h2 ρ2 H' σ' (Post.refl P2.rel) E2
      · rw [if_neg w] at h2; exact h2.elim
def whileF (p : Tf) (bf : Sf) : Nat → Sf
  | 0, _, _ => .bad
  | n + 1, env, st => sR (p env st) fun b s => if b = true then (bf env s).loop (whileF p bf n) else .nx env s
theorem s_while (n : Nat) {c : Expr} {body : List Stmt} {p : Tf} {bf : Sf} (hc : TV g X c p) (hb : SVs g X body bf) (hp : PassesOwn (model X.prog X.w) X.A X.env X.xe := by exact PassesOwn.never) : SV g X (.While c body [] pos) (whileF p bf n) :=
  ps_imp (ps_while hp hc hb) fun Dd σ H ⟨ρ, st, env, Rl, E, h⟩ => by
    refine ⟨fun m σ' H' => ∃ ρ2 st2 env2, Rel g ρ2 st2 H' ∧ EnvR g.K ρ2 st2.length H' env2 σ' ∧ SRes g ρ2 st2 H' Dd (whileF p bf m env2 st2), ⟨n, ρ, st, env, Rl, E, h⟩, fun m σ' H' ⟨ρ2, st2, env2, R2, E2, h2⟩ => ?_⟩
    cases m with
    | zero => exact h2.elim
    | succ m =>
      unfold whileF at h2
      obtain ⟨b, s1, e1, h2⟩ := sR_of h2
      refine ⟨ρ2, st2, env2, b, s1, R2, E2, e1, fun ρ3 H3 P3 => ?_⟩
      have h3 := h2.later P3
      have E3 := P3.envr R2 E2
      cases b with
      | true =>
        rw [if_pos rfl] at h3
        refine iteT ⟨fun σ' H' => ∃ ρ2 st2 env2, Rel g ρ2 st2 H' ∧ EnvR g.K ρ2 st2.length H' env2 σ' ∧ SRes g ρ2 st2 H' Dd (whileF p bf m env2 st2), fun σ4 H4 q => ⟨m, Nat.lt_succ_self m, q⟩, ?_⟩
        exact ⟨ρ3, s1, env2, P3.rel, E3, loop_res h3 fun e s ρ' H6 σ6 hk P6 E6 => ⟨ρ', s, e, P6.rel, E6, hk.later P6⟩⟩
      | false =>
        rw [if_neg Bool.false_ne_true] at h3
        exact iteF (h3 ρ3 H3 σ' (Post.refl P3.rel) E3)

/-! ### comprehensions -/
def compF (ws : Wt) (gf : Gf) (tf : Tf) (ef : Ef) (env : EEnv) : List D → Store → R (List D)
  | [], st => if wOk st ws = true then .ok [] st else .bad
  | d :: ds, st => if wOk st ws = true then (gf d env st).bind fun e s => (tf e s).bind fun b s2 => if b = true then (ef e s2).bind fun v s3 => (compF ws gf tf ef env ds s3).bind fun vs s4 => .ok (v :: vs) s4 else compF ws gf tf ef env ds s2 else .bad
def nComp (vs : List Nat) (f : If) (gf : Gf) (tf : Tf) (ef : Ef) : Af := fun env st => (f env st).bind fun s s1 => if s.items.length ≤ sizeLine then compF s.ws gf tf ef (wipeE env vs) s.items s1 else .bad
/-- a list without a place, changed -/
theorem Post.temp {ρ ρ' : Nat → Addr} {st st' : Store} {H H' : Hp} {p : Addr} {ys zs : List V} (P : Post g ρ st H ρ' st' H') (hp : H p = none) (hn : ∀ l, mutAt st' l → ρ' l ≠ p) (hl : H' p = some (.lst ys)) :
    Post g ρ st H ρ' st' (upd H' p (.lst zs)) ∧ TK g.K H' (upd H' p (.lst zs)) := by
  have kn : ∀ b o, H' b = some o → ¬ Mut (some o) → upd H' p (.lst zs) b = some o := fun b o e nm => by
    rw [upd_ne]
    · exact e
    · intro w
      subst w
      rw [hl] at e
      cases e
      exact nm trivial
  have t : TK g.K H' (upd H' p (.lst zs)) := TK.of kn
  refine ⟨⟨⟨fun l o e => ?_, P.rel.inj⟩, P.len, P.old, fun b o e h => ?_, P.fresh, P.kind⟩, t⟩
  · have q := P.rel.obj l o e
    have ne : o.mut = true → ρ' l ≠ p := fun m => hn l ⟨o, e, m⟩
    cases o with
    | ro ns => exact RoL.of kn q
    | lst xs => obtain ⟨us, e1, r⟩ := q; exact ⟨us, by rw [upd_ne (ne rfl)]; exact e1, r.mono (fun _ _ => rfl) (Nat.le_refl _) t⟩
    | ins c fs => obtain ⟨hc, dx, gs, e1, r⟩ := q; exact ⟨hc, dx, gs, by rw [upd_ne (ne rfl)]; exact e1, r.mono (fun _ _ => rfl) (Nat.le_refl _) t⟩
    | dic kvs => obtain ⟨gs, e1, r⟩ := q; exact ⟨gs, by rw [upd_ne (ne rfl)]; exact e1, r.mono (fun _ _ => rfl) (Nat.le_refl _) t⟩
  · rw [upd_ne (ne_of_none e hp)]
    exact P.keep b o e h
theorem lc_of {fi : If} {ws : List Nat} {gf : Gf} {tf : Tf} {ef : Ef} {vs : List Nat} (hws : ∀ j ∈ ws, j ∈ vs) : ∀ σ H Q, tN g (nComp vs fi gf tf ef) σ H Q → tLc (tI g fi) (tG g ws gf) (tT g tf) (tE g ef) vs σ H Q :=
  fun σ H Q ⟨ρ, st, env, fin, stF, Rl, E, h, k⟩ => by
    obtain ⟨s, s1, e1, h⟩ := R.bind_eq h
    split at h
    · rename_i hz
      refine ⟨ρ, st, env, s, s1, Rl, E, e1, fun ρ1 H1 J G Y P1 W => fun Da hD => ?_⟩
      refine lc_it W.walk (fun i H' => ∃ ρ2 st2 acc ys, Post g ρ1 s1 H1 ρ2 st2 H' ∧ H' Da = some (.lst ys) ∧ (∀ l, mutAt st2 l → ρ2 l ≠ Da) ∧ VRs g.K ρ2 st2.length H' acc ys ∧ acc.length ≤ i ∧
          ∃ r, compF s.ws gf tf ef (wipeE env vs) (s.items.drop i) st2 = .ok r stF ∧ acc ++ r = fin)
        ⟨ρ1, s1, [], [], P1.rel.tup hD, upd_same, fun l m q => ?_, .nil, Nat.le_refl _, fin, by rw [List.drop_zero]; exact h, rfl⟩
        (fun i H' hi ⟨ρ2, st2, acc, ys, P2, hl, hn, ra, la, r, hc, er⟩ => ?_) (fun i v H' H'' hi ⟨ρ2, st2, acc, ys, P2, hl, hn, ra, la, r, hc, er⟩ y => ?_) (fun H' ⟨ρ2, st2, acc, ys, P2, hl, hn, ra, la, r, hc, er⟩ => ?_)
      · obtain ⟨u, e2, _⟩ := P1.rel.mutSome m
        rw [q, hD] at e2
        cases e2
      · refine W.stay ρ2 st2 H' P2 ?_
        cases hd : s.items.drop i with
        | nil =>
          rw [hd] at hc
          unfold compF at hc
          by_cases w : wOk st2 s.ws = true
          · exact w
          · rw [if_neg w] at hc; cases hc
        | cons d ds =>
          rw [hd] at hc
          unfold compF at hc
          by_cases w : wOk st2 s.ws = true
          · exact w
          · rw [if_neg w] at hc; cases hc
      · have hdr : s.items.drop i = s.items[i] :: s.items.drop (i + 1) := List.drop_eq_getElem_cons hi
        rw [hdr] at hc
        unfold compF at hc
        by_cases w : wOk st2 s.ws = true
        · rw [if_pos w] at hc
          obtain ⟨d, ed, P3, r3⟩ := W.gives i H' v H'' ρ2 st2 P2 w hi y
          rw [List.getElem?_eq_getElem hi] at ed
          cases ed
          obtain ⟨e4, s4, q4, hc⟩ := R.bind_eq hc
          obtain ⟨b5, s5, q5, hc⟩ := R.bind_eq hc
          have E2 : EnvR g.K ρ2 st2.length H'' env σ := P3.envr P2.rel (P2.envr P1.rel (P1.envr Rl E))
          refine ⟨ρ2, st2, wipeE env vs, _, e4, s4, P3.rel, E2.wipe vs, r3, q4, fun ρ4 H4 σ4 P4 E4 o4 => ?_⟩
          have ew : wipe σ4 vs = wipe σ vs := by
            have q := o4.wipe hws
            rw [q]
            exact (Off.wipe (ws := vs) ⟨wipe_length σ vs, fun j hj => wipe_out hj⟩ (fun _ h => h))
          refine ⟨ew, ρ4, s4, e4, b5, s5, P4.rel, E4, q5, fun ρ5 H5 P5 => ?_⟩
          have P35 := (P3.trans P4).trans P5
          have P25 := P2.trans P35
          have nn : ∀ {ρ' : Nat → Addr} {st' : Store} {H' : Hp}, Post g ρ1 s1 H1 ρ' st' H' → Post g ρ2 st2 H'' ρ' st' H' → H'' Da = some (.lst ys) → ∀ l, mutAt st' l → ρ' l ≠ Da := fun {ρ' st' H'} Pa Pb hd l m q => by
            by_cases hl' : l < st2.length
            · rw [Pb.old l hl'] at q
              exact hn l (Pb.mutB m hl') q
            · have := Pb.fresh l (Nat.le_of_not_lt hl') (mutAt_lt m)
              rw [q, hd] at this
              cases this
          have d3 : H'' Da = some (.lst ys) := P3.keep Da _ hl hn
          have d5 : H5 Da = some (.lst ys) := P35.keep Da _ hl hn
          cases b5 with
          | true =>
            rw [if_pos rfl] at hc
            obtain ⟨v6, s6, q6, hc⟩ := R.bind_eq hc
            obtain ⟨vs7, s7, q7, hc⟩ := R.bind_eq hc
            cases hc
            refine iteT ⟨ρ5, s5, e4, v6, s6, P5.rel, P5.envr P4.rel E4, q6, fun ρ6 H6 y6 P6 r6 => ?_⟩
            have P36 := P35.trans P6
            have P26 := P2.trans P36
            have d6 : H6 Da = some (.lst ys) := P36.keep Da _ hl hn
            have n6 : ∀ l, mutAt s6 l → ρ6 l ≠ Da := nn P26 (((P4.trans P5).trans P6)) d3
            obtain ⟨P8, t8⟩ := P26.temp (zs := ys ++ [y6]) hD n6 d6
            have ra6 := P36.vrs P2.rel ra
            refine ⟨ys, d6, ?_, ρ6, s6, acc ++ [v6], ys ++ [y6], P8, upd_same, n6, ?_, ?_, vs7, q7, ?_⟩
            · rw [← ra.length]
              omega
            · exact (ra6.append (.cons r6 .nil)).mono (fun _ _ => rfl) (Nat.le_refl _) t8
            · rw [List.length_append, List.length_singleton]; omega
            · rw [← er, List.append_assoc]; rfl
          | false =>
            rw [if_neg Bool.false_ne_true] at hc
            refine iteF ⟨ρ5, s5, acc, ys, P25, d5, nn P25 (P4.trans P5) d3, P35.vrs P2.rel ra, Nat.le_succ_of_le la, r, hc, er⟩
        · rw [if_neg w] at hc; cases hc
      · rw [List.drop_of_length_le (Nat.le_refl _)] at hc
        unfold compF at hc
        by_cases w : wOk st2 s.ws = true
        · rw [if_pos w] at hc
          cases hc
          rw [List.append_nil] at er
          subst er
          exact k ρ2 H' Da ys (P1.trans P2) hl hn (P1.freeB hD) ra
        · rw [if_neg w] at hc; cases hc
    · cases h
abbrev Ptf (g : Gh) (X : Cx) (ifs : List Expr) (tf : Tf) : Prop := PTs X ifs (tT g tf)
def tfYes : Tf := fun _ st => .ok true st
theorem pts_imp {X : Cx} {ifs : List Expr} {t t' : TT} (h : PTs X ifs t) (k : ∀ σ H Q, t' σ H Q → t σ H Q) : PTs X ifs t' := ⟨fun pins s σ H Q I q => h.run pins s σ H Q I (k σ H Q q)⟩
theorem ts_nil : Ptf g X [] tfYes := pts_imp pts_nil fun σ H Q ⟨ρ, st, env, v, st', Rl, E, h, k⟩ => by
  cases h
  exact k ρ H (Post.refl Rl)
theorem ts_one {c : Expr} {p : Tf} (h : TV g X c p) : Ptf g X [c] p := pts_one h
variable {elt tg iter : Expr} {ifs : List Expr} {scope : Scope} {own : List (Str × Nat)} {fi : If} {ws : List Nat} {gf : Gf} {tf : Tf} {ef : Ef}
theorem n_comp (x : XG g X) (own : List (Str × Nat)) (hi : IV g X tg iter fi) (ok : BlkOk X.N X.env.scope scope own)
    (hg : ∀ (s : Shared) (H : Hp) (C : Addr) (cl : List (Str × Addr)) (fp : List Addr), GV g (X.blk s H scope (compEnvC scope cl C X.env) fp) tg ws gf) (ht : ∀ (s : Shared) (H : Hp) (C : Addr) (cl : List (Str × Addr)) (fp : List Addr), Ptf g (X.blk s H scope (compEnvC scope cl C X.env) fp) ifs tf)
    (he : ∀ (s : Shared) (H : Hp) (C : Addr) (cl : List (Str × Addr)) (fp : List Addr), EV g (X.blk s H scope (compEnvC scope cl C X.env) fp) elt ef) (hws : ∀ j ∈ ws, j ∈ own.map (·.2) := by decide) (hs : ∀ x, foldedSetIterable iter X.env x = pure x := by intro _; rfl) :
    NV g X (.ListComp elt [⟨tg, iter, ifs, 0⟩] scope pos) (nComp (own.map (·.2)) fi gf tf ef) := pe_imp (pe_lc x.calm x.nd hi ok hg ht he hs) (lc_of hws)
def sSetN (i : Nat) (t : Af) : Sf := sSet i (eNew t)
theorem s_comp (x : XG g X) (i : Nat) {y : Str} {py spos : Pos} (own : List (Str × Nat)) (hi : IV g X tg iter fi) (ok : BlkOk X.N X.env.scope scope own)
    (hg : ∀ (s : Shared) (H : Hp) (C : Addr) (cl : List (Str × Addr)) (fp : List Addr), GV g (X.blk s H scope (compEnvC scope cl C X.env) fp) tg ws gf) (ht : ∀ (s : Shared) (H : Hp) (C : Addr) (cl : List (Str × Addr)) (fp : List Addr), Ptf g (X.blk s H scope (compEnvC scope cl C X.env) fp) ifs tf)
    (he : ∀ (s : Shared) (H : Hp) (C : Addr) (cl : List (Str × Addr)) (fp : List Addr), EV g (X.blk s H scope (compEnvC scope cl C X.env) fp) elt ef) (hws : ∀ j ∈ ws, j ∈ own.map (·.2) := by decide)
    (hy : X.N[i]? = some y := by rfl) (hyl : X.env.scope.names.lookup y = some .local := by rfl) (hsw : swapsWith (.ListComp elt [⟨tg, iter, ifs, 0⟩] scope pos) (some (.Name y py)) spos.line X.env = pure true := by exact sw_true rfl rfl rfl (by decide +kernel)) (hs : ∀ x, foldedSetIterable iter X.env x = pure x := by intro _; rfl) :
    SV g X (.Assign [.Name y py] (.ListComp elt [⟨tg, iter, ifs, 0⟩] scope pos) spos) (sSetN i (nComp (own.map (·.2)) fi gf tf ef)) :=
  ps_imp (ps_setLc x.calm x.nd hy hyl hsw hi ok hg ht he hs) fun Dd σ H ⟨ρ, st, env, Rl, E, h⟩ => by
    obtain ⟨d, s1, e1, h⟩ := sR_of h
    obtain ⟨xs, s0, e0, e1⟩ := R.bind_eq e1
    cases e1
    refine lc_of hws σ H _ ⟨ρ, st, env, xs, s0, Rl, E, e0, fun ρ1 H1 p ys P1 hl hn hp r1 => ?_⟩
    have P2 := P1.named (o := .lst xs) hn hp ⟨ys, hl, r1⟩
    refine h _ H1 _ P2 ((P2.envr Rl E).set ?_ i)
    unfold VR
    exact ⟨by simp, by rw [nxt_same]⟩
end
end Ev

/-! Ev7: defs, calls, methods, properties, new instances, methods of lists, the law's entry. -/
namespace Ev
open PySem L2
open PyProof.Rows hiding St

/-! ### a def's promise -/
abbrev SemF := List D → Store → R D
def SpD (g : Gh) (sem : SemF) (vs : List V) (H : Hp) (Q : VK) : Prop := ∃ ρ st ds v st', Rel g ρ st H ∧ VRs g.K ρ st.length H ds vs ∧ sem ds st = .ok v st' ∧ ∀ ρ' H' x, Post g ρ st H ρ' st' H' → VR g.K ρ' st'.length H' v x → Q x H'
structure FnG (g : Gh) (P : Program) (w : World) (K : PySem.W.Frag) (mg : Str → Option Value) (base : Heap) (k : Nat) (f : Addr) (fd : FuncData) (ps : List Str) (sem : SemF) : Prop where
  len : ∀ ds st v st', sem ds st = .ok v st' → ds.length = ps.length
  run : ∀ (A : Around) (outer : List PySem.Env) (s : Shared) (H : Hp) (args : Args) (us : List Value) (vs : List V) (Q : VK), Room k A → A.guards = some [] → Env0 P w K mg base A outer s H → BindsTo s fd args (ps.zip us) → Vals vs us →
    SpD g sem vs H Q → codeAny (model P w) A (.call (.ref f) args) (CR CX0 outer P w H s Q E0) s
section
variable {g : Gh} {P : Program} {w : World} {K : PySem.W.Frag} {mg : Str → Option Value} {base : Heap} {k : Nat} {f : Addr} {fd : FuncData} {ps : List Str} {sem : SemF}
theorem FnG.lenV (F : FnG g P w K mg base k f fd ps sem) {vs : List V} {H : Hp} {Q : VK} (h : SpD g sem vs H Q) : vs.length = ps.length := by
  obtain ⟨ρ, st, ds, v, st', _, r, e, _⟩ := h
  rw [← r.length]
  exact F.len _ _ _ _ e
theorem FnG.mono {j : Nat} (F : FnG g P w K mg base j f fd ps sem) (h : j ≤ k) : FnG g P w K mg base k f fd ps sem := ⟨F.len, fun A outer s H args us vs Q hr => F.run A outer s H args us vs Q (hr.mono h)⟩
/-- another reckoning, where it is right -/
theorem FnG.imp {sem' : SemF} (F : FnG g P w K mg base k f fd ps sem) (h : ∀ vs H Q, SpD g sem' vs H Q → SpD g sem vs H Q) (hl : ∀ ds st v st', sem' ds st = .ok v st' → ds.length = ps.length) : FnG g P w K mg base k f fd ps sem' :=
  ⟨hl, fun A outer s H args us vs Q hr hg e0 hb r q => F.run A outer s H args us vs Q hr hg e0 hb r (h _ _ _ q)⟩
theorem FnG.eqOn {sem' : SemF} (F : FnG g P w K mg base k f fd ps sem) (h : ∀ ds st v st', sem' ds st = .ok v st' → sem ds st = .ok v st') : FnG g P w K mg base k f fd ps sem' :=
  F.imp (fun vs H Q ⟨ρ, st, ds, v, st', Rl, r, e, q⟩ => ⟨ρ, st, ds, v, st', Rl, r, h _ _ _ _ e, q⟩) fun ds st v st' e => F.len _ _ _ _ (h _ _ _ _ e)
end

/-! ### calls -/
section
variable {g : Gh} {X : Cx} {k : Nat} {f : Addr} {fd : FuncData} {ps : List Str} {sem : SemF} {pins : List (Addr × Obj)} {σ : St} {H : Hp} {s : Shared} {Q : VK} {us : List Value} {vs : List V}
theorem run_g (x : XG g X) (F : FnG g X.prog X.w X.K X.mg X.base k f fd ps sem) (hr : Room k X.A) (hb : Binds X.K fd ps []) (I : Inv X pins σ H s) (r : Vals vs us) (h : SpD g sem vs H Q) :
    wpAny (model X.prog X.w) X.A (call (.ref f) us) (EP X pins σ Q) X.xe s := by
  have hl : (us ++ []).length = ps.length := by rw [List.append_nil, ← r.length]; exact F.lenV h
  have hb' := hb s us I.kIn hl
  rw [List.append_nil] at hb'
  refine wpAny_call (codeAny_mono (F.run X.A X.stack s H ⟨us, []⟩ us vs Q hr x.hg I.env0 hb' r h) fun rr s' hq => ?_)
  match rr, hq with
  | .ok (.ret u), hq => exact I.after hq
  | .ok .next, hq => exact hq.elim
  | .ok .brk, hq => exact hq.elim
  | .ok .cont, hq => exact hq.elim
  | .error _, hq => exact hq.elim
/-- keywords: which of the values, in the parameters' order -/
def sel {A : Type} (pm : List Nat) (xs : List A) : List A := pm.filterMap fun i => xs[i]?
theorem sel_vals {pm : List Nat} {vs : List V} {us : List Value} (r : Vals vs us) : Vals (sel pm vs) (sel pm us) := by
  unfold sel
  induction pm with
  | nil => exact .nil
  | cons i pm ih =>
    rw [List.filterMap_cons, List.filterMap_cons]
    cases e : vs[i]? with
    | none =>
      rw [r.none_of e]
      exact ih
    | some v =>
      obtain ⟨u, e2, rv⟩ := r.get e
      rw [e2]
      exact .cons rv ih
theorem sel_vrs {K : PySem.W.Frag} {ρ : Nat → Addr} {n : Nat} {H : Hp} {pm : List Nat} {ds : List D} {vs : List V} (r : VRs K ρ n H ds vs) : VRs K ρ n H (sel pm ds) (sel pm vs) := by
  unfold sel
  induction pm with
  | nil => exact .nil
  | cons i pm ih =>
    rw [List.filterMap_cons, List.filterMap_cons]
    cases e : ds[i]? with
    | none =>
      have hl : vs[i]? = none := by
        rw [List.getElem?_eq_none_iff] at e ⊢
        rw [← r.length]
        exact e
      rw [hl]
      exact ih
    | some v =>
      obtain ⟨u, e2, rv⟩ := r.get e
      rw [e2]
      exact .cons rv ih
structure KBd (K : PySem.W.Frag) (fd : FuncData) (ps : List Str) (n : Nat) (ks : List Str) (pm : List Nat) : Prop where
  to : ∀ (s : Shared) (us ws : List Value), K.In s.heap → us.length = n → ws.length = ks.length → BindsTo s fd ⟨us, ks.zip ws⟩ (ps.zip (sel pm (us ++ ws)))
theorem run_gk {n : Nat} {ks : List Str} {pm : List Nat} {ws : List Value} {zs : List V} (x : XG g X) (F : FnG g X.prog X.w X.K X.mg X.base k f fd ps sem) (hr : Room k X.A) (hb : KBd X.K fd ps n ks pm) (I : Inv X pins σ H s) (r : Vals vs us) (rz : Vals zs ws)
    (l1 : vs.length = n) (l2 : zs.length = ks.length) (h : SpD g sem (sel pm (vs ++ zs)) H Q) : wpAny (model X.prog X.w) X.A (call (.ref f) us (ks.zip ws)) (EP X pins σ Q) X.xe s := by
  refine wpAny_call (codeAny_mono (F.run X.A X.stack s H ⟨us, ks.zip ws⟩ _ _ Q hr x.hg I.env0 (hb.to s us ws I.kIn (r.length.symm.trans l1) (rz.length.symm.trans l2)) (sel_vals (r.append rz)) h) fun rr s' hq => ?_)
  match rr, hq with
  | .ok (.ret u), hq => exact I.after hq
  | .ok .next, hq => exact hq.elim
  | .ok .brk, hq => exact hq.elim
  | .ok .cont, hq => exact hq.elim
  | .error _, hq => exact hq.elim
end
section
variable {g : Gh} {X : Cx} {k : Nat} {f : Addr} {fd : FuncData} {ps : List Str} {sem : SemF} {n m : Str} {p pos apos : Pos} {e o : Expr} {es : List Expr} {t : Af} {fo : Ef}
theorem e_call (x : XG g X) (F : FnG g X.prog X.w X.K X.mg X.base k f fd ps sem) (hr : Room k X.A) (hm : X.mg n = some (.ref f)) (hk : PySem.W.keepIn X.K (.ref f) = true) (hb : Binds X.K fd ps []) (ha : AV g X (e :: es) t) (hg : Gl X n := by rfl)
    (hdb : (n == ("__debug__" : Str)) = false := by decide) (he : starEach (e :: es) X.env = (false, eval e X.env) :: starEach es X.env := by rfl) (hpl : (backTo pos (starEach es X.env)).any (·.1) = false := by rfl) :
    EV g X (.Call (.Name n p) (e :: es) [] pos) (eCall sem t) := by
  refine ⟨fun pins s σ H Q I ⟨ρ, st, env, v, st', Rl, E, h, k⟩ => ?_⟩
  obtain ⟨ds, s1, e1, h⟩ := R.bind_eq h
  refine wpAny_Call_Name_kw (ld_glob I hg hm ?_ hdb)
  refine PySem.W.callWith_K (h₀ := X.base) I.ok.mod.kin hk (thn (ha.run pos pins s σ H (fun vs H1 => SpD g sem vs H1 Q) I ⟨ρ, st, env, ds, s1, Rl, E, e1, fun ρ1 H1 vs P1 r1 => ?_⟩) fun us s2 ⟨vs, H1, I1, r, q⟩ => ⟨I1.kIn, run_g x F hr hb I1 r q⟩) he hpl
  exact ⟨ρ1, s1, ds, v, st', P1.rel, r1, h, fun ρ' H' y P r => k ρ' H' y (P1.trans P) r⟩
theorem e_call0 (x : XG g X) (F : FnG g X.prog X.w X.K X.mg X.base k f fd ps sem) (hr : Room k X.A) (hm : X.mg n = some (.ref f)) (hk : PySem.W.keepIn X.K (.ref f) = true) (hb : Binds X.K fd ps []) (hg : Gl X n := by rfl)
    (hdb : (n == ("__debug__" : Str)) = false := by decide) : EV g X (.Call (.Name n p) [] [] pos) (eCall sem aNil) := by
  refine ⟨fun pins s σ H Q I ⟨ρ, st, env, v, st', Rl, E, h, k⟩ => ?_⟩
  refine wpAny_Call_Name_kw (ld_glob I hg hm ?_ hdb)
  exact PySem.W.callWith_K0 I.kIn hk (run_g (us := []) (vs := []) x F hr hb I .nil ⟨ρ, st, [], v, st', Rl, .nil, h, fun ρ' H' y P r => k ρ' H' y P r⟩)
/-- the keywords' values -/
def tKw (g : Gh) (f : Af) : TA := tA g f
abbrev KV (g : Gh) (X : Cx) (kws : List Keyword) (f : Af) : Prop := PK X kws (tA g f)
theorem pk_imp {X : Cx} {e : List Keyword} {t t' : TA} (h : PK X e t) (k : ∀ σ H Q, t' σ H Q → t σ H Q) : PK X e t' := ⟨fun pos pins s σ H Q I q => h.run pos pins s σ H Q I (k σ H Q q)⟩
theorem k_nil : KV g X [] aNil := pk_imp pk_nil fun σ H Q ⟨ρ, st, env, v, st', Rl, E, h, k⟩ => by
  cases h
  exact k ρ H [] (Post.refl Rl) .nil
theorem k_cons {nm : Option Str} {kp : Pos} {kws : List Keyword} {fe : Ef} (ha : EV g X e fe) (hr : KV g X kws t) : KV g X (⟨nm, e, kp⟩ :: kws) (aCons fe t) :=
  pk_imp (pk_cons ha hr) fun σ H Q ⟨ρ, st, env, v, st', Rl, E, h, k⟩ => by
    obtain ⟨x1, s1, e1, h⟩ := R.bind_eq h
    obtain ⟨x2, s2, e2, h⟩ := R.bind_eq h
    cases h
    refine ⟨ρ, st, env, x1, s1, Rl, E, e1, fun ρ1 H1 y1 P1 r1 => ?_⟩
    refine ⟨ρ1, s1, env, x2, _, P1.rel, P1.envr Rl E, e2, fun ρ2 H2 y2 P2 r2 => ?_⟩
    exact k ρ2 H2 _ (P1.trans P2) (.cons (P2.vr P1.rel r1) r2)
def aKw (n m : Nat) (pm : List Nat) (t u : Af) : Af := fun env st => (t env st).bind fun ds s1 => (u env s1).bind fun es s2 => if ds.length = n ∧ es.length = m then .ok (sel pm (ds ++ es)) s2 else .bad
variable {kws : List Keyword} {u : Af} {ks : List Str} {pm : List Nat} {a : Nat}
theorem e_callK (x : XG g X) (F : FnG g X.prog X.w X.K X.mg X.base k f fd ps sem) (hr : Room k X.A) (hm : X.mg n = some (.ref f)) (hk : PySem.W.keepIn X.K (.ref f) = true) (hb : KBd X.K fd ps a ks pm) (ha : AV g X (e :: es) t) (hkw : KV g X kws u) (hg : Gl X n := by rfl)
    (hall : (backToKw pos (keywordEach kws X.env)).all (·.1.isSome) = true := by rfl) (hks : (backToKw pos (keywordEach kws X.env)).filterMap (·.1) = ks := by rfl)
    (hdb : (n == ("__debug__" : Str)) = false := by decide) (he : starEach (e :: es) X.env = (false, eval e X.env) :: starEach es X.env := by rfl)
    (hpl : ((backTo pos (starEach (e :: es) X.env)).any (·.1) || (backToKw pos (keywordEach kws X.env)).any (·.1.isNone)) = false := by rfl) :
    EV g X (.Call (.Name n p) (e :: es) kws pos) (eCall sem (aKw a ks.length pm t u)) := by
  refine ⟨fun pins s σ H Q I ⟨ρ, st, env, v, st', Rl, E, h, k⟩ => ?_⟩
  obtain ⟨ds, s1, e1, h⟩ := R.bind_eq h
  obtain ⟨d1, s2, e2, e1⟩ := R.bind_eq e1
  obtain ⟨d2, s3, e3, e1⟩ := R.bind_eq e1
  split at e1
  · rename_i hl
    cases e1
    refine wpAny_Call_Name_kw (ld_glob I hg hm ?_ hdb)
    refine PySem.W.callWith_KW (h₀ := X.base) I.ok.mod.kin hk hall (thn (ha.run pos pins s σ H (fun vs H1 => vs.length = a ∧ tA g u σ H1 fun zs H2 => zs.length = ks.length ∧ SpD g sem (sel pm (vs ++ zs)) H2 Q) I
      ⟨ρ, st, env, d1, s2, Rl, E, e2, fun ρ1 H1 vs P1 r1 => ⟨by rw [← r1.length]; exact hl.1, ρ1, s2, env, d2, _, P1.rel, P1.envr Rl E, e3, fun ρ2 H2 zs P2 r2 => ⟨by rw [← r2.length]; exact hl.2, ?_⟩⟩⟩) fun us s4 ⟨vs, H1, I1, r, q1, q2⟩ => ?_) hpl he
    · exact ⟨ρ2, _, _, v, st', P2.rel, sel_vrs ((P2.vrs P1.rel r1).append r2), h, fun ρ' H' y P r => k ρ' H' y ((P1.trans P2).trans P) r⟩
    · refine thn (hkw.run pos pins s4 σ H1 _ I1 q2) fun ws s5 ⟨zs, H2, I2, rz, l2, q3⟩ => ⟨I2.kIn, ?_⟩
      rw [hks]
      exact run_gk x F hr hb I2 r rz q1 l2 q3
  · cases e1
theorem e_callK0 (x : XG g X) (F : FnG g X.prog X.w X.K X.mg X.base k f fd ps sem) (hr : Room k X.A) (hm : X.mg n = some (.ref f)) (hk : PySem.W.keepIn X.K (.ref f) = true) (hb : KBd X.K fd ps 0 ks pm) (hkw : KV g X kws u) (hg : Gl X n := by rfl)
    (hall : (backToKw pos (keywordEach kws X.env)).all (·.1.isSome) = true := by rfl) (hks : (backToKw pos (keywordEach kws X.env)).filterMap (·.1) = ks := by rfl)
    (hdb : (n == ("__debug__" : Str)) = false := by decide)
    (hpl : ((backTo pos (starEach [] X.env)).any (·.1) || (backToKw pos (keywordEach kws X.env)).any (·.1.isNone)) = false := by rfl) :
    EV g X (.Call (.Name n p) [] kws pos) (eCall sem (aKw 0 ks.length pm aNil u)) := by
  refine ⟨fun pins s σ H Q I ⟨ρ, st, env, v, st', Rl, E, h, k⟩ => ?_⟩
  obtain ⟨ds, s1, e1, h⟩ := R.bind_eq h
  obtain ⟨d1, s2, e2, e1⟩ := R.bind_eq e1
  cases e2
  obtain ⟨d2, s3, e3, e1⟩ := R.bind_eq e1
  split at e1
  · rename_i hl
    cases e1
    refine wpAny_Call_Name_kw (ld_glob I hg hm ?_ hdb)
    refine PySem.W.callWith_KW0 (h₀ := X.base) I.ok.mod.kin hk hall (thn (hkw.run pos pins s σ H (fun zs H2 => zs.length = ks.length ∧ SpD g sem (sel pm ([] ++ zs)) H2 Q) I
      ⟨ρ, _, env, d2, _, Rl, E, e3, fun ρ2 H2 zs P2 r2 => ⟨by rw [← r2.length]; exact hl.2, ?_⟩⟩) fun ws s5 ⟨zs, H2, I2, rz, l2, q3⟩ => ⟨I2.kIn, ?_⟩) hpl
    · exact ⟨ρ2, _, _, v, st', P2.rel, sel_vrs (VRs.append .nil r2), h, fun ρ' H' y P r => k ρ' H' y (P2.trans P) r⟩
    · rw [hks]
      exact run_gk (us := []) (vs := []) x F hr hb I2 .nil rz rfl l2 q3
  · cases e1

/-! ### methods, properties, new instances -/
def isC (c : Nat) (d : D) (s : Store) : Bool := match d with
  | .loc l => match s[l]? with
    | some (.ins c' _) => decide (c' = c)
    | _ => false
  | _ => false
def eMeth (c : Nat) (sem : SemF) (fo : Ef) (t : Af) : Ef := fun env st => (fo env st).bind fun o s1 => if isC c o s1 = true then (t env s1).bind fun ds s2 => sem (o :: ds) s2 else .bad
theorem isC_ok {ρ : Nat → Addr} {s : Store} {H : Hp} {d : D} {y : V} {c : Nat} (Rl : Rel g ρ s H) (r : VR g.K ρ s.length H d y) (h : isC c d s = true) : ∃ l dx gs fs, d = .loc l ∧ y = .ref (ρ l) ∧ H (ρ l) = some (.ins (g.cl c) dx gs) ∧ c < g.nc ∧ FR g ρ s.length H fs gs := by
  cases d with
  | loc l =>
    unfold VR at r
    obtain ⟨hl, rfl⟩ := r
    simp only [isC] at h
    split at h
    · rename_i c' fs q
      obtain rfl := of_decide_eq_true h
      obtain ⟨hc, dx, gs, e, rf⟩ := Rl.obj l _ q
      exact ⟨l, dx, gs, fs, rfl, rfl, e, hc, rf⟩
    · cases h
  | _ => simp [isC] at h
theorem e_meth {pl : Sem Bool} (x : XG g X) (c : Nat) (ho : EV g X o fo) (M : Meth X.K (g.cl c) m f) (F : FnG g X.prog X.w X.K X.mg X.base k f fd ps sem) (hr : Room k X.A) (hb : Binds X.K fd ps []) (hn : ∀ i, i < g.nf → g.fld i ≠ m) (ha : AV g X (e :: es) t)
    (hst : starEach (e :: es) X.env = (false, eval e X.env) :: starEach es X.env := by rfl) (hpl : (backTo pos (starEach es X.env)).any (·.1) = false := by rfl)
    (ht : eval (.Call (.Attribute o m apos) (e :: es) [] pos) X.env = (do
      let ov ← eval o X.env
      standAt apos.atName
      let (f, first) ← holding [ov] (getMethod ov m pl)
      callWith pos f first (backTo pos (starEach (e :: es) X.env)) (backToKw pos (keywordEach [] X.env))) := by rfl) :
    EV g X (.Call (.Attribute o m apos) (e :: es) [] pos) (eMeth c sem fo t) := by
  refine ⟨fun pins s σ H Q I ⟨ρ, st, env, v, st', Rl, E, h, k⟩ => ?_⟩
  obtain ⟨d, s1, e1, h⟩ := R.bind_eq h
  split at h
  · rename_i hC
    obtain ⟨ds, s2, e2, h⟩ := R.bind_eq h
    refine PySem.W.methodCall_KW (pl := pl) (thn (ho.run pins s σ H (fun y H1 => ∃ a dx gs, y = .ref a ∧ H1 a = some (.ins (g.cl c) dx gs) ∧ c < g.nc ∧ gs.lookup m = none ∧ tA g t σ H1 fun vs H2 => SpD g sem (.ref a :: vs) H2 Q) I
      ⟨ρ, st, env, d, s1, Rl, E, e1, fun ρ1 H1 y P1 r1 => ?_⟩) fun uo s3 ⟨y, H1, I1, ry, a, dx, gs, ey, ea, hc, l, q⟩ => ?_) ht
    · obtain ⟨l, dx, gs, fs, rfl, rfl, e3, hc, rf⟩ := isC_ok P1.rel r1 hC
      refine ⟨ρ1 l, dx, gs, rfl, e3, hc, rf.none_of hn, ρ1, s1, env, ds, s2, P1.rel, P1.envr Rl E, e2, fun ρ2 H2 vs P2 r2 => ?_⟩
      exact ⟨ρ2, s2, _, v, st', P2.rel, .cons (P2.vr P1.rel r1) r2, h, fun ρ' H' z P r => k ρ' H' z ((P1.trans P2).trans P) r⟩
    · subst ey
      obtain rfl : uo = Value.ref a := ry
      refine getmeth_ok I1 ea (by rw [x.K]; exact x.cls c hc) M l ?_
      refine PySem.W.callWith_K (first := [.ref a]) (h₀ := X.base) I.ok.mod.kin M.kp (thn (ha.run pos pins s3 σ H1 _ I1 q) fun us s4 ⟨vs, H2, I2, r, q2⟩ => ⟨I2.kIn, ?_⟩) hst hpl
      exact run_g (us := .ref a :: us) (vs := .ref a :: vs) x F hr hb I2 (.cons rfl r) q2
  · cases h
theorem e_meth0 {pl : Sem Bool} (x : XG g X) (c : Nat) (ho : EV g X o fo) (M : Meth X.K (g.cl c) m f) (F : FnG g X.prog X.w X.K X.mg X.base k f fd ps sem) (hr : Room k X.A) (hb : Binds X.K fd ps []) (hn : ∀ i, i < g.nf → g.fld i ≠ m)
    (ht : eval (.Call (.Attribute o m apos) [] [] pos) X.env = (do
      let ov ← eval o X.env
      standAt apos.atName
      let (f, first) ← holding [ov] (getMethod ov m pl)
      callWith pos f first (backTo pos (starEach [] X.env)) (backToKw pos (keywordEach [] X.env))) := by rfl) :
    EV g X (.Call (.Attribute o m apos) [] [] pos) (eMeth c sem fo aNil) := by
  refine ⟨fun pins s σ H Q I ⟨ρ, st, env, v, st', Rl, E, h, k⟩ => ?_⟩
  obtain ⟨d, s1, e1, h⟩ := R.bind_eq h
  split at h
  · rename_i hC
    obtain ⟨ds, s2, e2, h⟩ := R.bind_eq h
    cases e2
    refine PySem.W.methodCall_KW (pl := pl) (thn (ho.run pins s σ H (fun y H1 => ∃ a dx gs, y = .ref a ∧ H1 a = some (.ins (g.cl c) dx gs) ∧ c < g.nc ∧ gs.lookup m = none ∧ SpD g sem [.ref a] H1 Q) I
      ⟨ρ, st, env, d, _, Rl, E, e1, fun ρ1 H1 y P1 r1 => ?_⟩) fun uo s3 ⟨y, H1, I1, ry, a, dx, gs, ey, ea, hc, l, q⟩ => ?_) ht
    · obtain ⟨l, dx, gs, fs, rfl, rfl, e3, hc, rf⟩ := isC_ok P1.rel r1 hC
      exact ⟨ρ1 l, dx, gs, rfl, e3, hc, rf.none_of hn, ρ1, _, _, v, st', P1.rel, .cons r1 .nil, h, fun ρ' H' z P r => k ρ' H' z (P1.trans P) r⟩
    · subst ey
      obtain rfl : uo = Value.ref a := ry
      refine getmeth_ok I1 ea (by rw [x.K]; exact x.cls c hc) M l ?_
      exact PySem.W.callWith_K0 (first := [.ref a]) I1.kIn M.kp (run_g (us := [.ref a]) (vs := [.ref a]) x F hr hb I1 (.cons rfl .nil) q)
  · cases h
/-- o.p, a property -/
def eProp (c : Nat) (sem : SemF) (fo : Ef) : Ef := fun env st => (fo env st).bind fun o s1 => if isC c o s1 = true then sem [o] s1 else .bad
theorem e_prop {pr : Addr} (x : XG g X) (c : Nat) (ho : EV g X o fo) (hp : PropOf X.K (g.cl c) m pr f) (F : FnG g X.prog X.w X.K X.mg X.base k f fd ps sem) (hr : Room (k + 1) X.A) (hb : Binds X.K fd ps [])
    (hab : attributeBase o m X.env (eval o X.env) = eval o X.env := by rfl) : EV g X (.Attribute o m pos) (eProp c sem fo) := by
  refine ⟨fun pins s σ H Q I ⟨ρ, st, env, v, st', Rl, E, h, k⟩ => ?_⟩
  obtain ⟨d, s1, e1, h⟩ := R.bind_eq h
  split at h
  · rename_i hC
    refine attr_of hab (thn (ho.run pins s σ H (fun y H1 => ∃ a dx gs, y = .ref a ∧ H1 a = some (.ins (g.cl c) dx gs) ∧ c < g.nc ∧ SpD g sem [.ref a] H1 Q) I ⟨ρ, st, env, d, s1, Rl, E, e1, fun ρ1 H1 y P1 r1 => ?_⟩) fun uo s3 ⟨y, H1, I1, ry, a, dx, gs, ey, ea, hc, q⟩ => ?_)
    · obtain ⟨l, dx, gs, fs, rfl, rfl, e3, hc, rf⟩ := isC_ok P1.rel r1 hC
      exact ⟨ρ1 l, dx, gs, rfl, e3, hc, ρ1, _, _, v, st', P1.rel, .cons r1 .nil, h, fun ρ' H' z P r => k ρ' H' z (P1.trans P) r⟩
    · subst ey
      obtain rfl : uo = Value.ref a := ry
      obtain ⟨mA, O, _, _, _, _⟩ := ins_get I1.hok ea
      obtain ⟨od, J, _⟩ := O.look
      obtain ⟨rst, hrec⟩ := hp.rec_
      have I2 := I1.tok (s3.toks + 1)
      have hcl : Cls X.K (g.cl c) := by rw [x.K]; exact x.cls c hc
      have hc' : (PySem.W.clsIn X.K (g.cl c)).isSome = true := by
        obtain ⟨cd, z, _⟩ := PySem.W.any_some hcl.hd
        rw [z]
        rfl
      have hl : ([Value.ref a] ++ ([] : List Value)).length = ps.length := (show ([V.ref a] : List V).length = ps.length from F.lenV q)
      refine PySem.W.get_bind I1.kIn J (PySem.W.plainGet_of (hcl.get m)).1 (PySem.W.findObj_data hc' hp.at_ hp.get hp.tak) (PySem.W.plainGet_of (hcl.get m)).2 (wpAny_call (PySem.W.prop_get (s := { s3 with toks := s3.toks + 1 }) I1.kIn hrec ?_))
      refine codeAny_mono (F.run X.A.in1 X.stack { s3 with toks := s3.toks + 1 } H1 ⟨[.ref a], []⟩ [.ref a] [.ref a] Q hr.in1 x.hg I2.env0.in1 (by have z := hb { s3 with toks := s3.toks + 1 } [.ref a] I2.kIn hl; rw [List.append_nil] at z; exact z) (.cons rfl .nil) q) fun rr s' hq => ?_
      match rr, hq with
      | .ok (.ret u), hq =>
        obtain ⟨w, H', I3, rv, q3⟩ := I2.after hq
        show wpAny _ _ (handedOut u) _ _ _
        rw [PySem.W.handedOut_of (handed_of rv)]
        exact wpAny_pure ⟨w, H', I3, rv, q3⟩
      | .ok .next, hq => exact hq.elim
      | .ok .brk, hq => exact hq.elim
      | .ok .cont, hq => exact hq.elim
      | .error _, hq => exact hq.elim
  · cases h
/-- C(..) -/
def mkF (c : Nat) (sem : SemF) (ds : List D) (s : Store) : R D := (sem (.loc s.length :: ds) (s ++ [.ins c []])).bind fun v s' => match v with | .non => .ok (.loc s.length) s' | _ => .bad
theorem run_mk {C : Addr} {pins : List (Addr × Obj)} {σ : St} {H : Hp} {s : Shared} {Q : VK} {kw : List (Str × Value)} {us us' : List Value} {vs : List V} (x : XG g X) (c : Nat) (hc : c < g.nc) (eC : g.cl c = C) (M : Mk X.K C f) (F : FnG g X.prog X.w X.K X.mg X.base k f fd ps sem) (hr : Room (k + 1) X.A)
    (hb : ∀ s' : Shared, X.K.In s'.heap → BindsTo s' fd ⟨Value.ref (s.heap.objs.size + 1) :: us, kw⟩ (ps.zip (Value.ref (s.heap.objs.size + 1) :: us'))) (I : Inv X pins σ H s) (r : Vals vs us') (h : SpD g (mkF c sem) vs H Q) :
    wpAny (model X.prog X.w) X.A (call (.ref C) us kw) (EP X pins σ Q) X.xe s := by
  subst eC
  obtain ⟨ρ, st, ds, v, st', Rl, rd, e, q⟩ := h
  obtain ⟨v1, s1, e1, e2⟩ := R.bind_eq e
  have hv : v1 = .non := by cases v1 <;> first | rfl | exact (R.no e2).elim
  subst hv
  cases e2
  have I2 := Inv.made (C := g.cl c) I
  have n1 : H s.heap.objs.size = none := I.hok.fresh (Nat.le_refl _)
  have n2 : H (s.heap.objs.size + 1) = none := I.hok.fresh (Nat.le_succ _)
  have P1 := Rl.tup (u := HO.own (s.heap.objs.size + 1)) n1
  have n3 : upd H s.heap.objs.size (HO.own (s.heap.objs.size + 1)) (s.heap.objs.size + 1) = none := by
    rw [upd_ne (Nat.ne_of_gt (Nat.lt_succ_self _))]
    exact n2
  have P2 := P1.rel.push (o := .ins c []) (u := HO.ins (g.cl c) s.heap.objs.size []) n3 ⟨hc, _, [], upd_same, rfl⟩
  have P12 := P1.trans P2
  refine wpAny_call (make_map (f := f) I.kIn M.makes M.init (beq_iff_eq.mp M.fn) (codeAny_mono (F.run _ X.stack _ _ ⟨Value.ref (s.heap.objs.size + 1) :: us, kw⟩ (Value.ref (s.heap.objs.size + 1) :: us') (V.ref (s.heap.objs.size + 1) :: vs)
    (fun w H2 => w = .non ∧ Q (.ref (s.heap.objs.size + 1)) H2) (hr.make _ us kw) ?_ (I2.env0.make _ us kw) (hb _ I2.kIn) (.cons rfl r) ?_) fun rr s' hq => ?_))
  · have e := x.hg
    first
      | exact e
      | (show (X.A.under _).guards = some []; simp [Around.under, Code.guards, Code.isGuard, guardIds, pushGuards, e])
  · refine ⟨_, _, .loc st.length :: ds, .non, _, P2.rel, .cons ?_ (P12.vrs Rl rd), e1, fun ρ' H' y P ry => ⟨by simpa [VR] using ry, q ρ' H' _ (P12.trans P) ?_⟩⟩
    · unfold VR
      exact ⟨by simp, by rw [nxt_same]⟩
    · unfold VR
      have hl : st.length < (st ++ [O.ins c []]).length := by simp
      refine ⟨Nat.lt_of_lt_of_le hl P.len, ?_⟩
      rw [P.old st.length hl, nxt_same]
  · match rr, hq with
    | .ok (.ret u), hq =>
      obtain ⟨w, H', I3, rv, ev, q3⟩ := I2.after hq
      subst ev
      exact ⟨rv, ⟨V.ref (s.heap.objs.size + 1), H', I3, rfl, q3⟩⟩
    | .ok .next, hq => exact hq.elim
    | .ok .brk, hq => exact hq.elim
    | .ok .cont, hq => exact hq.elim
    | .error _, hq => exact hq.elim
theorem e_make {C : Addr} (x : XG g X) (c : Nat) (hc : c < g.nc) (eC : g.cl c = C) (M : Mk X.K C f) (F : FnG g X.prog X.w X.K X.mg X.base k f fd ps sem) (hr : Room (k + 1) X.A) (hm : X.mg n = some (.ref C)) (hb : Binds X.K fd ps []) (ha : AV g X (e :: es) t) (hg : Gl X n := by rfl)
    (hdb : (n == ("__debug__" : Str)) = false := by decide) (he : starEach (e :: es) X.env = (false, eval e X.env) :: starEach es X.env := by rfl) (hpl : (backTo pos (starEach es X.env)).any (·.1) = false := by rfl) :
    EV g X (.Call (.Name n p) (e :: es) [] pos) (eCall (mkF c sem) t) := by
  refine ⟨fun pins s σ H Q I ⟨ρ, st, env, v, st', Rl, E, h, k⟩ => ?_⟩
  obtain ⟨ds, s1, e1, h⟩ := R.bind_eq h
  refine wpAny_Call_Name_kw (ld_glob I hg hm ?_ hdb)
  refine PySem.W.callWith_K (h₀ := X.base) I.ok.mod.kin M.kp (thn (ha.run pos pins s σ H (fun vs H1 => vs.length + 1 = ps.length ∧ SpD g (mkF c sem) vs H1 Q) I ⟨ρ, st, env, ds, s1, Rl, E, e1, fun ρ1 H1 vs P1 r1 => ?_⟩) fun us s2 ⟨vs, H1, I1, r, hl, q⟩ => ⟨I1.kIn, ?_⟩) he hpl
  · refine ⟨?_, ρ1, s1, ds, v, st', P1.rel, r1, h, fun ρ' H' y P r => k ρ' H' y (P1.trans P) r⟩
    obtain ⟨v1, s3, e3, _⟩ := R.bind_eq h
    rw [← r1.length]
    exact F.len _ _ _ _ e3
  · refine run_mk (us' := us) x c hc eC M F hr (fun s' hK => ?_) I1 r q
    have z := hb s' (Value.ref (s2.heap.objs.size + 1) :: us) hK (by rw [List.append_nil, List.length_cons, ← r.length]; exact hl)
    rw [List.append_nil] at z
    exact z
theorem e_make0 {C : Addr} (x : XG g X) (c : Nat) (hc : c < g.nc) (eC : g.cl c = C) (M : Mk X.K C f) (F : FnG g X.prog X.w X.K X.mg X.base k f fd ps sem) (hr : Room (k + 1) X.A) (hm : X.mg n = some (.ref C)) (hb : Binds X.K fd ps []) (hg : Gl X n := by rfl)
    (hdb : (n == ("__debug__" : Str)) = false := by decide) : EV g X (.Call (.Name n p) [] [] pos) (eCall (mkF c sem) aNil) := by
  refine ⟨fun pins s σ H Q I ⟨ρ, st, env, v, st', Rl, E, h, k⟩ => ?_⟩
  refine wpAny_Call_Name_kw (ld_glob I hg hm ?_ hdb)
  have hl : 1 = ps.length := by
    obtain ⟨_, _, e0, h0⟩ := R.bind_eq h
    cases e0
    obtain ⟨v1, s3, e3, _⟩ := R.bind_eq h0
    exact F.len _ _ _ _ e3
  refine PySem.W.callWith_K0 I.kIn M.kp (run_mk (us := []) (us' := []) (vs := []) x c hc eC M F hr (fun s' hK => ?_) I .nil ⟨ρ, st, [], v, st', Rl, .nil, h, fun ρ' H' y P r => k ρ' H' y P r⟩)
  have z := hb s' [Value.ref (s.heap.objs.size + 1)] hK (by simpa using hl)
  rw [List.append_nil] at z
  exact z
/-- C(k = v): the new instance first -/
theorem e_makeK0 {C : Addr} (x : XG g X) (c : Nat) (hc : c < g.nc) (eC : g.cl c = C) (M : Mk X.K C f) (F : FnG g X.prog X.w X.K X.mg X.base k f fd ps sem) (hr : Room (k + 1) X.A) (hm : X.mg n = some (.ref C)) (hb : KBd X.K fd ps 1 ks (0 :: pm.map (· + 1))) (hkw : KV g X kws u) (hg : Gl X n := by rfl)
    (hall : (backToKw pos (keywordEach kws X.env)).all (·.1.isSome) = true := by rfl) (hks : (backToKw pos (keywordEach kws X.env)).filterMap (·.1) = ks := by rfl) (hdb : (n == ("__debug__" : Str)) = false := by decide)
    (hpl : ((backTo pos (starEach [] X.env)).any (·.1) || (backToKw pos (keywordEach kws X.env)).any (·.1.isNone)) = false := by rfl) : EV g X (.Call (.Name n p) [] kws pos) (eCall (mkF c sem) (aKw 0 ks.length pm aNil u)) := by
  refine ⟨fun pins s σ H Q I ⟨ρ, st, env, v, st', Rl, E, h, k⟩ => ?_⟩
  obtain ⟨ds, s1, e1, h⟩ := R.bind_eq h
  obtain ⟨d1, s2, e2, e1⟩ := R.bind_eq e1
  cases e2
  obtain ⟨d2, s3, e3, e1⟩ := R.bind_eq e1
  split at e1
  · rename_i hl
    cases e1
    refine wpAny_Call_Name_kw (ld_glob I hg hm ?_ hdb)
    refine PySem.W.callWith_KW0 (h₀ := X.base) I.ok.mod.kin M.kp hall (thn (hkw.run pos pins s σ H (fun zs H2 => zs.length = ks.length ∧ SpD g (mkF c sem) (sel pm zs) H2 Q) I
      ⟨ρ, _, env, d2, _, Rl, E, e3, fun ρ2 H2 zs P2 r2 => ⟨by rw [← r2.length]; exact hl.2, ?_⟩⟩) fun ws s5 ⟨zs, H2, I2, rz, l2, q3⟩ => ⟨I2.kIn, ?_⟩) hpl
    · exact ⟨ρ2, _, _, v, st', P2.rel, sel_vrs (VRs.append .nil r2), h, fun ρ' H' y P r => k ρ' H' y (P2.trans P) r⟩
    · rw [hks]
      refine run_mk (us := []) (us' := sel pm ws) x c hc eC M F hr (fun s' hK => ?_) I2 (sel_vals rz) q3
      have z := hb.to s' [Value.ref (s5.heap.objs.size + 1)] ws hK rfl (rz.length.symm.trans l2)
      have e : sel (0 :: pm.map (· + 1)) ([Value.ref (s5.heap.objs.size + 1)] ++ ws) = Value.ref (s5.heap.objs.size + 1) :: sel pm ws := by
        unfold sel
        rw [List.filterMap_cons, List.filterMap_map]
        rfl
      rw [e] at z
      exact z
  · cases e1
end
end Ev

/-! Ev8: methods of lists; a def by its body; the law's entry; what is no longer reached forgotten. -/
namespace Ev
open PySem L2
open PyProof.Rows hiding St

section
variable {g : Gh} {X : Cx} {o e a : Expr} {es : List Expr} {pos apos cpos p : Pos} {f fo fa : Ef} {t : Af}
theorem tk_set {H : Hp} {a : Addr} {xs : List V} {u : HO} (q : H a = some (.lst xs)) : TK g.K H (upd H a u) := TK.of fun b o e nm => by
  rw [upd_ne]
  · exact e
  · intro w
    subst w
    rw [q] at e
    cases e
    exact nm trivial
/-- a list with a place gets other items -/
theorem Rel.setLst {ρ : Nat → Addr} {st : Store} {H : Hp} {l : Nat} {xs zs : List D} {ys us : List V} (Rl : Rel g ρ st H) (hl : st[l]? = some (.lst xs)) (q : H (ρ l) = some (.lst ys)) (r : VRs g.K ρ st.length H zs us) :
    Post g ρ st H ρ (st.set l (.lst zs)) (upd H (ρ l) (.lst us)) ∧ TK g.K H (upd H (ρ l) (.lst us)) :=
  ⟨Rl.set hl rfl rfl ⟨us, upd_same, r.mono (fun _ _ => rfl) (Nat.le_refl _) (tk_set q)⟩, tk_set q⟩
def isL (d : D) (s : Store) : Bool := match d with
  | .loc l => match s[l]? with
    | some (.lst _) => true
    | _ => false
  | _ => false
theorem isL_ok {ρ : Nat → Addr} {s : Store} {H : Hp} {d : D} {y : V} (Rl : Rel g ρ s H) (r : VR g.K ρ s.length H d y) (h : isL d s = true) : tyV g.K "list" y H := by
  cases d with
  | loc l =>
    unfold VR at r
    obtain ⟨hl, rfl⟩ := r
    simp only [isL] at h
    split at h
    · rename_i xs q
      obtain ⟨ys, e, _⟩ := Rl.obj l _ q
      exact .inl ⟨rfl, ys, SqL.of e⟩
    · cases h
  | _ => simp [isL] at h
abbrev FM := D → List D → Store → R D
def OpM (g : Gh) (r : V → List V → Hp → VK → Prop) (F : FM) : Prop := ∀ (ρ : Nat → Addr) (st : Store) (H : Hp) (d : D) (ds : List D) (y : V) (vs : List V) (v : D) (st' : Store) (Q : VK), Rel g ρ st H → VR g.K ρ st.length H d y → VRs g.K ρ st.length H ds vs →
  F d ds st = .ok v st' → (∀ ρ' H' z, Post g ρ st H ρ' st' H' → VR g.K ρ' st'.length H' v z → Q z H') → r y vs H Q
def eBM (F : FM) (fo : Ef) (t : Af) : Ef := fun env st => (fo env st).bind fun d s1 => if isL d s1 = true then (t env s1).bind fun ds s2 => F d ds s2 else .bad
variable {id : String} {name : Str} {r : V → List V → Hp → VK → Prop} {F : FM}
theorem e_bm (x : XG g X) (pa : PlainAttrs "list") (slot : Slot "list" name id) (hty : typeOf (.builtin id) = pure (.type "method_descriptor")) (hm : MtR X id r) (hF : OpM g r F) (ho : EV g X o fo) (ha : AV g X (e :: es) t)
    (hbase : attributeBase o name X.env (eval o X.env) = eval o X.env := by rfl)
    (hfew : ((backTo cpos (starEach (e :: es) X.env)).all (fun x => !x.1) && (backToKw cpos (keywordEach [] X.env)).all (fun x => x.1.isSome)
      && decide ((e :: es).length + ([] : List Keyword).length + (if ([] : List Keyword).isEmpty then 0 else 1) < 30)) = true := by rfl)
    (hline : (apos.endLine == cpos.line) = true := by rfl) (hs : starEach (e :: es) X.env = (false, eval e X.env) :: starEach es X.env := by rfl) (hplain : (backTo cpos (starEach es X.env)).any (·.1) = false := by rfl) :
    EV g X (.Call (.Attribute o name apos) (e :: es) [] cpos) (eBM F fo t) := pe_imp (pe_bm pa slot hty hm ho ha hbase hfew hline hs hplain) fun σ H Q ⟨ρ, st, env, v, st', Rl, E, h, k⟩ => by
  obtain ⟨d, s1, e1, h⟩ := R.bind_eq h
  split at h
  · rename_i hL
    obtain ⟨ds, s2, e2, h⟩ := R.bind_eq h
    refine ⟨ρ, st, env, d, s1, Rl, E, e1, fun ρ1 H1 y P1 r1 => ⟨by rw [x.K]; exact isL_ok P1.rel r1 hL, ρ1, s1, env, ds, s2, P1.rel, P1.envr Rl E, e2, fun ρ2 H2 vs P2 r2 => ?_⟩⟩
    exact hF ρ2 s2 H2 d ds y vs v st' Q P2.rel (P2.vr P1.rel r1) r2 h fun ρ' H' z P r => k ρ' H' z ((P1.trans P2).trans P) r
  · cases h
def appF : FM := fun d ds s => match d, ds with
  | .loc l, [v] => match s[l]? with
    | some (.lst xs) => if xs.length < sizeLine then .ok .non (s.set l (.lst (xs ++ [v]))) else .bad
    | _ => .bad
  | _, _ => .bad
theorem o_app : OpM g rAppend appF := fun ρ st H d ds y vs v st' Q Rl r1 r2 h k => by
  unfold appF at h
  split at h
  · rename_i l v1
    split at h
    · rename_i xs q
      split at h
      · rename_i hz
        cases h
        unfold VR at r1
        obtain ⟨hl, rfl⟩ := r1
        obtain ⟨z, rfl, rz⟩ := vrs1 r2
        obtain ⟨ys, q1, rs⟩ := Rl.obj l _ q
        obtain ⟨P, _⟩ := Rl.setLst q q1 (rs.append (.cons rz .nil))
        exact ⟨ρ l, ys, z, rfl, rfl, q1, by rw [← rs.length]; exact hz, k ρ _ _ P (by simp [VR])⟩
      · cases h
    · cases h
  · cases h
theorem e_app (x : XG g X) (ho : EV g X o fo) (ha : EV g X e f) (hbase : attributeBase o "append" X.env (eval o X.env) = eval o X.env := by rfl)
    (hfew : ((backTo cpos (starEach [e] X.env)).all (fun x => !x.1) && (backToKw cpos (keywordEach [] X.env)).all (fun x => x.1.isSome) && decide ([e].length + ([] : List Keyword).length + (if ([] : List Keyword).isEmpty then 0 else 1) < 30)) = true := by rfl)
    (hline : (apos.endLine == cpos.line) = true := by rfl) (hs : starEach [e] X.env = (false, eval e X.env) :: starEach [] X.env := by rfl) :
    EV g X (.Call (.Attribute o "append" apos) [e] [] cpos) (eBM appF fo (aCons f aNil)) :=
  e_bm x PySem.F.plainAttrs_list PySem.F.slot_list_append PySem.F.type_list_append mt_append o_app ho (a_cons ha a_nil hs) hbase hfew hline hs rfl
def popAtF : FM := fun d ds s => match d, ds with
  | .loc l, [.int i] => match s[l]? with
    | some (.lst xs) => if rgOk i = true then match seqIndex? i xs.length with
      | some k => match xs[k]? with
        | some y => .ok y (s.set l (.lst (xs.eraseIdx k)))
        | none => .bad
      | none => .bad
      else .bad
    | _ => .bad
  | _, _ => .bad
theorem vrs_erase {ρ : Nat → Addr} {n : Nat} {H : Hp} : ∀ {ds : List D} {vs : List V} (i : Nat), VRs g.K ρ n H ds vs → VRs g.K ρ n H (ds.eraseIdx i) (vs.eraseIdx i)
  | [], _, _, h => by unfold VRs at h; subst h; simp [VRs]
  | x :: ds, _, 0, h => by
    unfold VRs at h
    obtain ⟨y, zs, rfl, _, h⟩ := h
    simpa using h
  | x :: ds, _, i + 1, h => by
    unfold VRs at h
    obtain ⟨y, zs, rfl, q, h⟩ := h
    rw [List.eraseIdx_cons_succ, List.eraseIdx_cons_succ]
    exact .cons q (vrs_erase i h)
theorem vrs_dropLast {ρ : Nat → Addr} {n : Nat} {H : Hp} {ds : List D} {vs : List V} (h : VRs g.K ρ n H ds vs) : VRs g.K ρ n H ds.dropLast vs.dropLast := by
  rw [List.dropLast_eq_take, List.dropLast_eq_take, ← h.length]
  exact h.take _
theorem o_popAt : OpM g rPopAt popAtF := fun ρ st H d ds y vs v st' Q Rl r1 r2 h k => by
  unfold popAtF at h
  split at h
  · rename_i l i
    split at h
    · rename_i xs q
      split at h
      · rename_i hz
        split at h
        · rename_i kk hk
          split at h
          · rename_i w hw
            cases h
            unfold VR at r1
            obtain ⟨hl, rfl⟩ := r1
            obtain ⟨z, rfl, rz⟩ := vrs1 r2
            simp only [VR] at rz
            subst rz
            obtain ⟨ys, q1, rs⟩ := Rl.obj l _ q
            obtain ⟨P, t⟩ := Rl.setLst q q1 (vrs_erase kk rs)
            obtain ⟨u, e1, e2⟩ := rs.get hw
            have hb := rgOk_eq hz
            refine ⟨ρ l, ys, i, kk, u, rfl, rfl, q1, by omega, by omega, by rw [← rs.length]; exact hk, e1, k ρ _ _ P ?_⟩
            rw [List.length_set]
            exact e2.mono (fun _ _ => rfl) (Nat.le_refl _) t
          · cases h
        · cases h
      · cases h
    · cases h
  · cases h
theorem e_popAt (x : XG g X) (ho : EV g X o fo) (ha : EV g X e f) (hbase : attributeBase o "pop" X.env (eval o X.env) = eval o X.env := by rfl)
    (hfew : ((backTo cpos (starEach [e] X.env)).all (fun x => !x.1) && (backToKw cpos (keywordEach [] X.env)).all (fun x => x.1.isSome) && decide ([e].length + ([] : List Keyword).length + (if ([] : List Keyword).isEmpty then 0 else 1) < 30)) = true := by rfl)
    (hline : (apos.endLine == cpos.line) = true := by rfl) (hs : starEach [e] X.env = (false, eval e X.env) :: starEach [] X.env := by rfl) :
    EV g X (.Call (.Attribute o "pop" apos) [e] [] cpos) (eBM popAtF fo (aCons f aNil)) :=
  e_bm x PySem.F.plainAttrs_list PySem.F.slot_list_pop PySem.F.type_list_pop mt_popAt o_popAt ho (a_cons ha a_nil hs) hbase hfew hline hs rfl
def popF (d : D) (s : Store) : R D := match d with
  | .loc l => match s[l]? with
    | some (.lst xs) => match xs[xs.length - 1]? with
      | some y => .ok y (s.set l (.lst xs.dropLast))
      | none => .bad
    | _ => .bad
  | _ => .bad
def ePop (fo : Ef) : Ef := fun env st => (fo env st).bind popF
theorem e_pop (x : XG g X) (ho : EV g X o fo) (hbase : attributeBase o "pop" X.env (eval o X.env) = eval o X.env := by rfl) (hline : (apos.endLine == cpos.line) = true := by rfl) : EV g X (.Call (.Attribute o "pop" apos) [] [] cpos) (ePop fo) :=
  pe_imp (pe_bm0 PySem.F.plainAttrs_list PySem.F.slot_list_pop PySem.F.type_list_pop mt_pop ho hbase hline) fun σ H Q ⟨ρ, st, env, v, st', Rl, E, h, k⟩ => by
    obtain ⟨d, s1, e1, h⟩ := R.bind_eq h
    refine ⟨ρ, st, env, d, s1, Rl, E, e1, fun ρ1 H1 y P1 r1 => ?_⟩
    cases d with
    | loc l =>
      simp only [popF] at h
      split at h
      · rename_i xs q
        split at h
        · rename_i w hw
          cases h
          unfold VR at r1
          obtain ⟨hl, rfl⟩ := r1
          obtain ⟨ys, q1, rs⟩ := P1.rel.obj l _ q
          obtain ⟨P, t⟩ := P1.rel.setLst q q1 (vrs_dropLast rs)
          obtain ⟨u, e2, e3⟩ := rs.get hw
          refine ⟨.inl ⟨rfl, ys, by rw [x.K]; exact SqL.of q1⟩, ρ1 l, ys, u, rfl, rfl, q1, by rw [← rs.length]; exact e2, k ρ1 _ _ (P1.trans P) ?_⟩
          rw [List.length_set]
          exact e3.mono (fun _ _ => rfl) (Nat.le_refl _) t
        · cases h
      · cases h
    | _ => cases h
def idxD (x : D) : Nat → List D → Option Nat
  | _, [] => none
  | k, d :: ds => if eqD d x = true then some k else idxD x (k + 1) ds
theorem idxD_ok {x : D} : ∀ {ds : List D} {k j : Nat}, idxD x k ds = some j → ∃ i d, j = k + i ∧ ds[i]? = some d ∧ eqD d x = true ∧ ∀ (m : Nat) (d' : D), m < i → ds[m]? = some d' → eqD d' x = false
  | [], k, j, h => by cases h
  | d :: ds, k, j, h => by
    unfold idxD at h
    by_cases hd : eqD d x = true
    · rw [if_pos hd] at h
      cases h
      exact ⟨0, d, rfl, rfl, hd, fun m d' hm => absurd hm (Nat.not_lt_zero _)⟩
    · rw [if_neg hd] at h
      obtain ⟨i, e, e1, e2, e3, e4⟩ := idxD_ok h
      refine ⟨i + 1, e, by omega, by simpa using e2, e3, fun m d' hm q => ?_⟩
      cases m with
      | zero =>
        simp at q
        subst q
        simpa using hd
      | succ m => exact e4 m d' (by omega) (by simpa using q)
def indexF : FM := fun d ds s => match d, ds with
  | .loc l, [v] => match s[l]? with
    | some (.lst xs) => if flatD v = true ∧ xs.all flatD = true then match idxD v 0 xs with
      | some j => .ok (.int (j : Nat)) s
      | none => .bad
      else .bad
    | _ => .bad
  | _, _ => .bad
theorem o_index (x : XG g X) : OpM g (rIndex X.K) indexF := fun ρ st H d ds y vs v st' Q Rl r1 r2 h k => by
  unfold indexF at h
  split at h
  · rename_i l w
    split at h
    · rename_i xs q
      split at h
      · rename_i hz
        split at h
        · rename_i j hj
          cases h
          unfold VR at r1
          obtain ⟨hl, rfl⟩ := r1
          obtain ⟨z, rfl, rz⟩ := vrs1 r2
          obtain ⟨ys, q1, rs⟩ := Rl.obj l _ q
          obtain ⟨i, d0, ej, e1, e2, e3⟩ := idxD_ok hj
          rw [Nat.zero_add] at ej
          subst ej
          obtain ⟨u, e4, e5⟩ := rs.get e1
          rw [x.K]
          have fl : ∀ {m : Nat} {d' : D}, xs[m]? = some d' → flatD d' = true := fun {m d'} e => List.all_eq_true.mp hz.2 _ (List.mem_of_getElem? e)
          refine ⟨ρ l, ys, z, j, u, rfl, rfl, SqL.of q1, flat_vr rz hz.1, flats_vr rs hz.2, e4, by rw [eq_vr e5 rz (fl e1) hz.1]; exact e2, fun m z' hm e6 => ?_, k ρ H _ (Post.refl Rl) (by simp [VR])⟩
          obtain ⟨d', e7, e8⟩ := rs.getB e6
          rw [eq_vr e8 rz (fl e7) hz.1]
          exact e3 m d' hm e7
        · cases h
      · cases h
    · cases h
  · cases h
theorem e_index (x : XG g X) (ho : EV g X o fo) (ha : EV g X e f) (hbase : attributeBase o "index" X.env (eval o X.env) = eval o X.env := by rfl)
    (hfew : ((backTo cpos (starEach [e] X.env)).all (fun x => !x.1) && (backToKw cpos (keywordEach [] X.env)).all (fun x => x.1.isSome) && decide ([e].length + ([] : List Keyword).length + (if ([] : List Keyword).isEmpty then 0 else 1) < 30)) = true := by rfl)
    (hline : (apos.endLine == cpos.line) = true := by rfl) (hs : starEach [e] X.env = (false, eval e X.env) :: starEach [] X.env := by rfl) :
    EV g X (.Call (.Attribute o "index" apos) [e] [] cpos) (eBM indexF fo (aCons f aNil)) :=
  e_bm x PySem.F.plainAttrs_list PySem.F.slot_list_index PySem.F.type_list_index mt_index (o_index x) ho (a_cons ha a_nil hs) hbase hfew hline hs rfl
/-- a list that can be read off the heap: just made, or with a place -/
def tX (g : Gh) (f : Af) : TE := fun σ H Q => ∃ ρ st env v st', Rel g ρ st H ∧ EnvR g.K ρ st.length H env σ ∧ f env st = .ok v st' ∧
  ∀ ρ' H' p ys, Post g ρ st H ρ' st' H' → H' p = some (.lst ys) → VRs g.K ρ' st'.length H' v ys → Q (.ref p) H'
abbrev XV (g : Gh) (X : Cx) (e : Expr) (f : Af) : Prop := PE X e (tX g f)
theorem x_new (hn : NV g X e t) : XV g X e t := pe_imp hn fun σ H Q ⟨ρ, st, env, v, st', Rl, E, h, k⟩ => ⟨ρ, st, env, v, st', Rl, E, h, fun ρ1 H1 p ys P1 hl hn hp r1 => k ρ1 H1 p ys P1 hl r1⟩
def toX (r : R D) : R (List D) := r.bind fun d s => match d with
  | .loc l => match s[l]? with
    | some (.lst xs) => .ok xs s
    | _ => .bad
  | _ => .bad
def xOf (f : Ef) : Af := fun env st => toX (f env st)
theorem x_of (ha : EV g X e f) : XV g X e (xOf f) := pe_imp ha fun σ H Q ⟨ρ, st, env, v, st', Rl, E, h, k⟩ => by
  obtain ⟨d, s1, e1, h⟩ := R.bind_eq h
  refine ⟨ρ, st, env, d, s1, Rl, E, e1, fun ρ1 H1 y P1 r1 => ?_⟩
  cases d with
  | loc l =>
    unfold VR at r1
    obtain ⟨hl, rfl⟩ := r1
    simp only at h
    split at h
    · rename_i xs q
      cases h
      obtain ⟨ys, e2, rs⟩ := P1.rel.obj l _ q
      exact k ρ1 H1 _ ys P1 e2 rs
    · cases h
  | _ => cases h
def xM (f : Mf) : Af := fun env st => (f env st).bind fun m s => match m with
  | .v d => toX (.ok d s)
  | .l xs => .ok xs s
theorem x_m {f : Mf} (hm : MV g X e f) : XV g X e (xM f) := pe_imp hm fun σ H Q ⟨ρ, st, env, v, st', Rl, E, h, k⟩ => by
  obtain ⟨m, s1, e1, h⟩ := R.bind_eq h
  refine ⟨ρ, st, env, m, s1, Rl, E, e1, fun ρ1 H1 y P1 r1 => ?_⟩
  cases m with
  | l xs =>
    cases h
    obtain ⟨p, ys, rfl, hl, hn, hp, r2⟩ := r1
    exact k ρ1 H1 p ys P1 hl r2
  | v d =>
    cases d with
    | loc l =>
      unfold MR VR at r1
      obtain ⟨hl, rfl⟩ := r1
      simp only [toX, R.bind_ok] at h
      split at h
      · rename_i xs q
        cases h
        obtain ⟨ys, e2, rs⟩ := P1.rel.obj l _ q
        exact k ρ1 H1 _ ys P1 e2 rs
      · cases h
    | _ => cases h
def extF (d : D) (zs : List D) (s : Store) : R D := match d with
  | .loc l => match s[l]? with
    | some (.lst xs) => if xs.length + zs.length ≤ sizeLine then .ok .non (s.set l (.lst (xs ++ zs))) else .bad
    | _ => .bad
  | _ => .bad
def eExt (fo : Ef) (t : Af) : Ef := fun env st => (fo env st).bind fun d s1 => if isL d s1 = true then (t env s1).bind fun zs s2 => extF d zs s2 else .bad
theorem e_ext (x : XG g X) (ho : EV g X o fo) (ha : XV g X e t) (hbase : attributeBase o "extend" X.env (eval o X.env) = eval o X.env := by rfl)
    (hfew : ((backTo cpos (starEach [e] X.env)).all (fun x => !x.1) && (backToKw cpos (keywordEach [] X.env)).all (fun x => x.1.isSome) && decide ([e].length + ([] : List Keyword).length + (if ([] : List Keyword).isEmpty then 0 else 1) < 30)) = true := by rfl)
    (hline : (apos.endLine == cpos.line) = true := by rfl) (hs : starEach [e] X.env = (false, eval e X.env) :: starEach [] X.env := by rfl) :
    EV g X (.Call (.Attribute o "extend" apos) [e] [] cpos) (eExt fo t) :=
  pe_imp (pe_bm PySem.F.plainAttrs_list PySem.F.slot_list_extend PySem.F.type_list_extend mt_extend ho (pa_cons ha pa_nil hs) hbase hfew hline hs rfl) fun σ H Q ⟨ρ, st, env, v, st', Rl, E, h, k⟩ => by
    obtain ⟨d, s1, e1, h⟩ := R.bind_eq h
    split at h
    · rename_i hL
      obtain ⟨zs, s2, e2, h⟩ := R.bind_eq h
      refine ⟨ρ, st, env, d, s1, Rl, E, e1, fun ρ1 H1 y P1 r1 => ⟨by rw [x.K]; exact isL_ok P1.rel r1 hL, ρ1, s1, env, zs, s2, P1.rel, P1.envr Rl E, e2, fun ρ2 H2 p us P2 hp r2 => ?_⟩⟩
      have r1' := P2.vr P1.rel r1
      cases d with
      | loc l =>
        simp only [extF] at h
        split at h
        · rename_i xs q
          split at h
          · rename_i hz
            cases h
            unfold VR at r1'
            obtain ⟨hl, rfl⟩ := r1'
            obtain ⟨ys, q1, rs⟩ := P2.rel.obj l _ q
            obtain ⟨P, _⟩ := P2.rel.setLst q q1 (rs.append r2)
            exact ⟨ρ2 l, p, ys, us, rfl, rfl, q1, hp, by rw [← rs.length, ← r2.length]; exact hz, k ρ2 _ _ ((P1.trans P2).trans P) (by simp [VR])⟩
          · cases h
        · cases h
      | _ => cases h
    · cases h
end

/-! ### a def by its body -/
def semOf (n a : Nat) (sf : Sf) : SemF := fun ds st => if ds.length = a then (match sf (ds.map some ++ List.replicate (n - a) none) st with
  | .nx _ s => .ok .non s
  | .rt d s => .ok d s
  | _ => .bad) else .bad
/-- what the module's names mean -/
structure GF (g : Gh) (mg : Str → Option Value) : Prop where
  bl : ∀ x ∈ blts, mg x = none
  cls : ∀ c, c < g.nc → Cls g.K (g.cl c)
  na : ∀ c, c < g.nc → ∀ i, i < g.nf → NoAttr g.K (g.cl c) (g.fld i)
  inj : ∀ i j, i < g.nf → j < g.nf → g.fld i = g.fld j → i = j
section
variable {g : Gh} {P : Program} {w : World} {mg : Str → Option Value} {base : Heap}
theorem env_start {ρ : Nat → Addr} {n : Nat} {H : Hp} {N : List Str} {ds : List D} {vs : List V} (r : VRs g.K ρ n H ds vs) : EnvR g.K ρ n H (ds.map some ++ List.replicate (N.length - ds.length) none) (L2.start N vs) := by
  refine ⟨by unfold L2.start; simp [r.length], fun i d e => ?_⟩
  have hl := r.length
  unfold L2.start
  by_cases hi : i < ds.length
  · rw [List.getElem?_append_left (by simpa using hi), List.getElem?_map, Option.map_eq_some_iff] at e
    obtain ⟨d', e1, e2⟩ := e
    cases e2
    obtain ⟨v, e3, e4⟩ := r.get e1
    exact ⟨v, by rw [List.getElem?_append_left (by simp; omega), List.getElem?_map, e3]; rfl, e4⟩
  · rw [List.getElem?_append_right (by simpa using hi), List.getElem?_replicate] at e
    split at e <;> cases e
theorem fn_g {qual x : Str} {st : Stmt} {f : Addr} {fd : FuncData} {N ps : List Str} {k : Nat} {sf : Sf} (G : GF g mg) (F : Fun g.K x qual st f fd) (S : FnScope N ps (defScope st))
    (hbody : ∀ (cdv : Value) (A : Around) (outer : List PySem.Env) (s : Shared) (H : Hp) (E : XK), XG g (cxOf CX0 P w g.K mg base N qual (defScope st) f cdv A outer s H E).nox → Room k (cxOf CX0 P w g.K mg base N qual (defScope st) f cdv A outer s H E).nox.A →
      SVs g (cxOf CX0 P w g.K mg base N qual (defScope st) f cdv A outer s H E).nox (defBody st) sf) : FnG g P w g.K mg base (k + 1) f fd ps (semOf N.length ps.length sf) := by
  refine ⟨fun ds st v st' h => ?_, fun A outer s H args us vs Q hr hg e0 hb r hsp => ?_⟩
  · unfold semOf at h
    split at h
    · assumption
    · cases h
  · obtain ⟨oc, od, kV, doc, pm, an, cdv, ct, osl, rfl, lk, hcd⟩ := F.ex
    have len : vs.length = ps.length := by
      obtain ⟨ρ, st, ds, v, st', Rl, rd, e, _⟩ := hsp
      unfold semOf at e
      split at e
      · rename_i hl
        rw [← rd.length]
        exact hl
      · cases e
    have KX : g.K.In s.heap := e0.mod.kin.keeps fun b o e => (e0.bs b o e).1
    have lim : s.heap.NoLimit := e0.mod.nolimit.keeps fun b o e => (e0.bs b o e).1
    have hkind : ∀ y ∈ ps.zip us, (defScope st).names.lookup y.1 = some .local ∨ ((defScope st).names.lookup y.1 = some .cell ∧ ((cellsFrom (s.heap.objs.size + 1) (defScope st).names []).lookup y.1).isSome = true) := fun ⟨n, v⟩ hy => by
      rcases S.par n (List.of_mem_zip hy).1 with q | q
      · exact .inl q
      · exact .inr ⟨q, PySem.W.cellsFrom_some _ _ _ (.inl q)⟩
    refine codeAny_call_function hr.depth (KX _ _ lk) rfl S.co S.gen rfl (PySem.W.codeRec_of KX hcd) (hb _ _ _ _ ?_)
    refine wpAny_newFunctionEnv_cells S.kind hkind fun env he s1 xc => ?_
    subst he
    refine ⟨lim.keeps xc.toInCall.keep, codeAny_func ?_⟩
    have hr' := hr.deeper (envOfC qual (defScope st) s.heap.objs.size f cdv)
    have xg : XG g (cxOf CX0 P w g.K mg base N qual (defScope st) f cdv A outer s H E0).nox := ⟨rfl, rfl, by have := hr'.un; show (A.deeper _).units + 200 < cLine; omega, hg, S.nd, G.bl, G.cls, G.na, G.inj⟩
    have body := hbody cdv A outer s H E0 xg hr'
    have I : Inv (cxOf CX0 P w g.K mg base N qual (defScope st) f cdv A outer s H E0) [] (L2.start N vs) H s1 := inv_start S hr.hd e0 len r xc
    obtain ⟨ρ, sto, ds, v, sto', Rl, rd, e, k⟩ := hsp
    unfold semOf at e
    split at e
    · rename_i hl
      have env0 := env_start (N := N) rd
      rw [hl] at env0
      refine wpAny_mono (body.run [] s1 (L2.start N vs) H { nx := fun _ H' => Q .non H', rt := Q } (I.wish _) ⟨ρ, sto, _, Rl, env0, ?_⟩) (fun fl s' hs => ?_) fun er s' hs => hs.elim
      · split at e
        · rename_i env2 s2 q
          cases e
          rw [q]
          exact fun ρ' H' σ' P' E' => k ρ' H' .non P' (by simp [VR])
        · rename_i d2 s2 q
          cases e
          rw [q]
          exact fun ρ' H' y P' r' => k ρ' H' y P' r'
        · cases e
      · have fin : ∀ {σ' : St} {H' : Hp} {v : V} {u : Value}, Inv (cxOf CX0 P w g.K mg base N qual (defScope st) f cdv A outer s H E0).nox [] σ' H' s' → RelV v u → Q v H' → CE outer P w H s Q u s' :=
          fun {σ' H' v u} J rv q => ⟨v, H', J.os, J.bare, J.base, J.hok, rv, q⟩
        cases fl with
        | ret u =>
          obtain ⟨v, σ', H', J, rv, q⟩ := hs
          exact fin J rv q
        | next =>
          obtain ⟨σ', H', J, q⟩ := hs
          exact fin (v := V.non) (u := Value.none) J rfl q
        | brk =>
          obtain ⟨_, _, _, q⟩ := hs
          exact False.elim q
        | cont =>
          obtain ⟨_, _, _, q⟩ := hs
          exact False.elim q
    · cases e
end

/-! ### the law's entry -/
theorem law_g {P : Program} {w : World} {g : Gh} {mg mb : Str → Option Value} {k : Nat} {fa a : Addr} {fd : FuncData} {x : Str} {sem : SemF} {s₁ : Shared} {vs : List Value} {ns : List Int}
    (KX : g.K.In s₁.heap) (hns : s₁.heap.Ns mainGlobals mg) (hb : s₁.heap.Ns builtinsNs mb) (hbb : ∀ x : Str, x ≠ "__name__" → mb x = bootBuiltins x) (hlim : s₁.heap.NoLimit) (hg : s₁.gens = #[])
    (ha : s₁.heap.get? a = some { cls := .type "list", data := .seq vs.toArray }) (hi : IntsAre vs ns) (hl : ns.length ≤ sizeLine) (hr : Room k callerA)
    (F : ∀ base : Heap, g.K.In base → base.Ns mainGlobals mg → FnG g P w g.K mg base k fa fd [x] sem) (hbind : ∀ (s : Shared) (u : Value), BindsTo s fd ⟨[u], []⟩ [(x, u)])
    (hsem : ∃ st', sem [.loc 0] [.ro ns] = .ok (.bl true) st') :
    codeAny (model P w) callerA (.call (.ref fa) ⟨[.ref a], []⟩) (fun r s' => r = .ok (.ret (.bool true)) ∧ OldK s₁.heap s'.heap ∧ s'.os = s₁.os ∧ AllBare s'.gens) s₁ := by
  have rv := vals_ints hi
  have core : ∀ H : Hp, RoL g.K H a (ns.map V.int) → HOk P w H s₁.heap → (∀ b u, H b = some u → b = a ∧ ∃ ob, u = .frz ob (.lst (ns.map V.int))) → (H a ≠ none → g.K.lookup a = none) →
      codeAny (model P w) callerA (.call (.ref fa) ⟨[.ref a], []⟩) (fun r s' => r = .ok (.ret (.bool true)) ∧ OldK s₁.heap s'.heap ∧ s'.os = s₁.os ∧ AllBare s'.gens) s₁ := by
    intro H hS hok hA hK
    have noD : ∀ {b : Addr} {o : Obj} {es : Array DictEntry} {ep : Nat}, s₁.heap.get? b = some o → o.data = .dict es ep → H b = none := fun {b o es ep} e d => by
      cases q : H b with
      | none => rfl
      | some u =>
        obtain ⟨rfl, _⟩ := hA b u q
        rw [ha] at e
        cases e
        have d' : Data.seq vs.toArray _ = Data.dict es ep := d
        cases d'
    have nsK : ∀ {b : Addr} {m : Str → Option Value}, s₁.heap.Ns b m → (hidT s₁.heap H).Ns b m := fun {b m} ⟨o, es, ep, e, d, r⟩ => ⟨o, es, ep, hidT_get e (noD e d), d, r⟩
    have hKb : g.K.In (hidT s₁.heap H) := fun b o e => hidT_get (KX b o e) (by
      cases q : H b with
      | none => rfl
      | some u =>
        obtain ⟨rfl, _⟩ := hA b u q
        rw [hK (by rw [q]; simp)] at e
        cases e)
    have hM : Mod g.K mg (hidT s₁.heap H) := ⟨hKb, nsK hns, ⟨mb, nsK hb, hbb⟩, let ⟨mc, h1, h2⟩ := hlim; ⟨mc, nsK h1, h2⟩⟩
    have e0 : Env0 P w g.K mg (hidT s₁.heap H) callerA [] s₁ H := ⟨rfl, hM, fun b o e => of_hidT e, Nat.le_of_eq (hidT_size _ _), trivial, (fun b hb => nomatch hb), hok, AllBare.of_eq hg⟩
    obtain ⟨stE, he⟩ := hsem
    have sp : SpD g sem [.ref a] H (fun v _ => v = .bl true) := by
      refine ⟨fun _ => a, [.ro ns], [.loc 0], .bl true, stE, ⟨fun l o e => ?_, fun l l' m => ?_⟩, .cons (by unfold VR; exact ⟨by simp, rfl⟩) .nil, he, fun ρ' H' y P' r' => by simpa [VR] using r'⟩
      · cases l with
        | zero =>
          simp at e
          subst e
          exact hS
        | succ l => simp at e
      · obtain ⟨o, e, mo⟩ := m
        cases l with
        | zero =>
          simp at e
          subst e
          cases mo
        | succ l => simp at e
    refine codeAny_mono ((F _ hKb (nsK hns)).run callerA [] s₁ H ⟨[.ref a], []⟩ [.ref a] [.ref a] _ hr rfl e0 (hbind s₁ (.ref a)) (.cons rfl .nil) sp) fun rr s' hq => ?_
    match rr, hq with
    | .ok (.ret u), hq =>
      obtain ⟨v, H', os, bare, un, hok', r', q⟩ := hq
      have q' : v = .bl true := q
      subst q'
      obtain rfl : u = Value.bool true := r'
      refine ⟨rfl, OldK.of_keep fun b o e => ?_, os, bare⟩
      cases q : H b with
      | none => exact un.keep b o e q (fun z => nomatch z) (fun z => nomatch z)
      | some u =>
        obtain ⟨rfl, ob, rfl⟩ := hA b u q
        have z2 := un.frzs b ob _ q
        obtain ⟨e1, _⟩ := hok b _ q
        obtain ⟨e2, _⟩ := hok' b _ z2
        rw [e] at e1
        cases e1
        exact e2
    | .ok .next, hq => exact hq.elim
    | .ok .brk, hq => exact hq.elim
    | .ok .cont, hq => exact hq.elim
    | .error _, hq => exact hq.elim
  cases hk : g.K.lookup a with
  | some o =>
    have e := KX a o hk
    rw [ha] at e
    cases e
    exact core (fun _ => none) (.inr ⟨_, vs.toArray, _, hk, rfl, rfl, rfl, by rw [List.size_toArray, hi.length]; exact hl, by simpa using rv⟩) (fun b u z => by cases z) (fun b u z => by cases z) fun z => absurd rfl z
  | none =>
    refine core (fun b => if b = a then some (.frz { cls := .type "list", data := .seq vs.toArray } (.lst (ns.map V.int))) else none) (.inl ⟨_, if_pos rfl⟩) (fun b u z => ?_) (fun b u z => ?_) fun _ => hk
    · by_cases hb : b = a
      · have z' := (if_pos hb).symm.trans z
        cases z'
        subst hb
        exact ⟨ha, by rw [List.length_map]; exact hl, vs, _, rv, ha⟩
      · have z' := (if_neg hb).symm.trans z
        cases z'
    · by_cases hb : b = a
      · have z' := (if_pos hb).symm.trans z
        cases z'
        exact ⟨hb, _, rfl⟩
      · have z' := (if_neg hb).symm.trans z
        cases z'
theorem walk_g {l : PySem.W.OpenLaw} {n k : Nat} {q : Program} {loose : List Str} {XP : (Str → Option Value) → Heap → Prop} {YP : World → Heap → Prop} {d : DefRec} {K : Params → PySem.W.Frag} {sem : SemF} {x : Str}
    (hn : l.most = some n) (hn2 : n ≤ sizeLine) (hdf : d.params.defaults = []) (hr : Room k callerA) (hY : ∀ (w : World) (h : Heap), YP w h → (K w.params).In h)
    (F : ∀ (w : World) (mg : Str → Option Value) (fa : Addr) (h : Heap), (K w.params).In h → h.Ns mainGlobals mg → mg d.name = some (.ref fa) →
      ∃ (g : Gh) (fd : FuncData), g.K = K w.params ∧ (∀ (s : Shared) (u : Value), BindsTo s fd ⟨[u], []⟩ [(x, u)]) ∧ ∀ base : Heap, (K w.params).In base → base.Ns mainGlobals mg → FnG g l.prog w g.K mg base k fa fd [x] sem)
    (hsem : ∀ ns : List Int, ns.length ≤ n → ∃ st', sem [.loc 0] [.ro ns] = .ok (.bl true) st') : PySem.W.WalkO q loose XP YP l.row.toRowW d [] (fun f vs => PySem.call f vs) := by
  refine Att.attach_call hn hdf fun w s₀ s₁ mg mb fa o pm cd doc a vs ns G Y ho hd hcd hmg hobj hints hlen hg => ?_
  have KX := hY w _ Y
  obtain ⟨g, fd, eK, hb, hF⟩ := F w mg fa _ KX G.T.g hmg
  exact law_g (g := g) (by rw [eK]; exact KX) G.T.g G.T.b G.T.builtins G.T.nolimit hg hobj hints (Nat.le_trans hlen hn2) hr (by rw [eK] at hF ⊢; exact hF) hb (hsem ns hlen)

/-! ### what is no longer reached, forgotten -/
mutual
def D.ren (θ : Nat → Nat) : D → D
  | .non => .non
  | .bl b => .bl b
  | .int i => .int i
  | .str s => .str s
  | .tup xs => .tup (D.rens θ xs)
  | .loc l => .loc (θ l)
def D.rens (θ : Nat → Nat) : List D → List D
  | [] => []
  | x :: xs => D.ren θ x :: D.rens θ xs
end
mutual
def D.under (n : Nat) : D → Bool
  | .tup xs => D.unders n xs
  | .loc l => decide (l < n)
  | _ => true
def D.unders (n : Nat) : List D → Bool
  | [] => true
  | x :: xs => D.under n x && D.unders n xs
end
def O.ren (θ : Nat → Nat) : O → O
  | .ro ns => .ro ns
  | .lst xs => .lst (D.rens θ xs)
  | .ins c fs => .ins c (fs.map fun p => (p.1, D.ren θ p.2))
  | .dic kvs => .dic (kvs.map fun p => (p.1, D.ren θ p.2))
def O.under (n : Nat) : O → Bool
  | .ro _ => true
  | .lst xs => D.unders n xs
  | .ins _ fs => fs.all fun p => D.under n p.2
  | .dic kvs => kvs.all fun p => D.under n p.2
section
variable {g : Gh} {K : PySem.W.Frag} {ρ : Nat → Addr} {n m : Nat} {H : Hp} {θ : Nat → Nat}
mutual
theorem VR.back : ∀ {d : D} {v : V}, D.under m d = true → VR K ρ n H (D.ren θ d) v → VR K (ρ ∘ θ) m H d v
  | .non, _, _, h => h
  | .bl _, _, _, h => h
  | .int _, _, _, h => h
  | .str _, _, _, h => h
  | .tup xs, v, u, h => by
    simp only [D.ren] at h
    unfold VR at h ⊢
    obtain ⟨a, ys, e, q, r⟩ := h
    exact ⟨a, ys, e, q, VRs.back (by simpa [D.under] using u) r⟩
  | .loc l, v, u, h => by
    simp only [D.ren] at h
    unfold VR at h ⊢
    exact ⟨by simpa [D.under] using u, h.2⟩
theorem VRs.back : ∀ {ds : List D} {vs : List V}, D.unders m ds = true → VRs K ρ n H (D.rens θ ds) vs → VRs K (ρ ∘ θ) m H ds vs
  | [], _, _, h => h
  | x :: xs, vs, u, h => by
    simp only [D.rens] at h
    unfold VRs at h ⊢
    obtain ⟨y, zs, e, r, rs⟩ := h
    have u' : D.under m x = true ∧ D.unders m xs = true := by simpa [D.unders] using u
    exact ⟨y, zs, e, VR.back u'.1 r, VRs.back u'.2 rs⟩
end
theorem FR.back : ∀ {fs : List (Nat × D)} {gs : List (Str × V)}, (fs.all fun p => D.under m p.2) = true → FR g ρ n H (fs.map fun p => (p.1, D.ren θ p.2)) gs → FR g (ρ ∘ θ) m H fs gs
  | [], _, _, h => h
  | (i, d) :: fs, _, u, h => by
    rw [List.all_cons, Bool.and_eq_true] at u
    obtain ⟨hi, v, hs, e, r, rs⟩ := h
    exact ⟨hi, v, hs, e, r.back u.1, FR.back u.2 rs⟩
theorem KR.back : ∀ {fs : List (Key × D)} {gs : List (Key × V)}, (fs.all fun p => D.under m p.2) = true → KR K ρ n H (fs.map fun p => (p.1, D.ren θ p.2)) gs → KR K (ρ ∘ θ) m H fs gs
  | [], _, _, h => h
  | (i, d) :: fs, _, u, h => by
    rw [List.all_cons, Bool.and_eq_true] at u
    obtain ⟨v, hs, e, r, rs⟩ := h
    exact ⟨v, hs, e, r.back u.1, KR.back u.2 rs⟩
theorem OR.back {a : Addr} {o : O} (u : O.under m o = true) (h : OR g ρ n H a (O.ren θ o)) : OR g (ρ ∘ θ) m H a o := by
  cases o with
  | ro ns => exact h
  | lst xs => obtain ⟨ys, e, r⟩ := h; exact ⟨ys, e, r.back u⟩
  | ins c fs => obtain ⟨hc, dx, gs, e, r⟩ := h; exact ⟨hc, dx, gs, e, r.back u⟩
  | dic kvs => obtain ⟨gs, e, r⟩ := h; exact ⟨gs, e, r.back u⟩
theorem O.ren_mut {o : O} : (O.ren θ o).mut = o.mut := by cases o <;> rfl
/-- st2, v2 seen as st', v: the places that stay are θ's -/
structure Weak (st st2 st' : Store) (v2 v : D) (θ : Nat → Nat) : Prop where
  old : ∀ l, l < st.length → θ l = l
  len : st.length ≤ st'.length
  inj : ∀ l l', l < st'.length → l' < st'.length → θ l = θ l' → l = l'
  get : ∀ (l : Nat) (o : O), st'[l]? = some o → st2[θ l]? = some (O.ren θ o) ∧ O.under st'.length o = true
  new : ∀ l, st.length ≤ l → l < st'.length → st.length ≤ θ l
  val : v2 = D.ren θ v
  und : D.under st'.length v = true
theorem Weak.post {st st2 st' : Store} {v2 v : D} {H2 : Hp} {ρ2 : Nat → Addr} (W : Weak st st2 st' v2 v θ) (P : Post g ρ st H ρ2 st2 H2) : Post g ρ st H (ρ2 ∘ θ) st' H2 where
  rel := ⟨fun l o e => by
      obtain ⟨e1, e2⟩ := W.get l o e
      exact OR.back e2 (P.rel.obj _ _ e1), fun l l' a b q => by
      have lt : ∀ {j}, mutAt st' j → mutAt st2 (θ j) ∧ j < st'.length := fun {j} m => by
        obtain ⟨o, e, mo⟩ := m
        obtain ⟨e1, _⟩ := W.get j o e
        exact ⟨⟨_, e1, by rw [O.ren_mut]; exact mo⟩, lt_of_get e⟩
      exact W.inj l l' (lt a).2 (lt b).2 (P.rel.inj _ _ (lt a).1 (lt b).1 q)⟩
  len := W.len
  old := fun l hl => by
    show ρ2 (θ l) = ρ l
    rw [W.old l hl]
    exact P.old l hl
  keep := P.keep
  fresh := fun l h1 h2 => by
    obtain ⟨o, e⟩ := get_of_lt h2
    obtain ⟨e1, _⟩ := W.get l o e
    exact P.fresh (θ l) (W.new l h1 h2) (lt_of_get e1)
  kind := fun l o o' e e' => by
    obtain ⟨e1, _⟩ := W.get l o' e'
    rw [W.old l (lt_of_get e)] at e1
    rw [P.kind l o _ e e1, O.ren_mut]
/-- a def's reckoning where what is no longer reached is forgotten -/
theorem FnG.weak {P : Program} {w : World} {K : PySem.W.Frag} {mg : Str → Option Value} {base : Heap} {k : Nat} {f : Addr} {fd : FuncData} {ps : List Str} {sem sem' : SemF} (F : FnG g P w K mg base k f fd ps sem)
    (h : ∀ ds st v st', (∃ ρ H, Rel g ρ st H) → sem' ds st = .ok v st' → ∃ v2 st2 θ, sem ds st = .ok v2 st2 ∧ Weak st st2 st' v2 v θ) (hl : ∀ ds st v st', sem' ds st = .ok v st' → ds.length = ps.length) : FnG g P w K mg base k f fd ps sem' :=
  F.imp (fun vs H Q ⟨ρ, st, ds, v, st', Rl, r, e, q⟩ => by
    obtain ⟨v2, st2, θ, e2, W⟩ := h ds st v st' ⟨ρ, H, Rl⟩ e
    refine ⟨ρ, st, ds, v2, st2, Rl, r, e2, fun ρ' H' y P' r' => q _ H' y (W.post P') ?_⟩
    have ev := W.val
    rw [ev] at r'
    exact r'.back W.und) hl
end
end Ev

/-! Ev9: len of an own object; a def that is never called; the store's part that a def sees. -/
namespace Ev
open PySem L2
open PyProof.Rows hiding St

section
variable {g : Gh} {X : Cx} {k : Nat} {f : Addr} {fd : FuncData} {ps : List Str} {sem : SemF} {p pos : Pos} {e o : Expr} {fo : Ef}
def rLenO (g : Gh) (c : Nat) (sem : SemF) (xs : List V) (H : Hp) (Q : VK) : Prop := ∃ a dx gs, xs = [V.ref a] ∧ H a = some (.ins (g.cl c) dx gs) ∧ c < g.nc ∧ SpD g sem [.ref a] H (fun v H' => ∃ n : Int, v = .int n ∧ 0 ≤ n ∧ n < 2 ^ 62 ∧ Q (.int n) H')
theorem call_lenO (x : XG g X) (c : Nat) (M : Meth X.K (g.cl c) "__len__" f) (F : FnG g X.prog X.w X.K X.mg X.base k f fd ps sem) (hr : Room (k + 1) X.A) (hb : Binds X.K fd ps []) : CallR X (.builtin "len") (rLenO g c sem) := by
  intro pins s σ H xs us Q I r h
  obtain ⟨a, dx, gs, rfl, ea, hc, q⟩ := h
  obtain ⟨u, rfl, ru⟩ := vals1 r
  obtain rfl : u = Value.ref a := ru
  obtain ⟨mA, O, _, _, _, _⟩ := ins_get I.hok ea
  obtain ⟨od, J, _⟩ := O.look
  have hl : ([Value.ref a] ++ ([] : List Value)).length = ps.length := (show ([V.ref a] : List V).length = ps.length from F.lenV q)
  refine Calls.call_function_entry kind_len plain_len entry_len (args_len1 _) ?_
  unfold Builtin.«len»
  refine wpAny_bind (m := oneArg "len" _) (wpAny_pure ?_)
  refine wpAny_bind (m := callSpecial? (.ref a) (Str.ofString "__len__")) (PySem.W.special_fn I.kIn J M.at_ (beq_iff_eq.mp M.fn) ?_)
  refine wpAny_call (codeAny_mono (F.run X.A.in1 X.stack s H ⟨[.ref a], []⟩ [.ref a] [.ref a] _ hr.in1 x.hg I.env0.in1 (by have z := hb s [.ref a] I.kIn hl; rw [List.append_nil] at z; exact z) (.cons rfl .nil) q) fun rr s' hq => ?_)
  match rr, hq with
  | .ok (.ret u), hq =>
    obtain ⟨w, H', I3, rv, n, rfl, h0, h1, q3⟩ := I.after hq
    obtain ⟨t, rfl⟩ : ∃ t, u = .int n t := rv
    refine wpAny_bind (wpAny_holding (wpAny_pure ?_))
    refine wpAny_bind (wpAny_letGo ?_)
    show wpAny _ _ (if n < 0 then _ else _) _ _ _
    rw [if_neg (by omega)]
    show wpAny _ _ (if n ≥ 2 ^ 63 then _ else _) _ _ _
    rw [if_neg (by omega)]
    exact wpAny_bind (wpAny_mkInt (wpAny_pure ⟨_, rfl, .int n, H', I3.tok _, ⟨_, rfl⟩, q3⟩))
  | .ok .next, hq => exact hq.elim
  | .ok .brk, hq => exact hq.elim
  | .ok .cont, hq => exact hq.elim
  | .error _, hq => exact hq.elim
def lenOF (c : Nat) (sem : SemF) : FA := fun ds st => match ds with
  | [d] => if isC c d st = true then (sem [d] st).bind fun v s => match v with | .int n => if 0 ≤ n ∧ n < 2 ^ 62 then .ok (.int n) s else .bad | _ => .bad else .bad
  | _ => .bad
theorem o_lenO (c : Nat) : OpA g (rLenO g c sem) (lenOF c sem) := fun ρ st H ds vs v st' Q Rl r h k => by
  unfold lenOF at h
  split at h
  · rename_i d
    split at h
    · rename_i hC
      obtain ⟨y, rfl, r1⟩ := vrs1 r
      obtain ⟨w, s2, e1, h⟩ := R.bind_eq h
      obtain ⟨l, dx, gs, fs, rfl, rfl, e3, hc, rf⟩ := isC_ok Rl r1 hC
      cases w with
      | int n =>
        simp only at h
        split at h
        · rename_i hn
          cases h
          refine ⟨ρ l, dx, gs, rfl, e3, hc, ρ, st, _, _, _, Rl, r, e1, fun ρ' H' z P rz => ?_⟩
          simp only [VR] at rz
          exact ⟨n, rz, hn.1, hn.2, k ρ' H' _ P (by simp [VR])⟩
        · cases h
      | _ => cases h
    · cases h
  · cases h
theorem e_lenO (x : XG g X) (c : Nat) (ho : EV g X o fo) (M : Meth X.K (g.cl c) "__len__" f) (F : FnG g X.prog X.w X.K X.mg X.base k f fd ps sem) (hr : Room (k + 1) X.A) (hb : Binds X.K fd ps []) (hg : Gl X "len" := by rfl) (he : starEach [o] X.env = (false, eval o X.env) :: starEach [] X.env := by rfl) :
    EV g X (.Call (.Name "len" p) [o] [] pos) (eCall (lenOF c sem) (aCons fo aNil)) := e_callB (call_lenO x c M F hr hb) (o_lenO c) (x.mg "len") (a_cons ho a_nil he) hg (by decide +kernel) (by decide) (by decide) he rfl
end

section
variable {g : Gh} {P : Program} {w : World} {K : PySem.W.Frag} {mg : Str → Option Value} {base : Heap} {k : Nat} {f : Addr} {fd : FuncData} {ps : List Str} {sem : SemF}
theorem FnG.no : FnG g P w K mg base k f fd ps (fun _ _ => .bad) := ⟨fun _ _ _ _ h => (R.no h).elim, fun _ _ _ _ _ _ _ _ _ _ _ _ _ ⟨_, _, _, _, _, _, _, e, _⟩ => (R.no e).elim⟩
end
end Ev

/-! Ev10: a def seen within a part of the store; what repr tells, its bounds. -/
namespace Ev
open PySem L2
open PyProof.Rows hiding St

section
variable {g : Gh} {K : PySem.W.Frag} {ρ ρ1 : Nat → Addr} {n m n1 : Nat} {H H' : Hp} {θ : Nat → Nat}
mutual
theorem VR.fwd (hρ : ∀ i, i < m → ρ1 i = ρ (θ i) ∧ θ i < n) : ∀ {d : D} {v : V}, D.under m d = true → VR K ρ1 n1 H d v → VR K ρ n H (D.ren θ d) v
  | .non, _, _, h => h
  | .bl _, _, _, h => h
  | .int _, _, _, h => h
  | .str _, _, _, h => h
  | .tup xs, v, u, h => by
    simp only [D.ren]
    unfold VR at h ⊢
    obtain ⟨a, ys, e, q, r⟩ := h
    exact ⟨a, ys, e, q, VRs.fwd hρ (by simpa [D.under] using u) r⟩
  | .loc l, v, u, h => by
    simp only [D.ren]
    unfold VR at h ⊢
    obtain ⟨e1, e2⟩ := hρ l (by simpa [D.under] using u)
    exact ⟨e2, by rw [← e1]; exact h.2⟩
theorem VRs.fwd (hρ : ∀ i, i < m → ρ1 i = ρ (θ i) ∧ θ i < n) : ∀ {ds : List D} {vs : List V}, D.unders m ds = true → VRs K ρ1 n1 H ds vs → VRs K ρ n H (D.rens θ ds) vs
  | [], _, _, h => h
  | x :: xs, vs, u, h => by
    simp only [D.rens]
    unfold VRs at h ⊢
    obtain ⟨y, zs, e, r, rs⟩ := h
    have u' : D.under m x = true ∧ D.unders m xs = true := by simpa [D.unders] using u
    exact ⟨y, zs, e, VR.fwd hρ u'.1 r, VRs.fwd hρ u'.2 rs⟩
end
theorem FR.fwd (hρ : ∀ i, i < m → ρ1 i = ρ (θ i) ∧ θ i < n) : ∀ {fs : List (Nat × D)} {gs : List (Str × V)}, (fs.all fun p => D.under m p.2) = true → FR g ρ1 n1 H fs gs → FR g ρ n H (fs.map fun p => (p.1, D.ren θ p.2)) gs
  | [], _, _, h => h
  | (i, d) :: fs, _, u, h => by
    rw [List.all_cons, Bool.and_eq_true] at u
    obtain ⟨hi, v, hs, e, r, rs⟩ := h
    exact ⟨hi, v, hs, e, r.fwd hρ u.1, FR.fwd hρ u.2 rs⟩
theorem KR.fwd (hρ : ∀ i, i < m → ρ1 i = ρ (θ i) ∧ θ i < n) : ∀ {fs : List (Key × D)} {gs : List (Key × V)}, (fs.all fun p => D.under m p.2) = true → KR K ρ1 n1 H fs gs → KR K ρ n H (fs.map fun p => (p.1, D.ren θ p.2)) gs
  | [], _, _, h => h
  | (i, d) :: fs, _, u, h => by
    rw [List.all_cons, Bool.and_eq_true] at u
    obtain ⟨v, hs, e, r, rs⟩ := h
    exact ⟨v, hs, e, r.fwd hρ u.1, KR.fwd hρ u.2 rs⟩
theorem OR.fwd {a : Addr} {o : O} (hρ : ∀ i, i < m → ρ1 i = ρ (θ i) ∧ θ i < n) (u : O.under m o = true) (h : OR g ρ1 n1 H a o) : OR g ρ n H a (O.ren θ o) := by
  cases o with
  | ro ns => exact h
  | lst xs => obtain ⟨ys, e, r⟩ := h; exact ⟨ys, e, r.fwd hρ u⟩
  | ins c fs => obtain ⟨hc, dx, gs, e, r⟩ := h; exact ⟨hc, dx, gs, e, r.fwd hρ u⟩
  | dic kvs => obtain ⟨gs, e, r⟩ := h; exact ⟨gs, e, r.fwd hρ u⟩
/-- a part of the store, what is done in it put back -/
structure Part (st st' sub sub' : Store) (v0 v : D) (θ : Nat → Nat) : Prop where
  inj : ∀ i j, i < sub.length → j < sub.length → θ i = θ j → i = j
  get : ∀ (i : Nat) (o : O), sub[i]? = some o → st[θ i]? = some (o.ren θ) ∧ o.under sub.length = true
  put : ∀ (i : Nat) (o : O), i < sub.length → sub'[i]? = some o → st'[θ i]? = some (o.ren θ) ∧ o.under sub.length = true
  rest : ∀ l, (∀ i, i < sub.length → θ i ≠ l) → st'[l]? = st[l]?
  len : st'.length = st.length
  val : v = D.ren θ v0
  und : D.under sub.length v0 = true
theorem Part.rel {st st' sub sub' : Store} {v0 v : D} (W : Part st st' sub sub' v0 v θ) (Rl : Rel g ρ st H) : Rel g (ρ ∘ θ) sub H :=
  ⟨fun i o e => by
    obtain ⟨e1, e2⟩ := W.get i o e
    exact OR.back e2 (Rl.obj _ _ e1), fun i j a b q => by
    have lt : ∀ {j}, mutAt sub j → mutAt st (θ j) ∧ j < sub.length := fun {j} m => by
      obtain ⟨o, e, mo⟩ := m
      obtain ⟨e1, _⟩ := W.get j o e
      exact ⟨⟨_, e1, by rw [O.ren_mut]; exact mo⟩, lt_of_get e⟩
    exact W.inj i j (lt a).2 (lt b).2 (Rl.inj _ _ (lt a).1 (lt b).1 q)⟩
theorem Part.post {st st' sub sub' : Store} {v0 v : D} (W : Part st st' sub sub' v0 v θ) (Rl : Rel g ρ st H) (P : Post g (ρ ∘ θ) sub H ρ1 sub' H') : Post g ρ st H ρ st' H' := by
  have ht : ∀ i, i < sub.length → ρ1 i = ρ (θ i) ∧ θ i < st'.length := fun i hi => by
    obtain ⟨o, e⟩ := get_of_lt hi
    exact ⟨P.old i hi, by rw [W.len]; exact lt_of_get (W.get i o e).1⟩
  have mu : ∀ {i}, mutAt sub i → mutAt st (θ i) := fun {i} m => by
    obtain ⟨o, e, mo⟩ := m
    exact ⟨_, (W.get i o e).1, by rw [O.ren_mut]; exact mo⟩
  have tk : TK g.K H H' := P.tk (W.rel Rl)
  have kd : ∀ (l : Nat) (o o' : O), st[l]? = some o → st'[l]? = some o' → o.mut = o'.mut := fun l o o' e e' => by
    by_cases hl : ∃ i, i < sub.length ∧ θ i = l
    · obtain ⟨i, hi, rfl⟩ := hl
      obtain ⟨o1, e1⟩ := get_of_lt hi
      obtain ⟨o2, e2⟩ := get_of_lt (Nat.lt_of_lt_of_le hi P.len)
      rw [(W.get i o1 e1).1] at e
      rw [(W.put i o2 hi e2).1] at e'
      cases e
      cases e'
      rw [O.ren_mut, O.ren_mut]
      exact P.kind i o1 o2 e1 e2
    · rw [W.rest l (fun i hi q => hl ⟨i, hi, q⟩), e] at e'
      cases e'
      rfl
  have mb : ∀ {l}, mutAt st' l → mutAt st l := fun {l} m => by
    obtain ⟨o', e', mo⟩ := m
    have hl := lt_of_get e'
    rw [W.len] at hl
    obtain ⟨o, e⟩ := get_of_lt hl
    exact ⟨o, e, by rw [kd l o o' e e']; exact mo⟩
  refine ⟨⟨fun l o' e' => ?_, fun l l' a b q => Rl.inj l l' (mb a) (mb b) q⟩, Nat.le_of_eq W.len.symm, fun _ _ => rfl, fun b o e nm => P.keep b o e fun i mi => nm (θ i) (mu mi), fun l h1 h2 => absurd h2 (by rw [W.len]; omega), kd⟩
  by_cases hl : ∃ i, i < sub.length ∧ θ i = l
  · obtain ⟨i, hi, rfl⟩ := hl
    obtain ⟨o2, e2⟩ := get_of_lt (Nat.lt_of_lt_of_le hi P.len)
    obtain ⟨z1, z2⟩ := W.put i o2 hi e2
    rw [z1] at e'
    cases e'
    have q := P.rel.obj i o2 e2
    rw [(ht i hi).1] at q
    exact OR.fwd ht z2 q
  · have e := e'
    rw [W.rest l (fun i hi q => hl ⟨i, hi, q⟩)] at e
    have q := Rl.obj l o' e
    have kp : ∀ u, H (ρ l) = some u → o'.mut = true → H' (ρ l) = some u := fun u eu mo => P.keep _ _ eu fun i mi z => by
      have ll := Rl.inj _ _ (mu mi) ⟨o', e, mo⟩ z
      obtain ⟨oi, ei, _⟩ := mi
      exact hl ⟨i, lt_of_get ei, ll⟩
    rw [W.len]
    have old : ∀ j, j < st.length → ρ j = ρ j := fun _ _ => rfl
    cases o' with
    | ro ns => exact RoL.of (K := g.K) (H := H) (H' := H') (fun b u eb mb' => P.keepN (W.rel Rl) eb mb') (show RoL g.K H (ρ l) (ns.map V.int) from q)
    | lst xs =>
      obtain ⟨ys, e1, r⟩ := q
      exact ⟨ys, kp _ e1 rfl, r.mono old (Nat.le_refl _) tk⟩
    | ins c fs =>
      obtain ⟨hc, dx, gs, e1, r⟩ := q
      exact ⟨hc, dx, gs, kp _ e1 rfl, r.mono old (Nat.le_refl _) tk⟩
    | dic kvs =>
      obtain ⟨gs, e1, r⟩ := q
      exact ⟨gs, kp _ e1 rfl, r.mono old (Nat.le_refl _) tk⟩
/-- a def's reckoning, seen within a part of the store -/
theorem FnG.part {P : Program} {w : World} {mg : Str → Option Value} {base : Heap} {k : Nat} {f : Addr} {fd : FuncData} {ps : List Str} {sem sem' : SemF} (F : FnG g P w K mg base k f fd ps sem)
    (h : ∀ ds st v st', sem' ds st = .ok v st' → ∃ sub θ ds0 v0 sub', sem ds0 sub = .ok v0 sub' ∧ ds = D.rens θ ds0 ∧ D.unders sub.length ds0 = true ∧ Part st st' sub sub' v0 v θ) (hl : ∀ ds st v st', sem' ds st = .ok v st' → ds.length = ps.length) : FnG g P w K mg base k f fd ps sem' :=
  F.imp (fun vs H Q ⟨ρ, st, ds, v, st', Rl, r, e, q⟩ => by
    obtain ⟨sub, θ, ds0, v0, sub', e2, rfl, u, W⟩ := h ds st v st' e
    refine ⟨ρ ∘ θ, sub, ds0, v0, sub', W.rel Rl, VRs.back u r, e2, fun ρ' H' y P' r' => q ρ H' y (W.post Rl P') ?_⟩
    have ev := W.val
    subst ev
    refine r'.fwd (fun i hi => ?_) W.und
    obtain ⟨o, eo⟩ := get_of_lt hi
    exact ⟨P'.old i hi, by rw [W.len]; exact lt_of_get (W.get i o eo).1⟩) hl
end

/-! ### values without places -/
mutual
def D.flat : D → Bool
  | .tup xs => D.flats xs
  | .loc _ => false
  | _ => true
def D.flats : List D → Bool
  | [] => true
  | x :: xs => D.flat x && D.flats xs
end
mutual
theorem D.flat_ren {θ : Nat → Nat} : ∀ {d : D}, d.flat = true → d.ren θ = d
  | .non, _ => rfl
  | .bl _, _ => rfl
  | .int _, _ => rfl
  | .str _, _ => rfl
  | .tup xs, h => by
    simp only [D.ren]
    rw [D.flats_ren (by simpa [D.flat] using h)]
  | .loc l, h => by simp [D.flat] at h
theorem D.flats_ren {θ : Nat → Nat} : ∀ {ds : List D}, D.flats ds = true → D.rens θ ds = ds
  | [], _ => rfl
  | x :: xs, h => by
    have h' : D.flat x = true ∧ D.flats xs = true := by simpa [D.flats] using h
    simp only [D.rens]
    rw [D.flat_ren h'.1, D.flats_ren h'.2]
end
mutual
theorem D.flat_under {n : Nat} : ∀ {d : D}, d.flat = true → d.under n = true
  | .non, _ => rfl
  | .bl _, _ => rfl
  | .int _, _ => rfl
  | .str _, _ => rfl
  | .tup xs, h => by
    simp only [D.under]
    exact D.flats_under (by simpa [D.flat] using h)
  | .loc l, h => by simp [D.flat] at h
theorem D.flats_under {n : Nat} : ∀ {ds : List D}, D.flats ds = true → D.unders n ds = true
  | [], _ => rfl
  | x :: xs, h => by
    have h' : D.flat x = true ∧ D.flats xs = true := by simpa [D.flats] using h
    simp only [D.unders, Bool.and_eq_true]
    exact ⟨D.flat_under h'.1, D.flats_under h'.2⟩
end
/-- no place is handed in, none comes back: seen in the empty store -/
def frame0 (sem : SemF) : SemF := fun ds st => if D.flats ds = true then match sem ds [] with
  | .ok v _ => if v.flat = true then .ok v st else .bad
  | .bad => .bad
  else .bad
/-- a list without places is handed in first -/
def frame1 (sem : SemF) : SemF := fun ds st => match ds with
  | .loc l :: ds => if D.flats ds = true then match st[l]? with
    | some (.lst xs) => if D.flats xs = true then match sem (.loc 0 :: ds) [.lst xs] with
      | .ok v (.lst ys :: _) => if v.flat = true ∧ D.flats ys = true then .ok v (st.set l (.lst ys)) else .bad
      | _ => .bad
      else .bad
    | _ => .bad
    else .bad
  | _ => .bad
section
variable {g : Gh} {K : PySem.W.Frag} {P : Program} {w : World} {mg : Str → Option Value} {base : Heap} {k : Nat} {f : Addr} {fd : FuncData} {ps : List Str} {sem : SemF}
theorem FnG.frame0 (F : FnG g P w K mg base k f fd ps sem) : FnG g P w K mg base k f fd ps (frame0 sem) := by
  have key : ∀ ds st v st', Ev.frame0 sem ds st = .ok v st' → D.flats ds = true ∧ v.flat = true ∧ st' = st ∧ ∃ s2, sem ds [] = .ok v s2 := fun ds st v st' h => by
    unfold Ev.frame0 at h
    split at h
    · rename_i hd
      split at h
      · rename_i v0 s2 e
        split at h
        · rename_i hv
          cases h
          exact ⟨hd, hv, rfl, s2, e⟩
        · cases h
      · cases h
    · cases h
  refine F.part (fun ds st v st' h => ?_) fun ds st v st' h => ?_
  · obtain ⟨hd, hv, rfl, s2, e⟩ := key _ _ _ _ h
    exact ⟨[], id, ds, v, s2, e, (D.flats_ren hd).symm, D.flats_under hd, ⟨fun i j hi => absurd hi (Nat.not_lt_zero _), fun i o e => by simp at e, fun i o hi => absurd hi (Nat.not_lt_zero _), fun l _ => rfl, rfl, (D.flat_ren hv).symm, D.flat_under hv⟩⟩
  · obtain ⟨hd, hv, rfl, s2, e⟩ := key _ _ _ _ h
    exact F.len _ _ _ _ e
theorem FnG.frame1 (F : FnG g P w K mg base k f fd ps sem) : FnG g P w K mg base k f fd ps (frame1 sem) := by
  have key : ∀ ds st v st', Ev.frame1 sem ds st = .ok v st' → ∃ l ds' xs ys s2, ds = .loc l :: ds' ∧ D.flats ds' = true ∧ st[l]? = some (.lst xs) ∧ D.flats xs = true ∧ sem (.loc 0 :: ds') [.lst xs] = .ok v (.lst ys :: s2) ∧ v.flat = true ∧ D.flats ys = true ∧ st' = st.set l (.lst ys) := fun ds st v st' h => by
    unfold Ev.frame1 at h
    split at h
    · rename_i l ds'
      split at h
      · rename_i hd
        split at h
        · rename_i xs e0
          split at h
          · rename_i hx
            split at h
            · rename_i v0 ys s2 e
              split at h
              · rename_i hv
                cases h
                exact ⟨l, ds', xs, ys, s2, rfl, hd, e0, hx, e, hv.1, hv.2, rfl⟩
              · cases h
            · cases h
          · cases h
        · cases h
      · cases h
    · cases h
  refine F.part (fun ds st v st' h => ?_) fun ds st v st' h => ?_
  · obtain ⟨l, ds', xs, ys, s2, rfl, hd, e0, hx, e, hv, hy, rfl⟩ := key _ _ _ _ h
    have one : ∀ i, i < ([O.lst xs] : Store).length → i = 0 := fun i hi => by simp at hi; exact hi
    have rl : ∀ {zs : List D}, D.flats zs = true → O.ren (fun _ => l) (.lst zs) = .lst zs := fun {zs} hz => by
      show O.lst (D.rens _ zs) = _
      rw [D.flats_ren hz]
    refine ⟨[.lst xs], fun _ => l, .loc 0 :: ds', v, .lst ys :: s2, e, ?_, ?_, ⟨fun i j hi hj _ => by rw [one i hi, one j hj], fun i o eo => ?_, fun i o hi eo => ?_, fun j hj => ?_, by simp, (D.flat_ren hv).symm, D.flat_under hv⟩⟩
    · simp only [D.rens, D.ren]
      rw [D.flats_ren hd]
    · simp only [D.unders, D.under, Bool.and_eq_true]
      exact ⟨by simp, D.flats_under hd⟩
    · cases i with
      | zero =>
        simp at eo
        subst eo
        exact ⟨by rw [rl hx]; exact e0, D.flats_under hx⟩
      | succ i => simp at eo
    · rw [one i hi] at eo
      simp at eo
      subst eo
      exact ⟨by rw [rl hy, List.getElem?_set_self (lt_of_get e0)], D.flats_under hy⟩
    · rw [List.getElem?_set_ne]
      exact hj 0 (by simp)
  · obtain ⟨l, ds', xs, ys, s2, rfl, hd, e0, hx, e, hv, hy, rfl⟩ := key _ _ _ _ h
    have z := F.len _ _ _ _ e
    simpa using z
end

/-! ### what repr tells -/
mutual
def D.dat : D → PyData
  | .non => .none
  | .bl b => .bool b
  | .int i => .int i
  | .str s => .str s
  | .tup xs => .tuple (D.dats xs)
  | .loc _ => .none
def D.dats : List D → List PyData
  | [] => []
  | x :: xs => D.dat x :: D.dats xs
end
mutual
theorem pdW_flat {f : Nat → Option (List PyData)} : ∀ {d : D}, d.flat = true → pdW f d = some d.dat
  | .non, _ => rfl
  | .bl _, _ => rfl
  | .int _, _ => rfl
  | .str _, _ => rfl
  | .tup xs, h => by
    simp only [pdW, D.dat]
    rw [pdWs_flat (by simpa [D.flat] using h)]
    rfl
  | .loc l, h => by simp [D.flat] at h
theorem pdWs_flat {f : Nat → Option (List PyData)} : ∀ {ds : List D}, D.flats ds = true → pdWs f ds = some (D.dats ds)
  | [], _ => rfl
  | x :: xs, h => by
    have h' : D.flat x = true ∧ D.flats xs = true := by simpa [D.flats] using h
    simp only [pdWs, D.dats]
    rw [pdW_flat h'.1, pdWs_flat h'.2]
    rfl
end
/-- a value that == and repr go through: how deep, how long -/
structure Rp (n c : Nat) (p : PyData) : Prop where
  sh : p.showable = true
  lay : p.canLay0 = true
  dep : p.depth ≤ n
  len : p.shown.length ≤ c
structure Rps (n c : Nat) (ps : List PyData) : Prop where
  sh : PyData.showableAll ps = true
  lay : PyData.canLayAll0 ps = true
  dep : PyData.depthAll ps ≤ n
  len : piled (PyData.shownAll ps) ≤ c
theorem Rps.nil {n c : Nat} : Rps n c [] := ⟨rfl, rfl, Nat.zero_le _, Nat.zero_le _⟩
theorem Rps.cons {n c1 c2 c : Nat} {p : PyData} {ps : List PyData} (h : Rp n c1 p) (hs : Rps n c2 ps) (hc : c1 + 2 + c2 ≤ c := by decide) : Rps n c (p :: ps) :=
  ⟨by simp only [PyData.showableAll, Bool.and_eq_true]; exact ⟨h.sh, hs.sh⟩, by simp only [PyData.canLayAll0, Bool.and_eq_true]; exact ⟨h.lay, hs.lay⟩,
    by simp only [PyData.depthAll]; exact Nat.max_le.mpr ⟨h.dep, hs.dep⟩, by
    have := h.len
    have := hs.len
    simp only [PyData.shownAll]
    rw [piled_cons]
    omega⟩
theorem Rp.shaped {n c : Nat} {p : PyData} (h : Rp n c p) (hn : n ≤ 64) : SeqAt.shaped p = true := by
  unfold SeqAt.shaped
  rw [h.lay, Bool.true_and]
  exact decide_eq_true (Nat.le_trans h.dep hn)
theorem Rp.mono {n m c d : Nat} {p : PyData} (h : Rp n c p) (hn : n ≤ m := by decide) (hc : c ≤ d := by decide) : Rp m d p := ⟨h.sh, h.lay, Nat.le_trans h.dep hn, Nat.le_trans h.len hc⟩
theorem piled_sum (ts : List Str) : piled ts = (ts.map (·.length)).sum + 2 * ts.length := by
  induction ts with
  | nil => rfl
  | cons t ts ih => rw [piled_cons, ih, List.map_cons, List.sum_cons, List.length_cons]; omega
theorem Rps.lst {n c m d : Nat} {ps : List PyData} (h : Rps n c ps) (hn : n + 1 ≤ m := by decide) (hc : c + 3 ≤ d := by decide) : Rp m d (.list ps) :=
  ⟨by simp only [PyData.showable]; exact h.sh, by simp only [PyData.canLay0]; exact h.lay, by simp only [PyData.depth]; have := h.dep; omega, by
    have q := listText_len_le (PyData.shownAll ps)
    have := h.len
    rw [← piled_sum] at q
    simp only [PyData.shown]
    omega⟩
theorem Rps.tup {n c m d : Nat} {ps : List PyData} (h : Rps n c ps) (hn : n + 1 ≤ m := by decide) (hc : c + 3 ≤ d := by decide) : Rp m d (.tuple ps) :=
  ⟨by simp only [PyData.showable]; exact h.sh, by simp only [PyData.canLay0]; exact h.lay, by simp only [PyData.depth]; have := h.dep; omega, by
    have q := tupleText_len_le (PyData.shownAll ps)
    have := h.len
    rw [← piled_sum] at q
    simp only [PyData.shown]
    omega⟩
theorem Rp.non {n c : Nat} (hc : 4 ≤ c := by decide) : Rp n c .none := ⟨rfl, rfl, Nat.zero_le _, Nat.le_trans (by decide +kernel) hc⟩
theorem Rp.bl {n c : Nat} {b : Bool} (hc : 5 ≤ c := by decide) : Rp n c (.bool b) := ⟨rfl, rfl, Nat.zero_le _, Nat.le_trans (by cases b <;> decide +kernel) hc⟩
theorem Rps.nil' {n : Nat} : Rps n 0 [] := .nil
theorem Rps.cons' {n c1 c2 : Nat} {p : PyData} {ps : List PyData} (h : Rp n c1 p) (hs : Rps n c2 ps) : Rps n (c1 + 2 + c2) (p :: ps) := Rps.cons h hs (Nat.le_refl _)
theorem Rps.lst' {n c : Nat} {ps : List PyData} (h : Rps n c ps) : Rp (n + 1) (c + 3) (.list ps) := h.lst (Nat.le_refl _) (Nat.le_refl _)
theorem Rps.tup' {n c : Nat} {ps : List PyData} (h : Rps n c ps) : Rp (n + 1) (c + 3) (.tuple ps) := h.tup (Nat.le_refl _) (Nat.le_refl _)
theorem Rp.non' {n : Nat} : Rp n 4 .none := Rp.non
theorem Rp.bl' {n : Nat} {b : Bool} : Rp n 5 (.bool b) := Rp.bl
theorem Rp.str' {n : Nat} {z : Str} (h : (PyData.strOk z && decide ((reprText z).length ≤ 40)) = true := by decide +kernel) : Rp n 40 (.str z) := by
  rw [Bool.and_eq_true] at h
  exact ⟨rfl, h.1, Nat.zero_le _, of_decide_eq_true h.2⟩
theorem Rp.int' {n : Nat} {i : Int} (h : (decide (i.natAbs.log2 < 1920) && decide ((PyData.shown (.int i)).length ≤ 20)) = true := by decide +kernel) : Rp n 20 (.int i) := by
  rw [Bool.and_eq_true] at h
  exact ⟨by simpa [PyData.showable] using h.1, rfl, Nat.zero_le _, of_decide_eq_true h.2⟩
theorem reprP_ok' {c : Nat} {p : PyData} {st : Store} (h : Rp 12 c p) (hc : c ≤ 16777216) : reprP (some p) st = .ok (.str p.shown) st := by
  have hz : sizeLine = 16777216 := by decide
  exact if_pos ⟨h.sh, h.shaped (by decide), Nat.le_trans h.len (by rw [hz]; exact hc)⟩
theorem reprP_ok {n c : Nat} {p : PyData} {st : Store} (h : Rp n c p) (hn : n ≤ 64 := by decide) (hc : c ≤ 16777216 := by decide) : reprP (some p) st = .ok (.str p.shown) st := by
  have hz : sizeLine = 16777216 := by decide
  exact if_pos ⟨h.sh, h.shaped hn, Nat.le_trans h.len (by rw [hz]; exact hc)⟩
/-- a comprehension whose items change nothing -/
theorem compF_map {gf : Gf} {tf : Tf} {ef : Ef} {env : EEnv} {st : Store} (f : D → D) : ∀ (ds : List D), (∀ d ∈ ds, ∃ e, gf d env st = .ok e st ∧ tf e st = .ok true st ∧ ef e st = .ok (f d) st) → compF [] gf tf ef env ds st = .ok (ds.map f) st
  | [], _ => rfl
  | d :: ds, h => by
    obtain ⟨e, h1, h2, h3⟩ := h d (List.mem_cons_self ..)
    unfold compF
    rw [if_pos (wOk_nil st), h1, R.bind_ok, h2, R.bind_ok, if_pos rfl, h3, R.bind_ok, compF_map f ds (fun d' m => h d' (List.mem_cons_of_mem _ m)), R.bind_ok]
    rfl
theorem R.bind_congr {A B : Type} {r r' : R A} {f : A → Store → R B} (h : r = r') : r.bind f = r'.bind f := by rw [h]
theorem sR_congr {A : Type} {r r' : R A} {f : A → Store → RS} (h : r = r') : sR r f = sR r' f := by rw [h]
@[simp] theorem sR_ok' {A : Type} {a : A} {s : Store} {f : A → Store → RS} : sR (.ok a s) f = f a s := rfl
theorem RS.then_congr {r r' : RS} {f : Sf} (h : r = r') : r.then f = r'.then f := by rw [h]
@[simp] theorem RS.then_nx {e : EEnv} {s : Store} {f : Sf} : (RS.nx e s).then f = f e s := rfl
@[simp] theorem RS.then_rt {d : D} {s : Store} {f : Sf} : (RS.rt d s).then f = .rt d s := rfl
@[simp] theorem RS.then_bk {e : EEnv} {s : Store} {f : Sf} : (RS.bk e s).then f = .bk e s := rfl
@[simp] theorem RS.then_ct {e : EEnv} {s : Store} {f : Sf} : (RS.ct e s).then f = .ct e s := rfl
theorem RS.loop_congr {r r' : RS} {f : Sf} (h : r = r') : r.loop f = r'.loop f := by rw [h]
@[simp] theorem RS.loop_nx {e : EEnv} {s : Store} {f : Sf} : (RS.nx e s).loop f = f e s := rfl
@[simp] theorem RS.loop_ct {e : EEnv} {s : Store} {f : Sf} : (RS.ct e s).loop f = f e s := rfl
@[simp] theorem RS.loop_bk {e : EEnv} {s : Store} {f : Sf} : (RS.bk e s).loop f = .nx e s := rfl
@[simp] theorem RS.loop_rt {d : D} {s : Store} {f : Sf} : (RS.rt d s).loop f = .rt d s := rfl
end Ev

/-! Ev11: how simp reckons: each word's equation, what comes behind it a word of its own (so nothing is looked at ahead of its time). -/
namespace Ev
open PySem L2
open PyProof.Rows hiding St
theorem toNat_inj {a b : Char} (h : a.toNat = b.toNat) : a = b := Char.ext (UInt32.toNat_inj.mp h)
theorem ofStr_list : ∀ {a b : List Char}, a.map Char.toNat = b.map Char.toNat → a = b
  | [], [], _ => rfl
  | [], _ :: _, h => by cases h
  | _ :: _, [], h => by cases h
  | x :: xs, y :: ys, h => by
    rw [List.map_cons, List.map_cons] at h
    injection h with h1 h2
    rw [toNat_inj h1, ofStr_list h2]
@[simp] theorem ofStr_inj {a b : String} : (Str.ofString a = Str.ofString b) = (a = b) := by
  apply propext
  constructor
  · intro h
    rw [Str.ofString_eq_toList, Str.ofString_eq_toList] at h
    injection h with h
    have h2 := congrArg Array.toList h
    simp only at h2
    exact String.toList_inj.mp (ofStr_list h2)
  · intro h
    rw [h]
@[simp] theorem ofStr_beq {a b : String} : (Str.ofString a == Str.ofString b) = decide (a = b) := by
  rw [show (Str.ofString a == Str.ofString b) = decide (Str.ofString a = Str.ofString b) from rfl]
  simp
theorem szL : sizeLine = 16777216 := by decide
section
variable {env : EEnv} {st s s1 : Store} {f fa fb fc fo h : Ef} {t u : Af} {p q : Tf} {d x y : D} {ds xs ys : List D} {l i j n : Nat} {k m : Int} {b neg : Bool} {F : F2} {G : F2} {FM' : F2M} {mf : Mf}
-- names, constants
def okV (o : Option (Option D)) (s : Store) : R D := match o with | some (some d) => .ok d s | _ => .bad
@[simp] theorem ev_eVar : eVar i env st = okV (env[i]?) st := rfl
@[simp] theorem ev_okV : okV (some (some d)) st = .ok d st := rfl
@[simp] theorem ev_eC : eC d env st = .ok d st := rfl
-- two operands
def kBin (F : F2) (fb : Ef) (env : EEnv) (x : D) (s : Store) : R D := (fb env s).bind (F x)
@[simp] theorem ev_eBin : eBin F fa fb env st = (fa env st).bind (kBin F fb env) := rfl
@[simp] theorem ev_kBin : kBin F fb env x s = (fb env s).bind (F x) := rfl
def kMBin (F : F2M) (fb : Ef) (env : EEnv) (x : D) (s : Store) : R Mv := (fb env s).bind (F x)
@[simp] theorem ev_mBin : mBin FM' fa fb env st = (fa env st).bind (kMBin FM' fb env) := rfl
@[simp] theorem ev_kMBin : kMBin FM' fb env x s = (fb env s).bind (FM' x) := rfl
@[simp] theorem ev_sub : subF (.int k) (.int m) st = .ok (.int (k - m)) st := rfl
@[simp] theorem ev_mod : modF (.int k) (.int m) st = if 0 < m then .ok (.int (k % m)) st else .bad := by simp [modF, iF]
@[simp] theorem ev_fdiv : fdivF (.int k) (.int m) st = if 0 < m ∧ m < 1073741824 then .ok (.int (k / m)) st else .bad := by simp [fdivF, iF]
@[simp] theorem ev_shl : shlF (.int k) (.int m) st = if (0 ≤ m ∧ m ≤ 1000000) ∧ k.natAbs < 2 ^ 64 then .ok (.int (k * 2 ^ m.toNat)) st else .bad := by simp [shlF, iF]
@[simp] theorem ev_shr : shrF (.int k) (.int m) st = if 0 ≤ m then .ok (.int (k / 2 ^ m.toNat)) st else .bad := by simp [shrF, iF]
theorem ev_pow : powF (.int k) (.int m) st = if powOk k m = true then .ok (.int (k ^ m.toNat)) st else .bad := rfl
@[simp] theorem ev_lt : ltF (.int k) (.int m) st = .ok (.bl (decide (k < m))) st := rfl
@[simp] theorem ev_le : leF (.int k) (.int m) st = .ok (.bl (decide (k ≤ m))) st := rfl
@[simp] theorem ev_gt : gtF (.int k) (.int m) st = .ok (.bl (decide (m < k))) st := rfl
@[simp] theorem ev_ge : geF (.int k) (.int m) st = .ok (.bl (decide (m ≤ k))) st := rfl
@[simp] theorem ev_addI : addM (.int k) (.int m) st = .ok (.v (.int (k + m))) st := rfl
@[simp] theorem ev_addT : addM (.tup xs) (.tup ys) st = if xs.length + ys.length ≤ sizeLine then .ok (.v (.tup (xs ++ ys))) st else .bad := rfl
@[simp] theorem ev_mulI : mulM (.int k) (.int m) st = if mulOk k m = true then .ok (.v (.int (k * m))) st else .bad := rfl
def kMd (m : Mv) (s : Store) : R D := match m with | .v d => .ok d s | .l xs => .ok (.loc s.length) (s ++ [.lst xs])
@[simp] theorem ev_eM : eM mf env st = (mf env st).bind kMd := rfl
@[simp] theorem ev_kMdV : kMd (.v d) s = .ok d s := rfl
@[simp] theorem ev_kMdL : kMd (.l xs) s = .ok (.loc s.length) (s ++ [.lst xs]) := rfl
def kQ (d : D) (s : Store) : R (List D) := toQ (.ok d s)
def qGet (o : Option O) (s : Store) : R (List D) := match o with | some (.lst xs) => .ok xs s | some (.ro ns) => .ok (ns.map .int) s | _ => .bad
@[simp] theorem ev_qOf : qOf f env st = (f env st).bind kQ := by unfold qOf toQ; rfl
@[simp] theorem ev_kQT : kQ (.tup xs) s = .ok xs s := rfl
@[simp] theorem ev_kQL : kQ (.loc l) s = qGet (s[l]?) s := rfl
@[simp] theorem ev_qGetL : qGet (some (.lst xs)) s = .ok xs s := rfl
@[simp] theorem ev_qGetR {ns : List Int} : qGet (some (.ro ns)) s = .ok (ns.map .int) s := rfl
def kL (d : D) (s : Store) : R (List D) := toL (.ok d s)
@[simp] theorem ev_lOf : lOf f env st = (f env st).bind kL := by unfold lOf toL; rfl
@[simp] theorem ev_kLL : kL (.loc l) s = qGet (s[l]?) s := rfl
def xGet (o : Option O) (s : Store) : R (List D) := match o with | some (.lst xs) => .ok xs s | _ => .bad
def kX (d : D) (s : Store) : R (List D) := toX (.ok d s)
@[simp] theorem ev_xOf : xOf f env st = (f env st).bind kX := by unfold xOf toX; rfl
@[simp] theorem ev_kXL : kX (.loc l) s = xGet (s[l]?) s := rfl
@[simp] theorem ev_xGet : xGet (some (.lst xs)) s = .ok xs s := rfl
def kMq (m : Mv) (s : Store) : R (List D) := match m with | .v d => kQ d s | .l xs => .ok xs s
@[simp] theorem ev_qM : qM mf env st = (mf env st).bind kMq := rfl
@[simp] theorem ev_kMqV : kMq (.v d) s = kQ d s := rfl
@[simp] theorem ev_kMqL : kMq (.l xs) s = .ok xs s := rfl
def kMl (m : Mv) (s : Store) : R (List D) := match m with | .v d => kL d s | .l xs => .ok xs s
@[simp] theorem ev_lM : lM mf env st = (mf env st).bind kMl := rfl
@[simp] theorem ev_kMlV : kMl (.v d) s = kL d s := rfl
@[simp] theorem ev_kMlL : kMl (.l xs) s = .ok xs s := rfl
def kMx (m : Mv) (s : Store) : R (List D) := match m with | .v d => kX d s | .l xs => .ok xs s
@[simp] theorem ev_xM : xM mf env st = (mf env st).bind kMx := rfl
@[simp] theorem ev_kMxV : kMx (.v d) s = kX d s := rfl
@[simp] theorem ev_kMxL : kMx (.l xs) s = .ok xs s := rfl
-- truth
def kB (d : D) (s : Store) : R Bool := match d with | .bl b => .ok b s | _ => .bad
@[simp] theorem ev_toB {r : R D} : toB r = r.bind kB := rfl
@[simp] theorem ev_kB : kB (.bl b) s = .ok b s := rfl
@[simp] theorem ev_tfB : tfB f env st = (f env st).bind kB := rfl
def kAnd (q : Tf) (env : EEnv) (b : Bool) (s : Store) : R Bool := if b = true then q env s else .ok false s
@[simp] theorem ev_tfAnd : tfAnd p q env st = (p env st).bind (kAnd q env) := rfl
@[simp] theorem ev_kAndT : kAnd q env true s = q env s := rfl
@[simp] theorem ev_kAndF : kAnd q env false s = .ok false s := rfl
def kOr (q : Tf) (env : EEnv) (b : Bool) (s : Store) : R Bool := if b = true then .ok true s else q env s
@[simp] theorem ev_tfOr : tfOr p q env st = (p env st).bind (kOr q env) := rfl
@[simp] theorem ev_kOrT : kOr q env true s = .ok true s := rfl
@[simp] theorem ev_kOrF : kOr q env false s = q env s := rfl
def kNot (b : Bool) (s : Store) : R Bool := .ok (!b) s
@[simp] theorem ev_tfNot : tfNot p env st = (p env st).bind kNot := rfl
@[simp] theorem ev_kNot : kNot b s = .ok (!b) s := rfl
@[simp] theorem ev_tfYes : tfYes env st = .ok true st := rfl
def keAnd (h : Ef) (env : EEnv) (b : Bool) (s : Store) : R D := if b = true then h env s else .ok (.bl false) s
@[simp] theorem ev_eAnd : eAnd f h env st = ((f env st).bind kB).bind (keAnd h env) := rfl
@[simp] theorem ev_keAndT : keAnd h env true s = h env s := rfl
@[simp] theorem ev_keAndF : keAnd h env false s = .ok (.bl false) s := rfl
def keOr (h : Ef) (env : EEnv) (b : Bool) (s : Store) : R D := if b = true then .ok (.bl true) s else h env s
@[simp] theorem ev_eOr : eOr f h env st = ((f env st).bind kB).bind (keOr h env) := rfl
@[simp] theorem ev_keOrT : keOr h env true s = .ok (.bl true) s := rfl
@[simp] theorem ev_keOrF : keOr h env false s = h env s := rfl
def keNot (b : Bool) (s : Store) : R D := .ok (.bl (!b)) s
@[simp] theorem ev_eNot : eNot f env st = ((f env st).bind kB).bind keNot := rfl
@[simp] theorem ev_keNot : keNot b s = .ok (.bl (!b)) s := rfl
def kIf (f h : Ef) (env : EEnv) (b : Bool) (s : Store) : R D := if b = true then f env s else h env s
@[simp] theorem ev_eIf : eIf p f h env st = (p env st).bind (kIf f h env) := rfl
@[simp] theorem ev_kIfT : kIf f h env true s = f env s := rfl
@[simp] theorem ev_kIfF : kIf f h env false s = h env s := rfl
def kNeg (d : D) (s : Store) : R D := match d with | .int i => .ok (.int (-i)) s | _ => .bad
@[simp] theorem ev_eNeg : eNeg f env st = (f env st).bind kNeg := rfl
@[simp] theorem ev_kNeg : kNeg (.int k) s = .ok (.int (-k)) s := rfl
def kCh (G : F2) (y : D) (fc : Ef) (env : EEnv) (b : Bool) (s : Store) : R D := if b = true then (fc env s).bind (G y) else .ok (.bl false) s
def kCh2 (F G : F2) (fc : Ef) (env : EEnv) (x y : D) (s : Store) : R D := ((F x y s).bind kB).bind (kCh G y fc env)
def kCh1 (F G : F2) (fb fc : Ef) (env : EEnv) (x : D) (s : Store) : R D := (fb env s).bind (kCh2 F G fc env x)
@[simp] theorem ev_eChain : eChain F G fa fb fc env st = (fa env st).bind (kCh1 F G fb fc env) := rfl
@[simp] theorem ev_kCh1 : kCh1 F G fb fc env x s = (fb env s).bind (kCh2 F G fc env x) := rfl
@[simp] theorem ev_kCh2 : kCh2 F G fc env x y s = ((F x y s).bind kB).bind (kCh G y fc env) := rfl
@[simp] theorem ev_kChT : kCh G y fc env true s = (fc env s).bind (G y) := rfl
@[simp] theorem ev_kChF : kCh G y fc env false s = .ok (.bl false) s := rfl
def kIsN (d : D) (s : Store) : R D := .ok (.bl (isNF d)) s
def kNotN (d : D) (s : Store) : R D := .ok (.bl (!isNF d)) s
@[simp] theorem ev_eIsN : eIsN f env st = (f env st).bind kIsN := rfl
@[simp] theorem ev_eNotN : eNotN f env st = (f env st).bind kNotN := rfl
@[simp] theorem ev_kIsN : kIsN d s = .ok (.bl (isNF d)) s := rfl
@[simp] theorem ev_kNotN : kNotN d s = .ok (.bl (!isNF d)) s := rfl
@[simp] theorem isNF_non : isNF .non = true := rfl
@[simp] theorem isNF_int : isNF (.int k) = false := rfl
@[simp] theorem isNF_bl : isNF (.bl b) = false := rfl
@[simp] theorem isNF_str {z : Str} : isNF (.str z) = false := rfl
@[simp] theorem isNF_tup : isNF (.tup xs) = false := rfl
@[simp] theorem isNF_loc : isNF (.loc l) = false := rfl
@[simp] theorem ev_isB : isBF neg (.bl b) (.bl true) s = .ok (.bl (if neg then !b else b)) s := by cases b <;> cases neg <;> rfl
@[simp] theorem ev_isB' : isBF neg (.bl b) (.bl false) s = .ok (.bl (if neg then b else !b)) s := by cases b <;> cases neg <;> rfl
def kInQ (neg : Bool) (x : D) (xs : List D) (s : Store) : R D := inQ neg x xs s
def kIn (neg : Bool) (t : Af) (env : EEnv) (x : D) (s : Store) : R D := (t env s).bind (inQ neg x)
@[simp] theorem ev_eIn : eIn neg f t env st = (f env st).bind (kIn neg t env) := rfl
@[simp] theorem ev_kIn : kIn neg t env x s = (t env s).bind (inQ neg x) := rfl
@[simp] theorem ev_inQF : inQ false x xs s = if flatD x = true ∧ xs.all flatD = true then .ok (.bl (xs.any fun d => eqD d x)) s else .bad := by simp [inQ]
@[simp] theorem ev_inQT : inQ true x xs s = if flatD x = true ∧ xs.all flatD = true then .ok (.bl (!xs.any fun d => eqD d x)) s else .bad := by simp [inQ]
@[simp] theorem flatD_non : flatD .non = true := rfl
@[simp] theorem flatD_int : flatD (.int k) = true := rfl
@[simp] theorem flatD_bl : flatD (.bl b) = true := rfl
@[simp] theorem flatD_str {z : Str} : flatD (.str z) = true := rfl
@[simp] theorem eqD_nn : eqD .non .non = true := rfl
@[simp] theorem eqD_ii : eqD (.int k) (.int m) = (k == m) := rfl
@[simp] theorem eqD_ni : eqD .non (.int m) = false := rfl
@[simp] theorem eqD_in : eqD (.int m) .non = false := rfl
@[simp] theorem eqD_ss {z w : Str} : eqD (.str z) (.str w) = (z == w) := rfl
-- arguments, tuples, lists
@[simp] theorem ev_aNil : aNil env st = .ok [] st := rfl
def kCons2 (x : D) (xs : List D) (s : Store) : R (List D) := .ok (x :: xs) s
def kCons (t : Af) (env : EEnv) (x : D) (s : Store) : R (List D) := (t env s).bind (kCons2 x)
@[simp] theorem ev_aCons : aCons f t env st = (f env st).bind (kCons t env) := rfl
@[simp] theorem ev_kCons : kCons t env x s = (t env s).bind (kCons2 x) := rfl
@[simp] theorem ev_kCons2 : kCons2 x xs s = .ok (x :: xs) s := rfl
def kStar2 (x xs : List D) (s : Store) : R (List D) := .ok (x ++ xs) s
def kStar (t : Af) (env : EEnv) (x : List D) (s : Store) : R (List D) := (t env s).bind (kStar2 x)
@[simp] theorem ev_aStar : aStar u t env st = (u env st).bind (kStar t env) := rfl
@[simp] theorem ev_kStar : kStar t env xs s = (t env s).bind (kStar2 xs) := rfl
@[simp] theorem ev_kStar2 : kStar2 xs ys s = .ok (xs ++ ys) s := rfl
def kTup (xs : List D) (s : Store) : R D := if xs.length ≤ sizeLine then .ok (.tup xs) s else .bad
@[simp] theorem ev_eTup : eTup t env st = (t env st).bind kTup := rfl
@[simp] theorem ev_kTup : kTup xs s = if xs.length ≤ sizeLine then .ok (.tup xs) s else .bad := rfl
def kLst (xs : List D) (s : Store) : R (List D) := if xs.length ≤ sizeLine then .ok xs s else .bad
@[simp] theorem ev_nLst : nLst t env st = (t env st).bind kLst := rfl
@[simp] theorem ev_kLst : kLst xs s = if xs.length ≤ sizeLine then .ok xs s else .bad := rfl
def kNew (xs : List D) (s : Store) : R D := .ok (.loc s.length) (s ++ [.lst xs])
@[simp] theorem ev_eNew : eNew t env st = (t env st).bind kNew := rfl
@[simp] theorem ev_kNew : kNew xs s = .ok (.loc s.length) (s ++ [.lst xs]) := rfl
-- fields, items, slices
def iGet (o : Option O) (i : Nat) (s : Store) : R D := match o with | some (.ins _ fs) => okO (fget fs i) s | _ => .bad
@[simp] theorem ev_eFld : eFld i f env st = (f env st).bind (fldF i) := rfl
@[simp] theorem ev_fldF : fldF i (.loc l) s = iGet (s[l]?) i s := by
  unfold fldF iGet okO
  rfl
@[simp] theorem ev_iGet {c : Nat} {fs : List (Nat × D)} : iGet (some (.ins c fs)) i s = okO (fget fs i) s := rfl
@[simp] theorem ev_okO : okO (some d) s = .ok d s := rfl
@[simp] theorem fget_cons {fs : List (Nat × D)} : fget ((j, d) :: fs) i = if j = i then some d else fget fs i := rfl
@[simp] theorem fput_nil : fput i d [] = [(i, d)] := rfl
@[simp] theorem fput_cons {fs : List (Nat × D)} : fput i d ((j, x) :: fs) = if j = i then (j, d) :: fs else (j, x) :: fput i d fs := rfl
def xGetI (o : Option O) (k : Int) (s : Store) : R D := match o with | some (.lst xs) => okO (atI xs k) s | some (.ro ns) => okO (atI (ns.map D.int) k) s | _ => .bad
@[simp] theorem ev_ixT : ixF (.tup xs) (.int k) s = okO (atI xs k) s := rfl
@[simp] theorem ev_ixL : ixF (.loc l) (.int k) s = xGetI (s[l]?) k s := rfl
@[simp] theorem ev_xGetI : xGetI (some (.lst xs)) k s = okO (atI xs k) s := rfl
@[simp] theorem ev_xGetR {ns : List Int} : xGetI (some (.ro ns)) k s = okO (atI (ns.map D.int) k) s := rfl
def kSl3 (d : D) (lo hi : Option Int) (s : Store) : R Mv := slF d lo hi s
def kSl2 (fh : Of) (env : EEnv) (d : D) (lo : Option Int) (s : Store) : R Mv := (fh env s).bind (slF d lo)
def kSl1 (fl fh : Of) (env : EEnv) (d : D) (s : Store) : R Mv := (fl env s).bind (kSl2 fh env d)
variable {fl fh : Of} {lo hi : Option Int}
@[simp] theorem ev_mSl : mSl f fl fh env st = (f env st).bind (kSl1 fl fh env) := rfl
@[simp] theorem ev_kSl1 : kSl1 fl fh env d s = (fl env s).bind (kSl2 fh env d) := rfl
@[simp] theorem ev_kSl2 : kSl2 fh env d lo s = (fh env s).bind (slF d lo) := rfl
@[simp] theorem ev_oNo : oNo env st = .ok none st := rfl
def kSo (d : D) (s : Store) : R (Option Int) := match d with | .int i => .ok (some i) s | _ => .bad
@[simp] theorem ev_oSo : oSo f env st = (f env st).bind kSo := rfl
@[simp] theorem ev_kSo : kSo (.int k) s = .ok (some k) s := rfl
def slGet (o : Option O) (lo hi : Option Int) (s : Store) : R Mv := match o with | some (.lst xs) => .ok (.l (cutD xs lo hi)) s | some (.ro ns) => .ok (.l (cutD (ns.map D.int) lo hi)) s | _ => .bad
@[simp] theorem ev_slT : slF (.tup xs) lo hi s = .ok (.v (.tup (cutD xs lo hi))) s := rfl
@[simp] theorem ev_slL : slF (.loc l) lo hi s = slGet (s[l]?) lo hi s := rfl
@[simp] theorem ev_slGet : slGet (some (.lst xs)) lo hi s = .ok (.l (cutD xs lo hi)) s := rfl
@[simp] theorem ev_slGetR {ns : List Int} : slGet (some (.ro ns)) lo hi s = .ok (.l (cutD (ns.map D.int) lo hi)) s := rfl
-- built-in functions
@[simp] theorem ev_eCall {F : FA} : eCall F t env st = (t env st).bind F := rfl
@[simp] theorem ev_lenQ : lenQ xs s = .ok (.int xs.length) s := rfl
@[simp] theorem ev_lenT : lenF [.tup xs] s = .ok (.int xs.length) s := rfl
@[simp] theorem ev_lenL : lenF [.loc l] s = (qGet (s[l]?) s).bind lenQ := rfl
@[simp] theorem ev_tupQ : tupQ xs s = .ok (.tup xs) s := rfl
@[simp] theorem ev_abs : absF [.int k] s = .ok (.int (if k < 0 then -k else k)) s := rfl
@[simp] theorem ev_int : intF [.int k] s = .ok (.int k) s := rfl
@[simp] theorem ev_intB : intF [.bl b] s = .ok (.int (if b then 1 else 0)) s := rfl
@[simp] theorem ev_max2 : max2F [.int k, .int m] s = .ok (.int (if m > k then m else k)) s := rfl
@[simp] theorem ev_min2 : min2F [.int k, .int m] s = .ok (.int (if m < k then m else k)) s := rfl
@[simp] theorem ev_repr : reprF [d] s = reprP (pd s d) s := rfl
@[simp] theorem ev_reprQ : reprQ xs s = reprP ((pdWs (pdN s 3) xs).map .list) s := rfl
def kR1 (d : D) (s : Store) : R (List D) := match d with | .int j => rgF 0 j s | _ => .bad
@[simp] theorem ev_nRange1 : nRange1 f env st = (f env st).bind kR1 := rfl
@[simp] theorem ev_kR1 : kR1 (.int k) s = rgF 0 k s := rfl
@[simp] theorem ev_eIsi {T : String} : eIsi T f env st = (f env st).bind (isiF T) := rfl
-- walks
def kI (xs : List D) (s : Store) : R Src := .ok ⟨xs, []⟩ s
@[simp] theorem ev_iNew : iNew t env st = (t env st).bind kI := rfl
@[simp] theorem ev_kI : kI xs s = .ok ⟨xs, []⟩ s := rfl
def sGet (o : Option O) (l : Nat) (s : Store) : R Src := match o with | some (.lst xs) => .ok ⟨xs, [(l, xs)]⟩ s | some (.ro ns) => .ok ⟨ns.map .int, [(l, ns.map .int)]⟩ s | _ => .bad
@[simp] theorem ev_iVal : iVal f env st = (f env st).bind srcV := rfl
@[simp] theorem ev_srcVT : srcV (.tup xs) s = .ok ⟨xs, []⟩ s := rfl
@[simp] theorem ev_srcVL : srcV (.loc l) s = sGet (s[l]?) l s := rfl
@[simp] theorem ev_sGet : sGet (some (.lst xs)) l s = .ok ⟨xs, [(l, xs)]⟩ s := rfl
@[simp] theorem ev_wVal : wVal f env st = (f env st).bind srcL := rfl
@[simp] theorem ev_srcLL : srcL (.loc l) s = sGet (s[l]?) l s := rfl
def kMi (m : Mv) (s : Store) : R Src := match m with | .v d => srcV d s | .l xs => .ok ⟨xs, []⟩ s
@[simp] theorem ev_iM : iM mf env st = (mf env st).bind kMi := rfl
@[simp] theorem ev_kMiV : kMi (.v d) s = srcV d s := rfl
@[simp] theorem ev_kMiL : kMi (.l xs) s = .ok ⟨xs, []⟩ s := rfl
def kMw (m : Mv) (s : Store) : R Src := match m with | .v d => srcL d s | .l xs => .ok ⟨xs, []⟩ s
@[simp] theorem ev_wM : wM mf env st = (mf env st).bind kMw := rfl
@[simp] theorem ev_kMwL : kMw (.l xs) s = .ok ⟨xs, []⟩ s := rfl
def kRg1 (d : D) (s : Store) : R Src := match d with | .int j => if rgOk j = true then .ok ⟨intD 0 j.toNat, []⟩ s else .bad | _ => .bad
@[simp] theorem ev_iRange1 : iRange1 f env st = (f env st).bind kRg1 := rfl
@[simp] theorem ev_kRg1 : kRg1 (.int k) s = if rgOk k = true then .ok ⟨intD 0 k.toNat, []⟩ s else .bad := rfl
def kRg22 (d d2 : D) (s : Store) : R Src := match d, d2 with | .int i, .int j => if rgOk i = true ∧ rgOk j = true then .ok ⟨intD i (j - i).toNat, []⟩ s else .bad | _, _ => .bad
def kRg2 (h : Ef) (env : EEnv) (d : D) (s : Store) : R Src := (h env s).bind (kRg22 d)
@[simp] theorem ev_iRange2 : iRange2 f h env st = (f env st).bind (kRg2 h env) := rfl
@[simp] theorem ev_kRg2 : kRg2 h env d s = (h env s).bind (kRg22 d) := rfl
@[simp] theorem ev_kRg22 : kRg22 (.int k) (.int m) s = if rgOk k = true ∧ rgOk m = true then .ok ⟨intD k (m - k).toNat, []⟩ s else .bad := rfl
def kEn (z : Src) (s : Store) : R Src := .ok (srcEnum z) s
variable {fi : If} {ws : Wt} {gf : Gf} {hf : Gfs} {tf : Tf} {ef : Ef} {vs : List Nat}
@[simp] theorem ev_iEnum : iEnum fi env st = (fi env st).bind kEn := rfl
@[simp] theorem ev_kEn {z : Src} : kEn z s = .ok ⟨enumD 0 z.items, z.ws⟩ s := rfl
-- targets
@[simp] theorem ev_gN : gN i d env st = .ok (env.set i (some d)) st := rfl
@[simp] theorem ev_gsNil : gsNil [] env st = .ok env st := rfl
def kGs (hf : Gfs) (ds : List D) (e : EEnv) (s : Store) : R EEnv := hf ds e s
@[simp] theorem ev_gsCons : gsCons gf hf (d :: ds) env st = (gf d env st).bind (kGs hf ds) := rfl
@[simp] theorem ev_kGs : kGs hf ds env s = hf ds env s := rfl
@[simp] theorem ev_gT : gT n hf (.tup ds) env st = if ds.length = n then hf ds env st else .bad := rfl
def kG3 (env : EEnv) (u : Unit) (s : Store) : R EEnv := .ok env s
def kG2 (o d : D) (env : EEnv) (i : D) (s : Store) : R EEnv := (setL o i d s).bind (kG3 env)
def kG1 (fi : Ef) (d : D) (env : EEnv) (o : D) (s : Store) : R EEnv := (fi env s).bind (kG2 o d env)
@[simp] theorem ev_gS : gS fo f d env st = (fo env st).bind (kG1 f d env) := rfl
@[simp] theorem ev_kG1 : kG1 f d env x s = (f env s).bind (kG2 x d env) := rfl
@[simp] theorem ev_kG2 : kG2 x d env y s = (setL x y d s).bind (kG3 env) := rfl
@[simp] theorem ev_kG3 {v : Unit} : kG3 env v s = .ok env s := rfl
def sSet' (o : Option O) (l : Nat) (k : Int) (v : D) (s : Store) : R Unit := match o with | some (.lst xs) => (match ixN xs.length k with | some j => .ok () (s.set l (.lst (xs.set j v))) | none => .bad) | _ => .bad
def sPut (o : Option Nat) (l : Nat) (xs : List D) (v : D) (s : Store) : R Unit := match o with | some j => .ok () (s.set l (.lst (xs.set j v))) | none => .bad
@[simp] theorem ev_setL : setL (.loc l) (.int k) d s = sSet' (s[l]?) l k d s := rfl
@[simp] theorem ev_sSet' : sSet' (some (.lst xs)) l k d s = sPut (ixN xs.length k) l xs d s := rfl
@[simp] theorem ev_sPut : sPut (some j) l xs d s = .ok () (s.set l (.lst (xs.set j d))) := rfl
-- comprehensions
def kC3 (v : D) (vs : List D) (s : Store) : R (List D) := .ok (v :: vs) s
def kC2 (k : Store → R (List D)) (v : D) (s : Store) : R (List D) := (k s).bind (kC3 v)
def kC1 (k : Store → R (List D)) (ef : Ef) (e : EEnv) (b : Bool) (s : Store) : R (List D) := if b = true then (ef e s).bind (kC2 k) else k s
def kC0 (k : Store → R (List D)) (tf : Tf) (ef : Ef) (e : EEnv) (s : Store) : R (List D) := (tf e s).bind (kC1 k ef e)
@[simp] theorem ev_compN : compF ws gf tf ef env [] st = if wOk st ws = true then .ok [] st else .bad := rfl
@[simp] theorem ev_compC : compF ws gf tf ef env (d :: ds) st = if wOk st ws = true then (gf d env st).bind (kC0 (compF ws gf tf ef env ds) tf ef) else .bad := rfl
variable {kk : Store → R (List D)}
@[simp] theorem ev_kC0 : kC0 kk tf ef env s = (tf env s).bind (kC1 kk ef env) := rfl
@[simp] theorem ev_kC1T : kC1 kk ef env true s = (ef env s).bind (kC2 kk) := rfl
@[simp] theorem ev_kC1F : kC1 kk ef env false s = kk s := rfl
@[simp] theorem ev_kC2 : kC2 kk d s = (kk s).bind (kC3 d) := rfl
@[simp] theorem ev_kC3 : kC3 d xs s = .ok (d :: xs) s := rfl
def kN (vs : List Nat) (gf : Gf) (tf : Tf) (ef : Ef) (env : EEnv) (z : Src) (s : Store) : R (List D) := if z.items.length ≤ sizeLine then compF z.ws gf tf ef (wipeE env vs) z.items s else .bad
@[simp] theorem ev_nComp : nComp vs fi gf tf ef env st = (fi env st).bind (kN vs gf tf ef env) := rfl
@[simp] theorem ev_kN {z : Src} : kN vs gf tf ef env z s = if z.items.length ≤ sizeLine then compF z.ws gf tf ef (wipeE env vs) z.items s else .bad := rfl
@[simp] theorem ev_wN : wOk s [] = true := rfl
def wGet (o : Option O) (xs : List D) : Bool := match o with | some (.lst ys) => D.eqbs ys xs | some (.ro _) => true | _ => false
@[simp] theorem ev_wC : wOk s ((l, xs) :: ws) = (wGet (s[l]?) xs && wOk s ws) := rfl
@[simp] theorem ev_wGet : wGet (some (.lst ys)) xs = D.eqbs ys xs := rfl
@[simp] theorem ev_wGetR {ns : List Int} : wGet (some (.ro ns)) xs = true := rfl
@[simp] theorem ev_eqbs : D.eqbs xs xs = true := D.eqbs_self xs
@[simp] theorem ev_wipeN : wipeE env [] = env := rfl
@[simp] theorem ev_wipeC : wipeE env (i :: vs) = (wipeE env vs).set i none := rfl
-- statements
variable {sf sh : Sf} {e : EEnv} {r : RS}
@[simp] theorem ev_sNil : sNil env st = .nx env st := rfl
@[simp] theorem ev_sPass : sPass env st = .nx env st := rfl
@[simp] theorem ev_sBrk : sBrk env st = .bk env st := rfl
@[simp] theorem ev_sCt : sCt env st = .ct env st := rfl
@[simp] theorem ev_sBad : sBad env st = .bad := rfl
@[simp] theorem ev_sSeq : sSeq sf sh env st = (sf env st).then sh := rfl
def kNx (env : EEnv) (d : D) (s : Store) : RS := .nx env s
@[simp] theorem ev_sExpr : sExpr f env st = sR (f env st) (kNx env) := rfl
@[simp] theorem ev_kNx : kNx env d s = .nx env s := rfl
def kRt (d : D) (s : Store) : RS := .rt d s
@[simp] theorem ev_sRet : sRet f env st = sR (f env st) kRt := rfl
@[simp] theorem ev_kRt : kRt d s = .rt d s := rfl
@[simp] theorem ev_sRetN : sRetN env st = .rt .non st := rfl
def kSIf (sf sh : Sf) (env : EEnv) (b : Bool) (s : Store) : RS := if b = true then sf env s else sh env s
@[simp] theorem ev_sIf : sIf p sf sh env st = sR (p env st) (kSIf sf sh env) := rfl
@[simp] theorem ev_kSIfT : kSIf sf sh env true s = sf env s := rfl
@[simp] theorem ev_kSIfF : kSIf sf sh env false s = sh env s := rfl
def kSet (i : Nat) (env : EEnv) (d : D) (s : Store) : RS := .nx (env.set i (some d)) s
@[simp] theorem ev_sSet : sSet i f env st = sR (f env st) (kSet i env) := rfl
@[simp] theorem ev_sSetN : sSetN i t env st = sR ((t env st).bind kNew) (kSet i env) := rfl
@[simp] theorem ev_kSet : kSet i env d s = .nx (env.set i (some d)) s := rfl
def kAsg2 (e : EEnv) (s : Store) : RS := .nx e s
def kAsg (gf : Gf) (env : EEnv) (d : D) (s : Store) : RS := sR (gf d env s) kAsg2
@[simp] theorem ev_sAsg : sAsg f gf env st = sR (f env st) (kAsg gf env) := rfl
@[simp] theorem ev_kAsg : kAsg gf env d s = sR (gf d env s) kAsg2 := rfl
@[simp] theorem ev_kAsg2 : kAsg2 e s = .nx e s := rfl
def kPar (is : List Nat) (env : EEnv) (ds : List D) (s : Store) : RS := if ds.length = is.length then .nx ((is.zip ds).foldl (fun e p => e.set p.1 (some p.2)) env) s else .bad
@[simp] theorem ev_sPar : sPar vs t env st = sR (t env st) (kPar vs env) := rfl
@[simp] theorem ev_kPar2 : kPar [i, j] env [x, y] s = .nx ((env.set i (some x)).set j (some y)) s := rfl
@[simp] theorem ev_kPar3 : kPar [i, j, l] env [x, y, d] s = .nx (((env.set i (some x)).set j (some y)).set l (some d)) s := rfl
def kF3 (env : EEnv) (u : Unit) (s : Store) : RS := .nx env s
def kF2 (i : Nat) (v : D) (env : EEnv) (o : D) (s : Store) : RS := sR (putO i o v s) (kF3 env)
def kF1 (i : Nat) (fo : Ef) (env : EEnv) (v : D) (s : Store) : RS := sR (fo env s) (kF2 i v env)
@[simp] theorem ev_sFldE : sFldE i fo f env st = sR (f env st) (kF1 i fo env) := rfl
@[simp] theorem ev_kF1 : kF1 i fo env x s = sR (fo env s) (kF2 i x env) := rfl
@[simp] theorem ev_kF2 : kF2 i x env y s = sR (putO i y x s) (kF3 env) := rfl
@[simp] theorem ev_kF3 {v : Unit} : kF3 env v s = .nx env s := rfl
def pGet (o : Option O) (l i : Nat) (v : D) (s : Store) : R Unit := match o with | some (.ins c fs) => if fs.length < 1000 then .ok () (s.set l (.ins c (fput i v fs))) else .bad | _ => .bad
@[simp] theorem ev_putO : putO i (.loc l) d s = pGet (s[l]?) l i d s := rfl
@[simp] theorem ev_pGet {c : Nat} {fs : List (Nat × D)} : pGet (some (.ins c fs)) l i d s = if fs.length < 1000 then .ok () (s.set l (.ins c (fput i d fs))) else .bad := rfl
def kFor (gf : Gf) (bf : Sf) (env : EEnv) (z : Src) (s : Store) : RS := loopF z.ws gf bf z.items env s
@[simp] theorem ev_sFor : sFor fi gf sf env st = sR (fi env st) (kFor gf sf env) := rfl
@[simp] theorem ev_kFor {z : Src} : kFor gf sf env z s = loopF z.ws gf sf z.items env s := rfl
def kLp (bf k : Sf) (e : EEnv) (s : Store) : RS := (bf e s).loop k
@[simp] theorem ev_loopN : loopF ws gf sf [] env st = if wOk st ws = true then .nx env st else .bad := rfl
@[simp] theorem ev_loopC : loopF ws gf sf (d :: ds) env st = if wOk st ws = true then sR (gf d env st) (kLp sf (loopF ws gf sf ds)) else .bad := rfl
@[simp] theorem ev_kLp : kLp sf sh env s = (sf env s).loop sh := rfl
def kW (bf k : Sf) (env : EEnv) (b : Bool) (s : Store) : RS := if b = true then (bf env s).loop k else .nx env s
theorem ev_while : whileF p sf (n + 1) env st = sR (p env st) (kW sf (whileF p sf n) env) := rfl
@[simp] theorem ev_kWT : kW sf sh env true s = (sf env s).loop sh := rfl
@[simp] theorem ev_kWF : kW sf sh env false s = .nx env s := rfl
-- calls of defs, methods
variable {sem : SemF} {c : Nat}
def outS (r : RS) : R D := match r with | .nx _ s => .ok .non s | .rt d s => .ok d s | _ => .bad
@[simp] theorem ev_semOf {a : Nat} : semOf n a sf ds st = if ds.length = a then outS (sf (ds.map some ++ List.replicate (n - a) none) st) else .bad := rfl
@[simp] theorem ev_outN : outS (.nx env s) = .ok .non s := rfl
@[simp] theorem ev_outR : outS (.rt d s) = .ok d s := rfl
def cGet (o : Option O) (c : Nat) : Bool := match o with | some (.ins c' _) => decide (c' = c) | _ => false
@[simp] theorem ev_isC : isC c (.loc l) s = cGet (s[l]?) c := rfl
@[simp] theorem ev_cGet {fs : List (Nat × D)} {c' : Nat} : cGet (some (.ins c' fs)) c = decide (c' = c) := rfl
def kMeth2 (sem : SemF) (o : D) (ds : List D) (s : Store) : R D := sem (o :: ds) s
def kMeth (c : Nat) (sem : SemF) (t : Af) (env : EEnv) (o : D) (s : Store) : R D := if isC c o s = true then (t env s).bind (kMeth2 sem o) else .bad
@[simp] theorem ev_eMeth : eMeth c sem fo t env st = (fo env st).bind (kMeth c sem t env) := rfl
@[simp] theorem ev_kMeth : kMeth c sem t env x s = if isC c x s = true then (t env s).bind (kMeth2 sem x) else .bad := rfl
@[simp] theorem ev_kMeth2 : kMeth2 sem x ds s = sem (x :: ds) s := rfl
def kProp (c : Nat) (sem : SemF) (o : D) (s : Store) : R D := if isC c o s = true then sem [o] s else .bad
@[simp] theorem ev_eProp : eProp c sem fo env st = (fo env st).bind (kProp c sem) := rfl
@[simp] theorem ev_kProp : kProp c sem x s = if isC c x s = true then sem [x] s else .bad := rfl
def kMk (l : Nat) (v : D) (s : Store) : R D := match v with | .non => .ok (.loc l) s | _ => .bad
@[simp] theorem ev_mkF : mkF c sem ds s = (sem (.loc s.length :: ds) (s ++ [.ins c []])).bind (kMk s.length) := rfl
@[simp] theorem ev_kMk : kMk l .non s = .ok (.loc l) s := rfl
def kKw2 (n m : Nat) (pm : List Nat) (ds es : List D) (s : Store) : R (List D) := if ds.length = n ∧ es.length = m then .ok (sel pm (ds ++ es)) s else .bad
def kKw (n m : Nat) (pm : List Nat) (u : Af) (env : EEnv) (ds : List D) (s : Store) : R (List D) := (u env s).bind (kKw2 n m pm ds)
@[simp] theorem ev_aKw {n m : Nat} {pm : List Nat} : aKw n m pm t u env st = (t env st).bind (kKw n m pm u env) := rfl
@[simp] theorem ev_kKw {n m : Nat} {pm : List Nat} : kKw n m pm u env ds s = (u env s).bind (kKw2 n m pm ds) := rfl
@[simp] theorem ev_kKw2 {n m : Nat} {pm : List Nat} : kKw2 n m pm ds xs s = if ds.length = n ∧ xs.length = m then .ok (sel pm (ds ++ xs)) s else .bad := rfl
@[simp] theorem ev_sel {pm : List Nat} : sel (i :: pm) xs = match xs[i]? with | some v => v :: sel pm xs | none => sel pm xs := by
  unfold sel
  rw [List.filterMap_cons]
  cases xs[i]? <;> rfl
@[simp] theorem ev_selN : sel [] xs = [] := rfl
def kLenO (v : D) (s : Store) : R D := match v with | .int n => if 0 ≤ n ∧ n < 2 ^ 62 then .ok (.int n) s else .bad | _ => .bad
@[simp] theorem ev_lenO : lenOF c sem [d] s = if isC c d s = true then (sem [d] s).bind kLenO else .bad := rfl
@[simp] theorem ev_kLenO : kLenO (.int k) s = if 0 ≤ k ∧ k < 2 ^ 62 then .ok (.int k) s else .bad := rfl
-- methods of lists
def kBM2 (F : FM) (d : D) (ds : List D) (s : Store) : R D := F d ds s
def kBM (F : FM) (t : Af) (env : EEnv) (d : D) (s : Store) : R D := if isL d s = true then (t env s).bind (F d) else .bad
variable {Fm : FM}
@[simp] theorem ev_eBM : eBM Fm fo t env st = (fo env st).bind (kBM Fm t env) := rfl
@[simp] theorem ev_kBM : kBM Fm t env d s = if isL d s = true then (t env s).bind (Fm d) else .bad := rfl
def lGet (o : Option O) : Bool := match o with | some (.lst _) => true | _ => false
@[simp] theorem ev_isL : isL (.loc l) s = lGet (s[l]?) := rfl
@[simp] theorem ev_lGet : lGet (some (.lst xs)) = true := rfl
def aGet (o : Option O) (l : Nat) (v : D) (s : Store) : R D := match o with | some (.lst xs) => if xs.length < sizeLine then .ok .non (s.set l (.lst (xs ++ [v]))) else .bad | _ => .bad
@[simp] theorem ev_app : appF (.loc l) [d] s = aGet (s[l]?) l d s := rfl
@[simp] theorem ev_aGet : aGet (some (.lst xs)) l d s = if xs.length < sizeLine then .ok .non (s.set l (.lst (xs ++ [d]))) else .bad := rfl
def nGet (o : Option O) (w : D) (s : Store) : R D := match o with | some (.lst xs) => (if flatD w = true ∧ xs.all flatD = true then (match idxD w 0 xs with | some j => .ok (.int (j : Nat)) s | none => .bad) else .bad) | _ => .bad
@[simp] theorem ev_index : indexF (.loc l) [d] s = nGet (s[l]?) d s := rfl
def nOut (o : Option Nat) (s : Store) : R D := match o with | some j => .ok (.int (j : Nat)) s | none => .bad
@[simp] theorem ev_nGet : nGet (some (.lst xs)) d s = if flatD d = true ∧ xs.all flatD = true then nOut (idxD d 0 xs) s else .bad := rfl
@[simp] theorem ev_nOut : nOut (some j) s = .ok (.int (j : Nat)) s := rfl
@[simp] theorem ev_idxN : idxD d j [] = none := rfl
@[simp] theorem ev_idxC : idxD d j (x :: xs) = if eqD x d = true then some j else idxD d (j + 1) xs := rfl
def kExt2 (d : D) (zs : List D) (s : Store) : R D := extF d zs s
def kExt (t : Af) (env : EEnv) (d : D) (s : Store) : R D := if isL d s = true then (t env s).bind (extF d) else .bad
@[simp] theorem ev_eExt : eExt fo t env st = (fo env st).bind (kExt t env) := rfl
@[simp] theorem ev_kExt : kExt t env d s = if isL d s = true then (t env s).bind (extF d) else .bad := rfl
def eGet (o : Option O) (l : Nat) (zs : List D) (s : Store) : R D := match o with | some (.lst xs) => if xs.length + zs.length ≤ sizeLine then .ok .non (s.set l (.lst (xs ++ zs))) else .bad | _ => .bad
@[simp] theorem ev_ext : extF (.loc l) ds s = eGet (s[l]?) l ds s := rfl
@[simp] theorem ev_eGet : eGet (some (.lst xs)) l ds s = if xs.length + ds.length ≤ sizeLine then .ok .non (s.set l (.lst (xs ++ ds))) else .bad := rfl
@[simp] theorem ev_ePop : ePop fo env st = (fo env st).bind popF := rfl
-- items
@[simp] theorem ev_atI : atI xs k = (ixN xs.length k).bind fun j => xs[j]? := rfl
@[simp] theorem ev_pd : pd s d = pdW (pdN s 3) d := rfl
def mulGet (o : Option O) (k : Int) (s : Store) : R Mv := match o with | some (.lst xs) => (if -(2 ^ 63) ≤ k ∧ k < 2 ^ 63 ∧ xs.length * k.toNat ≤ sizeLine then .ok (.l (List.replicate k.toNat xs).flatten) s else .bad) | _ => .bad
@[simp] theorem ev_mulL : mulM (.loc l) (.int k) s = mulGet (s[l]?) k s := rfl
@[simp] theorem ev_mulGet : mulGet (some (.lst xs)) k s = if -(2 ^ 63) ≤ k ∧ k < 2 ^ 63 ∧ xs.length * k.toNat ≤ sizeLine then .ok (.l (List.replicate k.toNat xs).flatten) s else .bad := rfl
@[simp] theorem ev_mulT : mulM (.tup xs) (.int k) s = if xs ≠ [] ∧ 2 ≤ k ∧ k ≤ 1000 ∧ xs.length ≤ 1000 then .ok (.v (.tup (List.replicate k.toNat xs).flatten)) s else .bad := rfl
def addGet (o o' : Option O) (s : Store) : R Mv := match o, o' with | some (.lst xs), some (.lst ys) => (if xs.length + ys.length ≤ sizeLine then .ok (.l (xs ++ ys)) s else .bad) | _, _ => .bad
@[simp] theorem ev_addL : addM (.loc i) (.loc l) s = addGet (s[i]?) (s[l]?) s := rfl
@[simp] theorem ev_addGet : addGet (some (.lst xs)) (some (.lst ys)) s = if xs.length + ys.length ≤ sizeLine then .ok (.l (xs ++ ys)) s else .bad := rfl
@[simp] theorem ev_eqSS {z w : Str} : eqF neg (.str z) (.str w) s = .ok (.bl (if neg then !decide (z = w) else decide (z = w))) s := rfl
@[simp] theorem ev_eqII : eqF neg (.int k) (.int m) s = .ok (.bl (if neg then !(k == m) else k == m)) s := by
  have e : eqF neg (.int k) (.int m) s = eqG neg (.int k) (.int m) s := by simp [eqF]
  rw [e]
  have h : ∀ a : Int, SeqAt.shaped (.int a) = true := fun a => rfl
  simp only [eqG, pd, pdW, h, and_self, if_true, PyData.eqv]
@[simp] theorem ev_eqNI : eqF neg .non (.int m) s = .ok (.bl neg) s := by cases neg <;> rfl
@[simp] theorem ev_eqIN : eqF neg (.int m) .non s = .ok (.bl neg) s := by cases neg <;> rfl
@[simp] theorem ev_eqNN : eqF neg .non .non s = .ok (.bl (!neg)) s := by cases neg <;> rfl
@[simp] theorem ev_eqBB {a : Bool} : eqF neg (.bl a) (.bl b) s = .ok (.bl (if neg then !(a == b) else a == b)) s := by cases neg <;> cases a <;> cases b <;> rfl
theorem ev_eqD {c c' : Nat} {v w : PyData} (h1 : pdW (pdN s 3) x = some v) (h2 : pdW (pdN s 3) y = some w) (r1 : Rp 12 c v) (r2 : Rp 12 c' w) (h : ∀ a b, x = .str a → y = .str b → False) : eqF neg x y s = .ok (.bl (if neg then !PyData.eqv v w else PyData.eqv v w)) s := by
  have e : eqF neg x y s = eqG neg x y s := by
    unfold eqF
    split
    · exact (h _ _ rfl rfl).elim
    · rfl
  rw [e]
  unfold eqG pd
  rw [h1, h2]
  exact if_pos ⟨r1.shaped (by decide), r2.shaped (by decide)⟩
def eqP (neg : Bool) (a b : Option PyData) (s : Store) : R D := match a, b with
  | some d, some e => if SeqAt.shaped d = true ∧ SeqAt.shaped e = true then .ok (.bl (if neg then !PyData.eqv d e else PyData.eqv d e)) s else .bad
  | _, _ => .bad
@[simp] theorem ev_eqLL : eqF neg (.loc i) (.loc j) s = eqP neg (pdW (pdN s 3) (.loc i)) (pdW (pdN s 3) (.loc j)) s := rfl
@[simp] theorem ev_eqTT : eqF neg (.tup xs) (.tup ys) s = eqP neg (pdW (pdN s 3) (.tup xs)) (pdW (pdN s 3) (.tup ys)) s := rfl
@[simp] theorem ev_eqNT : eqF neg .non (.tup ys) s = eqP neg (some .none) (pdW (pdN s 3) (.tup ys)) s := rfl
@[simp] theorem ev_eqTN : eqF neg (.tup ys) .non s = eqP neg (pdW (pdN s 3) (.tup ys)) (some .none) s := rfl
theorem eqP_ok {c c' : Nat} {v w : PyData} (r1 : Rp 12 c v) (r2 : Rp 12 c' w) : eqP neg (some v) (some w) s = .ok (.bl (if neg then !PyData.eqv v w else PyData.eqv v w)) s := if_pos ⟨r1.shaped (by decide), r2.shaped (by decide)⟩
theorem Rp.up {n c d : Nat} {p : PyData} (h : Rp n c p) (hc : c ≤ d) : Rp n d p := ⟨h.sh, h.lay, h.dep, Nat.le_trans h.len hc⟩
-- data
def pdGet (o : Option O) (g : Nat → Option (List PyData)) : Option (List PyData) := match o with | some (.lst xs) => pdWs g xs | some (.ro ns) => some (ns.map .int) | _ => none
@[simp] theorem ev_pdN3 : pdN s 3 l = pdGet (s[l]?) (pdN s 2) := rfl
@[simp] theorem ev_pdN2 : pdN s 2 l = pdGet (s[l]?) (pdN s 1) := rfl
@[simp] theorem ev_pdN1 : pdN s 1 l = pdGet (s[l]?) (pdN s 0) := rfl
variable {gg : Nat → Option (List PyData)}
@[simp] theorem ev_pdGet : pdGet (some (.lst xs)) gg = pdWs gg xs := rfl
@[simp] theorem pdW_non : pdW gg .non = some .none := rfl
@[simp] theorem pdW_int : pdW gg (.int k) = some (.int k) := rfl
@[simp] theorem pdW_bl : pdW gg (.bl b) = some (.bool b) := rfl
@[simp] theorem pdW_str {z : Str} : pdW gg (.str z) = some (.str z) := rfl
@[simp] theorem pdW_tup : pdW gg (.tup xs) = (pdWs gg xs).map .tuple := rfl
@[simp] theorem pdW_loc : pdW gg (.loc l) = (gg l).map .list := rfl
@[simp] theorem pdWs_nil : pdWs gg [] = some [] := rfl
def cM (a : PyData) (o : Option (List PyData)) : Option (List PyData) := o.map fun b => a :: b
@[simp] theorem pdWs_cons : pdWs gg (x :: xs) = (pdW gg x).bind fun a => cM a (pdWs gg xs) := rfl
@[simp] theorem cM_some {a : PyData} {b : List PyData} : cM a (some b) = some (a :: b) := rfl
-- `range`
@[simp] theorem ev_intD0 : intD k 0 = [] := rfl
theorem ev_intDs : intD k (n + 1) = .int k :: intD (k + 1) n := by
  unfold intD
  rw [List.range_succ_eq_map, List.map_cons, List.map_map]
  congr 1
  · simp
  · apply List.map_congr_left
    intro a _
    show D.int _ = D.int _
    congr 1
    show k + ((a + 1 : Nat) : Int) = k + 1 + (a : Int)
    omega
@[simp] theorem ev_enumN : enumD n [] = [] := rfl
@[simp] theorem ev_enumC : enumD n (d :: ds) = .tup [.int (n : Nat), d] :: enumD (n + 1) ds := rfl
end
end Ev

/-! Ev12: whole numbers told apart, the drawing pot, comprehensions with a state. -/
namespace Ev
open PySem L2
open PyProof.Rows hiding St

theorem kit_ii : kitB "int" "int" = some true := by decide +kernel
theorem kit_ib : kitB "int" "bool" = some false := by decide +kernel
theorem kit_it : kitB "int" "tuple" = some false := by decide +kernel
theorem kit_bi : kitB "bool" "int" = some true := by decide +kernel
theorem kit_bb : kitB "bool" "bool" = some true := by decide +kernel
theorem kit_bt : kitB "bool" "tuple" = some false := by decide +kernel
theorem kit_ni : kitB "NoneType" "int" = some false := by decide +kernel
theorem kit_nb : kitB "NoneType" "bool" = some false := by decide +kernel
theorem kit_nt : kitB "NoneType" "tuple" = some false := by decide +kernel
theorem kit_ti : kitB "tuple" "int" = some false := by decide +kernel
theorem kit_tb : kitB "tuple" "bool" = some false := by decide +kernel
theorem kit_tt : kitB "tuple" "tuple" = some true := by decide +kernel
theorem kit_si : kitB "str" "int" = some false := by decide +kernel
theorem kit_sb : kitB "str" "bool" = some false := by decide +kernel
theorem kit_st : kitB "str" "tuple" = some false := by decide +kernel
section
variable {s : Store} {k : Int} {b : Bool} {xs : List D} {z : Str}
@[simp] theorem isi_ii : isiF "int" (.int k) s = .ok (.bl true) s := by unfold isiF tyN; simp [kit_ii]
@[simp] theorem isi_ib : isiF "bool" (.int k) s = .ok (.bl false) s := by unfold isiF tyN; simp [kit_ib]
@[simp] theorem isi_it : isiF "tuple" (.int k) s = .ok (.bl false) s := by unfold isiF tyN; simp [kit_it]
@[simp] theorem isi_bi : isiF "int" (.bl b) s = .ok (.bl true) s := by unfold isiF tyN; simp [kit_bi]
@[simp] theorem isi_bb : isiF "bool" (.bl b) s = .ok (.bl true) s := by unfold isiF tyN; simp [kit_bb]
@[simp] theorem isi_bt : isiF "tuple" (.bl b) s = .ok (.bl false) s := by unfold isiF tyN; simp [kit_bt]
@[simp] theorem isi_ni : isiF "int" .non s = .ok (.bl false) s := by unfold isiF tyN; simp [kit_ni]
@[simp] theorem isi_nt : isiF "tuple" .non s = .ok (.bl false) s := by unfold isiF tyN; simp [kit_nt]
@[simp] theorem isi_ti : isiF "int" (.tup xs) s = .ok (.bl false) s := by unfold isiF tyN; simp [kit_ti]
@[simp] theorem isi_tt : isiF "tuple" (.tup xs) s = .ok (.bl true) s := by unfold isiF tyN; simp [kit_tt]
@[simp] theorem isi_si : isiF "int" (.str z) s = .ok (.bl false) s := by unfold isiF tyN; simp [kit_si]
@[simp] theorem isi_st : isiF "tuple" (.str z) s = .ok (.bl false) s := by unfold isiF tyN; simp [kit_st]
end

/-- is_integer, is_tuple of the package -/
def isWholeM : SemF := fun ds st => match ds with
  | [.int _] => .ok (.bl true) st
  | [.bl _] => .ok (.bl false) st
  | [.non] => .ok (.bl false) st
  | [.tup _] => .ok (.bl false) st
  | [.str _] => .ok (.bl false) st
  | _ => .bad
def isIntM : SemF := fun ds st => match ds with
  | [.int v, .int lo, .int hi] => .ok (.bl (decide (lo ≤ v) && decide (v ≤ hi))) st
  | [.bl _, .int _, .int _] => .ok (.bl false) st
  | [.non, .int _, .int _] => .ok (.bl false) st
  | [.tup _, .int _, .int _] => .ok (.bl false) st
  | [.str _, .int _, .int _] => .ok (.bl false) st
  | _ => .bad
def isTupM : SemF := fun ds st => match ds with
  | [.tup xs, .int lo, .int hi] => .ok (.bl (decide (lo ≤ (xs.length : Int)) && decide ((xs.length : Int) ≤ hi))) st
  | [.int _, .int _, .int _] => .ok (.bl false) st
  | [.non, .int _, .int _] => .ok (.bl false) st
  | _ => .bad
section
variable {st : Store} {v lo hi : Int} {xs : List D} {z : Str} {b : Bool}
@[simp] theorem isIntM_int : isIntM [.int v, .int lo, .int hi] st = .ok (.bl (decide (lo ≤ v) && decide (v ≤ hi))) st := rfl
@[simp] theorem isIntM_non : isIntM [.non, .int lo, .int hi] st = .ok (.bl false) st := rfl
@[simp] theorem isIntM_bl : isIntM [.bl b, .int lo, .int hi] st = .ok (.bl false) st := rfl
@[simp] theorem isIntM_tup : isIntM [.tup xs, .int lo, .int hi] st = .ok (.bl false) st := rfl
@[simp] theorem isIntM_str : isIntM [.str z, .int lo, .int hi] st = .ok (.bl false) st := rfl
@[simp] theorem isTupM_tup : isTupM [.tup xs, .int lo, .int hi] st = .ok (.bl (decide (lo ≤ (xs.length : Int)) && decide ((xs.length : Int) ≤ hi))) st := rfl
@[simp] theorem isTupM_non : isTupM [.non, .int lo, .int hi] st = .ok (.bl false) st := rfl
@[simp] theorem isTupM_int : isTupM [.int v, .int lo, .int hi] st = .ok (.bl false) st := rfl
end

/-! ### the pot -/
structure PotOk (a b n k : Int) : Prop where
  a0 : 0 ≤ a
  b0 : 0 ≤ b
  b1 : b < 2305843009213693952
  n0 : 0 ≤ n
  n1 : n ≤ k
theorem PotOk.up {a b n k j : Int} (h : PotOk a b n k) (hk : k ≤ j) : PotOk a b n j := ⟨h.a0, h.b0, h.b1, h.n0, Int.le_trans h.n1 hk⟩
theorem mulOk_l {i j : Int} (h : i.natAbs < 18446744073709551616) : mulOk i j = true := by simp [mulOk, h]
theorem mulOk_r {i j : Int} (h : j.natAbs < 18446744073709551616) : mulOk i j = true := by simp [mulOk, h]
theorem powOk_3 {i : Int} (h : i.natAbs < 18446744073709551616) : powOk i 3 = true := by simp [powOk, h]
theorem ite01 (P : Prop) [Decidable P] : (0 : Int) ≤ (if P then 1 else 0) := by split <;> decide
theorem ite01n (P : Prop) [Decidable P] : (if P then (1 : Int) else 0).natAbs < 18446744073709551616 := by split <;> decide
/-- what take(pot, u) does: a digit, the pot goes on -/
def Takes (sem : SemF) : Prop := ∀ (st : Store) (l : Nat) (a b n k u : Int), st[l]? = some (.lst [.int a, .int b, .int n]) → PotOk a b n k → k < 100000 → 0 < u → u < 1000000 →
  ∃ d a' n', 0 ≤ d ∧ d < u ∧ PotOk a' b n' (k + 1) ∧ sem [.loc l, .int u] st = .ok (.int d) (st.set l (.lst [.int a', .int b, .int n']))
/-- a comprehension with a state -/
theorem compF_inv {gf : Gf} {tf : Tf} {ef : Ef} {env : EEnv} (P : D → Prop) (I : Nat → Store → Prop) : ∀ (ds : List D) (i : Nat) (st : Store), I i st →
    (∀ d ∈ ds, ∀ j s, j < i + ds.length → I j s → ∃ e v s', gf d env s = .ok e s ∧ tf e s = .ok true s ∧ ef e s = .ok v s' ∧ P v ∧ I (j + 1) s') →
    ∃ vs st', compF [] gf tf ef env ds st = .ok vs st' ∧ vs.length = ds.length ∧ (∀ v ∈ vs, P v) ∧ I (i + ds.length) st'
  | [], i, st, h, _ => ⟨[], st, rfl, rfl, (fun _ m => nomatch m), h⟩
  | d :: ds, i, st, h, hs => by
    obtain ⟨e, v, s', h1, h2, h3, h4, h5⟩ := hs d (List.mem_cons_self ..) i st (by simp) h
    obtain ⟨vs, st', q1, q2, q3, q4⟩ := compF_inv P I ds (i + 1) s' h5 fun d' m j s hj => hs d' (List.mem_cons_of_mem _ m) j s (by rw [List.length_cons]; omega)
    refine ⟨v :: vs, st', ?_, by simp [q2], fun w m => ?_, by rw [List.length_cons]; rw [show i + (ds.length + 1) = i + 1 + ds.length by omega]; exact q4⟩
    · simp [h1, h2, h3, q1]
    · rcases List.mem_cons.mp m with rfl | m
      · exact h4
      · exact q3 w m
/-- the same, a list looked at stays -/
theorem compF_invW {gf : Gf} {tf : Tf} {ef : Ef} {env : EEnv} {ws : Wt} (P : D → Prop) (I : Nat → Store → Prop) (hw : ∀ j s, I j s → wOk s ws = true) : ∀ (ds : List D) (i : Nat) (st : Store), I i st →
    (∀ d ∈ ds, ∀ j s, j < i + ds.length → I j s → ∃ e v s', gf d env s = .ok e s ∧ tf e s = .ok true s ∧ ef e s = .ok v s' ∧ P v ∧ I (j + 1) s') →
    ∃ vs st', compF ws gf tf ef env ds st = .ok vs st' ∧ vs.length = ds.length ∧ (∀ v ∈ vs, P v) ∧ I (i + ds.length) st'
  | [], i, st, h, _ => ⟨[], st, by simp [hw i st h], rfl, (fun _ m => nomatch m), h⟩
  | d :: ds, i, st, h, hs => by
    obtain ⟨e, v, s', h1, h2, h3, h4, h5⟩ := hs d (List.mem_cons_self ..) i st (by simp) h
    obtain ⟨vs, st', q1, q2, q3, q4⟩ := compF_invW P I hw ds (i + 1) s' h5 fun d' m j s hj => hs d' (List.mem_cons_of_mem _ m) j s (by rw [List.length_cons]; omega)
    refine ⟨v :: vs, st', ?_, by simp [q2], fun w m => ?_, by rw [List.length_cons]; rw [show i + (ds.length + 1) = i + 1 + ds.length by omega]; exact q4⟩
    · simp [hw i st h, h1, h2, h3, q1]
    · rcases List.mem_cons.mp m with rfl | m
      · exact h4
      · exact q3 w m
theorem blsD_true : ∀ {vs : List D}, (∀ v ∈ vs, v = .bl true) → ∃ bs, blsD vs = some bs ∧ bs.all id = true
  | [], _ => ⟨[], rfl, rfl⟩
  | v :: vs, h => by
    obtain ⟨bs, e, q⟩ := blsD_true fun w m => h w (List.mem_cons_of_mem _ m)
    have hv := h v (List.mem_cons_self ..)
    subst hv
    exact ⟨true :: bs, by simp [blsD, e], by simpa using q⟩
theorem allQ_true {vs : List D} {st : Store} (h : ∀ v ∈ vs, v = .bl true) : allQ vs st = .ok (.bl true) st := by
  obtain ⟨bs, e, q⟩ := blsD_true h
  unfold allQ
  rw [e]
  simp [q]
theorem frame0_ok {sem : SemF} {ds : List D} {v : D} {s2 st : Store} (hd : D.flats ds = true) (h : sem ds [] = .ok v s2) (hv : v.flat = true) : frame0 sem ds st = .ok v st := by
  simp [frame0, hd, h, hv]
theorem frame1_ok {sem : SemF} {ds : List D} {v : D} {xs ys : List D} {s2 st : Store} {l : Nat} (hl : st[l]? = some (.lst xs)) (hd : D.flats ds = true) (hx : D.flats xs = true) (h : sem (.loc 0 :: ds) [.lst xs] = .ok v (.lst ys :: s2)) (hv : v.flat = true) (hy : D.flats ys = true) :
    frame1 sem (.loc l :: ds) st = .ok v (st.set l (.lst ys)) := by
  simp [frame1, hd, hl, hx, h, hv, hy]
theorem flat_pot {a b n : Int} : D.flats [.int a, .int b, .int n] = true := rfl
end Ev

/-! Ev13: loops with a state. -/
namespace Ev
open PySem L2
open PyProof.Rows hiding St
/-- range(n), n told by a Nat (never let the kernel reckon rgOk of such a number) -/
theorem rg_nat {n : Nat} {s : Store} (h : n ≤ 16777216) : kRg1 (.int (n : Int)) s = .ok ⟨intD 0 n, []⟩ s := by
  have key : ∀ k : Int, k = (n : Int) → kRg1 (.int k) s = .ok ⟨intD 0 n, []⟩ s := fun k hk => by
    have hr : rgOk k = true := by simp [rgOk]; omega
    have ht : k.toNat = n := by omega
    simp [hr, ht]
  exact key _ rfl
theorem rgOk_nat {n : Nat} (h : n ≤ 16777216) : rgOk (n : Int) = true := by
  have key : ∀ k : Int, k = (n : Int) → rgOk k = true := fun k hk => by simp [rgOk]; omega
  exact key _ rfl
theorem popAt_ok {s : Store} {l : Nat} {xs : List D} {d : Int} {y : D} (hl : s[l]? = some (.lst xs)) (h0 : 0 ≤ d) (h1 : d < 1000000) (hy : xs[d.toNat]? = some y) : popAtF (.loc l) [.int d] s = .ok y (s.set l (.lst (xs.eraseIdx d.toNat))) := by
  have hd := (List.getElem?_eq_some_iff.mp hy).1
  have r : rgOk d = true := by simp [rgOk]; omega
  have q : seqIndex? d xs.length = some d.toNat := by
    have n0 : ¬ d < 0 := by omega
    have n1 : d < (xs.length : Int) := by omega
    simp [seqIndex?, n0, h0, n1]
  simp [popAtF, hl, r, q, hy]
/-- a for: the state goes on, or the def returns -/
theorem loopF_inv {ws : Wt} {gf : Gf} {bf : Sf} (I : Nat → EEnv → Store → Prop) (P : D → Store → Prop) (hw : ∀ j e s, I j e s → wOk s ws = true) : ∀ (ds : List D) (k : Nat) (env : EEnv) (st : Store), I k env st →
    (∀ j d e s, ds[j]? = some d → I (k + j) e s → ∃ e1, gf d e s = .ok e1 s ∧ ((∃ e2 s2, (bf e1 s = .nx e2 s2 ∨ bf e1 s = .ct e2 s2) ∧ I (k + j + 1) e2 s2) ∨ ∃ v s2, bf e1 s = .rt v s2 ∧ P v s2)) →
    (∃ e' st', loopF ws gf bf ds env st = .nx e' st' ∧ I (k + ds.length) e' st') ∨ ∃ v st', loopF ws gf bf ds env st = .rt v st' ∧ P v st'
  | [], k, env, st, h, _ => .inl ⟨env, st, by simp [hw k env st h], h⟩
  | d :: ds, k, env, st, h, hs => by
    obtain ⟨e1, h1, q⟩ := hs 0 d env st rfl h
    rcases q with ⟨e2, s2, hb, hI⟩ | ⟨v, s2, hb, hP⟩
    · have r := loopF_inv I P hw ds (k + 1) e2 s2 hI fun j d' e s hj hIj => by
        have z := hs (j + 1) d' e s (by simpa using hj) (by rw [show k + (j + 1) = k + 1 + j by omega]; exact hIj)
        rw [show k + (j + 1) = k + 1 + j by omega] at z
        exact z
      have e : loopF ws gf bf (d :: ds) env st = loopF ws gf bf ds e2 s2 := by
        rcases hb with hb | hb <;> simp [hw k env st h, h1, hb]
      rw [e, List.length_cons, show k + (ds.length + 1) = k + 1 + ds.length by omega]
      exact r
    · exact .inr ⟨v, s2, by simp [hw k env st h, h1, hb], hP⟩
/-- a for that never returns -/
theorem loopF_nx {ws : Wt} {gf : Gf} {bf : Sf} (I : Nat → EEnv → Store → Prop) (hw : ∀ j e s, I j e s → wOk s ws = true) (ds : List D) (env : EEnv) (st : Store) (h : I 0 env st)
    (hs : ∀ j d e s, ds[j]? = some d → I j e s → ∃ e1 e2 s2, gf d e s = .ok e1 s ∧ (bf e1 s = .nx e2 s2 ∨ bf e1 s = .ct e2 s2) ∧ I (j + 1) e2 s2) : ∃ e' st', loopF ws gf bf ds env st = .nx e' st' ∧ I ds.length e' st' := by
  rcases loopF_inv I (fun _ _ => False) hw ds 0 env st h (fun j d e s hj hI => by
    rw [Nat.zero_add] at hI
    obtain ⟨e1, e2, s2, h1, h2, h3⟩ := hs j d e s hj hI
    exact ⟨e1, h1, .inl ⟨e2, s2, h2, by rw [Nat.zero_add]; exact h3⟩⟩) with q | ⟨_, _, _, f⟩
  · rw [Nat.zero_add] at q
    exact q
  · exact f.elim
theorem intD_at {n j : Nat} {d : D} (h : (intD 0 n)[j]? = some d) : j < n ∧ d = .int (j : Nat) := by
  have hl : j < n := by
    have := lt_of_get (st := (intD 0 n).map fun d => O.lst [d]) (l := j) (o := .lst [d]) (by rw [List.getElem?_map, h]; rfl)
    simpa [intD_length] using this
  rw [intD_get hl] at h
  cases h
  exact ⟨hl, by simp⟩
theorem perm_erase {A : Type} : ∀ (r : List A) (k : Nat) (y : A), r[k]? = some y → (y :: r.eraseIdx k).Perm r
  | [], _, _, h => by simp at h
  | x :: r, 0, y, h => by
    simp at h
    subst h
    exact List.Perm.refl _
  | x :: r, k + 1, y, h => by
    rw [List.eraseIdx_cons_succ]
    exact (List.Perm.swap x y _).trans (List.Perm.cons x (perm_erase r k y (by simpa using h)))
theorem perm_pop {A : Type} {f r : List A} {xs : List A} {k : Nat} {y : A} (h : (f ++ r).Perm xs) (hk : r[k]? = some y) : ((f ++ [y]) ++ r.eraseIdx k).Perm xs := by
  refine List.Perm.trans ?_ h
  rw [List.append_assoc]
  exact List.Perm.append_left f (perm_erase r k y hk)
end Ev

/-! Ev14: dicts with keys that are texts or whole numbers. -/
namespace Ev
open PySem L2
open PyProof.Rows hiding St
def keyD : D → Option Key
  | .int i => some (.inl i)
  | .str s => some (.inr s)
  | _ => none
def valD (kvs : List (Key × D)) (k : Key) : Option D := (kvs.find? fun kv => decide (kv.1 = k)).map (·.2)
def putD (kvs : List (Key × D)) (k : Key) (d : D) : List (Key × D) := if (kvs.any fun kv => decide (kv.1 = k)) = true then kvs.map (fun kv => if kv.1 = k then (kv.1, d) else kv) else kvs ++ [(k, d)]
section
variable {g : Gh} {X : Cx} {K : PySem.W.Frag} {ρ : Nat → Addr} {n : Nat} {H : Hp}
theorem key_vr {d : D} {y : V} {k : Key} (r : VR K ρ n H d y) (h : keyD d = some k) : y = kV k := by
  cases d <;> simp [keyD] at h <;> subst h <;> simp only [VR] at r <;> subst r <;> rfl
theorem KR.val {k : Key} : ∀ {kvs : List (Key × D)} {gs : List (Key × V)} {d : D}, KR K ρ n H kvs gs → valD kvs k = some d → ∃ v, valV gs k = some v ∧ VR K ρ n H d v
  | [], _, d, _, h => by simp [valD] at h
  | (j, e) :: kvs, _, d, r, h => by
    obtain ⟨v, hs, rfl, r1, rs⟩ := r
    by_cases z : j = k
    · subst z
      simp [valD] at h
      subst h
      exact ⟨v, valV_pos rfl, r1⟩
    · have h' : valD kvs k = some d := by simpa [valD, List.find?_cons, z] using h
      obtain ⟨u, e1, e2⟩ := KR.val rs h'
      exact ⟨u, by rw [valV_neg (p := (j, v)) z]; exact e1, e2⟩
theorem KR.valN {k : Key} : ∀ {kvs : List (Key × D)} {gs : List (Key × V)}, KR K ρ n H kvs gs → valD kvs k = none → valV gs k = none
  | [], gs, r, h => by
    have r' : gs = [] := r
    subst r'
    rfl
  | (j, e) :: kvs, _, r, h => by
    obtain ⟨v, hs, rfl, r1, rs⟩ := r
    by_cases z : j = k
    · subst z
      simp [valD] at h
    · have h' : valD kvs k = none := by simpa [valD, List.find?_cons, z] using h
      rw [valV_neg (p := (j, v)) z]
      exact KR.valN rs h'
theorem KR.length : ∀ {kvs : List (Key × D)} {gs : List (Key × V)}, KR K ρ n H kvs gs → gs.length = kvs.length
  | [], gs, r => by
    have r' : gs = [] := r
    subst r'
    rfl
  | (j, e) :: kvs, _, r => by
    obtain ⟨v, hs, rfl, r1, rs⟩ := r
    simp [KR.length rs]
theorem KR.any {k : Key} : ∀ {kvs : List (Key × D)} {gs : List (Key × V)}, KR K ρ n H kvs gs → (gs.any fun kv => decide (kv.1 = k)) = (kvs.any fun kv => decide (kv.1 = k))
  | [], gs, r => by
    have r' : gs = [] := r
    subst r'
    rfl
  | (j, e) :: kvs, _, r => by
    obtain ⟨v, hs, rfl, r1, rs⟩ := r
    rw [List.any_cons, List.any_cons, KR.any rs]
theorem KR.repl {k : Key} {d : D} {v : V} (r0 : VR K ρ n H d v) : ∀ {kvs : List (Key × D)} {gs : List (Key × V)}, KR K ρ n H kvs gs → KR K ρ n H (kvs.map fun kv => if kv.1 = k then (kv.1, d) else kv) (gs.map fun kv => if kv.1 = k then (kv.1, v) else kv)
  | [], gs, r => by
    have r' : gs = [] := r
    subst r'
    exact rfl
  | (j, e) :: kvs, _, r => by
    obtain ⟨w, hs, rfl, r1, rs⟩ := r
    by_cases z : j = k
    · rw [List.map_cons, List.map_cons, if_pos z, if_pos z]
      exact ⟨v, _, rfl, r0, KR.repl r0 rs⟩
    · rw [List.map_cons, List.map_cons, if_neg z, if_neg z]
      exact ⟨w, _, rfl, r1, KR.repl r0 rs⟩
theorem KR.snoc {k : Key} {d : D} {v : V} (r0 : VR K ρ n H d v) : ∀ {kvs : List (Key × D)} {gs : List (Key × V)}, KR K ρ n H kvs gs → KR K ρ n H (kvs ++ [(k, d)]) (gs ++ [(k, v)])
  | [], gs, r => by
    have r' : gs = [] := r
    subst r'
    exact ⟨v, [], rfl, r0, rfl⟩
  | (j, e) :: kvs, _, r => by
    obtain ⟨w, hs, rfl, r1, rs⟩ := r
    exact ⟨w, _, rfl, r1, KR.snoc r0 rs⟩
theorem KR.put {k : Key} {d : D} {v : V} (r0 : VR K ρ n H d v) {kvs : List (Key × D)} {gs : List (Key × V)} (r : KR K ρ n H kvs gs) : KR K ρ n H (putD kvs k d) (putK gs k v) := by
  unfold putD putK
  rw [r.any]
  split
  · exact r.repl r0
  · exact r.snoc r0
/-- d[k] -/
def dgF : F2 := fun x y s => match x with
  | .loc l => match s[l]? with
    | some (.dic kvs) => match (keyD y).bind (valD kvs) with
      | some v => .ok v s
      | none => .bad
    | _ => .bad
  | _ => .bad
variable {o i : Expr} {pos : Pos} {fa fb : Ef}
theorem dg_get {s : Store} {d1 d2 v : D} {x y : V} {s' : Store} (Rl : Rel g ρ s H) (r1 : VR g.K ρ s.length H d1 x) (r2 : VR g.K ρ s.length H d2 y) (h : dgF d1 d2 s = .ok v s') :
    s' = s ∧ ∃ a w, x = .ref a ∧ DGet H a y (some w) ∧ VR g.K ρ s.length H v w := by
  cases d1 <;> simp only [dgF] at h <;> (try exact (R.no h).elim)
  rename_i l
  split at h
  · rename_i kvs q
    split at h
    · rename_i u hu
      cases h
      obtain ⟨k, e1, e2⟩ := Option.bind_eq_some_iff.mp hu
      unfold VR at r1
      obtain ⟨hl, rfl⟩ := r1
      have ey := key_vr r2 e1
      subst ey
      obtain ⟨gs, q1, rk⟩ := Rl.obj l _ q
      obtain ⟨w, e3, rw'⟩ := rk.val e2
      refine ⟨rfl, ρ l, w, rfl, ?_, rw'⟩
      have := DGet.k (k := k) q1
      rw [e3] at this
      exact this
    · cases h
  · cases h
theorem e_dg (x : XG g X) (ho : EV g X o fa) (hi : EV g X i fb) (hs : NoSl i := by intro _ _; rfl) : EV g X (.Subscript o i pos) (eBin dgF fa fb) :=
  pe_imp (pe_dget (by have := x.hu; omega) ho hi hs) fun σ H Q ⟨ρ, st, env, v, st', Rl, E, h, k⟩ => by
    obtain ⟨d1, s1, e1, h⟩ := R.bind_eq h
    obtain ⟨d2, s2, e2, h⟩ := R.bind_eq h
    refine ⟨ρ, st, env, d1, s1, Rl, E, e1, fun ρ1 H1 y1 P1 r1 => ?_⟩
    refine ⟨ρ1, s1, env, d2, s2, P1.rel, P1.envr Rl E, e2, fun ρ2 H2 y2 P2 r2 => ?_⟩
    have P12 := P1.trans P2
    obtain ⟨es, a, w, e3, e4, e5⟩ := dg_get P2.rel (P2.vr P1.rel r1) r2 h
    subst es
    exact ⟨a, w, e3, e4, k ρ2 H2 w P12 e5⟩
/-- d[k] = v -/
def setD (o i v : D) (s : Store) : R Unit := match o with
  | .loc l => match s[l]? with
    | some (.dic kvs) => match keyD i with
      | some k => if kvs.length < sizeLine then .ok () (s.set l (.dic (putD kvs k v))) else .bad
      | none => .bad
    | _ => .bad
  | _ => .bad
theorem setD_ok {s s' : Store} {o i v : D} {x y z : V} {Q : Hp → Prop} (Rl : Rel g ρ s H) (r1 : VR g.K ρ s.length H o x) (r2 : VR g.K ρ s.length H i y) (r3 : VR g.K ρ s.length H v z)
    (h : setD o i v s = .ok () s') (k : ∀ H', Post g ρ s H ρ s' H' → Q H') : rSetD x y z H Q := by
  cases o <;> simp only [setD] at h <;> (try exact (R.no h).elim)
  rename_i l
  split at h
  · rename_i kvs q
    split at h
    · rename_i kk hk
      split at h
      · rename_i hz
        cases h
        unfold VR at r1
        obtain ⟨hl, rfl⟩ := r1
        have ey := key_vr r2 hk
        subst ey
        obtain ⟨gs, q1, rk⟩ := Rl.obj l _ q
        refine ⟨ρ l, _, rfl, DPut.k q1 (by rw [rk.length]; exact hz), k _ ?_⟩
        refine Rl.set q rfl rfl ⟨putK gs kk z, upd_same, ?_⟩
        have t : TK g.K H (upd H (ρ l) (.dK (putK gs kk z))) := TK.of fun b o e nm => by
          rw [upd_ne]
          · exact e
          · intro w
            subst w
            rw [q1] at e
            cases e
            exact nm trivial
        exact KR.mono (fun _ _ => rfl) (Nat.le_refl _) t (rk.put r3)
      · cases h
    · cases h
  · cases h
def gD (fo fi : Ef) : Gf := fun d env st => (fo env st).bind fun o s1 => (fi env s1).bind fun i s2 => (setD o i d s2).bind fun _ s3 => .ok env s3
theorem g_dsub (xg : XG g X) (ho : EV g X o fa) (hi : EV g X i fb)
    (ha : ∀ v, assign (.Subscript o i pos) X.env v = (do
      let ov ← holding [v] (eval o X.env)
      let iv ← holding [v, ov] (eval i X.env)
      standAt pos
      holding [v, ov, iv] (setItem ov iv v)
      release [v, ov, iv] []) := by intro _; rfl) : GV g X (.Subscript o i pos) [] (gD fa fb) :=
  pg_imp (pg_sub ho hi (set_dict (by have := xg.hu; omega)) ha) fun v σ H Q ⟨ρ, st, env, d, env', st', Rl, E, r, h, k⟩ => by
    obtain ⟨d1, s1, e1, h⟩ := R.bind_eq h
    obtain ⟨d2, s2, e2, h⟩ := R.bind_eq h
    obtain ⟨_, s3, e3, h⟩ := R.bind_eq h
    cases h
    refine ⟨ρ, st, env, d1, s1, Rl, E, e1, fun ρ1 H1 y1 P1 r1 => ?_⟩
    refine ⟨ρ1, s1, env, d2, s2, P1.rel, P1.envr Rl E, e2, fun ρ2 H2 y2 P2 r2 => ?_⟩
    have P12 := P1.trans P2
    exact setD_ok P2.rel (P2.vr P1.rel r1) r2 (P12.vr Rl r) e3 fun H' P => k ρ2 H' σ (P12.trans P) ((P12.trans P).envr Rl E) (Off.refl σ _)
/-! ### a written dict -/
abbrev Pf := EEnv → Store → R (List (Key × D))
def pNil : Pf := fun _ st => .ok [] st
def pCons (fk fv : Ef) (t : Pf) : Pf := fun env st => (fk env st).bind fun a s1 => (fv env s1).bind fun b s2 => match keyD a with
  | some k => (t env s2).bind fun r s3 => .ok ((k, b) :: r) s3
  | none => .bad
def mergeD (kvs more : List (Key × D)) : List (Key × D) := more.foldl (fun acc kv => putD acc kv.1 kv.2) kvs
theorem KR.merge : ∀ {more : List (Key × D)} {rs : List (Key × V)} {kvs : List (Key × D)} {gs : List (Key × V)}, KR K ρ n H more rs → KR K ρ n H kvs gs → KR K ρ n H (mergeD kvs more) (mergeK gs rs)
  | [], rs, kvs, gs, r, q => by
    have r' : rs = [] := r
    subst r'
    exact q
  | (j, e) :: more, _, kvs, gs, r, q => by
    obtain ⟨w, hs, rfl, r1, rs⟩ := r
    exact KR.merge (kvs := putD kvs j e) (gs := putK gs j w) rs (q.put r1)
/-- the pairs: the keys' expressions and the values', with their words -/
inductive PV (g : Gh) (X : Cx) (pos : Pos) : List (Option Expr) → List Expr → List (TE × TE) → Pf → Prop
  | nil : PV g X pos [] [] [] pNil
  | cons {k v : Expr} {ks : List (Option Expr)} {vs : List Expr} {fk fv : Ef} {trs : List (TE × TE)} {t : Pf} (hk : EV g X k fk) (hv : EV g X v fv) (h : PV g X pos ks vs trs t) : PV g X pos (some k :: ks) (v :: vs) ((tE g fk, tE g fv) :: trs) (pCons fk fv t)
theorem PV.pps {ks : List (Option Expr)} {vs : List Expr} {trs : List (TE × TE)} {t : Pf} (h : PV g X pos ks vs trs t) : PPs X pos ks vs trs := by
  induction h with
  | nil => exact pps_nil
  | cons hk hv h ih => exact pps_cons hk hv ih
theorem PV.pairs {ks : List (Option Expr)} {vs : List Expr} {trs : List (TE × TE)} {t : Pf} (h : PV g X pos ks vs trs t) : ∀ {ρ : Nat → Addr} {st : Store} {H : Hp} {env : EEnv} {σ : St} {kvs : List (Key × D)} {st' : Store} {Q : List (V × V) → Hp → Prop},
    Rel g ρ st H → EnvR g.K ρ st.length H env σ → t env st = .ok kvs st' → (∀ ρ' H' gs, Post g ρ st H ρ' st' H' → KR g.K ρ' st'.length H' kvs gs → Q (gs.map fun kv => (kV kv.1, kv.2)) H') → tPairs trs σ H Q := by
  induction h with
  | nil =>
    intro ρ st H env σ kvs st' Q Rl E h k
    cases h
    exact k ρ H [] (Post.refl Rl) rfl
  | cons hk hv h ih =>
    intro ρ st H env σ kvs st' Q Rl E h k
    obtain ⟨d1, s1, e1, h⟩ := R.bind_eq h
    obtain ⟨d2, s2, e2, h⟩ := R.bind_eq h
    split at h
    · rename_i kk hkk
      obtain ⟨r, s3, e3, h⟩ := R.bind_eq h
      cases h
      refine ⟨ρ, st, env, d1, s1, Rl, E, e1, fun ρ1 H1 y1 P1 r1 => ?_⟩
      refine ⟨ρ1, s1, env, d2, s2, P1.rel, P1.envr Rl E, e2, fun ρ2 H2 y2 P2 r2 => ?_⟩
      have P12 := P1.trans P2
      have ek := key_vr r1 hkk
      subst ek
      refine ih P2.rel (P12.envr Rl E) e3 fun ρ' H' gs P3 rg => ?_
      exact k ρ' H' ((kk, y2) :: gs) (P12.trans P3) ⟨y2, gs, rfl, P3.vr P2.rel r2, rg⟩
    · cases h
def eDict (t : Pf) : Ef := fun env st => (t env st).bind fun kvs s => if kvs.length ≤ 15 then .ok (.loc s.length) (s ++ [.dic (mergeD [] kvs)]) else .bad
theorem Post.tempD {ρ ρ' : Nat → Addr} {st st' : Store} {H H' : Hp} {p : Addr} {ys zs : List (Key × V)} (P : Post g ρ st H ρ' st' H') (hp : H p = none) (hn : ∀ l, mutAt st' l → ρ' l ≠ p) (hl : H' p = some (.dK ys)) :
    Post g ρ st H ρ' st' (upd H' p (.dK zs)) ∧ TK g.K H' (upd H' p (.dK zs)) := by
  have kn : ∀ b o, H' b = some o → ¬ Mut (some o) → upd H' p (.dK zs) b = some o := fun b o e nm => by
    rw [upd_ne]
    · exact e
    · intro w
      subst w
      rw [hl] at e
      cases e
      exact nm trivial
  have t : TK g.K H' (upd H' p (.dK zs)) := TK.of kn
  refine ⟨⟨⟨fun l o e => ?_, P.rel.inj⟩, P.len, P.old, fun b o e h => ?_, P.fresh, P.kind⟩, t⟩
  · have q := P.rel.obj l o e
    have ne : o.mut = true → ρ' l ≠ p := fun m => hn l ⟨o, e, m⟩
    cases o with
    | ro ns => exact RoL.of kn q
    | lst xs => obtain ⟨us, e1, r⟩ := q; exact ⟨us, by rw [upd_ne (ne rfl)]; exact e1, r.mono (fun _ _ => rfl) (Nat.le_refl _) t⟩
    | ins c fs => obtain ⟨hc, dx, gs, e1, r⟩ := q; exact ⟨hc, dx, gs, by rw [upd_ne (ne rfl)]; exact e1, r.mono (fun _ _ => rfl) (Nat.le_refl _) t⟩
    | dic kvs => obtain ⟨gs, e1, r⟩ := q; exact ⟨gs, by rw [upd_ne (ne rfl)]; exact e1, r.mono (fun _ _ => rfl) (Nat.le_refl _) t⟩
  · rw [upd_ne (ne_of_none e hp)]
    exact P.keep b o e h
theorem e_disp {ks : List (Option Expr)} {vs : List Expr} {trs : List (TE × TE)} {t : Pf} (h : PV g X pos ks vs trs t) (hall : ks.all (·.isSome) = true := by rfl) (hl : ks.length = vs.length := by rfl) (h0 : ks ≠ [] := by simp) (h15 : ks.length ≤ 15 := by decide) :
    EV g X (.Dict ks vs pos) (eDict t) := pe_imp (pe_disp h.pps hall hl h0 h15) fun σ H Q ⟨ρ, st, env, v, st', Rl, E, hh, k⟩ => fun p hp => by
  obtain ⟨kvs, s1, e1, hh⟩ := R.bind_eq hh
  split at hh
  · rename_i hz
    cases hh
    have P0 : Post g ρ st H ρ st (upd H p (.dK [])) := Rl.tup hp
    refine h.pairs P0.rel (P0.envr Rl E) e1 fun ρ' H' gs P r => ?_
    have P1 := P0.trans P
    have n0 : ∀ l, mutAt st l → ρ l ≠ p := fun l m q => by
      obtain ⟨u, e2, _⟩ := Rl.mutSome m
      rw [q, hp] at e2
      cases e2
    have hd : H' p = some (.dK []) := P.keep p _ upd_same n0
    have n1 : ∀ l, mutAt s1 l → ρ' l ≠ p := fun l m q => by
      by_cases hl' : l < st.length
      · rw [P.old l hl'] at q
        exact n0 l (P.mutB m hl') q
      · have := P.fresh l (Nat.le_of_not_lt hl') (mutAt_lt m)
        rw [q, upd_same] at this
        cases this
    refine ⟨hd, gs, rfl, by rw [r.length]; exact hz, ?_⟩
    obtain ⟨P2, t2⟩ := P1.tempD (zs := mergeK [] gs) hp n1 hd
    have r2 : KR g.K ρ' s1.length (upd H' p (.dK (mergeK [] gs))) kvs gs := r.mono (fun _ _ => rfl) (Nat.le_refl _) t2
    refine k _ _ _ (P2.named (o := .dic (mergeD [] kvs)) n1 hp ⟨mergeK [] gs, upd_same, KR.merge r2 rfl⟩) ?_
    unfold VR
    exact ⟨by simp, by rw [nxt_same]⟩
  · cases hh
def eDict0 : Ef := fun _ st => .ok (.loc st.length) (st ++ [.dic []])
theorem e_disp0 : EV g X (.Dict [] [] pos) eDict0 := pe_imp pe_dnewK fun σ H Q ⟨ρ, st, env, v, st', Rl, E, hh, k⟩ => fun p hp => by
  cases hh
  refine k _ _ _ (Rl.push (o := .dic []) hp ⟨[], upd_same, rfl⟩) ?_
  unfold VR
  exact ⟨by simp, by rw [nxt_same]⟩
end
/-! ### how simp reckons -/
section
variable {env : EEnv} {st s : Store} {fa fb fo f : Ef} {d x y : D} {l : Nat} {kvs r : List (Key × D)} {k j : Key} {t : Pf} {z w : Str} {m : Int} {z' w' : String}
def dGet (o : Option O) (y : D) (s : Store) : R D := match o with | some (.dic kvs) => okO ((keyD y).bind (valD kvs)) s | _ => .bad
@[simp] theorem ev_dgF : dgF (.loc l) y s = dGet (s[l]?) y s := by
  unfold dgF dGet okO
  rfl
@[simp] theorem ev_dGet : dGet (some (.dic kvs)) y s = okO ((keyD y).bind (valD kvs)) s := rfl
@[simp] theorem keyD_str : keyD (.str z) = some (.inr z) := rfl
@[simp] theorem keyD_int : keyD (.int m) = some (.inl m) := rfl
@[simp] theorem valD_nil : valD [] k = none := rfl
@[simp] theorem valD_cons : valD ((j, d) :: kvs) k = if j = k then some d else valD kvs k := by
  unfold valD
  rw [List.find?_cons]
  by_cases h : j = k <;> simp [h]
def kGD3 (env : EEnv) (u : Unit) (s : Store) : R EEnv := .ok env s
def kGD2 (o d : D) (env : EEnv) (i : D) (s : Store) : R EEnv := (setD o i d s).bind (kGD3 env)
def kGD1 (fi : Ef) (d : D) (env : EEnv) (o : D) (s : Store) : R EEnv := (fi env s).bind (kGD2 o d env)
@[simp] theorem ev_gD : gD fo f d env st = (fo env st).bind (kGD1 f d env) := rfl
@[simp] theorem ev_kGD1 : kGD1 f d env x s = (f env s).bind (kGD2 x d env) := rfl
@[simp] theorem ev_kGD2 : kGD2 x d env y s = (setD x y d s).bind (kGD3 env) := rfl
@[simp] theorem ev_kGD3 {v : Unit} : kGD3 env v s = .ok env s := rfl
def sDP (kk : Option Key) (l : Nat) (kvs : List (Key × D)) (v : D) (s : Store) : R Unit := match kk with | some k => if kvs.length < sizeLine then .ok () (s.set l (.dic (putD kvs k v))) else .bad | none => .bad
def sDS (o : Option O) (l : Nat) (y : D) (v : D) (s : Store) : R Unit := match o with | some (.dic kvs) => sDP (keyD y) l kvs v s | _ => .bad
@[simp] theorem ev_setD : setD (.loc l) y d s = sDS (s[l]?) l y d s := rfl
@[simp] theorem ev_sDS : sDS (some (.dic kvs)) l y d s = sDP (keyD y) l kvs d s := rfl
@[simp] theorem ev_sDP : sDP (some k) l kvs d s = if kvs.length < sizeLine then .ok () (s.set l (.dic (putD kvs k d))) else .bad := rfl
@[simp] theorem putD_nil : putD [] k d = [(k, d)] := rfl
def kPC3 (k : Key) (b : D) (r : List (Key × D)) (s : Store) : R (List (Key × D)) := .ok ((k, b) :: r) s
def kPCk (o : Option Key) (b : D) (t : Pf) (env : EEnv) (s : Store) : R (List (Key × D)) := match o with | some k => (t env s).bind (kPC3 k b) | none => .bad
def kPC2 (a : D) (t : Pf) (env : EEnv) (b : D) (s : Store) : R (List (Key × D)) := kPCk (keyD a) b t env s
def kPC1 (fv : Ef) (t : Pf) (env : EEnv) (a : D) (s : Store) : R (List (Key × D)) := (fv env s).bind (kPC2 a t env)
@[simp] theorem ev_pNil : pNil env st = .ok [] st := rfl
@[simp] theorem ev_pCons : pCons fa fb t env st = (fa env st).bind (kPC1 fb t env) := rfl
@[simp] theorem ev_kPC1 : kPC1 fb t env x s = (fb env s).bind (kPC2 x t env) := rfl
@[simp] theorem ev_kPC2 : kPC2 x t env y s = kPCk (keyD x) y t env s := rfl
@[simp] theorem ev_kPCk : kPCk (some k) y t env s = (t env s).bind (kPC3 k y) := rfl
@[simp] theorem ev_kPC3 : kPC3 k y r s = .ok ((k, y) :: r) s := rfl
def kDict (kvs : List (Key × D)) (s : Store) : R D := if kvs.length ≤ 15 then .ok (.loc s.length) (s ++ [.dic (mergeD [] kvs)]) else .bad
@[simp] theorem ev_eDict : eDict t env st = (t env st).bind kDict := rfl
@[simp] theorem ev_kDict : kDict kvs s = if kvs.length ≤ 15 then .ok (.loc s.length) (s ++ [.dic (mergeD [] kvs)]) else .bad := rfl
@[simp] theorem ev_eDict0 : eDict0 env st = .ok (.loc st.length) (st ++ [.dic []]) := rfl
@[simp] theorem mergeD_nil : mergeD kvs [] = kvs := rfl
@[simp] theorem mergeD_cons : mergeD kvs ((k, d) :: r) = mergeD (putD kvs k d) r := rfl
theorem putD_cons : putD ((j, x) :: kvs) k d = if j = k then (j, d) :: (kvs.map fun kv => if kv.1 = k then (kv.1, d) else kv) else (j, x) :: putD kvs k d := by
  unfold putD
  rw [List.any_cons]
  by_cases h : j = k
  · simp [h]
  · simp only [h, decide_false, Bool.false_or, if_false]
    split
    · simp [h]
    · simp
theorem putD_def : putD kvs k d = if (kvs.any fun kv => decide (kv.1 = k)) = true then kvs.map (fun kv => if kv.1 = k then (kv.1, d) else kv) else kvs ++ [(k, d)] := rfl
end
end Ev

/-! Ev15: x in a list of data of any depth; len(set(texts)), all alike. -/
namespace Ev
open PySem L2
open PyProof.Rows hiding St
section
variable {g : Gh} {X : Cx} {e a b : Expr} {pos : Pos} {f fa fb : Ef}
/-- x in y, y a list of data -/
def inDF (neg : Bool) : F2 := fun x y st => match pd st x, pd st y with
  | some d, some (.list ds) => if SeqAt.shaped d = true ∧ SeqAt.shaped (.list ds) = true then .ok (.bl (if neg then !ds.any fun z => PyData.eqv z d else ds.any fun z => PyData.eqv z d)) st else .bad
  | _, _ => .bad
theorem o_inD (x : XG g X) : Op2 g (rInD X.K) (inDF false) := fun ρ st H d1 d2 x1 y1 v st' Q Rl r1 r2 q k => by
  unfold inDF at q
  split at q
  · rename_i d ds e1 e2
    split at q
    · rename_i hz
      cases q
      rw [x.K]
      exact ⟨d, ds, pd_dp Rl r1 e1, pd_dp Rl r2 e2, hz.1, hz.2, k ρ H _ (Post.refl Rl) (by simp [VR])⟩
    · cases q
  · cases q
theorem o_notInD (x : XG g X) : Op2 g (rNotInD X.K) (inDF true) := fun ρ st H d1 d2 x1 y1 v st' Q Rl r1 r2 q k => by
  unfold inDF at q
  split at q
  · rename_i d ds e1 e2
    split at q
    · rename_i hz
      cases q
      rw [x.K]
      exact ⟨d, ds, pd_dp Rl r1 e1, pd_dp Rl r2 e2, hz.1, hz.2, k ρ H _ (Post.refl Rl) (by simp [VR])⟩
    · cases q
  · cases q
theorem e_inD (x : XG g X) (ha : EV g X a fa) (hb : EV g X b fb) (hm : behindInMarks .In b = false := by rfl) : EV g X (.Compare a [.In] [b] pos) (eBin (inDF false) fa fb) := e_cmp (op_inD (by have := x.hu; omega)) (o_inD x) ha hb hm
theorem e_notInD (x : XG g X) (ha : EV g X a fa) (hb : EV g X b fb) (hm : behindInMarks .NotIn b = false := by rfl) : EV g X (.Compare a [.NotIn] [b] pos) (eBin (inDF true) fa fb) := e_cmp (op_notInD (by have := x.hu; omega)) (o_notInD x) ha hb hm
theorem t_inD (x : XG g X) (ha : EV g X a fa) (hb : EV g X b fb) (hm : behindInMarks .In b = false := by rfl) : TV g X (.Compare a [.In] [b] pos) (tfB (eBin (inDF false) fa fb)) := t_cmp (op_inD (by have := x.hu; omega)) (o_inD x) ha hb hm
theorem t_notInD (x : XG g X) (ha : EV g X a fa) (hb : EV g X b fb) (hm : behindInMarks .NotIn b = false := by rfl) : TV g X (.Compare a [.NotIn] [b] pos) (tfB (eBin (inDF true) fa fb)) := t_cmp (op_notInD (by have := x.hu; omega)) (o_notInD x) ha hb hm
end

/-! ### a set of one text, met again and again -/
section
variable {prog : Program} {w : World} {A : Around} {E : Value → Shared → Prop} {s : Shared}
/-- how the set stands behind i of the texts -/
abbrev OneSet (prog : Program) (w : World) (h : Heap) (S : Addr) (z : Str) (i : Nat) : Prop := h.SetOf (PySem.strKind prog w) S (fun k => decide (0 < i) && decide (k = z)) (min i 1)
theorem one_loop {R : Result → Shared → Prop} {I : Addr} {fp wr : List Addr} {G : Array GenState → Array GenState → Prop} {n : Nat} {P : Nat → Value → Prop} {St : Nat → Shared → Prop} (W : WalksS prog w A.in1 I fp wr G n P St) (S : Addr) (hSf : S ∉ fp) (z : Str) (hval : ∀ i v, P i v → ∃ t, v = .str z t) :
    ∀ (k i : Nat) (s : Shared), n - i = k → i ≤ n → St i s → OneSet prog w s.heap S z i → (∀ s', Moved (S :: wr) G s s' → OneSet prog w s'.heap S z n → R (.ok (.ret .none)) s') →
      codeAny (model prog w) A (.builtin "set.update.loop" ⟨[.ref S, .ref I], []⟩) R s := by
  have out : S ∉ wr := fun h => hSf (W.sub _ h)
  have more : ∀ b ∈ wr, b ∈ S :: wr := fun b hb => List.mem_cons_of_mem _ hb
  have stay : ∀ {s s' : Shared} {i : Nat}, Moved wr G s s' → OneSet prog w s.heap S z i → OneSet prog w s'.heap S z i := fun hm hS => by
    obtain ⟨o, es, ep, tb, ho, rest⟩ := hS
    exact ⟨o, es, ep, tb, hm.heap S _ out ho, rest⟩
  intro k
  induction k with
  | zero =>
    intro i s hk hi hst hS hR
    obtain rfl : i = n := by omega
    refine codeAny_builtin PyProof.Rows.F.entry_set_update_loop ?_
    rw [Around.under_plainId PyProof.Rows.F.plain_set_update_loop _]
    show wpAny _ A.in1 (pyNext (.ref I) >>= _) _ _ s
    refine wpAny_bind (W.done s _ _ hst fun s' hm => ?_)
    show wpAny _ A.in1 (ret Value.none) _ _ s'
    exact wpAny_pure (hR s' (hm.mono more) (stay hm hS))
  | succ k ih =>
    intro i s hk hi hst hS hR
    have hlt : i < n := by omega
    refine codeAny_builtin PyProof.Rows.F.entry_set_update_loop ?_
    rw [Around.under_plainId PyProof.Rows.F.plain_set_update_loop _]
    show wpAny _ A.in1 (pyNext (.ref I) >>= _) _ _ s
    refine wpAny_bind (W.item i s _ _ hlt hst fun v s' hP hst' hm => ?_)
    obtain ⟨t, rfl⟩ := hval i v hP
    have hS' := stay hm hS
    show wpAny _ A.in1 (holding [Value.str z t] (setAdd S (.str z t)) >>= _) _ _ s'
    refine wpAny_bind (wpAny_holding ?_)
    unfold setAdd
    refine wpAny_holding ?_
    refine wpAny_bind ((PySem.strKind prog w).pyHash (k := z) (strKind_is _ _ _ _) ?_)
    have room : min i 1 + 1 < scanBound := by unfold scanBound; omega
    refine wpAny_setAddHashed_of (knd := PySem.strKind prog w) (s := { s' with toks := s'.toks + 1 }) (strKind_is _ _ _ _) rfl hS' room fun h' hsb hS2 => ?_
    have next : OneSet prog w h' S z (i + 1) := by
      refine SetOf_congr hS2 (fun k' => ?_) ?_
      · by_cases e : k' = z <;> simp [e]
      · by_cases e : 0 < i
        · simp [e]; omega
        · simp [e]; omega
    refine wpAny_pure ⟨plainId_quiet PyProof.Rows.F.plain_set_update_loop _, ih (i + 1) _ (by omega) hlt (W.frame _ s' _ _ hst' (Nat.le_succ _) fun b hb o e => ?_) next fun s'' hm'' hS'' => ?_⟩
    · rw [hsb.2 b (fun h : b = S => hSf (h ▸ hb))]; exact e
    · refine hR s'' (Moved.trans W.gtrans ((hm.mono more).then_heap (Nat.le_succ _) fun b o hb e => ?_) hm'') hS''
      rw [hsb.2 b (fun h : b = S => hb (h ▸ List.mem_cons_self))]; exact e
set_option maxHeartbeats 3200000 in
/-- set(l), l a list of one text, met again and again -/
theorem call_oneSet {l : Addr} {items : Array Value} {z : Str} {Q : Value → Shared → Prop} (hh : A.handled = none) (hl : s.heap.IsList l items) (hi : ∀ (i : Nat) (v : Value), items[i]? = some v → ∃ t, v = .str z t)
    (h : ∀ (h' : Heap) (tk : Nat), OneSet prog w h' s.heap.objs.size z items.size → (∀ b o, b < s.heap.objs.size → s.heap.get? b = some o → h'.get? b = some o) → Q (.ref s.heap.objs.size) { s with heap := h', toks := tk }) :
    wpAny (model prog w) A (call (.type "set") [.ref l]) Q E s := by
  obtain ⟨c, tl, hmro⟩ := PySem.F.called_set.mro
  have hmade := PySem.F.called_set.made
  have hsub := PySem.F.called_set.sub
  refine wpAny_call (codeAny_of_tree ?_)
  show wpAny _ _ (callAny (.type "set") _) _ _ _
  refine wpAny_pure ⟨Code.quiet_builtin _ (by decide +kernel), codeAny_builtin PySem.F.entry_type_call ?_⟩
  rw [Around.under_plain (weight_type_call_type "set" [.ref l] []) rfl]
  have h1 := PySem.F.called_set.notType
  have h2 := PySem.F.called_set.canCreate
  have hct := PySem.F.typeCall_set_1 (.ref l)
  repeat (any_goals (first | assumption | wp_step))
  refine codeAny_mono (code_set_new_1 (.ref l) (E := E) (Q₁ := fun obj s₁ => ∃ led : Bool, obj = .ref s.heap.objs.size ∧ s₁ = { s with heap := s.heap.push { cls := .type "set", dict := none, data := .set #[] 0 (.fresh 0 0 led) } }) fun led => ⟨led, rfl, rfl⟩) fun r s₁ hr => ?_
  cases r with
  | error e => exact hr
  | ok fl =>
    cases fl with
    | ret obj =>
      obtain ⟨led, rfl, rfl⟩ := hr
      generalize hN : s.heap.push { cls := .type "set", dict := none, data := .set #[] 0 (.fresh 0 0 led) } = N
      have sz : N.objs.size = s.heap.objs.size + 1 := by rw [← hN, Heap.size_push]
      have hS : N.get? s.heap.objs.size = some { cls := .type "set", dict := none, data := .set #[] 0 (.fresh 0 0 led) } := by rw [← hN]; exact Heap.get?_push_size _ rfl
      have kp : ∀ b o, s.heap.get? b = some o → N.get? b = some o := fun b o e => by rw [← hN]; exact Heap.get?_push_of_some _ e
      have hT : Shared.TypeIs { s with heap := N } (.ref s.heap.objs.size) "set" := ⟨_, hS, rfl⟩
      have hli := PySem.F.called_set.init.lookup
      have hbi := PySem.F.called_set.init.bind (.ref s.heap.objs.size)
      repeat (any_goals (first | assumption | wp_step))
      refine codeAny_mono (codeAny_call_builtin (R := wants (fun r s₂ => r = .none ∧ ∃ h' tk, s₂ = { s with heap := h', toks := tk } ∧ OneSet prog w h' s.heap.objs.size z items.size ∧ (∀ b o, b < s.heap.objs.size → s.heap.get? b = some o → h'.get? b = some o)) E)
        PySem.F.called_set.init.plain PySem.F.entry_set_init (check_set_init_1 hT ?_)) fun r₂ s₂ hr₂ => ?_
      · obtain ⟨⟨ocls, odict, odata, oslots⟩, hol, hcl, nl, hdl⟩ := hl
        simp only at hcl hdl
        subst hcl; subst hdl
        have hol' := kp _ _ hol
        have hsls := PySem.F.sub_list_set
        have hslf := PySem.F.sub_list_frozenset
        have hne : (Value.type "list" == Value.type "dict") = false := by decide
        have hl1 : N.IsList l items := ⟨_, hol', rfl, nl, rfl⟩
        unfold Builtin.«set.__init__» noKeywords Builtin.Frozenset.updateFrom
        generalize hPI : pyIter = PI
        wp_walk
        subst hPI
        refine wpAny_pyIter_list hl1 ?_
        refine wpAny_bind (wpAny_runValue ?_)
        have hlS : l < s.heap.objs.size := Heap.lt_size hol
        have hh3 : A.in1.in1.in1.handled = none := by simp [hh]
        have hneI : l ≠ N.objs.size := by rw [sz]; exact Nat.ne_of_lt (Nat.lt_succ_of_lt hlS)
        have hSf : s.heap.objs.size ∉ [N.objs.size, l] := by
          rw [sz]
          simp only [List.mem_cons, List.not_mem_nil, or_false, not_or]
          exact ⟨Nat.ne_of_lt (Nat.lt_succ_self _), Nat.ne_of_gt hlS⟩
        refine one_loop ((Walks.list hh3 _ l hneI items).toS) s.heap.objs.size hSf z (fun i v hv => hi i v hv) (items.size - 0) 0 _ (by omega) (Nat.zero_le _) ⟨⟨_, Heap.get?_push_size _ rfl, rfl, rfl⟩, (hl1.push _)⟩ ?hS0 ?hR
        case hS0 =>
          have hget : (N.push { cls := .type "list_iterator", data := .fields #[.ref l, .int 0 0] }).get? s.heap.objs.size = some { cls := .type "set", dict := none, data := .set #[] 0 (.fresh 0 0 led) } := Heap.get?_push_of_some _ hS
          exact SetOf_congr ((setObjOf_fresh (knd := PySem.strKind prog w) led).setOf hget (by unfold scanBound; omega)) (fun _ => rfl) rfl
        case hR =>
          intro s' hm hS'
          obtain ⟨h', g', d', tk', os'⟩ := s'
          have eg : g' = s.gens := hm.gens
          have ed : d' = s.drawn := hm.drawn
          have eo : os' = s.os := hm.os
          subst eg; subst ed; subst eo
          show wpAny _ _ _ _ _ _
          refine wpAny_pure ?_
          show wpAny _ _ (ret Value.none) _ _ _
          refine wpAny_pure ⟨rfl, h', tk', rfl, hS', fun b o hb e => ?_⟩
          refine hm.heap b o ?_ (Heap.get?_push_of_some _ (kp _ _ e))
          rw [sz]
          simp only [List.mem_cons, List.not_mem_nil, or_false, not_or]
          exact ⟨Nat.ne_of_lt hb, Nat.ne_of_lt (Nat.lt_succ_of_lt hb)⟩
      · cases r₂ with
        | error e => exact hr₂
        | ok fl₂ =>
          cases fl₂ with
          | ret r =>
            obtain ⟨rfl, h', tk, rfl, hS', hk'⟩ := hr₂
            repeat (any_goals (first | assumption | wp_step))
            exact h _ _ hS' hk'
          | _ => exact hr₂.elim
    | _ => exact hr.elim
end
end Ev

/-! Ev16: len(set(texts)), all alike; how simp reckons it and x in data. -/
namespace Ev
open PySem L2
open PyProof.Rows hiding St
section
variable {g : Gh} {X : Cx} {e a b : Expr} {pos p p2 q : Pos} {f fa fb : Ef} {t : Af}
def tOneSet (K : PySem.W.Frag) (ta : TE) : TE := fun σ H Q => ta σ H fun x H1 => ∃ l z n, x = .ref l ∧ SqL K H1 l (List.replicate n (V.str z)) ∧ Q (.int (min n 1 : Nat)) H1
theorem pe_oneSet {ta : TE} (hc : X.calm = true) (hg : Gl X "len") (hm : X.mg "len" = none) (hg2 : Gl X "set") (hm2 : X.mg "set" = none) (ha : PE X a ta)
    (na : starEach [a] X.env = (false, eval a X.env) :: starEach [] X.env := by rfl) : PE X (.Call (.Name "len" p) [.Call (.Name "set" p2) [a] [] q] [] pos) (tOneSet X.K ta) := by
  refine ⟨fun pins s σ H Q I h => ?_⟩
  refine Call_ (ld_blt I hg hm PySem.boot_len ?_)
  refine callWith_builtin1 (args_cons ?_ rfl) rfl rfl
  refine Call_ (ld_blt I hg2 hm2 PyProof.Rows.boot_set ?_)
  refine callWith_type1 (args_cons (thn (ha.run pins s σ H _ I h) fun v s1 ⟨x, H1, I1, r1, q1⟩ => args_nil ?_) na) na rfl
  obtain ⟨l, z, n, rfl, hq, q1⟩ := q1
  cases r1
  obtain ⟨its, r, pl, hz⟩ := I1.list hq
  have hl : its.toArray.size = n := by rw [List.size_toArray, ← r.length, List.length_replicate]
  refine call_oneSet (z := z) (I1.ok.hd hc) pl.isList (fun i v hv => ?_) fun h' tk hS hk => ?_
  · have hv' : its[i]? = some v := by simpa using hv
    have hi := (List.getElem?_eq_some_iff.mp hv').1
    have hi' : i < n := by rw [← List.length_replicate (n := n) (a := V.str z), r.length]; exact hi
    obtain ⟨u, e, ru⟩ := r.get (i := i) (List.getElem?_replicate_of_lt hi')
    rw [hv'] at e
    cases e
    exact ru
  · rw [hl] at hS
    refine args_nil ?_
    obtain ⟨o, es, ep, tb, ho, hex, hd, _, _, _, hf, hn⟩ := hS
    have I2 : Inv X pins σ H1 { s1 with heap := h', toks := tk } := I1.kept fun b o e => hk b o (Heap.lt_size e) e
    refine call_len_set ho hex hd hf (by rw [hn]; omega) ⟨.int (min n 1 : Nat), H1, I2.tok _, ⟨_, by rw [hn]⟩, q1⟩
def lenSetQ : FQ := fun xs s => match xs with
  | [] => .ok (.int 0) s
  | .str z :: r => if r.all (fun d => D.eqb d (.str z)) = true then .ok (.int 1) s else .bad
  | _ => .bad
theorem vr_one {K : PySem.W.Frag} {ρ : Nat → Addr} {n : Nat} {H : Hp} {z : Str} : ∀ {r : List D} {vs : List V}, VRs K ρ n H r vs → r.all (fun d => D.eqb d (.str z)) = true → vs = List.replicate r.length (V.str z)
  | [], vs, h, _ => by unfold VRs at h; subst h; rfl
  | d :: r, vs, h, q => by
    unfold VRs at h
    obtain ⟨y, zs, rfl, r1, rs⟩ := h
    rw [List.all_cons, Bool.and_eq_true] at q
    have e := D.eqb_eq q.1
    subst e
    simp only [VR] at r1
    subst r1
    rw [vr_one rs q.2]
    rfl
theorem e_lenSet (x : XG g X) (h : LV g X a t) (hg : Gl X "len" := by rfl) (hg2 : Gl X "set" := by rfl) (na : starEach [a] X.env = (false, eval a X.env) :: starEach [] X.env := by rfl) : EV g X (.Call (.Name "len" p) [.Call (.Name "set" p2) [a] [] q] [] pos) (eCall lenSetQ t) :=
  pe_imp (pe_oneSet x.calm hg (x.mg "len") hg2 (x.mg "set") h na) fun σ H Q ⟨ρ, st, env, v, st', Rl, E, h, k⟩ => by
    obtain ⟨xs, s1, e1, h⟩ := R.bind_eq h
    refine ⟨ρ, st, env, xs, s1, Rl, E, e1, fun ρ1 H1 p ys P1 sq r1 => ?_⟩
    rw [x.K]
    unfold lenSetQ at h
    split at h
    · cases h
      unfold VRs at r1
      subst r1
      exact ⟨p, Str.empty, 0, rfl, sq, k ρ1 H1 _ P1 (by simp [VR])⟩
    · rename_i z r
      split at h
      · rename_i hz
        cases h
        unfold VRs at r1
        obtain ⟨y, zs, rfl, r1, rs⟩ := r1
        simp only [VR] at r1
        subst r1
        have e := vr_one rs hz
        subst e
        exact ⟨p, z, r.length + 1, rfl, sq, k ρ1 H1 _ P1 (by simp [VR])⟩
      · cases h
    · cases h
end
section
variable {s : Store} {x y : D} {neg : Bool} {z : Str} {r : List D}
@[simp] theorem ev_lenSetN : lenSetQ [] s = .ok (.int 0) s := rfl
@[simp] theorem ev_lenSetC : lenSetQ (.str z :: r) s = if r.all (fun d => D.eqb d (.str z)) = true then .ok (.int 1) s else .bad := rfl
theorem inD_ok {ds : List PyData} {d : PyData} (h1 : pdW (pdN s 3) x = some d) (h2 : pdW (pdN s 3) y = some (.list ds)) (s1 : SeqAt.shaped d = true) (s2 : SeqAt.shaped (.list ds) = true) :
    inDF neg x y s = .ok (.bl (if neg then !ds.any fun z => PyData.eqv z d else ds.any fun z => PyData.eqv z d)) s := by
  unfold inDF pd
  rw [h1, h2]
  exact if_pos ⟨s1, s2⟩
end
end Ev

/-! Ev17: enumerate over a tuple. -/
namespace Ev
open PySem L2
open PyProof.Rows hiding St
section
variable {prog : Program} {w : World} {A : Around} {E : Value → Shared → Prop} {s : Shared}
/-- the next item of a tuple's iterator, as enumerate asks it -/
theorem tupNext {it t : Addr} {i : Nat} {items : Array Value} {x : Value} {Q : Value → Shared → Prop} (hit : s.heap.IsTupleIter it t i) (ht : s.heap.IsTuple t items) (hx : items[i]? = some x)
    (hQ : ∀ h', h'.IsTupleIter it t (i + 1) → Heap.SameBut it s.heap h' → Q x { s with heap := h' }) : wpAny (model prog w) A (Builtin.SmallTypes.nextOf (.ref it)) Q E s := by
  obtain ⟨o, ho, hc, hd⟩ := id hit
  obtain ⟨ol, hol, _, nl, hdl⟩ := ht
  unfold Builtin.SmallTypes.nextOf
  refine wpAny_bind (wpAny_callSpecial?_slot (name := Str.ofString "__next__") hit.typeIs F.slot_tuple_iterator_next (wpAny_call_entry F.slot_tuple_iterator_next hit.typeIs F.entry_tuple_iterator_next ?_ (F.args_tuple_iterator_next_1 _)))
  show wpAny _ _ (field (.ref it) 0 >>= _) _ _ s
  refine wpAny_bind (wpAny_field ho hd (x := .ref t) rfl ?_)
  show wpAny _ _ (if (Value.ref t == Value.none) = true then _ else _) _ _ s
  rw [if_neg (show ¬ ((Value.ref t == Value.none) = true) from Bool.false_ne_true)]
  show wpAny _ _ (field (.ref it) 1 >>= _) _ _ s
  refine wpAny_bind (wpAny_field ho hd (x := .int i 0) rfl ?_)
  show wpAny _ _ (seqItems? (.ref t) >>= _) _ _ s
  refine wpAny_bind (wpAny_seqItems hol hdl ?_)
  simp only [Int.toNat_natCast, hx]
  refine wpAny_bind (wpAny_setField ho hd (by simp) (wpAny_pure ⟨x, rfl, wpAny_pure (hQ _ ?_ (Heap.SameBut.update ..))⟩))
  exact ⟨_, Heap.get?_update_self _ ho (Obj.isFreed_of_fields (Obj.data_mapFields hd _)), (Obj.cls_mapFields ..).trans hc, by
    rw [Obj.data_mapFields hd]; simp [rawInt]⟩
/-- there is none: StopIteration -/
theorem tupStop {it t : Addr} {i : Nat} {items : Array Value} {Q : Value → Shared → Prop} (hh : A.handled = none) (hit : s.heap.IsTupleIter it t i) (ht : s.heap.IsTuple t items) (hx : items[i]? = none)
    (hE : ∀ h' e, Heap.ExtBut it s.heap h' → (∃ o, h'.get? e = some o ∧ o.cls = .type "StopIteration") → E (.ref e) { s with heap := h' }) : wpAny (model prog w) A (Builtin.SmallTypes.nextOf (.ref it)) Q E s := by
  obtain ⟨o, ho, hc, hd⟩ := id hit
  obtain ⟨ol, hol, _, nl, hdl⟩ := ht
  unfold Builtin.SmallTypes.nextOf
  refine wpAny_bind (wpAny_callSpecial?_slot (name := Str.ofString "__next__") hit.typeIs F.slot_tuple_iterator_next (wpAny_call_entry F.slot_tuple_iterator_next hit.typeIs F.entry_tuple_iterator_next ?_ (F.args_tuple_iterator_next_1 _)))
  show wpAny _ _ (field (.ref it) 0 >>= _) _ _ s
  refine wpAny_bind (wpAny_field ho hd (x := .ref t) rfl ?_)
  show wpAny _ _ (if (Value.ref t == Value.none) = true then _ else _) _ _ s
  rw [if_neg (show ¬ ((Value.ref t == Value.none) = true) from Bool.false_ne_true)]
  show wpAny _ _ (field (.ref it) 1 >>= _) _ _ s
  refine wpAny_bind (wpAny_field ho hd (x := .int i 0) rfl ?_)
  show wpAny _ _ (seqItems? (.ref t) >>= _) _ _ s
  refine wpAny_bind (wpAny_seqItems hol hdl ?_)
  simp only [Int.toNat_natCast, hx]
  refine wpAny_bind (wpAny_rule (wpAny_bind (wpAny_setField ho hd (by simp) ?_)))
  show wpAny _ _ (newExc (.type "StopIteration") [] >>= _) _ _ _
  refine wpAny_bind ?_
  simp only [newExc, newTuple]
  refine wpAny_bind (wpAny_newObj_type ?_ (by size_fits))
  refine wpAny_bind (m := firstArgMember _ _) (wpAny_of_eq (a := Value.none) (by first | rfl | (simp only [firstArgMember]; rfl)) ?_)
  refine wpAny_newObj_type ?_ (by size_fits)
  simp only [raiseNew]
  refine wpAny_bind (wpAny_handled ?_)
  first | rw [show A.in1.handled = none from hh] | rw [hh]
  refine wpAny_bind (wpAny_pure (wpAny_throw ?_))
  exact hE _ _ (((Heap.SameBut.update ..).extBut.push _).push _) ⟨_, Heap.get?_push_size _ rfl, rfl⟩
/-- enumerate's own step, whatever it walks: P tells how its source stands behind it -/
theorem enumStep {e it : Addr} {i : Nat} {x old : Value} {P : Heap → Prop} {Q : Value → Shared → Prop} (he : IsEnum s.heap e it i old) (hne : e ≠ it) (keep : ∀ h h', Heap.ExtBut e h h' → P h → P h')
    (nx : ∀ (B : Around) (Q' : Value → Shared → Prop), (∀ h1, P h1 → Heap.SameBut it s.heap h1 → Q' x { s with heap := h1 }) → wpAny (model prog w) B (Builtin.SmallTypes.nextOf (.ref it)) Q' E s)
    (hQ : ∀ h', IsEnumOut h' e it ((i : Int) + 1) x s.heap.objs.size → P h' → h'.get? s.heap.objs.size = some { cls := .type "tuple", data := .seq #[.int i s.toks, x] } → h'.objs.size = s.heap.objs.size + 1 →
      (∀ b o, b ≠ e → b ≠ it → s.heap.get? b = some o → h'.get? b = some o) → Q (.ref s.heap.objs.size) { s with heap := h', toks := s.toks + 1 }) :
    wpAny (model prog w) A (Builtin.«enumerate.__next__» ⟨[.ref e], []⟩) (fun fin s' => ∃ v, fin = .done (.ret v) ∧ Q v s') E s := by
  obtain ⟨hp, g, d, tk, os⟩ := s
  show wpAny _ _ (field (.ref e) 2 >>= _) _ _ _
  refine wpAny_bind (wpAny_field he rfl (x := .ref it) rfl ?_)
  refine wpAny_bind (nx _ _ fun h1 p1 sb1 => ?_)
  replace sb1 : Heap.SameBut it hp h1 := sb1
  have he1 : IsEnum h1 e it i old := (sb1.2 e hne).trans he
  show wpAny _ _ (field (.ref e) 3 >>= _) _ _ ⟨h1, g, d, tk, os⟩
  refine wpAny_bind (wpAny_field he1 rfl (x := rawInt i) rfl ?_)
  show wpAny _ _ (field (.ref e) 4 >>= _) _ _ ⟨h1, g, d, tk, os⟩
  refine wpAny_bind (wpAny_field he1 rfl (x := .none) rfl ?_)
  show wpAny _ _ (mkInt i >>= _) _ _ ⟨h1, g, d, tk, os⟩
  refine wpAny_bind (wpAny_mkInt ?_)
  show wpAny _ _ (setField (.ref e) 3 (rawInt ((i : Int) + 1)) >>= _) _ _ ⟨h1, g, d, tk + 1, os⟩
  refine wpAny_bind (wpAny_setField_rec he1 (by simp) fun h2 he2 sb2 => ?_)
  replace sb2 : Heap.SameBut e h1 h2 := sb2
  replace he2 : IsEnum h2 e it ((i : Int) + 1) old := he2
  show wpAny _ _ (setField (.ref e) 4 .none >>= _) _ _ ⟨h2, g, d, tk + 1, os⟩
  refine wpAny_bind (wpAny_setField_rec he2 (by simp) fun h3 he3 sb3 => ?_)
  replace sb3 : Heap.SameBut e h2 h3 := sb3
  replace he3 : IsEnum h3 e it ((i : Int) + 1) old := he3
  have p3 : P h3 := keep _ _ sb3.extBut (keep _ _ sb2.extBut p1)
  have z3 : h3.objs.size = hp.objs.size := by rw [sb3.1, sb2.1, sb1.1]
  have k3 : ∀ b o, b ≠ e → b ≠ it → hp.get? b = some o → h3.get? b = some o := fun b o be bi q => sb3.extBut b o be (sb2.extBut b o be (sb1.extBut b o bi q))
  show wpAny _ _ (newTuple [.int i tk, x] >>= _) _ _ ⟨h3, g, d, tk + 1, os⟩
  refine wpAny_bind (wpAny_newTuple ?_)
  obtain ⟨h4, e4⟩ : ∃ h4, h4 = h3.push { cls := .type "tuple", data := .seq #[.int i tk, x] } := ⟨_, rfl⟩
  have he4 : IsEnum h4 e it ((i : Int) + 1) old := by rw [e4]; exact Heap.get?_push_of_some _ he3
  have x4 : ∀ b o, h3.get? b = some o → h4.get? b = some o := fun b o q => by rw [e4]; exact Heap.get?_push_of_some _ q
  have t4 : h4.get? hp.objs.size = some { cls := .type "tuple", data := .seq #[.int i tk, x] } := by rw [e4, ← z3]; exact Heap.get?_push_size _ rfl
  have z4 : h4.objs.size = hp.objs.size + 1 := by rw [e4, Heap.size_push, z3]
  have p4 : P h4 := keep _ _ (fun b o _ q => x4 b o q) p3
  have hel : e < hp.objs.size := Heap.lt_size he
  show wpAny _ _ (Builtin.SmallTypes.ownedTupleIsFree (.ref e) >>= _) _ _ ⟨h3.push { cls := .type "tuple", data := .seq #[.int i tk, x] }, g, d, tk + 1, os⟩
  rw [← e4, z3]
  refine wpAny_bind ?_
  unfold Builtin.SmallTypes.ownedTupleIsFree
  refine wpAny_bind (wpAny_field he4 rfl (x := .none) rfl (wpAny_pure ?_))
  simp only [if_true]
  refine wpAny_bind (wpAny_rule ?_)
  refine wpAny_bind (wpAny_field he4 rfl (x := old) rfl ?_)
  refine wpAny_bind (wpAny_setField_rec he4 (by simp) fun h5 he5 sb5 => ?_)
  replace sb5 : Heap.SameBut e h4 h5 := sb5
  replace he5 : IsEnum h5 e it ((i : Int) + 1) x := he5
  show wpAny _ _ (Builtin.SmallTypes.ownedTupleHandOut (.ref e) (.ref hp.objs.size) >>= _) _ _ ⟨h5, g, d, tk + 1, os⟩
  refine wpAny_bind ?_
  unfold Builtin.SmallTypes.ownedTupleHandOut
  refine wpAny_bind (wpAny_setField_rec he5 (by simp) fun h6 he6 sb6 => ?_)
  replace sb6 : Heap.SameBut e h5 h6 := sb6
  replace he6 : IsEnumOut h6 e it ((i : Int) + 1) x hp.objs.size := he6
  refine wpAny_setField_rec he6 (by simp) fun h7 he7 sb7 => ?_
  replace sb7 : Heap.SameBut e h6 h7 := sb7
  replace he7 : IsEnumOut h7 e it ((i : Int) + 1) x hp.objs.size := he7
  have ext : Heap.ExtBut e h4 h7 := fun b o be q => sb7.extBut b o be (sb6.extBut b o be (sb5.extBut b o be q))
  refine wpAny_bind (wpAny_letGo (wpAny_pure ⟨_, rfl, hQ h7 he7 (keep _ _ ext p4) (ext _ _ (Nat.ne_of_gt hel) t4) (by rw [sb7.1, sb6.1, sb5.1, z4]) fun b o be bi q => ext b o be (x4 b o (k3 b o be bi q))⟩))
theorem enumT_item {e it t : Addr} {i : Nat} {items : Array Value} {x old : Value} {Q : Option Value → Shared → Prop} (he : IsEnum s.heap e it i old) (hit : s.heap.IsTupleIter it t i) (ht : s.heap.IsTuple t items) (hx : items[i]? = some x) (hne : e ≠ it)
    (hQ : ∀ h', IsEnumOut h' e it ((i : Int) + 1) x s.heap.objs.size → h'.IsTupleIter it t (i + 1) → h'.get? s.heap.objs.size = some { cls := .type "tuple", data := .seq #[.int i s.toks, x] } → h'.objs.size = s.heap.objs.size + 1 →
      (∀ b o, b ≠ e → b ≠ it → s.heap.get? b = some o → h'.get? b = some o) → Q (some (.ref s.heap.objs.size)) { s with heap := h', toks := s.toks + 1 }) : wpAny (model prog w) A (pyNext (.ref e)) Q E s := by
  have hT : s.TypeIs (.ref e) "enumerate" := ⟨_, he, rfl⟩
  unfold pyNext
  exact wpAny_bind (wpAny_attempt (wpAny_callSpecial?_slot (name := Str.ofString "__next__") hT F.slot_enumerate_next (wpAny_call_entry F.slot_enumerate_next hT F.entry_enumerate_next
    (enumStep (P := fun h => h.IsTupleIter it t (i + 1)) he hne (fun h h' k p => p.extBut k (Ne.symm hne)) (fun B Q' k => tupNext hit ht hx fun h1 p1 sb => k h1 p1 sb) fun h' a b c d k => wpAny_pure (hQ h' a b c d k)) (F.args_enumerate_next_1 _))))
theorem enumT_end {e it t : Addr} {i : Nat} {items : Array Value} {old : Value} {Q : Option Value → Shared → Prop} (hh : A.handled = none) (he : IsEnum s.heap e it i old) (hit : s.heap.IsTupleIter it t i) (ht : s.heap.IsTuple t items) (hx : items[i]? = none)
    (hQ : ∀ h', Heap.ExtBut it s.heap h' → Q none { s with heap := h' }) : wpAny (model prog w) A (pyNext (.ref e)) Q E s := by
  have hT : s.TypeIs (.ref e) "enumerate" := ⟨_, he, rfl⟩
  unfold pyNext
  refine wpAny_bind (wpAny_attempt (wpAny_callSpecial?_slot (name := Str.ofString "__next__") hT F.slot_enumerate_next (wpAny_call_entry F.slot_enumerate_next hT F.entry_enumerate_next ?_ (F.args_enumerate_next_1 _))))
  show wpAny _ _ (field (.ref e) 2 >>= _) _ _ _
  refine wpAny_bind (wpAny_field he rfl (x := .ref it) rfl ?_)
  refine wpAny_bind (tupStop hh hit ht hx fun h' x he' hx' => ?_)
  obtain ⟨o, ho, hc⟩ := hx'
  refine wpAny_bind (wpAny_isInstance (T := "StopIteration") (b := true) ⟨o, ho, hc⟩ isSubtype_stop ?_)
  exact wpAny_pure (hQ _ he')
end
open AutoSeq1 (wpAny_loadPart') in
theorem enumT_new (l : Addr) (items : Array Value) (n : Nat) (dct : Option Addr) (sl : Array (Option Value)) :
    Meets (Builtin.«enumerate.__new__» ⟨[.type "enumerate", .ref l], []⟩) (fun _ R s => s.heap.get? l = some { cls := .type "tuple", dict := dct, data := .seq items n, slots := sl } ∧
      R (.ok (.ret (.ref (s.heap.push { cls := .type "tuple_iterator", data := .fields #[.ref l, .int 0 0] }).objs.size)))
        { s with heap := (s.heap.push { cls := .type "tuple_iterator", data := .fields #[.ref l, .int 0 0] }).push { cls := .type "enumerate", data := .fields #[.none, .bool false, .ref s.heap.objs.size, rawInt 0, .none, .none] } }) :=
  .of_wp fun prog w A R s h => by
    obtain ⟨hp, g, d, tk, os⟩ := s; obtain ⟨hl, h⟩ := h
    have hsub := sub_enumerate
    have hL : Heap.IsTuple (Shared.heap ⟨hp, g, d, tk, os⟩) l items := ⟨_, hl, rfl, n, rfl⟩
    wp_walk using wpAny_loadPart' hl
    refine wpAny_stack_any fun st => wpAny_pure ?_
    split
    · rename_i c _ _ _ _ _
      cases (c == Value.type "enumerate")
      · wp_walk using wpAny_loadPart' hl, wpAny_pyIter_tuple hL
        exact ⟨_, rfl, h⟩
      · wp_walk using wpAny_loadPart' hl, wpAny_pyIter_tuple hL
        exact ⟨_, rfl, h⟩
    · wp_walk using wpAny_loadPart' hl, wpAny_pyIter_tuple hL
      exact ⟨_, rfl, h⟩
theorem call_enumT {prog : Program} {w : World} {A : Around} {E : Value → Shared → Prop} {s : Shared} {l : Addr} {items : Array Value} {Q : Value → Shared → Prop} (hL : s.heap.IsTuple l items)
    (h : ∀ h', IsEnum h' (s.heap.objs.size + 1) s.heap.objs.size 0 .none → h'.IsTupleIter s.heap.objs.size l 0 → h'.objs.size = s.heap.objs.size + 2 → (∀ b o, s.heap.get? b = some o → h'.get? b = some o) → Q (.ref (s.heap.objs.size + 1)) { s with heap := h' }) :
    wpAny (model prog w) A (call (.type "enumerate") [.ref l]) Q E s := by
  obtain ⟨⟨c, dct, dt, sl⟩, hl, hc, n, hd⟩ := hL
  replace hc : c = .type "tuple" := hc
  replace hd : dt = .seq items n := hd
  subst hc hd
  refine callType_new F.called_enumerate (by decide) (F.typeCall_enumerate_1 _) (F.newCall_enumerate_1 _) (fun obj => F.args_object_init_2 obj _) F.entry_enumerate_new (enumT_new l items n dct sl) ⟨hl, ?_⟩
  have hz : (s.heap.push { cls := .type "tuple_iterator", data := .fields #[.ref l, .int 0 0] }).objs.size = s.heap.objs.size + 1 := Heap.size_push ..
  show _ ∧ _
  rw [hz]
  have he : IsEnum ((s.heap.push { cls := .type "tuple_iterator", data := .fields #[.ref l, .int 0 0] }).push { cls := .type "enumerate", data := .fields #[.none, .bool false, .ref s.heap.objs.size, rawInt 0, .none, .none] }) (s.heap.objs.size + 1) s.heap.objs.size 0 .none := by
    have := Heap.get?_push_size (s.heap.push { cls := .type "tuple_iterator", data := .fields #[.ref l, .int 0 0] }) (o := { cls := .type "enumerate", data := .fields #[.none, .bool false, .ref s.heap.objs.size, rawInt 0, .none, .none] }) rfl
    rw [hz] at this; exact this
  exact ⟨⟨_, he, rfl⟩, h _ he ⟨_, Heap.get?_push_of_some _ (Heap.get?_push_size _ rfl), rfl, rfl⟩ (by rw [Heap.size_push, hz]) fun b o x => Heap.get?_push_of_some _ (Heap.get?_push_of_some _ x)⟩
end Ev

/-! Ev18: enumerate and zip of tuples or lists; comprehensions with two fors. -/
namespace Ev
open PySem L2
open PyProof.Rows hiding St
/-! ### enumerate(tuple) -/
def IteT (K : PySem.W.Frag) (a : Addr) : It :=
  ⟨fun i H => ∃ (xs : List V) (x : V), SqT K H a xs ∧ xs[i]? = some x, fun i H v H' => ∃ T x, v = .ref T ∧ H T = none ∧ H' = upd H T (.tup [.int (i : Nat), x]) ∧ ∀ xs, SqT K H a xs → xs[i]? = some x, fun i H => ∃ xs : List V, SqT K H a xs ∧ xs.length ≤ i⟩
theorem turn_enumT {P : Program} {w : World} {K : PySem.W.Frag} {elts : List Expr} {kk : Nat} {tpos : Pos} (a e it : Addr) :
    Turn P w K (.Tuple elts kk tpos) (IteT K a) [e, it] e (fun i h => (∃ old, IsEnum h e it ((i : Nat) : Int) old) ∧ h.IsTupleIter it a i ∧ e ≠ it) where
  mem := by simp
  obj := fun i h st b hb => by
    obtain ⟨⟨old, he⟩, ⟨o, ho, hc, hd⟩, _⟩ := st
    have e' : b = e ∨ b = it := by simpa using hb
    rcases e' with z | z
    · rw [z]; exact ⟨_, he, fun v q => nomatch q⟩
    · rw [z]; exact ⟨o, ho, fun v q => by rw [hd] at q; cases q⟩
  keep := fun i h h' st k => let ⟨⟨old, he⟩, hi, hne⟩ := st; ⟨⟨old, k e (by simp) _ he⟩, hi.at fun o q => k it (by simp) o q, hne⟩
  item := by
    intro X hP hw hK hc i pins s σ H E I hf st hg
    subst hP hw hK
    obtain ⟨⟨old, he⟩, hit, hne⟩ := st
    obtain ⟨xs, x, hq, hx⟩ := hg
    obtain ⟨its, rv, p, hz⟩ := I.tuple hq
    obtain ⟨u, hu, ru⟩ := rv.get hx
    have hel : e < s.heap.objs.size := Heap.lt_size he
    have hil : it < s.heap.objs.size := by obtain ⟨_, q, _⟩ := hit; exact Heap.lt_size q
    refine enumT_item he hit p (x := u) (by simpa using hu) hne fun h' ho hit' hT hsz hk => ?_
    refine ⟨_, rfl, wpAny_letOwnedTupleGo_enum (s := { s with heap := h', toks := s.toks + 1 }) ho fun h'' he' sb => ?_⟩
    have hT2 : h''.get? s.heap.objs.size = some { cls := .type "tuple", data := .seq #[.int i s.toks, u] } := (sb.2 _ (Nat.ne_of_gt hel)).trans hT
    have new : ObjOk X.prog X.w (upd H s.heap.objs.size (.tup [.int (i : Nat), x])) h'' s.heap.objs.size (.tup [.int (i : Nat), x]) :=
      ⟨by show 2 ≤ sizeLine; decide, [.int i s.toks, u], .cons ⟨_, rfl⟩ (.cons ru .nil), ⟨_, hT2, rfl, _, rfl⟩⟩
    have I1 : Inv X pins σ (upd H s.heap.objs.size (.tup [.int (i : Nat), x])) { s with heap := h'', toks := s.toks + 1 } :=
      I.turnedNew (ch := [e, it]) (fun b ob hb q => (sb.2 b (fun z => hb (by simp [z]))).trans (hk b ob (fun z => hb (by simp [z])) (fun z => hb (by simp [z])) q)) hf (Nat.le_refl _) new
    refine ⟨.ref s.heap.objs.size, _, I1, rfl, ⟨_, x, rfl, I.hok.fresh (Nat.le_refl _), rfl, fun ys hy => by rw [I.tuple_inj hy hq]; exact hx⟩, ⟨⟨u, ?_⟩, hit'.at fun o q => (sb.2 it (Ne.symm hne)).trans q, hne⟩, fun b hb => ?_⟩
    · have e1 : ((i + 1 : Nat) : Int) = (i : Int) + 1 := by omega
      rw [e1]; exact he'
    · have hb' : b < s.heap.objs.size := by
        have e' : b = e ∨ b = it := by simpa using hb
        rcases e' with z | z
        · rw [z]; exact hel
        · rw [z]; exact hil
      rw [upd_ne (Nat.ne_of_lt hb')]
      exact (hf b hb).1
  done := by
    intro X hP hw hK hc i pins s σ H E I hf st hg
    subst hP hw hK
    obtain ⟨⟨old, he⟩, hit, hne⟩ := st
    obtain ⟨xs, hq, hx⟩ := hg
    obtain ⟨its, rv, p, hz⟩ := I.tuple hq
    obtain ⟨f0, f1, f2, f3, f4, f5⟩ := hf it (by simp)
    have hl := rv.length
    exact enumT_end (I.ok.hd hc) he hit p (by simp; omega) fun h' eb => ⟨rfl, I.turned (t' := s.toks) (fun b o hb q => eb b o hb q) f0 f1 f3 f4 f5⟩
  self := fun A i s Q E st h => let ⟨⟨_, he⟩, _⟩ := st; wpAny_pyIter_enum he h
def iEnumA (K : PySem.W.Frag) (ta : TA) : TI := fun σ H R => ta σ H fun vs H1 => ∃ a xs, vs = [.ref a] ∧ ((SqL K H1 a xs ∧ R (Ite K a) H1) ∨ (SqT K H1 a xs ∧ R (IteT K a) H1))
theorem pi_enumA {X : Cx} {e : Expr} {ta : TA} {p pos tpos : Pos} {elts : List Expr} {kk : Nat} (hg : Gl X "enumerate") (hm : X.mg "enumerate" = none) (ha : PA X [e] ta) (hs : starEach [e] X.env = [(false, eval e X.env)] := by rfl) :
    PI X (.Tuple elts kk tpos) (.Call (.Name "enumerate" p) [e] [] pos) (iEnumA X.K ta) := by
  refine ⟨fun pins s σ H R I h => ?_⟩
  refine Call_ (ld_blt I hg hm boot_enumerate (callWith_type1 (thn (ha.run pos pins s σ H _ I h) fun us s1 ⟨vs, H1, I1, r1, q1⟩ => ?_) hs rfl))
  obtain ⟨a, xs, ex, q⟩ := q1
  subst ex
  cases r1 with
  | cons r rr =>
    cases rr
    cases r
    have fr : ∀ b ∈ [s1.heap.objs.size + 1, s1.heap.objs.size], FpOk X pins H1 b := fun b hb => by
      have e' : b = s1.heap.objs.size + 1 ∨ b = s1.heap.objs.size := by simpa using hb
      have hle : s1.heap.objs.size ≤ b := by
        rcases e' with z | z
        · rw [z]; exact Nat.le_add_right _ _
        · rw [z]; exact Nat.le_refl _
      exact I1.fpOk hle (I1.hok.fresh hle)
    rcases q with ⟨hq, q⟩ | ⟨hq, q⟩
    · obtain ⟨its, rv, p', hz⟩ := I1.list hq
      refine call_enumerate_list p'.isList fun h' he hit hsz hk => wpAny_pyIter_enum he ?_
      have I2 : Inv X pins σ H1 { s1 with heap := h' } := I1.kept (t' := s1.toks) hk
      exact ⟨s1.heap.objs.size + 1, [s1.heap.objs.size + 1, s1.heap.objs.size], _, _, H1, rfl, I2, turn_enum a (s1.heap.objs.size + 1) s1.heap.objs.size, ⟨⟨.none, he⟩, hit, Nat.succ_ne_self _⟩, fr, q⟩
    · obtain ⟨its, rv, p', hz⟩ := I1.tuple hq
      refine call_enumT p' fun h' he hit hsz hk => wpAny_pyIter_enum he ?_
      have I2 : Inv X pins σ H1 { s1 with heap := h' } := I1.kept (t' := s1.toks) hk
      exact ⟨s1.heap.objs.size + 1, [s1.heap.objs.size + 1, s1.heap.objs.size], _, _, H1, rfl, I2, turn_enumT a (s1.heap.objs.size + 1) s1.heap.objs.size, ⟨⟨.none, he⟩, hit, Nat.succ_ne_self _⟩, fr, q⟩
section
variable {g : Gh} {X : Cx} {tg e a b : Expr} {pos : Pos} {f h : Ef} {elts : List Expr} {kk : Nat} {tpos p : Pos}
theorem walkET {ρ : Nat → Addr} {st : Store} {H : Hp} {p : Addr} {xs : List D} (S : StT g ρ st H p xs) :
    WalkD g ρ st H (IteT g.K p) ⟨enumD 0 xs, []⟩ (fun H => ∃ us, SqT g.K H p us ∧ us.length = xs.length)
      (fun i H v H' => ∃ T x, v = .ref T ∧ H T = none ∧ H' = upd H T (.tup [.int (i : Nat), x]) ∧ ∀ us, SqT g.K H p us → us[i]? = some x) where
  walk := ⟨fun i H hi ⟨us, q, hl⟩ => by
      have hi' : i < us.length := by
        rw [hl]
        have h : i < (enumD 0 xs).length := hi
        rw [enumD_length] at h
        exact h
      exact ⟨us, us[i], q, List.getElem?_eq_getElem hi'⟩,
    fun H ⟨us, q, hl⟩ => ⟨us, q, by show us.length ≤ (enumD 0 xs).length; rw [enumD_length, hl]; exact Nat.le_refl _⟩, fun i H x H' hi _ y => y⟩
  stay := fun ρ2 st2 H2 P w => by
    obtain ⟨us, h⟩ := S
    obtain ⟨q, r⟩ := h ρ2 st2 H2 P
    exact ⟨us, q, r.length.symm⟩
  gives := fun i H2 v H3 ρ2 st2 P w hi ⟨T, x, ev, hT, eH, y⟩ => by
    subst ev
    subst eH
    obtain ⟨us, h⟩ := S
    obtain ⟨q, r⟩ := h ρ2 st2 H2 P
    obtain ⟨d, e1, e2⟩ := r.getB (y us q)
    obtain ⟨Pn, rn⟩ := pair_new (d := .int (i : Nat)) (x := V.int (i : Nat)) P.rel hT (by simp [VR]) e2
    refine ⟨_, ?_, Pn, rn⟩
    have e3 := enumD_get 0 xs i d e1
    rw [Nat.zero_add] at e3
    exact e3
/-- what stands behind a value that is walked -/
theorem srcV_ok {ρ : Nat → Addr} {s : Store} {H : Hp} {d : D} {x : V} {w : Src} {s' : Store} (Rl : Rel g ρ s H) (r : VR g.K ρ s.length H d x) (h : srcV d s = .ok w s') :
    s' = s ∧ ∃ p, x = .ref p ∧ ((StL g ρ s H p w.items w.ws ∧ ∃ us, SqL g.K H p us) ∨ (StT g ρ s H p w.items ∧ w.ws = [] ∧ ∃ us, SqT g.K H p us)) := by
  cases d with
  | tup xs =>
    unfold VR at r
    obtain ⟨p, ys, rfl, q, r⟩ := r
    cases h
    exact ⟨rfl, p, rfl, .inr ⟨StT.of Rl q r, rfl, ys, q⟩⟩
  | loc l =>
    unfold VR at r
    obtain ⟨hl, rfl⟩ := r
    unfold srcV at h
    simp only at h
    split at h
    · rename_i xs q
      cases h
      obtain ⟨ys, e1, rs⟩ := Rl.obj l _ q
      exact ⟨rfl, ρ l, rfl, .inl ⟨StL.place Rl hl (.inl q), ys, SqL.of e1⟩⟩
    · rename_i ns q
      cases h
      exact ⟨rfl, ρ l, rfl, .inl ⟨StL.place Rl hl (.inr ⟨ns, q, rfl⟩), _, RoL.sq (Rl.obj l _ q)⟩⟩
    · cases h
  | _ => cases h
theorem srcLoc_ok {ρ : Nat → Addr} {s : Store} {H : Hp} {l : Nat} {x : V} {w : Src} {s' : Store} (Rl : Rel g ρ s H) (r : VR g.K ρ s.length H (.loc l) x) (h : srcV (.loc l) s = .ok w s') :
    s' = s ∧ ∃ p, x = .ref p ∧ StL g ρ s H p w.items w.ws ∧ ∃ us, SqL g.K H p us := by
  unfold VR at r
  obtain ⟨hl, rfl⟩ := r
  unfold srcV at h
  simp only at h
  split at h
  · rename_i xs q
    cases h
    obtain ⟨ys, e1, rs⟩ := Rl.obj l _ q
    exact ⟨rfl, ρ l, rfl, StL.place Rl hl (.inl q), ys, SqL.of e1⟩
  · rename_i ns q
    cases h
    exact ⟨rfl, ρ l, rfl, StL.place Rl hl (.inr ⟨ns, q, rfl⟩), _, RoL.sq (Rl.obj l _ q)⟩
  · cases h
/-- enumerate(x), x a value -/
def iEnumV (f : Ef) : If := fun env st => (f env st).bind fun d s => (srcV d s).bind fun w s2 => .ok (srcEnum w) s2
theorem i_enumV (x : XG g X) (h : EV g X a f) (hg : Gl X "enumerate" := by rfl) (hs : starEach [a] X.env = [(false, eval a X.env)] := by rfl) :
    IV g X (.Tuple elts kk tpos) (.Call (.Name "enumerate" p) [a] [] pos) (iEnumV f) :=
  pi_imp (pi_enumA hg (x.mg "enumerate") (pa_cons h pa_nil hs) hs) fun σ H Rw ⟨ρ, st, env, s, st', Rl, E, h, k⟩ => by
    obtain ⟨d, s1, e1, h⟩ := R.bind_eq h
    obtain ⟨w, s2, e2, h⟩ := R.bind_eq h
    cases h
    refine ⟨ρ, st, env, d, s1, Rl, E, e1, fun ρ1 H1 y P1 r1 => ?_⟩
    obtain ⟨es, q, ex, c⟩ := srcV_ok P1.rel r1 e2
    subst es
    subst ex
    rw [x.K]
    rcases c with ⟨S, us, sq⟩ | ⟨S, ew, us, sq⟩
    · exact ⟨q, us, rfl, .inl ⟨sq, k ρ1 H1 _ _ _ P1 (walkE S)⟩⟩
    · have e : srcEnum w = ⟨enumD 0 w.items, []⟩ := by unfold srcEnum; rw [ew]
      rw [e] at k
      exact ⟨q, us, rfl, .inr ⟨sq, k ρ1 H1 _ _ _ P1 (walkET S)⟩⟩
/-- zip of two values, both lists or both tuples -/
def bothT : D → D → Bool
  | .tup _, .tup _ => true
  | .loc _, .loc _ => true
  | _, _ => false
def iZipV (f h : Ef) : If := fun env st => (f env st).bind fun d s => (h env s).bind fun d2 s2 => if bothT d d2 = true then (srcV d s2).bind fun w s3 => (srcV d2 s3).bind fun w2 s4 => .ok (srcZip w w2) s4 else .bad
theorem i_zipV (x : XG g X) (ha : EV g X a f) (hb : EV g X b h) (hg : Gl X "zip" := by rfl) (hs : starEach [a, b] X.env = (false, eval a X.env) :: starEach [b] X.env := by rfl) (hs2 : starEach [b] X.env = (false, eval b X.env) :: starEach [] X.env := by rfl) (hpl : (backTo pos (starEach [b] X.env)).any (·.1) = false := by rfl) :
    IV g X (.Tuple elts kk tpos) (.Call (.Name "zip" p) [a, b] [] pos) (iZipV f h) :=
  pi_imp (RZ.pi_zipA hg (x.mg "zip") (pa_cons ha (pa_cons hb pa_nil hs2) hs) hs hpl) fun σ H Rw ⟨ρ, st, env, s, st', Rl, E, h, k⟩ => by
    obtain ⟨d, s1, e1, h⟩ := R.bind_eq h
    obtain ⟨d2, s2, e2, h⟩ := R.bind_eq h
    split at h
    · rename_i hz
      obtain ⟨w, s3, e3, h⟩ := R.bind_eq h
      obtain ⟨w2, s4, e4, h⟩ := R.bind_eq h
      cases h
      refine ⟨ρ, st, env, d, s1, Rl, E, e1, fun ρ1 H1 y P1 r1 => ?_⟩
      refine ⟨ρ1, s1, env, d2, s2, P1.rel, P1.envr Rl E, e2, fun ρ2 H2 y2 P2 r2 => ?_⟩
      have r1' := P2.vr P1.rel r1
      have P12 := P1.trans P2
      rw [x.K]
      cases d <;> cases d2 <;> simp only [bothT] at hz <;> (try cases hz)
      · unfold VR at r1' r2
        obtain ⟨pa, ya, rfl, qa, ra⟩ := r1'
        obtain ⟨pb, yb, rfl, qb, rb⟩ := r2
        cases e3
        cases e4
        exact ⟨_, _, ya, yb, rfl, .inr ⟨qa, qb, k ρ2 H2 _ _ _ P12 (walkZT (StT.of P2.rel qa ra) (StT.of P2.rel qb rb))⟩⟩
      · obtain ⟨es, q, ex, S, us, sq⟩ := srcLoc_ok P2.rel r1' e3
        subst es
        obtain ⟨es, q2, ex2, S2, us2, sq2⟩ := srcLoc_ok P2.rel r2 e4
        subst es
        exact ⟨q, q2, us, us2, by rw [ex, ex2], .inl ⟨sq, sq2, k ρ2 H2 _ _ _ P12 (walkZ S S2)⟩⟩
    · cases h
end
end Ev

/-! Ev19: comprehensions with two fors. -/
namespace Ev
open PySem L2
open PyProof.Rows hiding St
theorem it_W {J : It} {n : Nat} {G : Hp → Prop} {Y : Nat → Hp → V → Hp → Prop} (w : Walk J n G Y) {Step : (Hp → Prop) → V → Hp → Prop} {H0 : Hp} {Qd : Hp → Prop} (Pv : Nat → Hp → Prop) (h0 : Pv 0 H0) (hG : ∀ i H, i ≤ n → Pv i H → G H)
    (hs : ∀ i x H H', i < n → Pv i H → Y i H x H' → Step (Pv (i + 1)) x H') (hd : ∀ H, Pv n H → Qd H) :
    ∃ W : Nat → Nat → Hp → Prop, (∃ m, W 0 m H0) ∧ ∀ i m H, W i m H →
      (J.stop i H ∧ Qd H) ∨ (J.go i H ∧ ∃ Nx : Hp → Prop, (∀ H', Nx H' → ∃ m', m' < m ∧ W (i + 1) m' H') ∧ ∀ x H', J.yld i H x H' → Step Nx x H') := by
  refine ⟨fun i m H => m = n - i ∧ i ≤ n ∧ Pv i H, ⟨n, by simp, Nat.zero_le _, h0⟩, ?_⟩
  rintro i m H ⟨rfl, hi, p⟩
  have q := hG i H hi p
  by_cases hlt : i < n
  · exact .inr ⟨w.goes i H hlt q, Pv (i + 1), fun H' p' => ⟨n - (i + 1), by omega, rfl, hlt, p'⟩, fun x H' y => hs i x H H' hlt p (w.yields i H x H' hlt q y)⟩
  · have e : i = n := by omega
    subst e
    exact .inl ⟨w.stops H q, hd H p⟩
/-- the list at l gets one more -/
def appL (l : Nat) (v : D) (s : Store) : R Unit := match s[l]? with
  | some (.lst xs) => if xs.length < sizeLine then .ok () (s.set l (.lst (xs ++ [v]))) else .bad
  | _ => .bad
def compL (l : Nat) (ws : Wt) (gf : Gf) (tf : Tf) (ef : Ef) (env : EEnv) : List D → Store → R Unit
  | [], st => if wOk st ws = true then .ok () st else .bad
  | d :: ds, st => if wOk st ws = true then (gf d env st).bind fun e s => (tf e s).bind fun b s2 => if b = true then (ef e s2).bind fun v s3 => (appL l v s3).bind fun _ s4 => compL l ws gf tf ef env ds s4 else compL l ws gf tf ef env ds s2 else .bad
def compL2 (l : Nat) (ws : Wt) (gf : Gf) (tf : Tf) (fi1 : If) (vs1 : List Nat) (gf1 : Gf) (tf1 : Tf) (ef : Ef) (env : EEnv) : List D → Store → R Unit
  | [], st => if wOk st ws = true then .ok () st else .bad
  | d :: ds, st => if wOk st ws = true then (gf d env st).bind fun e s => (tf e s).bind fun b s2 => if b = true then (fi1 e s2).bind fun z s3 => (compL l z.ws gf1 tf1 ef (wipeE e vs1) z.items s3).bind fun _ s4 => compL2 l ws gf tf fi1 vs1 gf1 tf1 ef env ds s4
      else compL2 l ws gf tf fi1 vs1 gf1 tf1 ef env ds s2 else .bad
/-- [elt for .. for ..], the list with a place from the start -/
def eComp2 (vs : List Nat) (f : If) (gf : Gf) (tf : Tf) (fi1 : If) (vs1 : List Nat) (gf1 : Gf) (tf1 : Tf) (ef : Ef) : Ef := fun env st => (f env st).bind fun s s1 =>
  (compL2 s1.length s.ws gf tf fi1 vs1 gf1 tf1 ef (wipeE env vs) s.items (s1 ++ [.lst []])).bind fun _ s2 => .ok (.loc s1.length) s2
section
variable {g : Gh} {X : Cx}
theorem appL_ok {ρ : Nat → Addr} {st st' : Store} {H : Hp} {l : Nat} {v : D} {y : V} (Rl : Rel g ρ st H) (r : VR g.K ρ st.length H v y) (h : appL l v st = .ok () st') :
    ∃ acc, H (ρ l) = some (.lst acc) ∧ acc.length < sizeLine ∧ Post g ρ st H ρ st' (upd H (ρ l) (.lst (acc ++ [y]))) := by
  unfold appL at h
  split at h
  · rename_i xs q
    split at h
    · rename_i hz
      cases h
      obtain ⟨ys, q1, rs⟩ := Rl.obj l _ q
      refine ⟨ys, q1, by rw [← rs.length]; exact hz, ?_⟩
      exact (Rl.setLst q q1 (rs.append (.cons r .nil))).1
    · cases h
  · cases h
theorem lc2_of {fi fi1 : If} {ws ws1 : List Nat} {gf gf1 : Gf} {tf tf1 : Tf} {ef : Ef} {vs vs1 : List Nat} (hws : ∀ j ∈ ws, j ∈ vs) (hws1 : ∀ j ∈ ws1, j ∈ vs1) : ∀ σ H Q, tE g (eComp2 vs fi gf tf fi1 vs1 gf1 tf1 ef) σ H Q → tLc2 (tI g fi) (tG g ws gf) (tT g tf) (tI g fi1) (tG g ws1 gf1) (tT g tf1) (tE g ef) vs vs1 σ H Q :=
  fun σ H Q ⟨ρ, st, env, fin, stF, Rl, E, h, k⟩ => by
    obtain ⟨s, s1, e1, h⟩ := R.bind_eq h
    obtain ⟨u0, s2, hc0, h⟩ := R.bind_eq h
    cases h
    refine ⟨ρ, st, env, s, s1, Rl, E, e1, fun ρ1 H1 J G Y P1 W => fun Da hD => ?_⟩
    -- the list has the place s1.length from the start
    have P0 : Post g ρ1 s1 H1 (nxt ρ1 s1.length Da) (s1 ++ [.lst []]) (upd H1 Da (.lst [])) := P1.rel.push (o := .lst []) hD ⟨[], upd_same, .nil⟩
    have lD : ∀ {ρ2 st2 H2}, Post g (nxt ρ1 s1.length Da) (s1 ++ [.lst []]) (upd H1 Da (.lst [])) ρ2 st2 H2 → ρ2 s1.length = Da := fun P => by
      rw [P.old s1.length (by simp), nxt_same]
    refine it_W W.walk (fun i H' => ∃ ρ2 st2, Post g (nxt ρ1 s1.length Da) (s1 ++ [.lst []]) (upd H1 Da (.lst [])) ρ2 st2 H' ∧ compL2 s1.length s.ws gf tf fi1 vs1 gf1 tf1 ef (wipeE env vs) (s.items.drop i) st2 = .ok () stF)
      ⟨_, _, Post.refl P0.rel, by rw [List.drop_zero]; exact hc0⟩ (fun i H' hi ⟨ρ2, st2, P2, hc⟩ => ?_) (fun i v H' H'' hi ⟨ρ2, st2, P2, hc⟩ y => ?_) (fun H' ⟨ρ2, st2, P2, hc⟩ => ?_)
    · refine W.stay ρ2 st2 H' (P0.trans P2) ?_
      cases hd : s.items.drop i with
      | nil =>
        rw [hd] at hc
        unfold compL2 at hc
        by_cases w : wOk st2 s.ws = true
        · exact w
        · rw [if_neg w] at hc; cases hc
      | cons d ds =>
        rw [hd] at hc
        unfold compL2 at hc
        by_cases w : wOk st2 s.ws = true
        · exact w
        · rw [if_neg w] at hc; cases hc
    · have hdr : s.items.drop i = s.items[i] :: s.items.drop (i + 1) := List.drop_eq_getElem_cons hi
      rw [hdr] at hc
      unfold compL2 at hc
      by_cases w : wOk st2 s.ws = true
      · rw [if_pos w] at hc
        obtain ⟨d, ed, P3, r3⟩ := W.gives i H' v H'' ρ2 st2 (P0.trans P2) w hi y
        rw [List.getElem?_eq_getElem hi] at ed
        cases ed
        obtain ⟨e4, s4, q4, hc⟩ := R.bind_eq hc
        obtain ⟨b5, s5, q5, hc⟩ := R.bind_eq hc
        have P02 := P0.trans P2
        have E2 : EnvR g.K ρ2 st2.length H'' env σ := P3.envr P2.rel (P02.envr P1.rel (P1.envr Rl E))
        refine ⟨ρ2, st2, wipeE env vs, _, e4, s4, P3.rel, E2.wipe vs, r3, q4, fun ρ4 H4 σ4 P4 E4 o4 => ?_⟩
        have ew : wipe σ4 vs = wipe σ vs := by
          have q := o4.wipe hws
          rw [q]
          exact (Off.wipe (ws := vs) ⟨wipe_length σ vs, fun j hj => wipe_out hj⟩ (fun _ h => h))
        refine ⟨ew, ρ4, s4, e4, b5, s5, P4.rel, E4, q5, fun ρ5 H5 P5 => ?_⟩
        have P25 := P2.trans ((P3.trans P4).trans P5)
        cases b5 with
        | true =>
          rw [if_pos rfl] at hc
          obtain ⟨z, s6, q6, hc⟩ := R.bind_eq hc
          obtain ⟨u7, s7, q7, hc⟩ := R.bind_eq hc
          refine iteT ⟨ρ5, s5, e4, z, s6, P5.rel, P5.envr P4.rel E4, q6, fun ρ6 H6 J1 G1 Y1 P6 W1 => ?_⟩
          have P26 := P25.trans P6
          have E6 := P6.envr P5.rel (P5.envr P4.rel E4)
          refine it_W W1.walk (fun j Hj => ∃ ρj stj, Post g ρ6 s6 H6 ρj stj Hj ∧ compL s1.length z.ws gf1 tf1 ef (wipeE e4 vs1) (z.items.drop j) stj = .ok () s7)
            ⟨ρ6, s6, Post.refl P6.rel, by rw [List.drop_zero]; exact q7⟩
            (fun j Hj hj ⟨ρj, stj, Pj, hc2⟩ => ?_) (fun j v2 Hj Hj' hj ⟨ρj, stj, Pj, hc2⟩ y2 => ?_) (fun Hj ⟨ρj, stj, Pj, hc2⟩ => ?_)
          · refine W1.stay ρj stj Hj Pj ?_
            cases hd : z.items.drop j with
            | nil =>
              rw [hd] at hc2
              unfold compL at hc2
              by_cases w : wOk stj z.ws = true
              · exact w
              · rw [if_neg w] at hc2; cases hc2
            | cons d ds =>
              rw [hd] at hc2
              unfold compL at hc2
              by_cases w : wOk stj z.ws = true
              · exact w
              · rw [if_neg w] at hc2; cases hc2
          · have hdr2 : z.items.drop j = z.items[j] :: z.items.drop (j + 1) := List.drop_eq_getElem_cons hj
            rw [hdr2] at hc2
            unfold compL at hc2
            by_cases w1 : wOk stj z.ws = true
            · rw [if_pos w1] at hc2
              obtain ⟨d2, ed2, P7, r7⟩ := W1.gives j Hj v2 Hj' ρj stj Pj w1 hj y2
              rw [List.getElem?_eq_getElem hj] at ed2
              cases ed2
              obtain ⟨e8, s8, q8, hc2⟩ := R.bind_eq hc2
              obtain ⟨b9, s9, q9, hc2⟩ := R.bind_eq hc2
              have Ej : EnvR g.K ρj stj.length Hj' e4 σ4 := P7.envr Pj.rel (Pj.envr P6.rel E6)
              refine ⟨ρj, stj, wipeE e4 vs1, _, e8, s8, P7.rel, Ej.wipe vs1, r7, q8, fun ρ8 H8 σ8 P8 E8 o8 => ?_⟩
              have ew8 : wipe σ8 vs1 = wipe σ4 vs1 := by
                have q := o8.wipe hws1
                rw [q]
                exact (Off.wipe (ws := vs1) ⟨wipe_length σ4 vs1, fun j hj => wipe_out hj⟩ (fun _ h => h))
              refine ⟨ew8, ρ8, s8, e8, b9, s9, P8.rel, E8, q9, fun ρ9 H9 P9 => ?_⟩
              have Pj9 := Pj.trans ((P7.trans P8).trans P9)
              cases b9 with
              | true =>
                rw [if_pos rfl] at hc2
                obtain ⟨v10, s10, q10, hc2⟩ := R.bind_eq hc2
                obtain ⟨u11, s11, q11, hc2⟩ := R.bind_eq hc2
                refine iteT ⟨ρ9, s9, e8, v10, s10, P9.rel, P9.envr P8.rel E8, q10, fun ρ10 H10 y10 P10 r10 => ?_⟩
                have P210 := (P26.trans Pj9).trans P10
                obtain ⟨acc, h1, h2, P11⟩ := appL_ok P10.rel r10 q11
                rw [lD P210] at h1 P11
                exact ⟨acc, h1, h2, ρ10, s11, (Pj9.trans P10).trans P11, hc2⟩
              | false =>
                rw [if_neg Bool.false_ne_true] at hc2
                exact iteF ⟨ρ9, s9, Pj9, hc2⟩
            · rw [if_neg w1] at hc2; cases hc2
          · rw [List.drop_of_length_le (Nat.le_refl _)] at hc2
            unfold compL at hc2
            by_cases w1 : wOk stj z.ws = true
            · rw [if_pos w1] at hc2
              cases hc2
              exact ⟨ρj, _, P26.trans Pj, hc⟩
            · rw [if_neg w1] at hc2; cases hc2
        | false =>
          rw [if_neg Bool.false_ne_true] at hc
          exact iteF ⟨ρ5, s5, P25, hc⟩
      · rw [if_neg w] at hc; cases hc
    · rw [List.drop_of_length_le (Nat.le_refl _)] at hc
      unfold compL2 at hc
      by_cases w : wOk st2 s.ws = true
      · rw [if_pos w] at hc
        cases hc
        refine k ρ2 H' (.ref Da) ((P1.trans P0).trans P2) ?_
        unfold VR
        exact ⟨Nat.lt_of_lt_of_le (by simp) P2.len, by rw [lD P2]⟩
      · rw [if_neg w] at hc; cases hc
variable {elt tg iter tg1 iter1 : Expr} {ifs ifs1 : List Expr} {scope : Scope} {fi fi1 : If} {ws ws1 : List Nat} {gf gf1 : Gf} {tf tf1 : Tf} {ef : Ef} {pos : Pos}
theorem e_comp2 (x : XG g X) (own : List (Str × Nat)) (vs1 : List Nat) (hi : IV g X tg iter fi) (ok : BlkOk X.N X.env.scope scope own)
    (hg : ∀ (s : Shared) (H : Hp) (C : Addr) (cl : List (Str × Addr)) (fp : List Addr), GV g (X.blk s H scope (compEnvC scope cl C X.env) fp) tg ws gf) (ht : ∀ (s : Shared) (H : Hp) (C : Addr) (cl : List (Str × Addr)) (fp : List Addr), Ptf g (X.blk s H scope (compEnvC scope cl C X.env) fp) ifs tf)
    (hi1 : ∀ (s : Shared) (H : Hp) (C : Addr) (cl : List (Str × Addr)) (fp : List Addr), IV g (X.blk s H scope (compEnvC scope cl C X.env) fp) tg1 iter1 fi1)
    (hg1 : ∀ (s : Shared) (H : Hp) (C : Addr) (cl : List (Str × Addr)) (fp : List Addr), GV g (X.blk s H scope (compEnvC scope cl C X.env) fp) tg1 ws1 gf1) (ht1 : ∀ (s : Shared) (H : Hp) (C : Addr) (cl : List (Str × Addr)) (fp : List Addr), Ptf g (X.blk s H scope (compEnvC scope cl C X.env) fp) ifs1 tf1)
    (he : ∀ (s : Shared) (H : Hp) (C : Addr) (cl : List (Str × Addr)) (fp : List Addr), EV g (X.blk s H scope (compEnvC scope cl C X.env) fp) elt ef) (hws : ∀ j ∈ ws, j ∈ own.map (·.2) := by decide) (hws1 : ∀ j ∈ ws1, j ∈ vs1 := by decide) (hv : ∀ j ∈ vs1, j ∈ own.map (·.2) := by decide)
    (hs : ∀ x, foldedSetIterable iter X.env x = pure x := by intro _; rfl) (hs1 : ∀ env x, foldedSetIterable iter1 env x = pure x := by intro _ _; rfl) :
    EV g X (.ListComp elt [⟨tg, iter, ifs, 0⟩, ⟨tg1, iter1, ifs1, 0⟩] scope pos) (eComp2 (own.map (·.2)) fi gf tf fi1 vs1 gf1 tf1 ef) := pe_imp (pe_lc2 x.calm x.nd hi ok hv hg ht hi1 hg1 ht1 he hs hs1) (lc2_of hws hws1)
end
/-! ### o.m(k=..) -/
section
variable {g : Gh} {X : Cx} {o : Expr} {m n : Str} {apos pos p : Pos} {fo : Ef} {u : Af} {sem : SemF} {k : Nat} {f : Addr} {fd : FuncData} {ps ks : List Str} {pm : List Nat} {kws : List Keyword}
theorem e_methK0 {pl : Sem Bool} (x : XG g X) (c : Nat) (ho : EV g X o fo) (M : Meth X.K (g.cl c) m f) (F : FnG g X.prog X.w X.K X.mg X.base k f fd ps sem) (hr : Room k X.A) (hb : KBd X.K fd ps 1 ks (0 :: pm.map (· + 1))) (hn : ∀ i, i < g.nf → g.fld i ≠ m) (hkw : KV g X kws u)
    (hall : (backToKw pos (keywordEach kws X.env)).all (·.1.isSome) = true := by rfl) (hks : (backToKw pos (keywordEach kws X.env)).filterMap (·.1) = ks := by rfl)
    (hpl : ((backTo pos (starEach [] X.env)).any (·.1) || (backToKw pos (keywordEach kws X.env)).any (·.1.isNone)) = false := by rfl)
    (ht : eval (.Call (.Attribute o m apos) [] kws pos) X.env = (do
      let ov ← eval o X.env
      standAt apos.atName
      let (f, first) ← holding [ov] (getMethod ov m pl)
      callWith pos f first (backTo pos (starEach [] X.env)) (backToKw pos (keywordEach kws X.env))) := by rfl) :
    EV g X (.Call (.Attribute o m apos) [] kws pos) (eMeth c sem fo (aKw 0 ks.length pm aNil u)) := by
  refine ⟨fun pins s σ H Q I ⟨ρ, st, env, v, st', Rl, E, h, kq⟩ => ?_⟩
  obtain ⟨d, s1, e1, h⟩ := R.bind_eq h
  split at h
  · rename_i hC
    obtain ⟨ds, s2, e2, h⟩ := R.bind_eq h
    obtain ⟨d1, s3, e3, e2⟩ := R.bind_eq e2
    cases e3
    obtain ⟨d2, s4, e4, e2⟩ := R.bind_eq e2
    split at e2
    · rename_i hl
      cases e2
      refine PySem.W.methodCall_KW (pl := pl) (thn (ho.run pins s σ H (fun y H1 => ∃ a dx gs, y = .ref a ∧ H1 a = some (.ins (g.cl c) dx gs) ∧ c < g.nc ∧ gs.lookup m = none ∧ tA g u σ H1 fun zs H2 => zs.length = ks.length ∧ SpD g sem (.ref a :: sel pm zs) H2 Q) I
        ⟨ρ, st, env, d, _, Rl, E, e1, fun ρ1 H1 y P1 r1 => ?_⟩) fun uo s5 ⟨y, H1, I1, ry, a, dx, gs, ey, ea, hc, l, q⟩ => ?_) ht
      · obtain ⟨l, dx, gs, fs, rfl, rfl, e6, hc, rf⟩ := isC_ok P1.rel r1 hC
        refine ⟨ρ1 l, dx, gs, rfl, e6, hc, rf.none_of hn, ρ1, _, env, d2, _, P1.rel, P1.envr Rl E, e4, fun ρ2 H2 zs P2 r2 => ⟨by rw [← r2.length]; exact hl.2, ?_⟩⟩
        exact ⟨ρ2, _, _, v, st', P2.rel, .cons (P2.vr P1.rel r1) (sel_vrs (VRs.append .nil r2)), h, fun ρ' H' z P r => kq ρ' H' z ((P1.trans P2).trans P) r⟩
      · subst ey
        obtain rfl : uo = Value.ref a := ry
        refine getmeth_ok I1 ea (by rw [x.K]; exact x.cls c hc) M l ?_
        refine PySem.W.callWith_KW0 (first := [.ref a]) (h₀ := X.base) I.ok.mod.kin M.kp hall (thn (hkw.run pos pins s5 σ H1 _ I1 q) fun wz s6 ⟨zs, H2, I2, rz, l2, q3⟩ => ⟨I2.kIn, ?_⟩) hpl
        rw [hks]
        have e : sel (0 :: pm.map (· + 1)) ([V.ref a] ++ zs) = V.ref a :: sel pm zs := by
          unfold sel
          rw [List.filterMap_cons, List.filterMap_map]
          rfl
        exact run_gk (us := [.ref a]) (vs := [.ref a]) x F hr hb I2 (.cons rfl .nil) rz rfl l2 (by rw [e]; exact q3)
    · cases e2
  · cases h
end
/-! ### how simp reckons -/
section
variable {env : EEnv} {st s : Store} {f h fo : Ef} {d d2 : D} {l : Nat} {xs ys : List D} {z z2 : Src}
def kEV2 (w : Src) (s : Store) : R Src := .ok (srcEnum w) s
def kEV1 (d : D) (s : Store) : R Src := (srcV d s).bind kEV2
@[simp] theorem ev_iEnumV : iEnumV f env st = (f env st).bind kEV1 := rfl
@[simp] theorem ev_kEV1 : kEV1 d s = (srcV d s).bind kEV2 := rfl
@[simp] theorem ev_kEV2 : kEV2 z s = .ok ⟨enumD 0 z.items, z.ws⟩ s := rfl
def kZV4 (w w2 : Src) (s : Store) : R Src := .ok (srcZip w w2) s
def kZV3 (d2 : D) (w : Src) (s : Store) : R Src := (srcV d2 s).bind (kZV4 w)
def kZV2 (d d2 : D) (s : Store) : R Src := if bothT d d2 = true then (srcV d s).bind (kZV3 d2) else .bad
def kZV1 (h : Ef) (env : EEnv) (d : D) (s : Store) : R Src := (h env s).bind (kZV2 d)
@[simp] theorem ev_iZipV : iZipV f h env st = (f env st).bind (kZV1 h env) := rfl
@[simp] theorem ev_kZV1 : kZV1 h env d s = (h env s).bind (kZV2 d) := rfl
@[simp] theorem ev_kZV2 : kZV2 d d2 s = if bothT d d2 = true then (srcV d s).bind (kZV3 d2) else .bad := rfl
@[simp] theorem ev_kZV3 : kZV3 d2 z s = (srcV d2 s).bind (kZV4 z) := rfl
@[simp] theorem ev_kZV4 : kZV4 z z2 s = .ok ⟨zipD z.items z2.items, z.ws ++ z2.ws⟩ s := rfl
@[simp] theorem bothT_t : bothT (.tup xs) (.tup ys) = true := rfl
def kAK2 (n m : Nat) (pm : List Nat) (ds es : List D) (s : Store) : R (List D) := if ds.length = n ∧ es.length = m then .ok (sel pm (ds ++ es)) s else .bad
end
end Ev

/-! Ev20: sorted of a list of data (numbers, texts, tuples of these). -/
namespace Ev
open PySem L2
open PyProof.Rows hiding St
theorem each_vals : ∀ {zs : List (V × PyData)} {its : List Value}, Vals (zs.map Prod.fst) its → PySem.W.EachIs (fun v (b : V × PyData) => RelV b.1 v) its zs
  | [], its, h => by cases h; exact .nil
  | z :: zs, its, h => by
    cases h with
    | cons h1 h2 => exact .cons h1 (each_vals h2)
theorem vals_each : ∀ {zs : List (V × PyData)} {its : List Value}, PySem.W.EachIs (fun v (b : V × PyData) => RelV b.1 v) its zs → Vals (zs.map Prod.fst) its
  | _, _, .nil => .nil
  | _, _, .cons h1 h2 => .cons h1 (vals_each h2)
abbrev sortV (zs : List (V × PyData)) : List V := (zs.mergeSort (PySem.W.dataLe false Prod.snd)).map Prod.fst
theorem call_sorted {X : Cx} (hu : X.A.units + 200 < cLine) : CallR X (.builtin "sorted") (fun xs H Q => ∃ p, ∃ zs : List (V × PyData), xs = [.ref p] ∧ SqL X.K H p (zs.map Prod.fst) ∧ (∀ z ∈ zs, Dp X.K H z.1 z.2) ∧ PySem.W.AllAlike (zs.map Prod.snd) ∧ PySem.W.Sortable (zs.map Prod.snd) ∧ (∀ z ∈ zs, z.2.depth ≤ 60) ∧
    ∀ l, H l = none → Q (.ref l) (upd H l (.lst (sortV zs)))) := by
  intro pins s σ H xs us Q I r h
  obtain ⟨p, zs, rfl, hq, hd, ha, hs, hdp, q⟩ := h
  obtain ⟨u, rfl, rx⟩ := vals1 r
  cases rx
  obtain ⟨its, r', pl, hz⟩ := I.list hq
  have e := each_vals r'
  have lz : zs.length ≤ sizeLine := by rw [List.length_map] at hz; exact hz
  refine PySem.W.sorted_data (bs := zs) (enc := Prod.snd) (R := fun v (b : V × PyData) => RelV b.1 v) pl.isList e ?_ ha hs lz (fun b hb => ?_) fun out hl eo => ?_
  · exact ((PySem.W.each_mem e).mono fun v b ⟨h1, h2⟩ => Dp.reads I _ _ v (hd b h2) h1)
  · have := hdp b hb
    omega
  · obtain ⟨c, hc⟩ := sortedAll_at s.heap its out.toArray
    have lo : (sortV zs).length ≤ sizeLine := by
      rw [List.length_map, List.length_mergeSort]
      exact lz
    exact ⟨.ref (s.heap.objs.size + 1), _, I.laid (t' := s.toks) (fun b o e => sortedAll_old e) (Nat.le_succ _) (show ObjOk X.prog X.w _ _ _ (.lst (sortV zs)) from ⟨lo, out, c, vals_each eo, hc⟩), rfl, q _ (I.hok.fresh (Nat.le_succ _))⟩
/-! the layer's word -/
abbrev lexD : D → D → Bool := PySem.W.dataLe false D.dat
def sortD (xs : List D) : List D := xs.mergeSort lexD
def sortOk (xs : List D) : Bool := D.flats xs && (xs.all fun a => xs.all fun b => PySem.W.alike a.dat b.dat) &&
  ((xs.all fun d => match d with | .tup (_ :: _) => true | _ => false) || xs.all fun d => match d with | .non => false | .tup _ => false | .loc _ => false | _ => true) && xs.all fun d => decide (d.dat.depth ≤ 60)
def nSorted (t : Af) : Af := fun env st => (t env st).bind fun xs s => if sortOk xs = true then .ok (sortD xs) s else .bad
theorem vrs_zip {K : PySem.W.Frag} {ρ : Nat → Addr} {n : Nat} {H : Hp} : ∀ {xs : List D} {ys : List V}, VRs K ρ n H xs ys → xs.length = ys.length ∧ ∀ p ∈ xs.zip ys, VR K ρ n H p.1 p.2
  | [], ys, h => by
    unfold VRs at h
    subst h
    exact ⟨rfl, fun _ m => nomatch m⟩
  | x :: xs, ys, h => by
    unfold VRs at h
    obtain ⟨y, zs, rfl, r1, rs⟩ := h
    obtain ⟨a, b⟩ := vrs_zip rs
    refine ⟨by simp [a], fun p m => ?_⟩
    rw [List.zip_cons_cons] at m
    rcases List.mem_cons.mp m with rfl | m
    · exact r1
    · exact b p m
theorem zip_vrs {K : PySem.W.Frag} {ρ : Nat → Addr} {n : Nat} {H : Hp} : ∀ {ps : List (D × V)}, (∀ p ∈ ps, VR K ρ n H p.1 p.2) → VRs K ρ n H (ps.map Prod.fst) (ps.map Prod.snd)
  | [], _ => .nil
  | p :: ps, h => .cons (h p (List.mem_cons_self ..)) (zip_vrs fun q m => h q (List.mem_cons_of_mem _ m))
theorem flats_mem : ∀ {xs : List D}, D.flats xs = true → ∀ d ∈ xs, d.flat = true
  | x :: xs, h, d, m => by
    have h' : D.flat x = true ∧ D.flats xs = true := by simpa [D.flats] using h
    rcases List.mem_cons.mp m with rfl | m
    · exact h'.1
    · exact flats_mem h'.2 d m
section
variable {g : Gh} {X : Cx} {a : Expr} {pos p : Pos} {t : Af} {env : EEnv} {st s : Store}
theorem n_sorted (x : XG g X) (h : LV g X a t) (hg : Gl X "sorted" := by rfl) (he : starEach [a] X.env = (false, eval a X.env) :: starEach [] X.env := by rfl) : NV g X (.Call (.Name "sorted" p) [a] [] pos) (nSorted t) :=
  pe_imp (pe_callB (call_sorted x.hu) hg (x.mg "sorted") (by decide +kernel) (pa_cons h pa_nil he) (by decide) (by decide) he rfl) fun σ H Q ⟨ρ, st, env, v, st', Rl, E, h, k⟩ => by
    obtain ⟨xs, s1, e1, h⟩ := R.bind_eq h
    split at h
    · rename_i ok
      cases h
      refine ⟨ρ, st, env, xs, _, Rl, E, e1, fun ρ1 H1 p ys P1 sq r => ?_⟩
      unfold sortOk at ok
      simp only [Bool.and_eq_true] at ok
      obtain ⟨⟨⟨fl, al⟩, so⟩, dp⟩ := ok
      obtain ⟨lz, rz⟩ := vrs_zip r
      obtain ⟨ws, hws⟩ : ∃ ws, ws = xs.zip ys := ⟨_, rfl⟩
      rw [← hws] at rz
      have w1 : ws.map Prod.fst = xs := by rw [hws, List.map_fst_zip (by omega)]
      have w2 : ws.map Prod.snd = ys := by rw [hws, List.map_snd_zip (by omega)]
      have mw : ∀ q ∈ ws, q.1 ∈ xs := fun q m => by rw [← w1]; exact List.mem_map.mpr ⟨q, m, rfl⟩
      obtain ⟨f, hf⟩ : ∃ f : D × V → V × PyData, ∀ q, f q = (q.2, q.1.dat) := ⟨fun q => (q.2, q.1.dat), fun _ => rfl⟩
      have z1 : (ws.map f).map Prod.fst = ys := by
        rw [List.map_map, ← w2]
        apply List.map_congr_left
        intro q _
        simp [hf]
      have z2 : (ws.map f).map Prod.snd = xs.map D.dat := by
        rw [List.map_map, ← w1, List.map_map]
        apply List.map_congr_left
        intro q _
        simp [hf]
      refine ⟨p, ws.map f, rfl, by rw [z1, x.K]; exact sq, fun z mz => ?_, ?_, ?_, fun z mz => ?_, fun l hl => ?_⟩
      · obtain ⟨q, mq, rfl⟩ := List.mem_map.mp mz
        rw [hf, x.K]
        exact pd_dp P1.rel (rz q mq) (pdW_flat (flats_mem fl _ (mw q mq)))
      · rw [z2]
        intro d md d' md'
        obtain ⟨u, mu, rfl⟩ := List.mem_map.mp md
        obtain ⟨u', mu', rfl⟩ := List.mem_map.mp md'
        exact List.all_eq_true.mp (List.all_eq_true.mp al u mu) u' mu'
      · rw [z2]
        rw [Bool.or_eq_true] at so
        rcases so with so | so
        · refine .inl fun d md => ?_
          obtain ⟨u, mu, rfl⟩ := List.mem_map.mp md
          have := List.all_eq_true.mp so u mu
          split at this
          · exact ⟨_, _, rfl⟩
          · cases this
        · refine .inr fun d md => ?_
          obtain ⟨u, mu, rfl⟩ := List.mem_map.mp md
          have := List.all_eq_true.mp so u mu
          cases u <;> simp at this <;> exact ⟨by simp [D.dat], fun xs => by simp [D.dat]⟩
      · obtain ⟨q, mq, rfl⟩ := List.mem_map.mp mz
        rw [hf]
        exact of_decide_eq_true (List.all_eq_true.mp dp _ (mw q mq))
      · have e3 : (ws.mergeSort fun p q => lexD p.1 q.1).map Prod.fst = sortD xs := by
          rw [PySem.W.sort_maps (s := lexD) Prod.fst (fun _ _ _ _ => rfl), w1]
          rfl
        have e4 : (ws.mergeSort fun p q => lexD p.1 q.1).map f = (ws.map f).mergeSort (PySem.W.dataLe false Prod.snd) :=
          PySem.W.sort_maps (s := PySem.W.dataLe false Prod.snd) f (fun u _ u' _ => by
            show PySem.W.dataLe false D.dat u.1 u'.1 = PySem.W.dataLe false Prod.snd (f u) (f u')
            rw [PySem.W.dataLe_eq, PySem.W.dataLe_eq]
            simp only [hf])
        have e5 : sortV (ws.map f) = (ws.mergeSort fun p q => lexD p.1 q.1).map Prod.snd := by
          unfold sortV
          rw [← e4, List.map_map]
          apply List.map_congr_left
          intro q _
          simp [hf]
        rw [e5]
        have P2 := P1.rel.tup (u := HO.lst ((ws.mergeSort fun p q => lexD p.1 q.1).map Prod.snd)) hl
        have rv := zip_vrs (K := g.K) (ρ := ρ1) (n := st'.length) (H := H1) (ps := ws.mergeSort fun p q => lexD p.1 q.1) fun q m => rz q ((List.mergeSort_perm _ _).mem_iff.mp m)
        rw [e3] at rv
        refine k ρ1 _ l _ (P1.trans P2) upd_same (fun j m q => ?_) (P1.freeB hl) (P2.vrs P1.rel rv)
        obtain ⟨u, e2, _⟩ := P1.rel.mutSome m
        rw [q, hl] at e2
        cases e2
    · cases h
end
/-! ### reckoning -/
section
variable {t : Af} {env : EEnv} {st s : Store} {xs : List D}
def kSorted (xs : List D) (s : Store) : R (List D) := if sortOk xs = true then .ok (sortD xs) s else .bad
@[simp] theorem ev_nSorted : nSorted t env st = (t env st).bind kSorted := rfl
@[simp] theorem ev_kSorted : kSorted xs s = if sortOk xs = true then .ok (sortD xs) s else .bad := rfl
end
/-- the same order by putting one after the other where it belongs -/
def insA {A : Type} (le : A → A → Bool) (a : A) : List A → List A
  | [] => [a]
  | b :: l => if le a b = true then a :: b :: l else b :: insA le a l
def isort {A : Type} (le : A → A → Bool) : List A → List A
  | [] => []
  | a :: l => insA le a (isort le l)
theorem insA_mem {A : Type} {le : A → A → Bool} {a x : A} : ∀ {l : List A}, x ∈ insA le a l ↔ x = a ∨ x ∈ l
  | [] => by simp [insA]
  | b :: l => by
    unfold insA
    split
    · simp
    · simp only [List.mem_cons, insA_mem (l := l)]
      constructor
      · rintro (h | h | h)
        · exact .inr (.inl h)
        · exact .inl h
        · exact .inr (.inr h)
      · rintro (h | h | h)
        · exact .inr (.inl h)
        · exact .inl h
        · exact .inr (.inr h)
theorem isort_mem {A : Type} {le : A → A → Bool} {x : A} : ∀ {l : List A}, x ∈ isort le l ↔ x ∈ l
  | [] => Iff.rfl
  | a :: l => by
    unfold isort
    rw [insA_mem, isort_mem, List.mem_cons]
theorem insA_sorted {A : Type} {le : A → A → Bool} (T : PySem.W.TotalLe le) {a : A} : ∀ {l : List A}, l.Pairwise (fun a b => le a b = true) → (insA le a l).Pairwise (fun a b => le a b = true)
  | [], _ => List.pairwise_singleton _ _
  | b :: l, h => by
    have h1 := List.pairwise_cons.mp h
    unfold insA
    split
    · rename_i hab
      refine List.pairwise_cons.mpr ⟨fun x m => ?_, h⟩
      rcases List.mem_cons.mp m with rfl | m
      · exact hab
      · exact T.trans _ _ _ hab (h1.1 x m)
    · rename_i hab
      have hba : le b a = true := by
        have := T.total a b
        exact this.resolve_left hab
      refine List.pairwise_cons.mpr ⟨fun x m => ?_, insA_sorted T h1.2⟩
      rcases insA_mem.mp m with rfl | m
      · exact hba
      · exact h1.1 x m
theorem isort_sorted {A : Type} {le : A → A → Bool} (T : PySem.W.TotalLe le) : ∀ l : List A, (isort le l).Pairwise (fun a b => le a b = true)
  | [] => .nil
  | a :: l => insA_sorted T (isort_sorted T l)
theorem insA_filter {A : Type} {le : A → A → Bool} (T : PySem.W.TotalLe le) (c a : A) : ∀ l : List A, (insA le a l).filter (PySem.W.sameRank le c) = (a :: l).filter (PySem.W.sameRank le c)
  | [] => rfl
  | b :: l => by
    unfold insA
    split
    · rfl
    · rename_i hab
      have ih := insA_filter T c a l
      rw [List.filter_cons (x := b), ih]
      by_cases ha : PySem.W.sameRank le c a = true
      · have hb : ¬ PySem.W.sameRank le c b = true := fun hb => by
          unfold PySem.W.sameRank at ha hb
          rw [Bool.and_eq_true] at ha hb
          exact hab (T.trans _ _ _ ha.2 hb.1)
        rw [if_neg hb, List.filter_cons_of_pos ha, List.filter_cons_of_pos ha, List.filter_cons_of_neg hb]
      · rw [List.filter_cons_of_neg ha, List.filter_cons_of_neg ha, List.filter_cons (x := b)]
theorem isort_filter {A : Type} {le : A → A → Bool} (T : PySem.W.TotalLe le) (c : A) : ∀ l : List A, (isort le l).filter (PySem.W.sameRank le c) = l.filter (PySem.W.sameRank le c)
  | [] => rfl
  | a :: l => by
    unfold isort
    rw [insA_filter T, List.filter_cons, List.filter_cons, isort_filter T c l]
theorem isort_eq {A : Type} {le : A → A → Bool} (T : PySem.W.TotalLe le) (l : List A) : l.mergeSort le = isort le l := (PySem.W.sort_unique T (isort_sorted T l) (fun c => isort_filter T c l)).symm
theorem sortD_eq (xs : List D) : sortD xs = isort lexD xs := isort_eq (PySem.W.sortLe_total _ false _) xs
end Ev

/-! Ev21: x is True, x is False, where x may be None. -/
namespace Ev
open PySem L2
open PyProof.Rows hiding St
def rIsC : R2 := fun x y H Q => ∃ b : Bool, y = .bl b ∧ ((∃ a : Bool, x = .bl a ∧ Q (.bl (decide (a = b))) H) ∨ x = .non ∧ Q (.bl false) H)
theorem op_isC {X : Cx} : OpR X (compareOp .Is) rIsC := by
  intro pins s σ H x y v u Q I rx ry h
  obtain ⟨b, rfl, h⟩ := h
  rcases h with ⟨a, rfl, q⟩ | ⟨rfl, q⟩
  · exact op_isBl pins s σ H _ _ v u Q I rx ry ⟨a, b, rfl, rfl, q⟩
  · cases (show v = Value.none from rx)
    cases (show u = Value.bool b from ry)
    exact wpAny_is_other rfl (fun z => by cases z) ⟨.bl false, H, I, rfl, q⟩
def isCF (neg : Bool) : F2 := fun x y st => match x, y with
  | .bl i, .bl j => .ok (.bl (if neg then !decide (i = j) else decide (i = j))) st
  | .non, .bl _ => .ok (.bl neg) st
  | _, _ => .bad
section
variable {g : Gh} {X : Cx} {a b : Expr} {pos : Pos} {fa fb : Ef} {s : Store} {neg c : Bool}
theorem o_isC : Op2 g rIsC (isCF false) := fun ρ st H d1 d2 x1 y1 v st' Q Rl r1 r2 q k => by
  cases d1 <;> cases d2 <;> simp only [isCF] at q <;> (try exact (R.no q).elim)
  · simp only [VR] at r1 r2
    subst r1; subst r2
    cases q
    exact ⟨_, rfl, .inr ⟨rfl, k ρ H _ (Post.refl Rl) (by simp [VR])⟩⟩
  · simp only [VR] at r1 r2
    subst r1; subst r2
    cases q
    exact ⟨_, rfl, .inl ⟨_, rfl, k ρ H _ (Post.refl Rl) (by simp [VR])⟩⟩
theorem e_isC (ha : EV g X a fa) (hb : EV g X b fb) : EV g X (.Compare a [.Is] [b] pos) (eBin (isCF false) fa fb) := e_cmp op_isC o_isC ha hb (nomark _)
theorem t_isC (ha : EV g X a fa) (hb : EV g X b fb) : TV g X (.Compare a [.Is] [b] pos) (tfB (eBin (isCF false) fa fb)) := t_cmp op_isC o_isC ha hb (nomark _)
@[simp] theorem ev_isCT : isCF neg (.bl c) (.bl true) s = .ok (.bl (if neg then !c else c)) s := by cases c <;> cases neg <;> rfl
@[simp] theorem ev_isCF : isCF neg (.bl c) (.bl false) s = .ok (.bl (if neg then c else !c)) s := by cases c <;> cases neg <;> rfl
@[simp] theorem ev_isCN : isCF neg .non (.bl c) s = .ok (.bl neg) s := rfl
end
end Ev

/-! Ev22: x in t, t.index(x), t a tuple of data of any depth. -/
namespace Ev
open PySem L2
open PyProof.Rows hiding St
section
variable {X : Cx}
def rInT (K : PySem.W.Frag) : R2 := fun x y H Q => ∃ d ds, Dp K H x d ∧ Dp K H y (.tuple ds) ∧ SeqAt.shaped d = true ∧ SeqAt.shaped (.tuple ds) = true ∧ Q (.bl (ds.any fun z => PyData.eqv z d)) H
def rNotInT (K : PySem.W.Frag) : R2 := fun x y H Q => ∃ d ds, Dp K H x d ∧ Dp K H y (.tuple ds) ∧ SeqAt.shaped d = true ∧ SeqAt.shaped (.tuple ds) = true ∧ Q (.bl (!ds.any fun z => PyData.eqv z d)) H
theorem op_inT (hu : X.A.units + 65 < cLine) : OpR X (compareOp .In) (rInT X.K) := by
  intro pins s σ H x y v u Q I rx ry h
  obtain ⟨d, ds, hd, he, sd, se, q⟩ := h
  obtain ⟨as, r1⟩ := Dp.reads I d x v hd rx
  obtain ⟨bs, r2⟩ := Dp.reads I (.tuple ds) y u he ry
  exact SeqAt.in_tuple_reads r2 r1 (SeqAt.canLay_of_shaped se) (SeqAt.canLay_of_shaped sd) (room_in_shaped sd hu) ⟨.bl _, H, I, rfl, q⟩
theorem op_notInT (hu : X.A.units + 65 < cLine) : OpR X (compareOp .NotIn) (rNotInT X.K) := by
  intro pins s σ H x y v u Q I rx ry h
  obtain ⟨d, ds, hd, he, sd, se, q⟩ := h
  obtain ⟨as, r1⟩ := Dp.reads I d x v hd rx
  obtain ⟨bs, r2⟩ := Dp.reads I (.tuple ds) y u he ry
  exact SeqAt.notIn_tuple_reads r2 r1 (SeqAt.canLay_of_shaped se) (SeqAt.canLay_of_shaped sd) (room_in_shaped sd hu) ⟨.bl _, H, I, rfl, q⟩
def rIndexT (K : PySem.W.Frag) : V → List V → Hp → VK → Prop := fun x xs H Q => ∃ (a : Addr) (y : V) (d : PyData) (ds : List PyData) (j : Nat) (z : PyData), x = V.ref a ∧ xs = [y] ∧ Dp K H (V.ref a) (.tuple ds) ∧ Dp K H y d ∧
  SeqAt.shaped (.tuple ds) = true ∧ SeqAt.shaped d = true ∧ ds[j]? = some z ∧ PyData.eqv z d = true ∧ (∀ (m : Nat) (z' : PyData), m < j → ds[m]? = some z' → PyData.eqv z' d = false) ∧ Q (.int (j : Nat)) H
theorem mt_indexT (hu : X.A.units + 65 < cLine) : MtR X "tuple.index" (rIndexT X.K) := by
  intro pins s σ H x xs v us Q I rx rxs h
  obtain ⟨a, y, d, ds, j, z, rfl, rfl, hl, hy, sl, sd, hz, hzj, hno, q⟩ := h
  cases rx
  cases rxs with
  | cons ry rt =>
    rename_i uy ut
    cases rt
    obtain ⟨bs, r1⟩ := Dp.reads I d y uy hy ry
    have hxs : PyData.canLayAll0 ds = true := SeqAt.canLay_of_shaped sl
    have hroom : X.A.units + 1 + min (PyData.depthAll ds) d.depth < cLine := room_in_shaped sd hu
    cases hl with
    | tup hs ha =>
      obtain ⟨its, rv, ⟨⟨cls, dd, data, sls⟩, ho, hc, n, hdt⟩, hlen⟩ := I.tuple hs
      simp only at hc hdt
      subst hc hdt
      obtain ⟨as, h4⟩ := Dp.readsAll I ds _ its ha rv
      have hn : its.length = ds.length := SeqAt.ReadsAll.length ds its as h4
      have hmap : its.map (SeqAt.readOf s.heap) = ds := SeqAt.readsAll_map ds its as hxs h4
      obtain ⟨hjd, _⟩ := List.getElem?_eq_some_iff.mp hz
      have hjl : j < its.length := by omega
      have hj : j < its.toArray.size := by simpa using hjl
      have at_ : ∀ (m : Nat) (hm : m < its.toArray.size) (z' : PyData), ds[m]? = some z' → SeqAt.readOf s.heap its.toArray[m] = z' := by
        intro m hm z' hz'
        have hml : m < its.length := by simpa using hm
        rw [← hmap, List.getElem?_map, List.getElem?_eq_getElem hml] at hz'
        have e1 : SeqAt.readOf s.heap its[m] = z' := Option.some.inj (show some (SeqAt.readOf s.heap its[m]) = some z' from hz')
        simpa using e1
      refine call_meets PySem.F.slot_tuple_index ⟨_, ho, rfl⟩ PySem.F.entry_tuple_index (PySem.F.args_tuple_index_2 _ _)
        (TI.tuple_indexAt a its.toArray n dd sls uy (fun u => PyData.eqv (SeqAt.readOf s.heap u) d) j hj ?_ ?_) ⟨ho, SeqAt.items_eqAt (vs := its.toArray) (show ReadsAll s.heap its.toArray.toList ds as from h4) r1 hxs (SeqAt.canLay_of_shaped sd) hroom, ?_⟩
      · show PyData.eqv (SeqAt.readOf s.heap its.toArray[j]) d = true
        rw [at_ j hj z hz]
        exact hzj
      · intro m hm hmj
        have hmd : m < ds.length := by omega
        have hz' : ds[m]? = some ds[m] := List.getElem?_eq_getElem hmd
        show PyData.eqv (SeqAt.readOf s.heap its.toArray[m]) d = false
        rw [at_ m hm _ hz']
        exact hno m _ hmj hz'
      · exact ⟨.int (j : Nat), H, I.tok _, ⟨_, rfl⟩, q⟩
end
section
variable {g : Gh} {X : Cx} {e a b o : Expr} {es : List Expr} {pos apos cpos : Pos} {f fa fb fo : Ef} {t : Af} {s : Store} {d : D} {ds xs : List D} {env : EEnv}
def inTF (neg : Bool) : F2 := fun x y st => match pd st x, pd st y with
  | some d, some (.tuple ds) => if SeqAt.shaped d = true ∧ SeqAt.shaped (.tuple ds) = true then .ok (.bl (if neg then !ds.any fun z => PyData.eqv z d else ds.any fun z => PyData.eqv z d)) st else .bad
  | _, _ => .bad
theorem o_inT (x : XG g X) : Op2 g (rInT X.K) (inTF false) := fun ρ st H d1 d2 x1 y1 v st' Q Rl r1 r2 q k => by
  unfold inTF at q
  split at q
  · rename_i d ds e1 e2
    split at q
    · rename_i hz
      cases q
      rw [x.K]
      exact ⟨d, ds, pd_dp Rl r1 e1, pd_dp Rl r2 e2, hz.1, hz.2, k ρ H _ (Post.refl Rl) (by simp [VR])⟩
    · cases q
  · cases q
theorem o_notInT (x : XG g X) : Op2 g (rNotInT X.K) (inTF true) := fun ρ st H d1 d2 x1 y1 v st' Q Rl r1 r2 q k => by
  unfold inTF at q
  split at q
  · rename_i d ds e1 e2
    split at q
    · rename_i hz
      cases q
      rw [x.K]
      exact ⟨d, ds, pd_dp Rl r1 e1, pd_dp Rl r2 e2, hz.1, hz.2, k ρ H _ (Post.refl Rl) (by simp [VR])⟩
    · cases q
  · cases q
theorem e_inT (x : XG g X) (ha : EV g X a fa) (hb : EV g X b fb) (hm : behindInMarks .In b = false := by rfl) : EV g X (.Compare a [.In] [b] pos) (eBin (inTF false) fa fb) := e_cmp (op_inT (by have := x.hu; omega)) (o_inT x) ha hb hm
theorem e_notInT (x : XG g X) (ha : EV g X a fa) (hb : EV g X b fb) (hm : behindInMarks .NotIn b = false := by rfl) : EV g X (.Compare a [.NotIn] [b] pos) (eBin (inTF true) fa fb) := e_cmp (op_notInT (by have := x.hu; omega)) (o_notInT x) ha hb hm
theorem t_inT (x : XG g X) (ha : EV g X a fa) (hb : EV g X b fb) (hm : behindInMarks .In b = false := by rfl) : TV g X (.Compare a [.In] [b] pos) (tfB (eBin (inTF false) fa fb)) := t_cmp (op_inT (by have := x.hu; omega)) (o_inT x) ha hb hm
theorem t_notInT (x : XG g X) (ha : EV g X a fa) (hb : EV g X b fb) (hm : behindInMarks .NotIn b = false := by rfl) : TV g X (.Compare a [.NotIn] [b] pos) (tfB (eBin (inTF true) fa fb)) := t_cmp (op_notInT (by have := x.hu; omega)) (o_notInT x) ha hb hm
/-- t.index(x) -/
def idxP (d : PyData) : Nat → List PyData → Option Nat
  | _, [] => none
  | k, z :: ds => if PyData.eqv z d = true then some k else idxP d (k + 1) ds
theorem idxP_ok {d : PyData} : ∀ {ds : List PyData} {k j : Nat}, idxP d k ds = some j → ∃ i z, j = k + i ∧ ds[i]? = some z ∧ PyData.eqv z d = true ∧ ∀ m z', m < i → ds[m]? = some z' → PyData.eqv z' d = false
  | [], _, _, h => by cases h
  | z :: ds, k, j, h => by
    unfold idxP at h
    split at h
    · rename_i hz
      cases h
      exact ⟨0, z, rfl, rfl, hz, fun m z' hm => absurd hm (Nat.not_lt_zero _)⟩
    · rename_i hz
      obtain ⟨i, z2, e, h1, h2, h3⟩ := idxP_ok h
      refine ⟨i + 1, z2, by omega, by simpa using h1, h2, fun m z' hm hz' => ?_⟩
      cases m with
      | zero =>
        simp at hz'
        subst hz'
        exact Bool.eq_false_iff.mpr hz
      | succ m => exact h3 m z' (by omega) (by simpa using hz')
end
end Ev

/-! Ev23: a dict of texts to lists and one number, copied by dict([(k, list(d[k]) if k != .. else d[k]) for k in d]). -/
namespace Ev
open PySem L2
open PyProof.Rows hiding St
/-- the copy's lists, its entries; n: the next place -/
def copyD (sk : Str) (s : Store) : List (Key × D) → Nat → Option (List O × List (Key × D))
  | [], _ => some ([], [])
  | (.inr t, d) :: kvs, n => if t = sk then (copyD sk s kvs n).map fun z => (z.1, (.inr t, d) :: z.2) else match d with
    | .loc j => match s[j]? with
      | some (.lst xs) => (copyD sk s kvs (n + 1)).map fun z => (.lst xs :: z.1, (.inr t, .loc n) :: z.2)
      | _ => none
    | _ => none
  | _, _ => none
/-- dict([(k, list(d[k]) if k != sk else d[k]) for k in d]) -/
def eDCopy (ik : Nat) (sk : Str) (f : Ef) : Ef := fun env st => if ik < env.length then (f env st).bind fun d s => match d with
  | .loc l => match s[l]? with
    | some (.dic kvs) => match copyD sk s kvs s.length with
      | some (os, ws) => if kvs.length ≤ 1000 ∧ (kvs.map (·.1)).Nodup then .ok (.loc (s.length + os.length)) (s ++ os ++ [.dic (mergeD [] ws)]) else .bad
      | none => .bad
    | _ => .bad
  | _ => .bad
  else .bad
theorem KR.at {K : PySem.W.Frag} {ρ : Nat → Addr} {n : Nat} {H : Hp} : ∀ {fs : List (Key × D)} {gs : List (Key × V)} {i : Nat} {k : Key} {v : V}, KR K ρ n H fs gs → gs[i]? = some (k, v) → ∃ d, fs[i]? = some (k, d) ∧ VR K ρ n H d v
  | [], gs, i, k, v, h, e => by
    have e2 : gs = [] := h
    subst e2
    simp at e
  | (j, d) :: fs, gs, i, k, v, h, e => by
    obtain ⟨w, hs, rfl, r1, rs⟩ := h
    cases i with
    | zero =>
      simp at e
      obtain ⟨rfl, rfl⟩ := e
      exact ⟨d, rfl, r1⟩
    | succ i =>
      obtain ⟨d', e1, e2⟩ := KR.at (i := i) rs (by simpa using e)
      exact ⟨d', by simpa using e1, e2⟩
theorem paired_snoc {A B : Type} {F : A → B → Prop} {a : A} {b : B} : ∀ {xs : List A} {ys : List B}, Paired F xs ys → F a b → Paired F (xs ++ [a]) (ys ++ [b])
  | _, _, .nil, h => .cons h .nil
  | _, _, .cons h1 h2, h => .cons h1 (paired_snoc h2 h)
theorem upd_comm {H : Hp} {a b : Addr} {x y : HO} (h : a ≠ b) : upd (upd H a x) b y = upd (upd H b y) a x := by
  funext c
  by_cases h1 : c = a
  · subst h1
    rw [upd_ne h, upd_same, upd_same]
  · by_cases h2 : c = b
    · subst h2
      rw [upd_same, upd_ne h1, upd_same]
    · rw [upd_ne h2, upd_ne h1, upd_ne h1, upd_ne h2]
theorem upd_back {H : Hp} {d : Addr} {u x : HO} (h : H d = some u) : upd (upd H d x) d u = H := by
  funext c
  by_cases h1 : c = d
  · subst h1
    rw [upd_same, h]
  · rw [upd_ne h1, upd_ne h1]

/-! ### the rule -/
section
variable {g : Gh} {X : Cx} {nd nk : Str} {i ik : Nat}
/-- what is made of one key, the dict locked -/
abbrev tDG (i ik : Nat) : TE := tDGet (tVar i) (tVar ik)
abbrev rListOf (K : PySem.W.Frag) : List V → Hp → VK → Prop := fun xs H Q => ∃ p ys, xs = [.ref p] ∧ (SqL K H p ys ∨ SqT K H p ys) ∧ ∀ l, H l = none → Q (.ref l) (upd H l (.lst ys))
abbrev tElt (K : PySem.W.Frag) (i ik : Nat) (sk : Str) : TE := tTup (tCons (tVar ik) (tCons (tIf (tTest (tOp rNe (tVar ik) (tC (.str sk)))) (tCB (rListOf K) (tCons (tDG i ik) tNil)) (tDG i ik)) tNil))
theorem pe_elt (x : XG g X) {sk : Str} {p1 p2 p3 p4 p5 p6 p7 p8 p9 p10 p11 p12 p13 p14 : Pos} {jj m : Nat} (hk : ∀ p, PE X (.Name nk p) (tVar ik)) (hd : ∀ p, PE X (.Name nd p) (tVar i)) (hg : Gl X "list")
    (s1 : NoSl (.Name nk p4) := by intro _ _; rfl) (s2 : NoSl (.Name nk p8) := by intro _ _; rfl)
    (he : starEach [Expr.Subscript (.Name nd p3) (.Name nk p4) p5] X.env = (false, eval (Expr.Subscript (.Name nd p3) (.Name nk p4) p5) X.env) :: starEach [] X.env := by rfl)
    (hm : behindInMarks .NotEq (.Constant (.str sk) jj p2) = false := by rfl) :
    PE X (.Tuple [.Name nk p1, .IfExp (.Compare (.Name nk p9) [.NotEq] [.Constant (.str sk) jj p2] p10) (.Call (.Name "list" p6) [.Subscript (.Name nd p3) (.Name nk p4) p5] [] p11) (.Subscript (.Name nd p7) (.Name nk p8) p12) p13] m p14) (tElt X.K i ik sk) := by
  have hu : X.A.units + 1 < cLine := by have := x.hu; omega
  have g1 := pe_dget (pos := p5) hu (hd p3) (hk p4) s1
  have g2 := pe_dget (pos := p12) hu (hd p7) (hk p8) s2
  have c1 := pe_callTy (pos := p11) (p := p6) call_list_of hg (x.mg "list") (by decide +kernel) (pa_cons g1 pa_nil he) (by decide) (by decide) he rfl
  have t1 := pt_cmpR (pos := p10) op_ne (hk p9) (pe_str (x := sk) (j := jj) (pos := p2)) hm
  exact pe_tup (pa_cons (hk p1) (pa_cons (pe_ifExp t1 c1 g2) pa_nil))

theorem it_keys {d : Addr} {od : Obj} {gs : List (Key × V)} : Walk (Itk d od gs) gs.length (fun H => H d = some (.frz od (.dK gs))) (fun i H x H' => H' = H ∧ ∃ k v, gs[i]? = some (k, v) ∧ x = kV k) := walk_keys
theorem copyD_cons {sk : Str} {s : Store} {k : Key} {d : D} {kvs : List (Key × D)} {n : Nat} {os : List O} {ws : List (Key × D)} (h : copyD sk s ((k, d) :: kvs) n = some (os, ws)) :
    ∃ t, k = .inr t ∧ ((t = sk ∧ ∃ r, copyD sk s kvs n = some (os, r) ∧ ws = (k, d) :: r) ∨ (t ≠ sk ∧ ∃ j xs os' r, d = .loc j ∧ s[j]? = some (.lst xs) ∧ copyD sk s kvs (n + 1) = some (os', r) ∧ os = .lst xs :: os' ∧ ws = (k, .loc n) :: r)) := by
  cases k with
  | inl z => simp [copyD] at h
  | inr t =>
    refine ⟨t, rfl, ?_⟩
    unfold copyD at h
    by_cases e : t = sk
    · rw [if_pos e, Option.map_eq_some_iff] at h
      obtain ⟨⟨o2, r⟩, h1, h2⟩ := h
      simp only [Prod.mk.injEq] at h2
      obtain ⟨rfl, rfl⟩ := h2
      exact .inl ⟨e, r, h1, rfl⟩
    · rw [if_neg e] at h
      cases d with
      | loc j =>
        simp only at h
        split at h
        · rename_i xs q
          rw [Option.map_eq_some_iff] at h
          obtain ⟨⟨o2, r⟩, h1, h2⟩ := h
          simp only [Prod.mk.injEq] at h2
          obtain ⟨rfl, rfl⟩ := h2
          exact .inr ⟨e, j, xs, o2, r, rfl, q, h1, rfl, rfl⟩
        · cases h
      | _ => simp at h
theorem valV_at : ∀ {gs : List (Key × V)} {i : Nat} {k : Key} {v : V}, (gs.map (·.1)).Nodup → gs[i]? = some (k, v) → valV gs k = some v
  | [], i, k, v, _, e => by simp at e
  | (j, w) :: gs, 0, k, v, _, e => by
    simp at e
    obtain ⟨rfl, rfl⟩ := e
    simp [valV]
  | (j, w) :: gs, i + 1, k, v, n, e => by
    have n' := List.nodup_cons.mp n
    have e' : gs[i]? = some (k, v) := by simpa using e
    have ih := valV_at n'.2 e'
    have jk : j ≠ k := fun z => n'.1 (List.mem_map.mpr ⟨(k, v), List.mem_of_getElem? e', z.symm⟩)
    unfold valV at ih ⊢
    rw [List.find?_cons_of_neg (by simpa using jk)]
    exact ih
theorem kr_keys {K : PySem.W.Frag} {ρ : Nat → Addr} {n : Nat} {H : Hp} : ∀ {fs : List (Key × D)} {gs : List (Key × V)}, KR K ρ n H fs gs → gs.map (·.1) = fs.map (·.1)
  | [], gs, h => by
    have e2 : gs = [] := h
    subst e2
    rfl
  | (j, d) :: fs, gs, h => by
    obtain ⟨w, hs, rfl, r1, rs⟩ := h
    rw [List.map_cons, List.map_cons, kr_keys rs]
/-- how far the copying is: u what stands at d, unlocked -/
structure Cp (g : Gh) (K : PySem.W.Frag) (ρ : Nat → Addr) (s1 : Store) (H : Hp) (d : Addr) (od : Obj) (u : HO) (kvs : List (Key × D)) (sk : Str) (osF : List O) (wsF : List (Key × D)) (Da : Addr) (i : Nat) (Hc : Hp) : Prop where
  lk : Hc d = some (.frz od u)
  ex : ∃ ρ2 os ps rs ws os2 ws2, Post g ρ s1 H ρ2 (s1 ++ os) (upd Hc d u) ∧ Hc Da = some (.lst (ps.map V.ref)) ∧ (∀ l, mutAt (s1 ++ os) l → ρ2 l ≠ Da) ∧ ps.length = i ∧ Paired (fun p (kv : Key × V) => Hc p = some (.tup [kV kv.1, kv.2])) ps rs ∧
    KR K ρ2 (s1 ++ os).length (upd Hc d u) ws rs ∧ copyD sk s1 (kvs.drop i) (s1 ++ os).length = some (os2, ws2) ∧ os ++ os2 = osF ∧ ws ++ ws2 = wsF
theorem dcopy_body {sk : Str} {ρ : Nat → Addr} {st : Store} {H Hc : Hp} {d Da : Addr} {od : Obj} {gs : List (Key × V)} {kvs : List (Key × D)} {osF : List O} {wsF : List (Key × D)} {σ : St} {j : Nat} {k0 : Key} {v0 : V} (xK : X.K = g.K) (hk1 : ik ≠ i) (hik : ik < σ.length) (w1 : σ[i]? = some (some (.ref d)))
    (Rl : Rel g ρ st H) (rk : KR g.K ρ st.length H kvs gs) (nd : (gs.map (·.1)).Nodup) (h1000 : kvs.length ≤ 1000) (hD0 : H Da = none) (Dd : Da ≠ d) (hg : gs[j]? = some (k0, v0)) (C : Cp g g.K ρ st H d od (.dK gs) kvs sk osF wsF Da j Hc) :
    gName ik (kV k0) (wipe σ [ik]) Hc fun σ2 H2 => wipe σ2 [ik] = wipe σ [ik] ∧ tYes σ2 H2 fun b H3 => if b = true then tElt X.K i ik sk σ2 H3 fun y H4 => ∃ acc, H4 Da = some (.lst acc) ∧ acc.length < sizeLine ∧ Cp g g.K ρ st H d od (.dK gs) kvs sk osF wsF Da (j + 1) (upd H4 Da (.lst (acc ++ [y])))
      else Cp g g.K ρ st H d od (.dK gs) kvs sk osF wsF Da (j + 1) H3 := by
  have we : wipe σ [ik] = σ.set ik none := rfl
  have s2k : ((wipe σ [ik]).set ik (some (kV k0)))[ik]? = some (some (kV k0)) := by
    rw [we, List.getElem?_set_self (by rw [List.length_set]; exact hik)]
  have s2i : ((wipe σ [ik]).set ik (some (kV k0)))[i]? = some (some (.ref d)) := by
    rw [we, List.getElem?_set_ne hk1, List.getElem?_set_ne hk1]
    exact w1
  obtain ⟨d1, hkv, rv⟩ := rk.at hg
  obtain ⟨lk, ρ2, os, ps, rs, ws, os2, ws2, P2, e2, hn, pl, pr, kr, hc, h1, h2⟩ := C
  have hdr : kvs.drop j = (k0, d1) :: kvs.drop (j + 1) := by
    obtain ⟨hj, e⟩ := List.getElem?_eq_some_iff.mp hkv
    rw [List.drop_eq_getElem_cons hj, e]
  rw [hdr] at hc
  obtain ⟨t, rfl, cs⟩ := copyD_cons hc
  have dg : DGet Hc d (kV (.inr t)) (some v0) := .inl ⟨gs, .inr t, .inr ⟨od, lk⟩, rfl, (valV_at nd hg).symm⟩
  have two : ∀ a b : V, ([a, b] : List V).length ≤ sizeLine := fun _ _ => by show 2 ≤ sizeLine; rw [szL]; decide
  have pj : ps.length < sizeLine := by
    have jl := (List.getElem?_eq_some_iff.mp hkv).1
    rw [pl, szL]
    omega
  have ml : (ps.map V.ref).length < sizeLine := by rw [List.length_map]; exact pj
  have ud : upd Hc d (.dK gs) Da = some (.lst (ps.map V.ref)) := by rw [upd_ne Dd]; exact e2
  refine ⟨by show (((σ.set ik none).set ik (some (kV (.inr t)))).set ik none) = σ.set ik none; rw [List.set_set, List.set_set], ?_⟩
  change (if true = true then tElt X.K i ik sk ((wipe σ [ik]).set ik (some (kV (.inr t)))) Hc (fun y H4 => ∃ acc, H4 Da = some (.lst acc) ∧ acc.length < sizeLine ∧ Cp g g.K ρ st H d od (.dK gs) kvs sk osF wsF Da (j + 1) (upd H4 Da (.lst (acc ++ [y])))) else Cp g g.K ρ st H d od (.dK gs) kvs sk osF wsF Da (j + 1) Hc)
  rw [if_pos rfl]
  refine ⟨kV (.inr t), s2k, ?_⟩
  refine ⟨kV (.inr t), s2k, rfl, !decide (kV (.inr t) = V.str sk), rfl, ?_⟩
  rcases cs with ⟨rfl, r, hc2, rfl⟩ | ⟨ne, jj, xs, os', r, rfl, hxs, hc2, rfl, rfl⟩
  · have c : (!decide (kV (.inr t) = V.str t)) = false := by simp [kV]
    rw [c]
    show tDGet (tVar i) (tVar ik) _ Hc _
    refine ⟨.ref d, s2i, kV (.inr t), s2k, d, v0, rfl, dg, two _ _, fun p hp => ?_⟩
    have pd : p ≠ d := fun z => by rw [z, lk] at hp; cases hp
    have pD : p ≠ Da := fun z => by rw [z, e2] at hp; cases hp
    have hp2 : upd Hc d (.dK gs) p = none := by rw [upd_ne pd]; exact hp
    refine ⟨ps.map V.ref, by rw [upd_ne (Ne.symm pD)]; exact e2, ml, ?_⟩
    have Pt := P2.rel.tup (u := .tup [kV (.inr t), v0]) hp2
    have P3 := P2.trans Pt
    obtain ⟨P4, t4⟩ := P3.temp (zs := ps.map V.ref ++ [.ref p]) hD0 hn (by rw [upd_ne (Ne.symm pD)]; exact ud)
    have eH : upd (upd (upd Hc p (.tup [kV (.inr t), v0])) Da (.lst (ps.map V.ref ++ [.ref p]))) d (.dK gs) = upd (upd (upd Hc d (.dK gs)) p (.tup [kV (.inr t), v0])) Da (.lst (ps.map V.ref ++ [.ref p])) := by
      rw [upd_comm (a := Da) (b := d) Dd, upd_comm (H := Hc) (a := p) (b := d) pd]
    refine ⟨by rw [upd_ne (Ne.symm Dd), upd_ne (Ne.symm pd)]; exact lk, ρ2, os, ps ++ [p], rs ++ [(.inr t, v0)], ws ++ [(.inr t, d1)], os2, r, by rw [eH]; exact P4, ?_, hn, by simp [pl], ?_, ?_, hc2, h1, by rw [List.append_assoc]; exact h2⟩
    · rw [upd_same, List.map_append]
      rfl
    · refine paired_snoc (L2.Paired.mapP pr fun q kv e => ?_) (by rw [upd_ne pD, upd_same])
      rw [upd_ne (fun z => by rw [z, e2] at e; cases e), upd_ne (fun z => by rw [z, hp] at e; cases e)]
      exact e
    · rw [eH]
      exact KR.snoc (P4.vr Rl rv) ((kr.mono (fun _ _ => rfl) (Nat.le_refl _) (Pt.tk P2.rel)).mono (fun _ _ => rfl) (Nat.le_refl _) t4)
  · have c : (!decide (kV (.inr t) = V.str sk)) = true := by
      simp [kV, ne]
    rw [c]
    show tDGet (tVar i) (tVar ik) _ Hc _
    have jl : jj < st.length := lt_of_get hxs
    unfold VR at rv
    obtain ⟨_, rfl⟩ := rv
    have hx2 : (st ++ os)[jj]? = some (.lst xs) := by rw [List.getElem?_append_left jl]; exact hxs
    obtain ⟨ys, ey, ry⟩ := P2.rel.obj jj _ hx2
    rw [P2.old jj jl] at ey
    have jd : ρ jj ≠ d := fun z => by
      rw [z, upd_same] at ey
      cases ey
    rw [upd_ne jd] at ey
    refine ⟨.ref d, s2i, kV (.inr t), s2k, d, .ref (ρ jj), rfl, dg, ρ jj, ys, rfl, .inl (SqL.of ey), fun a ha => ⟨two _ _, fun p hp => ?_⟩⟩
    have ad : a ≠ d := fun z => by rw [z, lk] at ha; cases ha
    have aD : a ≠ Da := fun z => by rw [z, e2] at ha; cases ha
    have ha2 : upd Hc d (.dK gs) a = none := by rw [upd_ne ad]; exact ha
    have pa : p ≠ a := fun z => by rw [z, upd_same] at hp; cases hp
    rw [upd_ne pa] at hp
    have pd : p ≠ d := fun z => by rw [z, lk] at hp; cases hp
    have pD : p ≠ Da := fun z => by rw [z, e2] at hp; cases hp
    have ta := (P2.rel.tup (u := .lst ys) ha2).tk P2.rel
    have Pa := P2.rel.push (o := .lst xs) (u := .lst ys) ha2 ⟨ys, upd_same, ry.mono (fun _ _ => rfl) (Nat.le_refl _) ta⟩
    have P3 := P2.trans Pa
    have hp2 : upd (upd Hc d (.dK gs)) a (.lst ys) p = none := by rw [upd_ne pa, upd_ne pd]; exact hp
    have Pt := P3.rel.tup (u := .tup [kV (.inr t), .ref a]) hp2
    have P4 := P3.trans Pt
    have hn3 : ∀ l, mutAt (st ++ os ++ [.lst xs]) l → nxt ρ2 (st ++ os).length a l ≠ Da := fun l m => by
      by_cases hl : l < (st ++ os).length
      · rw [nxt_old l hl]
        obtain ⟨o, eo, mo⟩ := m
        rw [List.getElem?_append_left hl] at eo
        exact hn l ⟨o, eo, mo⟩
      · have := mutAt_lt m
        have e : l = (st ++ os).length := by simp at this hl; simp; omega
        rw [e, nxt_same]
        exact aD
    obtain ⟨P5, t5⟩ := P4.temp (zs := ps.map V.ref ++ [.ref p]) hD0 hn3 (by rw [upd_ne (Ne.symm pD), upd_ne (Ne.symm aD)]; exact ud)
    refine ⟨ps.map V.ref, by rw [upd_ne (Ne.symm pD), upd_ne (Ne.symm aD)]; exact e2, ml, ?_⟩
    have eH : upd (upd (upd (upd Hc a (.lst ys)) p (.tup [kV (.inr t), .ref a])) Da (.lst (ps.map V.ref ++ [.ref p]))) d (.dK gs) = upd (upd (upd (upd Hc d (.dK gs)) a (.lst ys)) p (.tup [kV (.inr t), .ref a])) Da (.lst (ps.map V.ref ++ [.ref p])) := by
      rw [upd_comm (a := Da) (b := d) Dd, upd_comm (a := p) (b := d) pd, upd_comm (H := Hc) (a := a) (b := d) ad]
    have as : st ++ os ++ [O.lst xs] = st ++ (os ++ [.lst xs]) := List.append_assoc ..
    refine ⟨by rw [upd_ne (Ne.symm Dd), upd_ne (Ne.symm pd), upd_ne (Ne.symm ad)]; exact lk, nxt ρ2 (st ++ os).length a, os ++ [.lst xs], ps ++ [p], rs ++ [(.inr t, .ref a)], ws ++ [(.inr t, .loc (st ++ os).length)], os', r, by rw [eH, ← as]; exact P5, ?_, by rw [← as]; exact hn3, by simp [pl], ?_, ?_, ?_, by rw [← h1, List.append_assoc]; rfl, by rw [List.append_assoc]; exact h2⟩
    · rw [upd_same, List.map_append]
      rfl
    · refine paired_snoc (L2.Paired.mapP pr fun q kv e => ?_) (by rw [upd_ne pD, upd_same])
      rw [upd_ne (fun z => by rw [z, e2] at e; cases e), upd_ne (fun z => by rw [z, hp] at e; cases e), upd_ne (fun z => by rw [z, ha] at e; cases e)]
      exact e
    · rw [eH, ← as]
      refine KR.snoc ?_ (((kr.mono Pa.old Pa.len (Pa.tk P2.rel)).mono (fun _ _ => rfl) (Nat.le_refl _) (Pt.tk P3.rel)).mono (fun _ _ => rfl) (Nat.le_refl _) t5)
      unfold VR
      exact ⟨by simp, by rw [nxt_same]⟩
    · rw [← as, List.length_append (bs := [O.lst xs])]
      exact hc2
theorem dcopy_of {sk : Str} {ef : Ef} (xK : X.K = g.K) (hk1 : ik ≠ i) (hef : ef = eVar i) : ∀ σ H Q, tE g (eDCopy ik sk ef) σ H Q →
    tLockE (tCB (fun xs H Q => ∃ (a : Addr) (ps : List Addr) (kvs : List (Key × V)), xs = [.ref a] ∧ SqL X.K H a (ps.map V.ref) ∧ Paired (fun p kv => SqT X.K H p [kV kv.1, kv.2]) ps kvs ∧ ∀ p, H p = none → Q (.ref p) (upd H p (.dK (mergeK [] kvs))))
      (tCons (tLc (iKeys (tVar i)) (gName ik) tYes (tElt X.K i ik sk) [ik]) tNil)) σ H Q := fun σ H Q ⟨ρ, st, env, v, st', Rl, E, h, k⟩ => by
  subst hef
  unfold eDCopy at h
  by_cases hik0 : ik < env.length
  case neg =>
    rw [if_neg hik0] at h
    cases h
  rw [if_pos hik0] at h
  have hik : ik < σ.length := by rw [← E.len]; exact hik0
  obtain ⟨d0, s1, e1, h⟩ := R.bind_eq h
  unfold eVar at e1
  split at e1
  · rename_i dd q0
    cases e1
    obtain ⟨w0, w1, w2⟩ := E.get i _ q0
    cases d0 with
    | loc l =>
      simp only at h
      split at h
      · rename_i kvs ql
        split at h
        · rename_i osF wsF ec
          split at h
          · rename_i hz
            cases h
            unfold VR at w2
            obtain ⟨hl, rfl⟩ := w2
            obtain ⟨gs, q1, rk⟩ := Rl.obj l _ ql
            have gk := kr_keys rk
            have gl : gs.length = kvs.length := rk.length
            refine ⟨ρ l, .dK gs, q1, trivial, fun od => ?_⟩
            generalize hd : ρ l = d at *
            have ub : upd (upd H d (.frz od (.dK gs))) d (.dK gs) = H := upd_back q1
            refine ⟨.ref d, w1, d, od, rfl, .inl ⟨gs, upd_same, fun Da hD => ?_⟩⟩
            have Dd : Da ≠ d := fun z => by
              rw [z, upd_same] at hD
              cases hD
            have hD0 : H Da = none := by rw [upd_ne Dd] at hD; exact hD
            refine it_W it_keys (fun i Hc => Cp g g.K ρ st H d od (.dK gs) kvs sk osF wsF Da i Hc) ⟨by rw [upd_ne (Ne.symm Dd), upd_same], ?_⟩ (fun i Hc hi C => C.lk) (fun j x Hc Hc' hj C y => ?_) (fun Hc C => ?_)
            · have e : upd (upd (upd H d (.frz od (.dK gs))) Da (.lst [])) d (.dK gs) = upd H Da (.lst []) := by
                rw [upd_comm (a := Da) (b := d) Dd, ub]
              rw [e]
              refine ⟨ρ, [], [], [], [], osF, wsF, ?_, upd_same, fun l' m q => ?_, rfl, .nil, rfl, by simpa using ec, rfl, rfl⟩
              · rw [List.append_nil]
                exact Rl.tup hD0
              · rw [List.append_nil] at m
                obtain ⟨u, e2, _⟩ := Rl.mutSome m
                rw [q, hD0] at e2
                cases e2
            · obtain ⟨rfl, k0, v0, hg, rfl⟩ := y
              exact dcopy_body xK hk1 hik w1 Rl rk (gk ▸ hz.2) hz.1 hD0 Dd hg C
            · obtain ⟨lk, ρ2, os, ps, rs, ws, os2, ws2, P2, e2, hn, pl, pr, kr, hc, h1, h2⟩ := C
              rw [List.drop_of_length_le (by omega)] at hc
              simp only [copyD, Option.some.injEq, Prod.mk.injEq] at hc
              obtain ⟨rfl, rfl⟩ := hc
              rw [List.append_nil] at h1 h2
              subst h1
              subst h2
              refine ⟨Da, ps, rs, rfl, SqL.of e2, L2.Paired.mapP pr fun p kv e => SqT.of e, fun p hp => ?_⟩
              have pd : p ≠ d := fun z => by rw [z, lk] at hp; cases hp
              have hp2 : upd Hc d (.dK gs) p = none := by rw [upd_ne pd]; exact hp
              refine ⟨by rw [upd_ne (Ne.symm pd)]; exact lk, ?_⟩
              rw [upd_comm (H := Hc) pd]
              have tk := (P2.rel.tup (u := .dK (mergeK [] rs)) hp2).tk P2.rel
              have Pd := P2.rel.push (o := .dic (mergeD [] ws)) (u := .dK (mergeK [] rs)) hp2 ⟨mergeK [] rs, upd_same, KR.merge (kr.mono (fun _ _ => rfl) (Nat.le_refl _) tk) rfl⟩
              refine k _ _ _ (P2.trans Pd) ?_
              unfold VR
              refine ⟨by simp, ?_⟩
              rw [show st.length + os.length = (st ++ os).length by simp, nxt_same]
          · cases h
        · cases h
      · cases h
    | _ => simp at h
  · cases e1

variable {scope : Scope} {pos pos2 pd pt pi p1 p2 p3 p4 p5 p6 p7 p8 p9 p10 p11 p12 p13 p14 : Pos} {jj m : Nat} {sk : Str}
theorem e_dcopy (x : XG g X) (hne : ik ≠ i := by decide) (hd0 : PE X (.Name nd pi) (tVar i)) (ok : BlkOk X.N X.env.scope scope [(nk, ik)])
    (hgt : ∀ (s : Shared) (H : Hp) (C : Addr) (cl : List (Str × Addr)) (fp : List Addr), PG (X.blk s H scope (compEnvC scope cl C X.env) fp) (.Name nk pt) (gName ik))
    (hk : ∀ (s : Shared) (H : Hp) (C : Addr) (cl : List (Str × Addr)) (fp : List Addr) (p : Pos), PE (X.blk s H scope (compEnvC scope cl C X.env) fp) (.Name nk p) (tVar ik))
    (hd : ∀ (s : Shared) (H : Hp) (C : Addr) (cl : List (Str × Addr)) (fp : List Addr) (p : Pos), PE (X.blk s H scope (compEnvC scope cl C X.env) fp) (.Name nd p) (tVar i))
    (hl : ∀ (s : Shared) (H : Hp) (C : Addr) (cl : List (Str × Addr)) (fp : List Addr), Gl (X.blk s H scope (compEnvC scope cl C X.env) fp) "list")
    (hg : Gl X "dict" := by rfl) (hs : ∀ z, foldedSetIterable (.Name nd pi) X.env z = pure z := by intro _; rfl) :
    EV g X (.Call (.Name "dict" pd) [.ListComp (.Tuple [.Name nk p1, .IfExp (.Compare (.Name nk p9) [.NotEq] [.Constant (.str sk) jj p2] p10) (.Call (.Name "list" p6) [.Subscript (.Name nd p3) (.Name nk p4) p5] [] p11) (.Subscript (.Name nd p7) (.Name nk p8) p12) p13] m p14) [⟨.Name nk pt, .Name nd pi, [], 0⟩] scope pos] [] pos2) (eDCopy ik sk (eVar i)) :=
  pe_imp (pe_lock (pe_callTy (call_dictP x.calm) hg (x.mg "dict") (by decide +kernel) (pa_cons (pe_lc x.calm x.nd (pi_keys hd0) ok hgt (fun _ _ _ _ _ => pts_nil) (fun s H C cl fp => pe_elt (x.blk s H scope (compEnvC scope cl C X.env) fp) (hk s H C cl fp) (hd s H C cl fp) (hl s H C cl fp)) hs) pa_nil rfl) (by decide) (by decide) rfl rfl)) (dcopy_of x.K hne rfl)
end
end Ev

/-! Ev24: k in d; sorted(d), all keys numbers. -/
namespace Ev
open PySem L2
open PyProof.Rows hiding St
section
variable {g : Gh} {X : Cx} {a b : Expr} {pos p : Pos} {fa fb : Ef} {K : PySem.W.Frag} {ρ : Nat → Addr} {n : Nat} {H : Hp}
theorem KR.val? {k : Key} : ∀ {kvs : List (Key × D)} {gs : List (Key × V)}, KR K ρ n H kvs gs → (valV gs k).isSome = (valD kvs k).isSome
  | [], gs, h => by
    have e : gs = [] := h
    subst e
    rfl
  | (j, d) :: kvs, gs, h => by
    obtain ⟨w, hs, rfl, r1, rs⟩ := h
    have ih := rs.val? (k := k)
    unfold valV valD at ih ⊢
    by_cases e : j = k
    · rw [List.find?_cons_of_pos (by simpa using e), List.find?_cons_of_pos (by simpa using e)]
      rfl
    · rw [List.find?_cons_of_neg (by simpa using e), List.find?_cons_of_neg (by simpa using e)]
      exact ih
def dinF (neg : Bool) (x y : D) (st : Store) : R D := match keyD x, y with
  | some k, .loc l => match st[l]? with
    | some (.dic kvs) => .ok (.bl (if neg then !(valD kvs k).isSome else (valD kvs k).isSome)) st
    | _ => .bad
  | _, _ => .bad
def eDin (neg : Bool) (fa fb : Ef) : Ef := fun env st => (fa env st).bind fun x s1 => (fb env s1).bind fun y s2 => dinF neg x y s2
theorem din_ok {neg : Bool} {ρ : Nat → Addr} {st : Store} {H : Hp} {dx dy v : D} {y x : V} {st' : Store} (Rl : Rel g ρ st H) (r1 : VR g.K ρ st.length H dx y) (r2 : VR g.K ρ st.length H dy x) (h : dinF neg dx dy st = .ok v st') :
    st' = st ∧ ∃ a o, x = .ref a ∧ DGet H a y o ∧ v = .bl (if neg then !o.isSome else o.isSome) := by
  unfold dinF at h
  split at h
  · rename_i k l hk
    split at h
    · rename_i kvs q
      cases h
      unfold VR at r2
      obtain ⟨hl, rfl⟩ := r2
      have ey := key_vr r1 hk
      subst ey
      obtain ⟨gs, q1, rk⟩ := Rl.obj l _ q
      exact ⟨rfl, ρ l, _, rfl, DGet.k q1, by rw [rk.val?]⟩
    · cases h
  · cases h
theorem din_of : ∀ σ H Q, tE g (eDin false fa fb) σ H Q → tDIn (tE g fa) (tE g fb) σ H Q := fun σ H Q ⟨ρ, st, env, v, st', Rl, E, h, k⟩ => by
  obtain ⟨d1, s1, e1, h⟩ := R.bind_eq h
  obtain ⟨d2, s2, e2, h⟩ := R.bind_eq h
  refine ⟨ρ, st, env, d1, s1, Rl, E, e1, fun ρ1 H1 y1 P1 r1 => ?_⟩
  refine ⟨ρ1, s1, env, d2, s2, P1.rel, P1.envr Rl E, e2, fun ρ2 H2 y2 P2 r2 => ?_⟩
  obtain ⟨es, a, o, ex, hg, hv⟩ := din_ok P2.rel (P2.vr P1.rel r1) r2 h
  subst es
  subst hv
  exact ⟨a, o, ex, hg, k ρ2 H2 _ (P1.trans P2) (by simp [VR])⟩
theorem dnin_of : ∀ σ H Q, tE g (eDin true fa fb) σ H Q → tDNotIn (tE g fa) (tE g fb) σ H Q := fun σ H Q ⟨ρ, st, env, v, st', Rl, E, h, k⟩ => by
  obtain ⟨d1, s1, e1, h⟩ := R.bind_eq h
  obtain ⟨d2, s2, e2, h⟩ := R.bind_eq h
  refine ⟨ρ, st, env, d1, s1, Rl, E, e1, fun ρ1 H1 y1 P1 r1 => ?_⟩
  refine ⟨ρ1, s1, env, d2, s2, P1.rel, P1.envr Rl E, e2, fun ρ2 H2 y2 P2 r2 => ?_⟩
  obtain ⟨es, a, o, ex, hg, hv⟩ := din_ok P2.rel (P2.vr P1.rel r1) r2 h
  subst es
  subst hv
  exact ⟨a, o, ex, hg, k ρ2 H2 _ (P1.trans P2) (by simp [VR])⟩
theorem t_din (x : XG g X) (ha : EV g X a fa) (hb : EV g X b fb) (hm : behindInMarks .In b = false := by rfl) : TV g X (.Compare a [.In] [b] pos) (tfB (eDin false fa fb)) := pt_imp (pt_cmp (pc_impE (pc_din (by have := x.hu; omega) ha hb) din_of) hm) tB_of
theorem t_dnotin (x : XG g X) (ha : EV g X a fa) (hb : EV g X b fb) (hm : behindInMarks .NotIn b = false := by rfl) : TV g X (.Compare a [.NotIn] [b] pos) (tfB (eDin true fa fb)) := pt_imp (pt_cmp (pc_impE (pc_dnotin (by have := x.hu; omega) ha hb) dnin_of) hm) tB_of
/-! sorted(d) -/
def intKeys : List (Key × D) → Option (List Int)
  | [] => some []
  | (.inl i, _) :: kvs => (intKeys kvs).map (i :: ·)
  | (.inr _, _) :: _ => none
theorem intKeys_ok : ∀ {kvs : List (Key × D)} {ks : List Int}, intKeys kvs = some ks → kvs.map (·.1) = ks.map Sum.inl
  | [], ks, h => by cases h; rfl
  | (.inl i, d) :: kvs, ks, h => by
    unfold intKeys at h
    rw [Option.map_eq_some_iff] at h
    obtain ⟨r, h1, rfl⟩ := h
    rw [List.map_cons, intKeys_ok h1]
    rfl
  | (.inr z, d) :: kvs, ks, h => by cases h
def sortI (ks : List Int) : List Int := isort (fun a b => decide (a ≤ b)) ks
theorem total_int : PySem.W.TotalLe (fun a b : Int => decide (a ≤ b)) := ⟨fun a b c h1 h2 => by simp at h1 h2 ⊢; omega, fun a b => by simp; omega⟩
theorem isort_perm {A : Type} {le : A → A → Bool} : ∀ l : List A, (isort le l).Perm l
  | [] => List.Perm.refl _
  | a :: l => by
    have ins : ∀ l : List A, (insA le a l).Perm (a :: l) := fun l => by
      induction l with
      | nil => exact List.Perm.refl _
      | cons b l ih =>
        unfold insA
        split
        · exact List.Perm.refl _
        · exact (List.Perm.cons b ih).trans (List.Perm.swap a b l)
    exact (ins _).trans (List.Perm.cons a (isort_perm l))
theorem sortI_one {ks ys : List Int} (p : ys.Perm ks) (s : ys.Pairwise (· ≤ ·)) : ys = sortI ks := by
  have s2 : (sortI ks).Pairwise (· ≤ ·) := (isort_sorted total_int ks).imp fun h => by simpa using h
  have p2 : ys.Perm (sortI ks) := p.trans (isort_perm ks).symm
  exact List.Perm.eq_of_pairwise (fun a b _ _ h1 h2 => Int.le_antisymm h1 h2) s s2 p2
/-- sorted(d) -/
def nSortK (f : Ef) : Af := fun env st => (f env st).bind fun d s => match d with
  | .loc l => match s[l]? with
    | some (.dic kvs) => match intKeys kvs with
      | some ks => if ks.length < 64 then .ok ((sortI ks).map D.int) s else .bad
      | none => .bad
    | _ => .bad
  | _ => .bad
theorem n_sortK (x : XG g X) (h : EV g X a fa) (hg : Gl X "sorted" := by rfl) (he : starEach [a] X.env = (false, eval a X.env) :: starEach [] X.env := by rfl) : NV g X (.Call (.Name "sorted" p) [a] [] pos) (nSortK fa) :=
  pe_imp (pe_callB (call_sortedDI x.calm) hg (x.mg "sorted") (by decide +kernel) (pa_cons h pa_nil he) (by decide) (by decide) he rfl) fun σ H Q ⟨ρ, st, env, v, st', Rl, E, h, k⟩ => by
    obtain ⟨d, s1, e1, h⟩ := R.bind_eq h
    refine ⟨ρ, st, env, d, s1, Rl, E, e1, fun ρ1 H1 y P1 r1 => ?_⟩
    cases d with
    | loc l =>
      simp only at h
      split at h
      · rename_i kvs ql
        split at h
        · rename_i ks hks
          split at h
          · rename_i hz
            cases h
            unfold VR at r1
            obtain ⟨hl, rfl⟩ := r1
            obtain ⟨gs, q1, rk⟩ := P1.rel.obj l _ ql
            refine ⟨ρ1 l, gs, ks, rfl, .inl q1, by rw [kr_keys rk]; exact intKeys_ok hks, hz, fun ys q py sy hq => ?_⟩
            have ey := sortI_one py sy
            subst ey
            have P2 := P1.rel.tup (u := HO.lst ((sortI ks).map V.int)) hq
            refine k ρ1 _ q _ (P1.trans P2) upd_same (fun j m z => ?_) (P1.freeB hq) (P2.vrs P1.rel VRs.ints)
            obtain ⟨u, e2, _⟩ := P1.rel.mutSome m
            rw [z, hq] at e2
            cases e2
          · cases h
        · cases h
      · cases h
    | _ => simp at h
end
/-! ### reckoning -/
section
variable {env : EEnv} {st s : Store} {fa fb f : Ef} {x y : D} {l : Nat} {kvs : List (Key × D)} {neg : Bool} {k : Key}
def kDin2 (neg : Bool) (x y : D) (s : Store) : R D := dinF neg x y s
def kDin1 (neg : Bool) (fb : Ef) (env : EEnv) (x : D) (s : Store) : R D := (fb env s).bind (kDin2 neg x)
@[simp] theorem ev_eDin : eDin neg fa fb env st = (fa env st).bind (kDin1 neg fb env) := rfl
@[simp] theorem ev_kDin1 : kDin1 neg fb env x s = (fb env s).bind (kDin2 neg x) := rfl
@[simp] theorem ev_kDin2 : kDin2 neg x y s = dinF neg x y s := rfl
def dinG (neg : Bool) (o : Option Key) (q : Option O) (s : Store) : R D := match o, q with
  | some k, some (.dic kvs) => .ok (.bl (if neg then !(valD kvs k).isSome else (valD kvs k).isSome)) s
  | _, _ => .bad
@[simp] theorem ev_dinF : dinF neg x (.loc l) s = dinG neg (keyD x) (s[l]?) s := by
  unfold dinF dinG
  cases keyD x with
  | none => rfl
  | some k =>
    simp only
    cases s[l]? with
    | none => rfl
    | some o => cases o <;> rfl
@[simp] theorem ev_dinG : dinG neg (some k) (some (.dic kvs)) s = .ok (.bl (if neg then !(valD kvs k).isSome else (valD kvs k).isSome)) s := rfl
def sortG (o : Option (List Int)) (s : Store) : R (List D) := match o with | some ks => if ks.length < 64 then .ok ((sortI ks).map D.int) s else .bad | none => .bad
def kSortK (d : D) (s : Store) : R (List D) := match d with
  | .loc l => match s[l]? with
    | some (.dic kvs) => sortG (intKeys kvs) s
    | _ => .bad
  | _ => .bad
@[simp] theorem ev_nSortK : nSortK f env st = (f env st).bind kSortK := rfl
theorem ev_kSortK (h : s[l]? = some (.dic kvs)) : kSortK (.loc l) s = sortG (intKeys kvs) s := by
  simp only [kSortK, h]
@[simp] theorem ev_sortG {ks : List Int} : sortG (some ks) s = if ks.length < 64 then .ok ((sortI ks).map D.int) s else .bad := rfl
end
end Ev

/-! Ev25: a list of anything beside an empty one. -/
namespace Ev
open PySem L2
open PyProof.Rows hiding St
section
variable {g : Gh} {X : Cx} {a b : Expr} {pos : Pos} {fa fb : Ef}
def both0 (xs ys : List V) : Bool := xs.isEmpty && ys.isEmpty
def rEq0 (K : PySem.W.Frag) : R2 := fun x y H Q => ∃ a b xs ys, x = .ref a ∧ y = .ref b ∧ SqL K H a xs ∧ SqL K H b ys ∧ (xs = [] ∨ ys = []) ∧ Q (.bl (both0 xs ys)) H
def rNe0 (K : PySem.W.Frag) : R2 := fun x y H Q => ∃ a b xs ys, x = .ref a ∧ y = .ref b ∧ SqL K H a xs ∧ SqL K H b ys ∧ (xs = [] ∨ ys = []) ∧ Q (.bl (!both0 xs ys)) H
theorem sizes0 {xs ys : List V} {us ws : List Value} (h : xs = [] ∨ ys = []) (r1 : Vals xs us) (r2 : Vals ys ws) : (us.toArray.size = ws.toArray.size ∧ us.toArray.size = 0 ∧ both0 xs ys = true) ∨ ((us.toArray.size != ws.toArray.size) = true ∧ both0 xs ys = false) := by
  have l1 := r1.length
  have l2 := r2.length
  simp only [List.size_toArray]
  unfold both0
  rcases h with rfl | rfl
  · cases ys with
    | nil => exact .inl ⟨by simp_all, by simp_all, rfl⟩
    | cons y ys => exact .inr ⟨by simp at l1 l2 ⊢; omega, rfl⟩
  · cases xs with
    | nil => exact .inl ⟨by simp_all, by simp_all, rfl⟩
    | cons y ys => exact .inr ⟨by simp at l1 l2 ⊢; omega, rfl⟩
theorem op_ne0 (hu : X.A.units < cLine) : OpR X (compareOp .NotEq) (rNe0 X.K) := by
  intro pins s σ H x y v u Q I rx ry h
  obtain ⟨a, b, xs, ys, rfl, rfl, h1, h2, he, q⟩ := h
  cases rx
  cases ry
  obtain ⟨us, rv1, ⟨o1, n1, ho1, hc1, _, hd1⟩, _⟩ := I.list h1
  obtain ⟨ws, rv2, ⟨o2, n2, ho2, hc2, _, hd2⟩, _⟩ := I.list h2
  have l1 : s.heap.IsList a us.toArray := ⟨o1, ho1, hc1, n1, hd1⟩
  have l2 : s.heap.IsList b ws.toArray := ⟨o2, ho2, hc2, n2, hd2⟩
  rcases sizes0 he rv1 rv2 with ⟨e1, e0, eb⟩ | ⟨e1, eb⟩
  · rw [eb] at q
    refine SeqAt.RcNeAt.lists (e := fun _ => true) l1 l2 e1 hu (fun j h1 h2 => ?_) _ _ _ _ ?_
    · rw [e0] at h1
      omega
    · rw [e0]
      exact ⟨.bl _, H, I, rfl, q⟩
  · rw [eb] at q
    exact SeqAt.RcNeAt.lists_lengths l1 l2 e1 hu _ _ _ _ ⟨.bl _, H, I, rfl, q⟩
theorem op_eq0 (hu : X.A.units < cLine) : OpR X (compareOp .Eq) (rEq0 X.K) := by
  intro pins s σ H x y v u Q I rx ry h
  obtain ⟨a, b, xs, ys, rfl, rfl, h1, h2, he, q⟩ := h
  cases rx
  cases ry
  obtain ⟨us, rv1, ⟨o1, n1, ho1, hc1, _, hd1⟩, _⟩ := I.list h1
  obtain ⟨ws, rv2, ⟨o2, n2, ho2, hc2, _, hd2⟩, _⟩ := I.list h2
  have l1 : s.heap.IsList a us.toArray := ⟨o1, ho1, hc1, n1, hd1⟩
  have l2 : s.heap.IsList b ws.toArray := ⟨o2, ho2, hc2, n2, hd2⟩
  rcases sizes0 he rv1 rv2 with ⟨e1, e0, eb⟩ | ⟨e1, eb⟩
  · rw [eb] at q
    refine SeqAt.RcAt.lists (e := fun _ => true) l1 l2 e1 hu (fun j h1 h2 => ?_) _ _ _ _ ?_
    · rw [e0] at h1
      omega
    · rw [e0]
      exact ⟨.bl _, H, I, rfl, q⟩
  · rw [eb] at q
    exact SeqAt.RcAt.lists_lengths l1 l2 e1 hu _ _ _ _ ⟨.bl _, H, I, rfl, q⟩
def eq0G (neg : Bool) (o1 o2 : Option O) (s : Store) : R D := match o1, o2 with
  | some (.lst xs), some (.lst ys) => if xs = [] ∨ ys = [] then .ok (.bl (if neg then !(xs.isEmpty && ys.isEmpty) else xs.isEmpty && ys.isEmpty)) s else .bad
  | _, _ => .bad
def eq0F (neg : Bool) : F2 := fun x y st => match x, y with
  | .loc a, .loc b => eq0G neg (st[a]?) (st[b]?) st
  | _, _ => .bad
theorem both_e {K : PySem.W.Frag} {ρ : Nat → Addr} {n : Nat} {H : Hp} {xs ys : List D} {us ws : List V} (r1 : VRs K ρ n H xs us) (r2 : VRs K ρ n H ys ws) : (xs.isEmpty && ys.isEmpty) = both0 us ws := by
  have l1 := r1.length
  have l2 := r2.length
  unfold both0
  congr 1
  · cases xs <;> cases us <;> simp_all
  · cases ys <;> cases ws <;> simp_all
theorem nil_e {K : PySem.W.Frag} {ρ : Nat → Addr} {n : Nat} {H : Hp} {us : List V} (r : VRs K ρ n H [] us) : us = [] := by
  have := r.length
  exact List.length_eq_zero_iff.mp this.symm
theorem o_ne0 (x : XG g X) : Op2 g (rNe0 X.K) (eq0F true) := fun ρ st H d1 d2 x1 y1 v st' Q Rl r1 r2 q k => by
  unfold eq0F at q
  split at q
  · rename_i a b
    unfold eq0G at q
    split at q
    · rename_i xs ys e1 e2
      split at q
      · rename_i hz
        cases q
        unfold VR at r1 r2
        obtain ⟨_, rfl⟩ := r1
        obtain ⟨_, rfl⟩ := r2
        obtain ⟨us, q1, rv1⟩ := Rl.obj a _ e1
        obtain ⟨ws, q2, rv2⟩ := Rl.obj b _ e2
        rw [x.K]
        refine ⟨_, _, us, ws, rfl, rfl, SqL.of q1, SqL.of q2, ?_, ?_⟩
        · rcases hz with rfl | rfl
          · exact .inl (nil_e rv1)
          · exact .inr (nil_e rv2)
        · refine k ρ H _ (Post.refl Rl) ?_
          rw [both_e rv1 rv2]
          simp [VR]
      · cases q
    · cases q
  · cases q
theorem o_eq0 (x : XG g X) : Op2 g (rEq0 X.K) (eq0F false) := fun ρ st H d1 d2 x1 y1 v st' Q Rl r1 r2 q k => by
  unfold eq0F at q
  split at q
  · rename_i a b
    unfold eq0G at q
    split at q
    · rename_i xs ys e1 e2
      split at q
      · rename_i hz
        cases q
        unfold VR at r1 r2
        obtain ⟨_, rfl⟩ := r1
        obtain ⟨_, rfl⟩ := r2
        obtain ⟨us, q1, rv1⟩ := Rl.obj a _ e1
        obtain ⟨ws, q2, rv2⟩ := Rl.obj b _ e2
        rw [x.K]
        refine ⟨_, _, us, ws, rfl, rfl, SqL.of q1, SqL.of q2, ?_, ?_⟩
        · rcases hz with rfl | rfl
          · exact .inl (nil_e rv1)
          · exact .inr (nil_e rv2)
        · refine k ρ H _ (Post.refl Rl) ?_
          rw [both_e rv1 rv2]
          simp [VR]
      · cases q
    · cases q
  · cases q
theorem e_eq0 (x : XG g X) (ha : EV g X a fa) (hb : EV g X b fb) : EV g X (.Compare a [.Eq] [b] pos) (eBin (eq0F false) fa fb) := e_cmp (op_eq0 (by have := x.hu; omega)) (o_eq0 x) ha hb (nomark _)
theorem e_ne0 (x : XG g X) (ha : EV g X a fa) (hb : EV g X b fb) : EV g X (.Compare a [.NotEq] [b] pos) (eBin (eq0F true) fa fb) := e_cmp (op_ne0 (by have := x.hu; omega)) (o_ne0 x) ha hb (nomark _)
theorem t_eq0 (x : XG g X) (ha : EV g X a fa) (hb : EV g X b fb) : TV g X (.Compare a [.Eq] [b] pos) (tfB (eBin (eq0F false) fa fb)) := t_cmp (op_eq0 (by have := x.hu; omega)) (o_eq0 x) ha hb (nomark _)
theorem t_ne0 (x : XG g X) (ha : EV g X a fa) (hb : EV g X b fb) : TV g X (.Compare a [.NotEq] [b] pos) (tfB (eBin (eq0F true) fa fb)) := t_cmp (op_ne0 (by have := x.hu; omega)) (o_ne0 x) ha hb (nomark _)
end
section
variable {s : Store} {i j : Nat} {neg : Bool} {xs ys : List D}
@[simp] theorem ev_eq0 : eq0F neg (.loc i) (.loc j) s = eq0G neg (s[i]?) (s[j]?) s := rfl
@[simp] theorem ev_eq0G : eq0G neg (some (.lst xs)) (some (.lst [])) s = .ok (.bl (if neg then !xs.isEmpty else xs.isEmpty)) s := by
  show (if xs = [] ∨ ([] : List D) = [] then R.ok (D.bl (if neg = true then !(xs.isEmpty && ([] : List D).isEmpty) else xs.isEmpty && ([] : List D).isEmpty)) s else R.bad) = _
  rw [if_pos (Or.inr rfl)]
  cases xs <;> cases neg <;> rfl
end
end Ev

/-! Ev26: slices of lists with a step; isinstance of an own class; == by an own __eq__. -/
namespace Ev
open PySem L2
open PyProof.Rows hiding St
/-! ### slices with a step -/
def pickIx (n : Nat) (lo hi st : Option Int) : List Nat := sliceRange (sliceBounds lo hi st n).1 (sliceBounds lo hi st n).2.1 (sliceBounds lo hi st n).2.2
def pickS {A : Type} (xs : List A) (lo hi st : Option Int) : List A := sel (pickIx xs.length lo hi st) xs
theorem slicePick_sel (its : List Value) (lo hi st : Option Int) : slicePick its.toArray lo hi st = (pickS its lo hi st).toArray := by
  unfold slicePick pickS sel pickIx
  have e : (fun i : Nat => its.toArray[i]?) = fun i => its[i]? := by
    funext i
    simp
  rw [e, List.size_toArray]
theorem pickS_len {A : Type} (xs : List A) (lo hi st : Option Int) : (pickS xs lo hi st).length ≤ xs.length := by
  have h := slicePick_size_le ((List.replicate xs.length Value.none).toArray) lo hi st
  have e : ∀ {B : Type} (ys : List B) (pm : List Nat), ys.length = xs.length → (sel pm ys).length = (sel pm (List.replicate xs.length Value.none)).length := fun {B} ys pm hl => by
    unfold sel
    induction pm with
    | nil => rfl
    | cons i pm ih =>
      rw [List.filterMap_cons, List.filterMap_cons]
      by_cases hi : i < xs.length
      · rw [List.getElem?_eq_getElem (by omega), List.getElem?_eq_getElem (by simpa using hi)]
        simp only [List.length_cons, ih]
      · rw [List.getElem?_eq_none (by omega), List.getElem?_eq_none (by simpa using hi)]
        exact ih
  rw [slicePick_sel] at h
  simp only [List.size_toArray, List.length_replicate] at h
  unfold pickS at h ⊢
  rw [List.length_replicate] at h
  rw [e xs _ rfl]
  exact h
def tSl3 (K : PySem.W.Frag) (te : TE) (tl th ts : St → Hp → (Option Int → Hp → Prop) → Prop) : TE := fun σ H Q => te σ H fun x H1 => tl σ H1 fun l H2 => th σ H2 fun u H3 => ts σ H3 fun o H4 => o ≠ some 0 ∧ ∃ a xs, x = .ref a ∧ SqL K H4 a xs ∧ ∀ p, H4 p = none → Q (.ref p) (upd H4 p (.lst (pickS xs l u o)))
section
variable {X : Cx} {e sx : Expr} {lo hi : Option Expr} {p2 pos : Pos} {te : TE} {tl th ts : St → Hp → (Option Int → Hp → Prop) → Prop}
theorem pe_slice3 (he : PE X e te) (hl : PO X lo tl) (hu : PO X hi th) (hs : PO X (some sx) ts) : PE X (.Subscript e (.Slice lo hi (some sx) p2) pos) (tSl3 X.K te tl th ts) := by
  refine ⟨fun pins s σ H Q I h => ?_⟩
  refine Subscript_ (thn (he.run pins s σ H _ I h) fun v s1 ⟨x, H1, I1, r1, q1⟩ => ?_)
  refine wpAny_Slice (thn (hl.run pins s1 σ H1 _ I1 q1) fun vl s2 ⟨l, H2, I2, pl, q2⟩ => thn (hu.run pins s2 σ H2 _ I2 q2) fun vu s3 ⟨u, H3, I3, pu, q3⟩ => thn (hs.run pins s3 σ H3 _ I3 q3) fun vs s4 ⟨o, H4, I4, ps, ho, a, xs, ex, hx, q⟩ => ?_)
  subst ex
  cases r1
  have I5 : Inv X pins σ H4 { s4 with heap := s4.heap.push { cls := .type "slice", data := .fields #[vl, vu, vs] } } := I4.kept (t' := s4.toks) fun b ob q => Heap.get?_push_of_some _ q
  obtain ⟨its, r, ht, hz⟩ := I5.list hx
  have hlen := r.length
  show wpAny (model X.prog X.w) X.A (subscriptTail e (.Slice lo hi (some sx) p2) (.ref a) (.ref s4.heap.objs.size)) (EP X pins σ Q) X.xe { s4 with heap := s4.heap.push { cls := .type "slice", data := .fields #[vl, vu, vs] } }
  refine tail_any (ops := [.ref a, .ref s4.heap.objs.size]) ht.isList.typeIs (PySem.slot_list_getitem.lookup) ?_ (by with_unfolding_all rfl)
  refine wpAny_getItem_list_slice ht.isList (Heap.IsSliceOf.new _ vl vu vs) pl pu ps ho ?_ (by rw [List.size_toArray]; omega)
  rw [slicePick_sel]
  refine ⟨.ref _, _, I5.laid (t' := s4.toks) (o := .lst (pickS xs l u o)) (fun b ob q => Heap.get?_push_of_some _ q) (Nat.le_refl _) ?_, rfl, q _ (I5.hok.fresh (Nat.le_refl _))⟩
  refine ⟨Nat.le_trans (pickS_len _ _ _ _) hz, _, 0, ?_, Heap.get?_push_size _ rfl⟩
  unfold pickS
  rw [← hlen]
  exact sel_vals r
end
def sl3G (o : Option O) (lo hi sx : Option Int) (st : Store) : R Mv := match o with
  | some (.lst xs) => if sx = some 0 then .bad else .ok (.l (pickS xs lo hi sx)) st
  | _ => .bad
def sl3F (d : D) (lo hi sx : Option Int) (st : Store) : R Mv := match d with
  | .loc l => sl3G (st[l]?) lo hi sx st
  | _ => .bad
def mSl3 (f : Ef) (fl fh fs : Of) : Mf := fun env st => (f env st).bind fun d s1 => (fl env s1).bind fun lo s2 => (fh env s2).bind fun hi s3 => (fs env s3).bind fun sx s4 => sl3F d lo hi sx s4
section
variable {g : Gh} {X : Cx} {e sx : Expr} {lo hi : Option Expr} {p2 pos : Pos} {f : Ef} {fl fh fs : Of}
theorem m_slice3 (x : XG g X) (he : EV g X e f) (hl : PO X lo (tO g fl)) (hu : PO X hi (tO g fh)) (hs : PO X (some sx) (tO g fs)) : MV g X (.Subscript e (.Slice lo hi (some sx) p2) pos) (mSl3 f fl fh fs) :=
  pe_imp (pe_slice3 he hl hu hs) fun σ H Q ⟨ρ, st, env, v, st', Rl, E, h, k⟩ => by
    obtain ⟨d, s1, e1, h⟩ := R.bind_eq h
    obtain ⟨lo, s2, e2, h⟩ := R.bind_eq h
    obtain ⟨hi, s3, e3, h⟩ := R.bind_eq h
    obtain ⟨so, s4, e4, h⟩ := R.bind_eq h
    refine ⟨ρ, st, env, d, s1, Rl, E, e1, fun ρ1 H1 y P1 r1 => ?_⟩
    refine ⟨ρ1, s1, env, lo, s2, P1.rel, P1.envr Rl E, e2, fun ρ2 H2 P2 => ?_⟩
    refine ⟨ρ2, s2, env, hi, s3, P2.rel, (P1.trans P2).envr Rl E, e3, fun ρ3 H3 P3 => ?_⟩
    refine ⟨ρ3, s3, env, so, s4, P3.rel, ((P1.trans P2).trans P3).envr Rl E, e4, fun ρ4 H4 P4 => ?_⟩
    have P14 := ((P1.trans P2).trans P3).trans P4
    have r4 := P4.vr P3.rel (P3.vr P2.rel (P2.vr P1.rel r1))
    rw [x.K]
    cases d with
    | loc l =>
      simp only [sl3F] at h
      cases q : s4[l]? with
      | none => rw [q] at h; cases h
      | some oo =>
        rw [q] at h
        cases oo with
        | lst xs =>
          have h : (if so = some 0 then (R.bad : R Mv) else .ok (.l (pickS xs lo hi so)) s4) = .ok v st' := h
          by_cases h0 : so = some 0
          · rw [if_pos h0] at h; cases h
          rw [if_neg h0] at h
          cases h
          unfold VR at r4
          obtain ⟨hl', rfl⟩ := r4
          obtain ⟨ys, q1, rs⟩ := P4.rel.obj l _ q
          refine ⟨h0, ρ4 l, ys, rfl, SqL.of q1, fun p hp => ?_⟩
          have Pt := P4.rel.tup (u := .lst (pickS ys lo hi so)) hp
          refine k ρ4 _ _ (P14.trans Pt) ?_
          refine ⟨p, pickS ys lo hi so, rfl, upd_same, fun j m z => ?_, ?_, ?_⟩
          · obtain ⟨u, e5, _⟩ := P4.rel.mutSome m
            rw [z, hp] at e5
            cases e5
          · exact P14.freeB hp
          · have r5 : VRs g.K ρ4 st'.length (upd H4 p (.lst (pickS ys lo hi so))) xs ys := Pt.vrs P4.rel rs
            have e1 : pickS ys lo hi so = sel (pickIx xs.length lo hi so) ys := by
              unfold pickS
              rw [rs.length]
            have q5 := sel_vrs (pm := pickIx xs.length lo hi so) r5
            rw [← e1] at q5
            exact q5
        | _ => cases h
    | _ => cases h
end
/-! ### isinstance of an own class -/
def bltT : List String := ["NoneType", "bool", "int", "str", "tuple", "list", "dict"]
structure InsOk (K : PySem.W.Frag) (C : Addr) : Prop where
  ha : PySem.W.findIn K (.ref C) "__class__" = some (some (.builtin "object.__class__"))
  hn : PySem.W.specialIn K (.builtin "object.__class__") "__get__" = some (some (.builtin "getset_descriptor.__get__"))
  ht : PySem.W.takesIn K (.builtin "object.__class__") = some true
  hm : PySem.W.mroIn K C (.type "object") = some true
structure IsO (g : Gh) (C : Addr) (sub : Nat → Bool) : Prop where
  isc : PySem.W.isClsIn g.K C = true
  ty : PySem.W.typeIn g.K (.ref C) = some (.type "type")
  self : PySem.W.subIn g.K (.ref C) (.ref C) = some true
  blt : ∀ T ∈ bltT, PySem.W.subIn g.K (.type T) (.ref C) = some false
  ins : ∀ c, c < g.nc → InsOk g.K (g.cl c)
  own : ∀ c, c < g.nc → PySem.W.subIn g.K (.ref (g.cl c)) (.ref C) = some (sub c)
theorem IsO.kit {g : Gh} {C : Addr} {sub : Nat → Bool} (h : IsO g C sub) {t : Value} {b : Bool} (hs : PySem.W.subIn g.K t (.ref C) = some b) : PySem.W.kitOne g.K t (.ref C) = some b := by
  unfold PySem.W.kitOne
  split
  · rename_i e
    have e := eq_of_beq e
    subst e
    rw [h.self] at hs
    exact hs
  · unfold PySem.W.kitCls
    have c1 : ((PySem.W.clsIn g.K C).isSome && PySem.W.typeIn g.K (.ref C) == some (.type "type")) = true := by
      rw [h.ty]
      have : (PySem.W.clsIn g.K C).isSome = true := h.isc
      rw [this]
      rfl
    show (if ((PySem.W.clsIn g.K C).isSome && PySem.W.typeIn g.K (.ref C) == some (.type "type")) = true then PySem.W.subIn g.K t (.ref C) else none) = some b
    rw [if_pos c1]
    exact hs
/-- a value's type: a built-in one by its name, an own one by its number -/
def tyO (st : Store) (d : D) : Option (String ⊕ Nat) := match d with
  | .loc l => match st[l]? with
    | some (.lst _) => some (.inl "list")
    | some (.ro _) => some (.inl "list")
    | some (.dic _) => some (.inl "dict")
    | some (.ins c _) => some (.inr c)
    | none => none
  | .non => some (.inl "NoneType")
  | .bl _ => some (.inl "bool")
  | .int _ => some (.inl "int")
  | .str _ => some (.inl "str")
  | .tup _ => some (.inl "tuple")
section
variable {g : Gh} {X : Cx} {e a b : Expr} {p p2 pos : Pos} {f fa fb : Ef} {sub : Nat → Bool} {C : Addr}
def tyV' (g : Gh) : String ⊕ Nat → Value
  | .inl T => .type T
  | .inr c => .ref (g.cl c)
theorem tyO_ok (h0 : IsO g C sub) (hcl : ∀ c, c < g.nc → Cls g.K (g.cl c)) {ρ : Nat → Addr} {st : Store} {H : Hp} {d : D} {v : V} {n : String ⊕ Nat} (Rl : Rel g ρ st H) (r : VR g.K ρ st.length H d v) (h : tyO st d = some n) :
    TyX g.K H v (tyV' g n) ∧ ((∃ T ∈ bltT, n = .inl T) ∨ ∃ c, c < g.nc ∧ n = .inr c) := by
  cases d with
  | non => simp only [VR] at r; subst r; cases h; exact ⟨.base .non, .inl ⟨_, by decide, rfl⟩⟩
  | bl b => simp only [VR] at r; subst r; cases h; exact ⟨.base (.bl b), .inl ⟨_, by decide, rfl⟩⟩
  | int b => simp only [VR] at r; subst r; cases h; exact ⟨.base (.int b), .inl ⟨_, by decide, rfl⟩⟩
  | str b => simp only [VR] at r; subst r; cases h; exact ⟨.base (.str b), .inl ⟨_, by decide, rfl⟩⟩
  | tup xs =>
    have r' := r
    unfold VR at r
    obtain ⟨p, ys, rfl, q, _⟩ := r
    cases h
    refine ⟨?_, .inl ⟨_, by decide, rfl⟩⟩
    rcases q with (q | ⟨o, q⟩) | ⟨o, its, n, q, hc, _⟩
    · exact .base (.tup q)
    · exact .fTuple q
    · exact .kTuple q hc
  | loc l =>
    unfold VR at r
    obtain ⟨hl, rfl⟩ := r
    simp only [tyO] at h
    split at h
    · rename_i xs q
      cases h
      obtain ⟨ys, q1, _⟩ := Rl.obj l _ q
      exact ⟨.base (.lst q1), .inl ⟨_, by decide, rfl⟩⟩
    · rename_i ns q
      cases h
      refine ⟨?_, .inl ⟨_, by decide, rfl⟩⟩
      rcases Rl.obj l _ q with ⟨o, q⟩ | ⟨o, its, n, q, hc, _⟩
      · exact .base (.frz q)
      · exact .kList q hc
    · rename_i kvs q
      cases h
      obtain ⟨ys, q1, _⟩ := Rl.obj l _ q
      exact ⟨.base (.dK q1), .inl ⟨_, by decide, rfl⟩⟩
    · rename_i c fs q
      cases h
      obtain ⟨hc, dx, gs, q1, _⟩ := Rl.obj l _ q
      have i := h0.ins c hc
      exact ⟨.base (.ins q1 (hcl c hc) i.ha i.hn i.ht i.hm), .inr ⟨c, hc, rfl⟩⟩
    · cases h
def isOF (sub : Nat → Bool) (d : D) (st : Store) : R D := match tyO st d with
  | some (.inl _) => .ok (.bl false) st
  | some (.inr c) => .ok (.bl (sub c)) st
  | none => .bad
def eIsO (sub : Nat → Bool) (f : Ef) : Ef := fun env st => (f env st).bind (isOF sub)
theorem e_isO (x : XG g X) {n : Str} (h0 : IsO g C sub) (h : EV g X e f) (hm : X.mg n = some (.ref C)) (hg : Gl X "isinstance" := by rfl) (hg2 : Gl X n := by rfl)
    (hs : starEach [e, .Name n p2] X.env = (false, eval e X.env) :: starEach [.Name n p2] X.env := by rfl) (hs2 : starEach [.Name n p2] X.env = (false, eval (.Name n p2) X.env) :: starEach [] X.env := by rfl) (hp : (backTo pos (starEach [.Name n p2] X.env)).any (·.1) = false := by rfl)
    (hd : (n == ("__debug__" : Str)) = false := by decide) :
    EV g X (.Call (.Name "isinstance" p) [e, .Name n p2] [] pos) (eIsO sub f) :=
  pe_imp (pe_callB call_isi hg (x.mg "isinstance") (by decide +kernel) (pa_cons h (pa_cons (pe_glob (v := .ref C) hg2 hm rfl hd) pa_nil hs2) hs) (by decide) (by decide) hs hp) fun σ H Q ⟨ρ, st, env, v, st', Rl, E, h, k⟩ => by
    obtain ⟨d, s1, e1, h⟩ := R.bind_eq h
    refine ⟨ρ, st, env, d, s1, Rl, E, e1, fun ρ1 H1 y P1 r1 => ?_⟩
    unfold isOF at h
    rw [x.K]
    cases q : tyO s1 d with
    | none => rw [q] at h; cases h
    | some n =>
      obtain ⟨ty, hn⟩ := tyO_ok h0 x.cls P1.rel r1 q
      rcases hn with ⟨T, mT, rfl⟩ | ⟨c, hc, rfl⟩
      · rw [q] at h
        cases h
        exact ⟨y, .ref C, _, _, false, rfl, .own C, ty, h0.kit (h0.blt T mT), k ρ1 H1 _ P1 (by simp [VR])⟩
      · rw [q] at h
        cases h
        exact ⟨y, .ref C, _, _, sub c, rfl, .own C, ty, h0.kit (h0.own c hc), k ρ1 H1 _ P1 (by simp [VR])⟩
/-! ### == by an own __eq__ -/
variable {k : Nat} {fa' : Addr} {fd : FuncData} {ps : List Str} {sem : SemF}
def rEqO (g : Gh) (C : Addr) (sem : SemF) : R2 := fun x y H Q => ∃ a dx fs t, x = .ref a ∧ H a = some (.ins C dx fs) ∧ TyX g.K H y t ∧ PySem.W.notFirst g.K C t = true ∧ SpD g sem [x, y] H (fun z H' => (∃ b, z = .bl b) ∧ Q z H')
theorem op_eqO (x : XG g X) (F : FnG g X.prog X.w X.K X.mg X.base k fa' fd ps sem) (hr : Room k X.A) (hb : Binds X.K fd ps []) (hs : PySem.W.findIn g.K (.ref C) "__eq__" = some (some (.ref fa'))) (hf : PySem.W.isFn g.K (.ref fa') = true) :
    OpR X (compareOp .Eq) (rEqO g C sem) := by
  intro pins s σ H x' y v u Q I rx ry h
  obtain ⟨a, dx, fs, t, rfl, ha, ty, hn, hsp⟩ := h
  rw [← x.K] at ty hn hs hf
  cases rx
  obtain ⟨P, Z, p, _⟩ := kit_of I ry ty
  obtain ⟨mA, J, _⟩ := ins_get I.hok ha
  obtain ⟨od, J, _⟩ := J.look
  obtain ⟨m, hF⟩ := I.fr
  show wpAny (model X.prog X.w) X.A (richCompare .Eq (.ref a) u) (EP X pins σ Q) X.xe s
  refine PySem.W.cmp_K (op := .Eq) (tb := t) (by have := x.hu; omega) hF I.ok.mod.kin J (Z.ty _ _ I.kIn p) hn hs hf ?_
  refine wpAny_mono (run_g (us := [.ref a, u]) (vs := [.ref a, y]) x F hr hb I (.cons rfl (.cons ry .nil)) hsp) (fun r s' q => ?_) fun _ _ e => e
  obtain ⟨z, H', I', rz, ⟨b, eb⟩, q⟩ := q
  subst eb
  cases rz
  exact ⟨.bl b, H', I', rfl, q⟩
def okT (sub : Nat → Bool) (c : Nat) : Option (String ⊕ Nat) → Bool
  | some (.inl _) => true
  | some (.inr c') => decide (c' = c) || !sub c'
  | none => false
def blR (r : R D) : R D := match r with | .ok (.bl b) s => .ok (.bl b) s | _ => .bad
def eqOF (c : Nat) (sub : Nat → Bool) (sem : SemF) : F2 := fun x y s => if isC c x s = true ∧ okT sub c (tyO s y) = true then blR (sem [x, y] s) else .bad
theorem o_eqO (x : XG g X) (c : Nat) (hc : c < g.nc) (h0 : IsO g (g.cl c) sub) : Op2 g (rEqO g (g.cl c) sem) (eqOF c sub sem) := fun ρ st H d1 d2 x1 y1 v st' Q Rl r1 r2 q k => by
  unfold eqOF at q
  split at q
  · rename_i hz
    obtain ⟨l, dx, gs, fs, rfl, rfl, e3, _, rf⟩ := isC_ok Rl r1 hz.1
    have hz2 := hz.2
    cases qt : tyO st d2 with
    | none => rw [qt] at hz2; cases hz2
    | some n =>
      obtain ⟨ty, hn⟩ := tyO_ok h0 x.cls Rl r2 qt
      refine ⟨ρ l, dx, gs, _, rfl, e3, ty, ?_, ?_⟩
      · unfold PySem.W.notFirst
        rcases hn with ⟨T, mT, rfl⟩ | ⟨c', hc', rfl⟩
        · show (_ || PySem.W.subIn g.K (.type T) (.ref (g.cl c)) == some false) = true
          rw [h0.blt T mT]
          simp
        · rw [qt] at hz2
          have hz2 : (decide (c' = c) || !sub c') = true := hz2
          rw [Bool.or_eq_true] at hz2
          rcases hz2 with e | e
          · have e := of_decide_eq_true e
            subst e
            show ((Value.ref (g.cl c') == Value.ref (g.cl c')) || _) = true
            rw [beq_self_eq_true]
            rfl
          · show (_ || PySem.W.subIn g.K (.ref (g.cl c')) (.ref (g.cl c)) == some false) = true
            rw [h0.own c' hc']
            have : sub c' = false := by simpa using e
            rw [this]
            simp
      · cases es : sem [.loc l, d2] st with
        | bad => rw [es] at q; cases q
        | ok w s' =>
          rw [es] at q
          cases w with
          | bl b =>
            cases q
            refine ⟨ρ, st, [.loc l, d2], .bl b, _, Rl, .cons r1 (.cons r2 .nil), es, fun ρ' H' z P rz => ?_⟩
            have ez : z = .bl b := by simpa [VR] using rz
            exact ⟨⟨b, ez⟩, k ρ' H' z P rz⟩
          | _ => cases q
  · cases q
theorem e_eqO (x : XG g X) (c : Nat) (hc : c < g.nc) (h0 : IsO g (g.cl c) sub) (F : FnG g X.prog X.w X.K X.mg X.base k fa' fd ps sem) (hr : Room k X.A) (hb : Binds X.K fd ps []) (hs : PySem.W.findIn g.K (.ref (g.cl c)) "__eq__" = some (some (.ref fa'))) (hf : PySem.W.isFn g.K (.ref fa') = true)
    (ha : EV g X a fa) (hb' : EV g X b fb) : EV g X (.Compare a [.Eq] [b] pos) (eBin (eqOF c sub sem) fa fb) := e_cmp (op_eqO x F hr hb hs hf) (o_eqO x c hc h0) ha hb' (nomark _)
theorem t_eqO (x : XG g X) (c : Nat) (hc : c < g.nc) (h0 : IsO g (g.cl c) sub) (F : FnG g X.prog X.w X.K X.mg X.base k fa' fd ps sem) (hr : Room k X.A) (hb : Binds X.K fd ps []) (hs : PySem.W.findIn g.K (.ref (g.cl c)) "__eq__" = some (some (.ref fa'))) (hf : PySem.W.isFn g.K (.ref fa') = true)
    (ha : EV g X a fa) (hb' : EV g X b fb) : TV g X (.Compare a [.Eq] [b] pos) (tfB (eBin (eqOF c sub sem) fa fb)) := t_cmp (op_eqO x F hr hb hs hf) (o_eqO x c hc h0) ha hb' (nomark _)
end
/-! ### reckoning -/
section
variable {env : EEnv} {st s : Store} {f : Ef} {fl fh fs : Of} {d x y : D} {l : Nat} {lo hi sx : Option Int} {xs : List D} {sub : Nat → Bool} {c c' : Nat} {sem : SemF} {b : Bool} {n : String ⊕ Nat} {T : String} {ffs : List (Nat × D)} {kvs : List (Key × D)}
def kS4 (d : D) (lo hi sx : Option Int) (s : Store) : R Mv := sl3F d lo hi sx s
def kS3 (fs : Of) (env : EEnv) (d : D) (lo hi : Option Int) (s : Store) : R Mv := (fs env s).bind (kS4 d lo hi)
def kS2 (fh fs : Of) (env : EEnv) (d : D) (lo : Option Int) (s : Store) : R Mv := (fh env s).bind (kS3 fs env d lo)
def kS1 (fl fh fs : Of) (env : EEnv) (d : D) (s : Store) : R Mv := (fl env s).bind (kS2 fh fs env d)
@[simp] theorem ev_mSl3 : mSl3 f fl fh fs env st = (f env st).bind (kS1 fl fh fs env) := rfl
@[simp] theorem ev_kS1 : kS1 fl fh fs env d s = (fl env s).bind (kS2 fh fs env d) := rfl
@[simp] theorem ev_kS2 : kS2 fh fs env d lo s = (fh env s).bind (kS3 fs env d lo) := rfl
@[simp] theorem ev_kS3 : kS3 fs env d lo hi s = (fs env s).bind (kS4 d lo hi) := rfl
@[simp] theorem ev_kS4 : kS4 (.loc l) lo hi sx s = sl3G (s[l]?) lo hi sx s := rfl
@[simp] theorem ev_sl3G : sl3G (some (.lst xs)) lo hi sx s = if sx = some 0 then .bad else .ok (.l (pickS xs lo hi sx)) s := rfl
def kIsO (sub : Nat → Bool) (o : Option (String ⊕ Nat)) (s : Store) : R D := match o with
  | some (.inl _) => .ok (.bl false) s
  | some (.inr c) => .ok (.bl (sub c)) s
  | none => .bad
@[simp] theorem ev_eIsO : eIsO sub f env st = (f env st).bind (isOF sub) := rfl
@[simp] theorem ev_isOF : isOF sub d s = kIsO sub (tyO s d) s := rfl
@[simp] theorem ev_kIsOl : kIsO sub (some (.inl T)) s = .ok (.bl false) s := rfl
@[simp] theorem ev_kIsOr : kIsO sub (some (.inr c)) s = .ok (.bl (sub c)) s := rfl
def tyG (o : Option O) : Option (String ⊕ Nat) := match o with
  | some (.lst _) => some (.inl "list")
  | some (.ro _) => some (.inl "list")
  | some (.dic _) => some (.inl "dict")
  | some (.ins c _) => some (.inr c)
  | none => none
@[simp] theorem ev_tyL : tyO s (.loc l) = tyG (s[l]?) := rfl
@[simp] theorem ev_tyGi : tyG (some (.ins c ffs)) = some (.inr c) := rfl
@[simp] theorem ev_tyGd : tyG (some (.dic kvs)) = some (.inl "dict") := rfl
@[simp] theorem ev_tyGl : tyG (some (.lst xs)) = some (.inl "list") := rfl
@[simp] theorem ev_tyN : tyO s .non = some (.inl "NoneType") := rfl
@[simp] theorem ev_tyB : tyO s (.bl b) = some (.inl "bool") := rfl
@[simp] theorem ev_tyI {i : Int} : tyO s (.int i) = some (.inl "int") := rfl
@[simp] theorem ev_tyS {z : Str} : tyO s (.str z) = some (.inl "str") := rfl
@[simp] theorem ev_tyT : tyO s (.tup xs) = some (.inl "tuple") := rfl
@[simp] theorem ev_eqO : eqOF c sub sem x y s = if isC c x s = true ∧ okT sub c (tyO s y) = true then blR (sem [x, y] s) else .bad := rfl
@[simp] theorem ev_okTl : okT sub c (some (.inl T)) = true := rfl
@[simp] theorem ev_okTr : okT sub c (some (.inr c')) = (decide (c' = c) || !sub c') := rfl
@[simp] theorem ev_blR : blR (.ok (.bl b) s) = .ok (.bl b) s := rfl
end
end Ev

/-! Dr1: doors, reckoned apart from the program: each player's word, how far it is, whether it found no settled one, what it heard. -/
namespace Ev
open PySem L2
open PyProof.Rows hiding St
structure Pl where
  came : Option D
  st : Nat
  won : Bool
  heard : D
def Pl.c (p : Pl) : D := match p.came with | none => .non | some v => .tup [v]
def Pl.lev (p : Pl) : D := if p.st = 0 then .non else if p.st < 3 then .int 1 else if p.won = true then .int 2 else .int 0
def Pl.seen (p : Pl) : D := if p.st < 2 then .non else .bl (!p.won)
def Pl.top (p : Pl) : Bool := decide (3 ≤ p.st) && p.won
def Pl.mid (p : Pl) : Bool := decide (p.st = 1) || decide (p.st = 2)
def twoS (ds : List Pl) : Bool := ds.any Pl.top
def oneS (ds : List Pl) : Bool := ds.any Pl.mid
def winS (ds : List Pl) : Option Nat := ds.findIdx? Pl.top
theorem lev_two (p : Pl) : eqD p.lev (.int 2) = p.top := by
  obtain ⟨c, s, w, h⟩ := p
  unfold Pl.lev Pl.top
  by_cases h0 : s = 0
  · simp [h0]
  · by_cases h3 : s < 3
    · simp [h0, h3]; intro; omega
    · cases w <;> simp [h0, h3]; omega
theorem lev_one (p : Pl) : eqD p.lev (.int 1) = p.mid := by
  obtain ⟨c, s, w, h⟩ := p
  unfold Pl.lev Pl.mid
  by_cases h0 : s = 0
  · simp [h0]
  · by_cases h3 : s < 3
    · simp [h0, h3]; omega
    · cases w <;> simp [h0, h3] <;> omega
theorem lev_flat (p : Pl) : flatD p.lev = true := by
  unfold Pl.lev
  split
  · rfl
  · split
    · rfl
    · split <;> rfl
theorem levs_flat (ds : List Pl) : (ds.map Pl.lev).all flatD = true := by
  rw [List.all_map, List.all_eq_true]
  exact fun p _ => lev_flat p
theorem levs_two (ds : List Pl) : ((ds.map Pl.lev).any fun d => eqD d (.int 2)) = twoS ds := by
  rw [List.any_map]
  unfold twoS
  congr 1
  funext p
  exact lev_two p
theorem levs_one (ds : List Pl) : ((ds.map Pl.lev).any fun d => eqD d (.int 1)) = oneS ds := by
  rw [List.any_map]
  unfold oneS
  congr 1
  funext p
  exact lev_one p
theorem levs_win (ds : List Pl) (k : Nat) : idxD (.int 2) k (ds.map Pl.lev) = (winS ds).map (· + k) := by
  unfold winS
  induction ds generalizing k with
  | nil => rfl
  | cons p ds ih =>
    rw [List.map_cons, List.findIdx?_cons]
    unfold idxD
    rw [lev_two]
    cases hp : p.top with
    | true => simp
    | false =>
      rw [if_neg (by simp), ih (k + 1)]
      simp only [Bool.false_eq_true, if_false]
      cases ds.findIdx? Pl.top with
      | none => rfl
      | some j => simp; omega
/-- where the door stands -/
structure DoorAt (st : Store) (o c v h s d : Nat) (ds : List Pl) (dn : List D) : Prop where
  nd : [o, c, v, h, s, d].Nodup
  h0 : st[o]? = some (.ins 0 [(0, .int (ds.length : Int)), (1, .loc c), (2, .loc v), (3, .loc h), (4, .loc s), (5, .loc d)])
  hc : st[c]? = some (.lst (ds.map Pl.c))
  hv : st[v]? = some (.lst (ds.map Pl.lev))
  hh : st[h]? = some (.lst (ds.map Pl.heard))
  hs : st[s]? = some (.lst (ds.map Pl.seen))
  hd : st[d]? = some (.lst dn)
  n5 : ds.length ≤ 5
  nn : dn.length ≤ 100000
/-- what is not in W stays -/
structure Upd (W : List Nat) (st st' : Store) : Prop where
  len : st.length ≤ st'.length
  keep : ∀ j, j < st.length → j ∉ W → st'[j]? = st[j]?
theorem Upd.refl {W : List Nat} {st : Store} : Upd W st st := ⟨Nat.le_refl _, fun _ _ _ => rfl⟩
theorem Upd.get {W : List Nat} {st st' : Store} {j : Nat} {o : O} (u : Upd W st st') (h : st[j]? = some o) (hj : j ∉ W) : st'[j]? = some o := by rw [u.keep j (lt_of_get h) hj]; exact h
theorem Upd.trans {W V : List Nat} {s1 s2 s3 : Store} (a : Upd W s1 s2) (b : Upd V s2 s3) : Upd (W ++ V) s1 s3 := ⟨Nat.le_trans a.len b.len, fun j hj hn => by
  rw [List.mem_append, not_or] at hn
  rw [b.keep j (Nat.lt_of_lt_of_le hj a.len) hn.2, a.keep j hj hn.1]⟩
theorem Upd.sub {W V : List Nat} {s1 s2 : Store} (a : Upd W s1 s2) (h : ∀ j ∈ W, j ∈ V) : Upd V s1 s2 := ⟨a.len, fun j hj hn => a.keep j hj fun m => hn (h j m)⟩
theorem Upd.set {st : Store} {l : Nat} {o : O} {W : List Nat} (h : l ∈ W) : Upd W st (st.set l o) := ⟨by simp, fun j hj hn => by rw [List.getElem?_set_ne]; exact fun e => hn (e ▸ h)⟩
theorem Upd.push {st : Store} {W : List Nat} (xs : List O) : Upd W st (st ++ xs) := ⟨by simp, fun j hj _ => by rw [List.getElem?_append_left hj]⟩
theorem DoorAt.upd {st st' : Store} {o c v h s d : Nat} {ds : List Pl} {dn : List D} {W : List Nat} (D : DoorAt st o c v h s d ds dn) (u : Upd W st st') (hw : ∀ j ∈ W, j ∉ [o, c, v, h, s, d]) : DoorAt st' o c v h s d ds dn :=
  ⟨D.nd, u.get D.h0 fun m => hw _ m (by simp), u.get D.hc fun m => hw _ m (by simp), u.get D.hv fun m => hw _ m (by simp), u.get D.hh fun m => hw _ m (by simp), u.get D.hs fun m => hw _ m (by simp), u.get D.hd fun m => hw _ m (by simp), D.n5, D.nn⟩
theorem set_map {A B : Type} (f : A → B) (xs : List A) (i : Nat) (a : A) : (xs.map f).set i (f a) = (xs.set i a).map f := by rw [List.map_set]
theorem at_map {A : Type} {f : A → D} {xs : List A} {i : Nat} {a : A} (h : xs[i]? = some a) : atI (xs.map f) (i : Int) = some (f a) := by
  have hl : i < xs.length := (List.getElem?_eq_some_iff.mp h).1
  unfold atI ixN
  have h1 : (0 : Int) ≤ i := by omega
  have h2 : (i : Int) < ((xs.map f).length : Nat) := by rw [List.length_map]; omega
  rw [if_pos h1, if_pos h2]
  simp [h]
theorem ixN_nat {n i : Nat} (h : i < n) : ixN n (i : Int) = some i := by
  unfold ixN
  rw [if_pos (by omega), if_pos (by omega)]
  simp
theorem set_same {A : Type} {xs : List A} {i : Nat} {a : A} (h : xs[i]? = some a) : xs.set i a = xs := by
  apply List.ext_getElem?
  intro j
  rw [List.getElem?_set]
  split
  · rename_i e
    subst e
    rw [h, if_pos (List.getElem?_eq_some_iff.mp h).1]
  · rfl
inductive StepR (ds : List Pl) (p : Pl) : D → Pl → Prop
  | one : p.st = 0 → StepR ds p (.tup [.str "level", .int 1]) { p with st := 1 }
  | look : p.st = 1 → StepR ds p (.tup [.str "look", .tup (ds.map Pl.lev)]) { p with st := 2, won := !twoS ds }
  | two : p.st = 2 → StepR ds p (.tup [.str "level", if p.won = true then .int 2 else .int 0]) { p with st := 3 }
  | wait : p.st = 3 → oneS ds = true → StepR ds p (.tup [.str "wait"]) p
  | word (j : Nat) (w : Pl) (y : D) : p.st = 3 → oneS ds = false → winS ds = some j → ds[j]? = some w → w.came = some y → StepR ds p (.tup [.str "word", y]) { p with heard := .tup [y] }
structure GoodS (ds : List Pl) : Prop where
  le3 : ∀ p ∈ ds, p.st ≤ 3
  no : ∀ p ∈ ds, p.came = none → p.st = 0
  two : ∀ p ∈ ds, 2 ≤ p.st → p.won = false → twoS ds = true
theorem any_set {f : Pl → Bool} {ds : List Pl} {i : Nat} {q : Pl} (h : ds.any f = true) (hq : ∀ p, ds[i]? = some p → f p = true → f q = true) : (ds.set i q).any f = true := by
  rw [List.any_eq_true] at h ⊢
  obtain ⟨p, m, fp⟩ := h
  obtain ⟨j, hj⟩ := List.getElem?_of_mem m
  by_cases e : i = j
  · subst e
    have hl : i < ds.length := (List.getElem?_eq_some_iff.mp hj).1
    exact ⟨q, List.mem_of_getElem? (List.getElem?_set_self hl), hq p hj fp⟩
  · exact ⟨p, List.mem_of_getElem? (i := j) (by rw [List.getElem?_set_ne e]; exact hj), fp⟩
theorem mem_set {ds : List Pl} {i : Nat} {q r : Pl} (h : r ∈ ds.set i q) : r = q ∨ r ∈ ds := (List.mem_or_eq_of_mem_set h).symm
theorem StepR.top {ds : List Pl} {p q : Pl} {t : D} (h : StepR ds p t q) (hp : p.top = true) : q.top = true := by
  have h3 : 3 ≤ p.st ∧ p.won = true := by simpa [Pl.top] using hp
  cases h with
  | one z => omega
  | look z => omega
  | two z => omega
  | wait z => exact hp
  | word j w y z => exact hp
theorem StepR.good {ds : List Pl} {p q : Pl} {t : D} {i : Nat} (h : StepR ds p t q) (G : GoodS ds) (hp : ds[i]? = some p) (hc : p.came ≠ none) : GoodS (ds.set i q) := by
  have mp := List.mem_of_getElem? hp
  have two : twoS ds = true → twoS (ds.set i q) = true := fun z => any_set z fun p' e f => by
    rw [hp] at e
    cases e
    exact h.top f
  have hl : i < ds.length := (List.getElem?_eq_some_iff.mp hp).1
  have mq : q ∈ ds.set i q := List.mem_of_getElem? (List.getElem?_set_self hl)
  have cq : q.came = p.came := by cases h <;> rfl
  refine ⟨fun r m => ?_, fun r m z => ?_, fun r m z1 z2 => ?_⟩
  · rcases mem_set m with rfl | m
    · cases h <;> (try simp_all) <;> omega
    · exact G.le3 r m
  · rcases mem_set m with rfl | m
    · rw [cq] at z
      exact (hc z).elim
    · exact G.no r m z
  · rcases mem_set m with rfl | m
    · cases h with
      | one z => simp at z1
      | look z => exact two (by simpa using z2)
      | two z =>
        refine two (G.two p mp (by omega) z2)
      | wait z => exact two (G.two p mp z1 z2)
      | word j w y z => exact two (G.two p mp z1 z2)
    · exact two (G.two r m z1 z2)
theorem win_of_two {ds : List Pl} (h : twoS ds = true) : ∃ j w, winS ds = some j ∧ ds[j]? = some w ∧ w.top = true := by
  unfold winS
  cases e : ds.findIdx? Pl.top with
  | none =>
    rw [List.findIdx?_eq_none_iff] at e
    unfold twoS at h
    rw [List.any_eq_true] at h
    obtain ⟨p, m, f⟩ := h
    rw [e p m] at f
    cases f
  | some j =>
    have hj := List.findIdx?_eq_some_iff_getElem.mp e
    obtain ⟨hl, ht, _⟩ := hj
    exact ⟨j, ds[j], rfl, List.getElem?_eq_getElem hl, ht⟩
theorem GoodS.step {ds : List Pl} (G : GoodS ds) {p : Pl} (hp : p ∈ ds) : ∃ t q, StepR ds p t q := by
  have h3 := G.le3 p hp
  by_cases z0 : p.st = 0
  · exact ⟨_, _, .one z0⟩
  by_cases z1 : p.st = 1
  · exact ⟨_, _, .look z1⟩
  by_cases z2 : p.st = 2
  · exact ⟨_, _, .two z2⟩
  have z3 : p.st = 3 := by omega
  cases e : oneS ds with
  | true => exact ⟨_, _, .wait z3 e⟩
  | false =>
    have t : twoS ds = true := by
      cases hw : p.won with
      | true => exact List.any_eq_true.mpr ⟨p, hp, by simp [Pl.top, z3, hw]⟩
      | false => exact G.two p hp (by omega) hw
    obtain ⟨j, w, e1, e2, e3⟩ := win_of_two t
    have st3 : 3 ≤ w.st := by
      have : 3 ≤ w.st ∧ w.won = true := by simpa [Pl.top] using e3
      exact this.1
    cases hc : w.came with
    | none =>
      have := G.no w (List.mem_of_getElem? e2) hc
      omega
    | some y => exact ⟨_, _, .word j w y z3 e e1 e2 hc⟩
/-- a comprehension that picks, changing nothing -/
theorem compF_pick {ws : Wt} {gf : Gf} {tf : Tf} {ef : Ef} {env : EEnv} {st : Store} (hw : wOk st ws = true) (g : D → Option D) : ∀ (items : List D), (∀ d ∈ items, ∃ e b, gf d env st = .ok e st ∧ tf e st = .ok b st ∧ (b = true → ∃ v, ef e st = .ok v st ∧ g d = some v) ∧ (b = false → g d = none)) →
    compF ws gf tf ef env items st = .ok (items.filterMap g) st
  | [], _ => by simp [hw]
  | d :: ds, h => by
    obtain ⟨e, b, h1, h2, h3, h4⟩ := h d (List.mem_cons_self ..)
    have ih := compF_pick hw g ds fun d' m => h d' (List.mem_cons_of_mem _ m)
    cases b with
    | true =>
      obtain ⟨v, h5, h6⟩ := h3 rfl
      simp [hw, h1, h2, h5, ih, List.filterMap_cons, h6]
    | false => simp [hw, h1, h2, ih, List.filterMap_cons, h4 rfl]
def idxs (f : Pl → Bool) : Nat → List Pl → List Nat
  | _, [] => []
  | k, p :: ds => if f p = true then k :: idxs f (k + 1) ds else idxs f (k + 1) ds
abbrev intL (js : List Nat) : List D := js.map fun j => D.int (j : Nat)
theorem idxs_mem {f : Pl → Bool} : ∀ {ds : List Pl} {k j : Nat}, j ∈ idxs f k ds → ∃ i p, j = k + i ∧ ds[i]? = some p ∧ f p = true
  | [], _, _, h => by cases h
  | p :: ds, k, j, h => by
    unfold idxs at h
    by_cases hp : f p = true
    · rw [if_pos hp] at h
      rcases List.mem_cons.mp h with rfl | h
      · exact ⟨0, p, rfl, rfl, hp⟩
      · obtain ⟨i, q, e, e2, e3⟩ := idxs_mem h
        exact ⟨i + 1, q, by omega, by simpa using e2, e3⟩
    · rw [if_neg hp] at h
      obtain ⟨i, q, e, e2, e3⟩ := idxs_mem h
      exact ⟨i + 1, q, by omega, by simpa using e2, e3⟩
theorem mem_idxs {f : Pl → Bool} : ∀ {ds : List Pl} {k i : Nat} {p : Pl}, ds[i]? = some p → f p = true → k + i ∈ idxs f k ds
  | [], _, _, _, h, _ => by simp at h
  | q :: ds, k, 0, p, h, hf => by
    simp at h
    subst h
    unfold idxs
    rw [if_pos hf]
    exact List.mem_cons_self ..
  | q :: ds, k, i + 1, p, h, hf => by
    have z := mem_idxs (f := f) (ds := ds) (k := k + 1) (i := i) (p := p) (by simpa using h) hf
    unfold idxs
    rw [show k + (i + 1) = k + 1 + i by omega]
    split
    · exact List.mem_cons_of_mem _ z
    · exact z
theorem idxs_none {f : Pl → Bool} {ds : List Pl} {k : Nat} (h : ∀ p ∈ ds, f p = false) : idxs f k ds = [] := by
  apply List.eq_nil_iff_forall_not_mem.mpr
  intro j m
  obtain ⟨i, p, _, e, fp⟩ := idxs_mem m
  rw [h p (List.mem_of_getElem? e)] at fp
  cases fp
theorem idxs_head {f : Pl → Bool} : ∀ {ds : List Pl} {k j : Nat}, ds.findIdx? f = some j → ∃ r, idxs f k ds = (k + j) :: r ∧ ∀ x ∈ r, k + j < x
  | [], _, _, h => by simp at h
  | p :: ds, k, j, h => by
    rw [List.findIdx?_cons] at h
    unfold idxs
    by_cases hp : f p = true
    · rw [if_pos hp] at h ⊢
      cases h
      refine ⟨_, rfl, fun x m => ?_⟩
      obtain ⟨i, q, e, _⟩ := idxs_mem m
      omega
    · rw [if_neg hp] at h ⊢
      rw [Option.map_eq_some_iff] at h
      obtain ⟨j', e, rfl⟩ := h
      obtain ⟨r, e1, e2⟩ := idxs_head (k := k + 1) e
      exact ⟨r, by rw [e1, show k + 1 + j' = k + (j' + 1) by omega], fun x m => by have := e2 x m; omega⟩
theorem idxs_one {f : Pl → Bool} : ∀ {ds : List Pl} {k i : Nat} {p : Pl}, ds[i]? = some p → f p = true → (∀ j q, ds[j]? = some q → f q = true → j = i) → idxs f k ds = [k + i]
  | [], _, _, _, h, _, _ => by simp at h
  | q :: ds, k, 0, p, h, hf, hu => by
    simp at h
    subst h
    unfold idxs
    rw [if_pos hf, idxs_none]
    · rfl
    · intro r m
      obtain ⟨j, hj⟩ := List.getElem?_of_mem m
      cases hr : f r with
      | false => rfl
      | true => exact absurd (hu (j + 1) r (by simpa using hj) hr) (by omega)
  | q :: ds, k, i + 1, p, h, hf, hu => by
    unfold idxs
    have hq : f q = false := by
      cases hr : f q with
      | false => rfl
      | true => exact absurd (hu 0 q rfl hr) (by omega)
    rw [if_neg (by rw [hq]; simp), idxs_one (i := i) (p := p) (by simpa using h) hf fun j r e1 e2 => by
      have := hu (j + 1) r (by simpa using e1) e2
      omega]
    rw [show k + 1 + i = k + (i + 1) by omega]
theorem enum_pick (f : Pl → D) (sel : Pl → Bool) (g : D → Option D) (h : ∀ (p : Pl) (j : Nat), g (.tup [.int (j : Nat), f p]) = if sel p = true then some (.int (j : Nat)) else none) : ∀ (ds : List Pl) (k : Nat), (enumD k (ds.map f)).filterMap g = intL (idxs sel k ds)
  | [], _ => rfl
  | p :: ds, k => by
    rw [List.map_cons, ev_enumC, List.filterMap_cons, h]
    unfold idxs
    by_cases hp : sel p = true
    · rw [if_pos hp, if_pos hp]
      simp only [enum_pick f sel g h ds (k + 1), intL, List.map_cons]
    · rw [if_neg hp, if_neg hp]
      exact enum_pick f sel g h ds (k + 1)
theorem lev_eq (p : Pl) (s : Store) : eqF false p.lev (.int 1) s = .ok (.bl p.mid) s := by
  have h := lev_one p
  unfold Pl.lev at h ⊢
  split
  · rw [if_pos ‹_›] at h
    rw [ev_eqNI, ← h]
    rfl
  · rename_i h0
    rw [if_neg h0] at h
    split
    · rename_i h3
      rw [if_pos h3] at h
      rw [ev_eqII, ← h]
      rfl
    · rename_i h3
      rw [if_neg h3] at h
      split <;> rename_i hw <;> simp only [hw, if_true, if_false] at h <;> rw [ev_eqII, ← h] <;> rfl
theorem lev_eq2 (p : Pl) (s : Store) : eqF false p.lev (.int 2) s = .ok (.bl p.top) s := by
  have h := lev_two p
  unfold Pl.lev at h ⊢
  split
  · rw [if_pos ‹_›] at h
    rw [ev_eqNI, ← h]
    rfl
  · rename_i h0
    rw [if_neg h0] at h
    split
    · rename_i h3
      rw [if_pos h3] at h
      rw [ev_eqII, ← h]
      rfl
    · rename_i h3
      rw [if_neg h3] at h
      split <;> rename_i hw <;> simp only [hw, if_true, if_false] at h <;> rw [ev_eqII, ← h] <;> rfl
theorem enumD_mem {k : Nat} : ∀ {xs : List D} {k : Nat} {d : D}, d ∈ enumD k xs → ∃ j x, d = .tup [.int (j : Nat), x] ∧ x ∈ xs
  | [], _, _, h => by cases h
  | x :: xs, k, d, h => by
    rw [ev_enumC] at h
    rcases List.mem_cons.mp h with rfl | h
    · exact ⟨k, x, rfl, List.mem_cons_self ..⟩
    · obtain ⟨j, y, e, m⟩ := enumD_mem (k := 0) h
      exact ⟨j, y, e, List.mem_cons_of_mem _ m⟩
end Ev

/-! Dr2: the values that may be told next, reckoned; two doors, one the other by other numbers and values. -/
namespace Ev
open PySem L2
open PyProof.Rows hiding St
/-! ### ascending lists -/
theorem asc_eq : ∀ {xs ys : List Nat}, xs.Pairwise (· < ·) → ys.Pairwise (· < ·) → (∀ j, j ∈ xs ↔ j ∈ ys) → xs = ys
  | [], [], _, _, _ => rfl
  | [], y :: ys, _, _, h => nomatch (h y).mpr (List.mem_cons_self ..)
  | x :: xs, [], _, _, h => nomatch (h x).mp (List.mem_cons_self ..)
  | x :: xs, y :: ys, hx, hy, h => by
    have hx' := List.pairwise_cons.mp hx
    have hy' := List.pairwise_cons.mp hy
    have e : x = y := by
      have h1 := (h x).mp (List.mem_cons_self ..)
      have h2 := (h y).mpr (List.mem_cons_self ..)
      rcases List.mem_cons.mp h1 with e | m1
      · exact e
      · rcases List.mem_cons.mp h2 with e | m2
        · exact e.symm
        · have := hy'.1 x m1
          have := hx'.1 y m2
          omega
    subst e
    rw [asc_eq hx'.2 hy'.2 fun j => ?_]
    constructor
    · intro m
      rcases List.mem_cons.mp ((h j).mp (List.mem_cons_of_mem _ m)) with e | m'
      · have := hx'.1 j m
        omega
      · exact m'
    · intro m
      rcases List.mem_cons.mp ((h j).mpr (List.mem_cons_of_mem _ m)) with e | m'
      · have := hy'.1 j m
        omega
      · exact m'
theorem idxs_asc (f : Pl → Bool) : ∀ (ds : List Pl) (k : Nat), (idxs f k ds).Pairwise (· < ·)
  | [], _ => .nil
  | p :: ds, k => by
    unfold idxs
    split
    · refine List.Pairwise.cons (fun j m => ?_) (idxs_asc f ds (k + 1))
      obtain ⟨i, q, e, _⟩ := idxs_mem m
      omega
    · exact idxs_asc f ds (k + 1)
theorem idxs_iff {f : Pl → Bool} {ds : List Pl} {j : Nat} : j ∈ idxs f 0 ds ↔ ∃ p, ds[j]? = some p ∧ f p = true := by
  constructor
  · intro m
    obtain ⟨i, p, e, hp, fp⟩ := idxs_mem m
    have : j = i := by omega
    subst this
    exact ⟨p, hp, fp⟩
  · rintro ⟨p, hp, fp⟩
    have := mem_idxs (k := 0) hp fp
    simpa using this
/-! ### who may be told -/
def Pl.rdy (p : Pl) : Bool := decide (p.st = 2) && p.won
def Pl.in? (p : Pl) : Bool := p.came.isSome
def minL : List Nat → Nat
  | [] => 0
  | x :: xs => xs.foldl min x
theorem foldl_min_mem : ∀ (xs : List Nat) (x : Nat), xs.foldl min x = x ∨ xs.foldl min x ∈ xs
  | [], x => .inl rfl
  | y :: xs, x => by
    rw [List.foldl_cons]
    rcases foldl_min_mem xs (min x y) with e | m
    · rw [e]
      by_cases h : x ≤ y
      · rw [Nat.min_eq_left h]; exact .inl rfl
      · rw [Nat.min_eq_right (by omega)]; exact .inr (List.mem_cons_self ..)
    · exact .inr (List.mem_cons_of_mem _ m)
theorem foldl_min_le : ∀ (xs : List Nat) (x : Nat), xs.foldl min x ≤ x ∧ ∀ y ∈ xs, xs.foldl min x ≤ y
  | [], x => ⟨Nat.le_refl _, fun _ m => nomatch m⟩
  | y :: xs, x => by
    rw [List.foldl_cons]
    obtain ⟨h1, h2⟩ := foldl_min_le xs (min x y)
    refine ⟨Nat.le_trans h1 (Nat.min_le_left _ _), fun z m => ?_⟩
    rcases List.mem_cons.mp m with rfl | m
    · exact Nat.le_trans h1 (Nat.min_le_right _ _)
    · exact h2 z m
theorem minL_mem {xs : List Nat} (h : xs ≠ []) : minL xs ∈ xs := by
  cases xs with
  | nil => exact (h rfl).elim
  | cons x xs =>
    show xs.foldl min x ∈ _
    rcases foldl_min_mem xs x with e | m
    · rw [e]; exact List.mem_cons_self ..
    · exact List.mem_cons_of_mem _ m
theorem minL_le {xs : List Nat} {y : Nat} (m : y ∈ xs) : minL xs ≤ y := by
  cases xs with
  | nil => cases m
  | cons x xs =>
    show xs.foldl min x ≤ y
    obtain ⟨h1, h2⟩ := foldl_min_le xs x
    rcases List.mem_cons.mp m with rfl | m
    · exact h1
    · exact h2 y m
theorem minL_one {xs : List Nat} {m : Nat} (h1 : m ∈ xs) (h2 : ∀ y ∈ xs, m ≤ y) : minL xs = m := by
  have a := minL_le h1
  have b := h2 _ (minL_mem (fun e => by rw [e] at h1; cases h1))
  omega
theorem minI_minL : ∀ (xs : List Nat) (x : Nat), minI (x : Nat) (xs.map fun j => ((j : Nat) : Int)) = ((xs.foldl min x : Nat) : Int) := fun xs x => by
  have h1 := minI_mem (xs.map fun j => ((j : Nat) : Int)) (x : Nat)
  have h2 := minI_le (xs.map fun j => ((j : Nat) : Int)) (x : Nat)
  have h3 := foldl_min_mem xs x
  have h4 := foldl_min_le xs x
  generalize hm : minI (x : Nat) (xs.map fun j => ((j : Nat) : Int)) = m at h1 h2
  have le1 : ((xs.foldl min x : Nat) : Int) ≤ m := by
    rcases h1 with e | e
    · rw [e]
      have := h4.1
      omega
    · obtain ⟨y, my, e⟩ := List.mem_map.mp e
      rw [← e]
      have := h4.2 y my
      omega
  have le2 : m ≤ ((xs.foldl min x : Nat) : Int) := by
    rcases h3 with e | e
    · rw [e]; exact h2.1
    · exact h2.2 _ (List.mem_map.mpr ⟨_, e, rfl⟩)
  omega
def tellI (ds : List Pl) : List Nat := if idxs Pl.top 0 ds ≠ [] then [minL (idxs Pl.top 0 ds ++ idxs Pl.rdy 0 ds)]
  else if idxs Pl.rdy 0 ds ≠ [] then (idxs Pl.in? 0 ds).filter fun j => decide (j ≤ minL (idxs Pl.rdy 0 ds)) else idxs Pl.in? 0 ds
def valI (ds : List Pl) (j : Nat) : D := match ds[j]? with | some p => p.came.getD .non | none => .non
/-- each text once -/
def once : List D → List D → List D
  | acc, [] => acc
  | acc, v :: vs => once (if (acc.map fun d => d.dat.shown).contains v.dat.shown = true then acc else acc ++ [v]) vs
def mayD (ds : List Pl) : List D := once [] ((tellI ds).map (valI ds))
theorem tell_at {ds : List Pl} (no : ∀ p ∈ ds, p.came = none → p.st = 0) {j : Nat} (m : j ∈ tellI ds) : ∃ p x, ds[j]? = some p ∧ p.came = some x := by
  have of : ∀ f : Pl → Bool, (∀ p, f p = true → p.st ≠ 0 ∨ p.came ≠ none) → j ∈ idxs f 0 ds → ∃ p x, ds[j]? = some p ∧ p.came = some x := fun f hf m => by
    obtain ⟨p, hp, fp⟩ := idxs_iff.mp m
    cases hc : p.came with
    | some x => exact ⟨p, x, hp, hc⟩
    | none =>
      have := no p (List.mem_of_getElem? hp) hc
      rcases hf p fp with z | z
      · exact (z this).elim
      · exact (z hc).elim
  have t1 : ∀ p : Pl, p.top = true → p.st ≠ 0 ∨ p.came ≠ none := fun p h => by
    have : 3 ≤ p.st ∧ p.won = true := by simpa [Pl.top] using h
    exact .inl (by omega)
  have t2 : ∀ p : Pl, p.rdy = true → p.st ≠ 0 ∨ p.came ≠ none := fun p h => by
    have : p.st = 2 ∧ p.won = true := by simpa [Pl.rdy] using h
    exact .inl (by omega)
  have t3 : ∀ p : Pl, p.in? = true → p.st ≠ 0 ∨ p.came ≠ none := fun p h => .inr fun e => by simp [Pl.in?, e] at h
  unfold tellI at m
  split at m
  · rename_i h
    rw [List.mem_singleton] at m
    rw [m]
    have mm := minL_mem (xs := idxs Pl.top 0 ds ++ idxs Pl.rdy 0 ds) (by simp [h])
    rw [m] at of
    rcases List.mem_append.mp mm with mm | mm
    · exact of _ t1 mm
    · exact of _ t2 mm
  · split at m
    · exact of _ t3 (List.mem_filter.mp m).1
    · exact of _ t3 m
/-! ### by other numbers and values -/
def ren (φ : D → D) (p : Pl) : Pl := ⟨p.came.map φ, p.st, p.won, match p.heard with | .tup [y] => .tup [φ y] | d => d⟩
abbrev freshP : Pl := ⟨none, 0, false, .non⟩
structure Wd (φ : D → D) (ν : List Nat) (ds es : List Pl) : Prop where
  asc : ν.Pairwise (· < ·)
  lν : ν.length = ds.length
  at' : ∀ (i : Nat) (p : Pl), ds[i]? = some p → ∃ j, ν[i]? = some j ∧ es[j]? = some (ren φ p)
  off : ∀ (j : Nat) (p : Pl), es[j]? = some p → j ∉ ν → p = freshP
section
variable {φ : D → D} {ν : List Nat} {ds es : List Pl} {f : Pl → Bool}
theorem asc_lt {xs : List Nat} (h : xs.Pairwise (· < ·)) {i k a b : Nat} (ha : xs[i]? = some a) (hb : xs[k]? = some b) (ik : i < k) : a < b := by
  obtain ⟨h1, e1⟩ := List.getElem?_eq_some_iff.mp ha
  obtain ⟨h2, e2⟩ := List.getElem?_eq_some_iff.mp hb
  have := List.pairwise_iff_getElem.mp h i k h1 h2 ik
  omega
theorem asc_inj {xs : List Nat} (h : xs.Pairwise (· < ·)) {i k a : Nat} (ha : xs[i]? = some a) (hb : xs[k]? = some a) : i = k := by
  rcases Nat.lt_trichotomy i k with z | z | z
  · have := asc_lt h ha hb z; omega
  · exact z
  · have := asc_lt h hb ha z; omega
def at0 (ν : List Nat) (i : Nat) : Nat := ν[i]?.getD 0
theorem at0_of {i j : Nat} (h : ν[i]? = some j) : at0 ν i = j := by simp [at0, h]
/-- where f holds in the wider one -/
theorem Wd.idxs (W : Wd φ ν ds es) (h0 : f freshP = false) (hr : ∀ p, f (ren φ p) = f p) : Ev.idxs f 0 es = (Ev.idxs f 0 ds).map (at0 ν) := by
  refine asc_eq (idxs_asc _ _ _) ?_ fun j => ?_
  · rw [List.pairwise_map]
    refine (idxs_asc f ds 0).imp_of_mem fun {a b} ma mb ab => ?_
    obtain ⟨p, hp, _⟩ := idxs_iff.mp ma
    obtain ⟨q, hq, _⟩ := idxs_iff.mp mb
    obtain ⟨x, hx, _⟩ := W.at' a p hp
    obtain ⟨y, hy, _⟩ := W.at' b q hq
    rw [at0_of hx, at0_of hy]
    exact asc_lt W.asc hx hy ab
  · constructor
    · intro m
      obtain ⟨p, hp, fp⟩ := idxs_iff.mp m
      by_cases hj : j ∈ ν
      · obtain ⟨i, hi⟩ := List.getElem?_of_mem hj
        have il : i < ds.length := by rw [← W.lν]; exact (List.getElem?_eq_some_iff.mp hi).1
        obtain ⟨q, hq⟩ : ∃ q, ds[i]? = some q := ⟨_, List.getElem?_eq_getElem il⟩
        obtain ⟨j', hj', he⟩ := W.at' i q hq
        rw [hi] at hj'
        cases hj'
        rw [hp] at he
        cases he
        rw [hr] at fp
        exact List.mem_map.mpr ⟨i, idxs_iff.mpr ⟨q, hq, fp⟩, at0_of hi⟩
      · rw [W.off j p hp hj, h0] at fp
        cases fp
    · intro m
      obtain ⟨i, mi, rfl⟩ := List.mem_map.mp m
      obtain ⟨p, hp, fp⟩ := idxs_iff.mp mi
      obtain ⟨j, hj, he⟩ := W.at' i p hp
      rw [at0_of hj]
      exact idxs_iff.mpr ⟨_, he, by rw [hr]; exact fp⟩
theorem idxs_nil : Ev.idxs f 0 ds = [] ↔ ds.any f = false := by
  rw [List.any_eq_false, List.eq_nil_iff_forall_not_mem]
  constructor
  · intro h p m fp
    obtain ⟨i, hi⟩ := List.getElem?_of_mem m
    exact h i (idxs_iff.mpr ⟨p, hi, fp⟩)
  · intro h j m
    obtain ⟨p, hp, fp⟩ := idxs_iff.mp m
    exact h p (List.mem_of_getElem? hp) fp
theorem Wd.any (W : Wd φ ν ds es) (h0 : f freshP = false) (hr : ∀ p, f (ren φ p) = f p) : es.any f = ds.any f := by
  have e := W.idxs h0 hr
  have a := idxs_nil (f := f) (ds := es)
  have b := idxs_nil (f := f) (ds := ds)
  cases h1 : ds.any f with
  | false =>
    rw [b.mpr h1] at e
    exact a.mp e
  | true =>
    cases h2 : es.any f with
    | true => rfl
    | false =>
      rw [a.mpr h2] at e
      have : Ev.idxs f 0 ds = [] := by
        cases hh : Ev.idxs f 0 ds with
        | nil => rfl
        | cons x xs => rw [hh] at e; cases e
      rw [b.mp this] at h1
      cases h1
theorem ren_top (p : Pl) : (ren φ p).top = p.top := rfl
theorem ren_mid (p : Pl) : (ren φ p).mid = p.mid := rfl
theorem ren_rdy (p : Pl) : (ren φ p).rdy = p.rdy := rfl
theorem ren_in (p : Pl) : (ren φ p).in? = p.in? := by
  unfold Pl.in? ren
  cases p.came <;> rfl
theorem ren_lev (p : Pl) : (ren φ p).lev = p.lev := rfl
theorem Wd.min (W : Wd φ ν ds es) {xs : List Nat} (hx : ∀ x ∈ xs, x < ds.length) (hn : xs ≠ []) : minL (xs.map (at0 ν)) = at0 ν (minL xs) := by
  refine minL_one (List.mem_map.mpr ⟨_, minL_mem hn, rfl⟩) fun y m => ?_
  obtain ⟨x, mx, rfl⟩ := List.mem_map.mp m
  have le := minL_le mx
  have l1 : x < ν.length := by rw [W.lν]; exact hx x mx
  have e1 : ν[x]? = some ν[x] := List.getElem?_eq_getElem l1
  have e2 : ν[minL xs]? = some (ν[minL xs]'(by omega)) := List.getElem?_eq_getElem (by omega)
  rw [at0_of e1, at0_of e2]
  by_cases z : minL xs = x
  · subst z
    exact Nat.le_refl _
  · exact Nat.le_of_lt (asc_lt W.asc e2 e1 (by omega))
theorem at0_le (W : Wd φ ν ds es) {a b : Nat} (ha : a < ds.length) (hb : b < ds.length) : at0 ν a ≤ at0 ν b ↔ a ≤ b := by
  have la : a < ν.length := by rw [W.lν]; exact ha
  have lb : b < ν.length := by rw [W.lν]; exact hb
  have e1 : ν[a]? = some ν[a] := List.getElem?_eq_getElem la
  have e2 : ν[b]? = some ν[b] := List.getElem?_eq_getElem lb
  rw [at0_of e1, at0_of e2]
  constructor
  · intro h
    rcases Nat.lt_or_ge b a with z | z
    · have := asc_lt W.asc e2 e1 z
      omega
    · exact z
  · intro h
    rcases Nat.lt_or_ge a b with z | z
    · exact Nat.le_of_lt (asc_lt W.asc e1 e2 z)
    · have : a = b := by omega
      subst this
      exact Nat.le_refl _
theorem idxs_lt {j : Nat} (m : j ∈ Ev.idxs f 0 ds) : j < ds.length := by
  obtain ⟨p, hp, _⟩ := idxs_iff.mp m
  exact (List.getElem?_eq_some_iff.mp hp).1
theorem Wd.tell (W : Wd φ ν ds es) : tellI es = (tellI ds).map (at0 ν) := by
  have e1 := W.idxs (f := Pl.top) rfl ren_top
  have e2 := W.idxs (f := Pl.rdy) rfl ren_rdy
  have e3 := W.idxs (f := Pl.in?) rfl ren_in
  unfold tellI
  rw [e1, e2, e3]
  have nn : ∀ xs : List Nat, (xs.map (at0 ν) ≠ []) ↔ xs ≠ [] := fun xs => by simp
  by_cases h1 : Ev.idxs Pl.top 0 ds ≠ []
  · rw [if_pos h1, if_pos ((nn _).mpr h1), ← List.map_append, W.min (fun x m => ?_) (by simp [h1])]
    · rfl
    · rcases List.mem_append.mp m with m | m <;> exact idxs_lt m
  · rw [if_neg h1, if_neg (fun h => h1 ((nn _).mp h))]
    by_cases h2 : Ev.idxs Pl.rdy 0 ds ≠ []
    · rw [if_pos h2, if_pos ((nn _).mpr h2), W.min (fun x m => idxs_lt m) h2, List.filter_map]
      congr 1
      apply List.filter_congr
      intro j mj
      have l1 := idxs_lt mj
      have l2 := idxs_lt (minL_mem h2)
      show decide (at0 ν j ≤ _) = _
      by_cases z : j ≤ minL (Ev.idxs Pl.rdy 0 ds)
      · rw [decide_eq_true z, decide_eq_true ((at0_le W l1 l2).mpr z)]
      · rw [decide_eq_false z, decide_eq_false fun h => z ((at0_le W l1 l2).mp h)]
    · rw [if_neg h2, if_neg (fun h => h2 ((nn _).mp h))]
theorem Wd.vals (W : Wd φ ν ds es) (no : ∀ p ∈ ds, p.came = none → p.st = 0) : (tellI es).map (valI es) = ((tellI ds).map (valI ds)).map φ := by
  rw [W.tell, List.map_map, List.map_map]
  apply List.map_congr_left
  intro j m
  obtain ⟨p, x, hp, hc⟩ := tell_at no m
  obtain ⟨k, hk, he⟩ := W.at' j p hp
  show valI es (at0 ν j) = φ (valI ds j)
  rw [at0_of hk]
  simp [valI, he, hp, ren, hc]
theorem once_map {inj : D → Prop} (h : ∀ a b, inj a → inj b → ((φ a).dat.shown = (φ b).dat.shown ↔ a.dat.shown = b.dat.shown)) : ∀ (vs acc : List D), (∀ v ∈ vs, inj v) → (∀ v ∈ acc, inj v) → once (acc.map φ) (vs.map φ) = (once acc vs).map φ
  | [], acc, _, _ => rfl
  | v :: vs, acc, hv, ha => by
    have hv0 := hv v (List.mem_cons_self ..)
    have c : (((acc.map φ).map fun d => d.dat.shown).contains (φ v).dat.shown) = ((acc.map fun d => d.dat.shown).contains v.dat.shown) := by
      rw [Bool.eq_iff_iff, List.contains_iff_mem, List.contains_iff_mem, List.map_map]
      constructor
      · intro m
        obtain ⟨a, ma, e⟩ := List.mem_map.mp m
        exact List.mem_map.mpr ⟨a, ma, (h a v (ha a ma) hv0).mp e⟩
      · intro m
        obtain ⟨a, ma, e⟩ := List.mem_map.mp m
        exact List.mem_map.mpr ⟨a, ma, (h a v (ha a ma) hv0).mpr e⟩
    show once (if _ = true then acc.map φ else acc.map φ ++ [φ v]) (vs.map φ) = (once (if _ = true then acc else acc ++ [v]) vs).map φ
    rw [c]
    split
    · exact once_map h vs acc (fun x m => hv x (List.mem_cons_of_mem _ m)) ha
    · have := once_map h vs (acc ++ [v]) (fun x m => hv x (List.mem_cons_of_mem _ m)) (fun x m => by
        rcases List.mem_append.mp m with m | m
        · exact ha x m
        · rw [List.mem_singleton] at m
          rw [m]
          exact hv0)
      rw [List.map_append] at this
      exact this
theorem once_mem : ∀ (vs acc : List D) (x : D), x ∈ once acc vs → x ∈ acc ∨ x ∈ vs
  | [], acc, x, m => .inl m
  | v :: vs, acc, x, m => by
    have ih := once_mem vs _ x (show x ∈ once (if (acc.map fun d => d.dat.shown).contains v.dat.shown = true then acc else acc ++ [v]) vs from m)
    rcases ih with a | a
    · split at a
      · exact .inl a
      · rcases List.mem_append.mp a with a | a
        · exact .inl a
        · rw [List.mem_singleton] at a
          exact .inr (a ▸ List.mem_cons_self ..)
    · exact .inr (List.mem_cons_of_mem _ a)
theorem once_len : ∀ (vs acc : List D), (once acc vs).length ≤ acc.length + vs.length
  | [], acc => Nat.le_refl _
  | v :: vs, acc => by
    have ih := once_len vs (if (acc.map fun d => d.dat.shown).contains v.dat.shown = true then acc else acc ++ [v])
    show (once (if _ = true then acc else acc ++ [v]) vs).length ≤ _
    split at ih
    · rename_i h
      rw [if_pos h, List.length_cons]
      omega
    · rename_i h
      rw [if_neg h, List.length_cons]
      rw [List.length_append] at ih
      simp at ih
      omega
/-- a step at the wider door -/
theorem Wd.win (W : Wd φ ν ds es) {j : Nat} (h : winS ds = some j) : winS es = some (at0 ν j) := by
  unfold winS at h ⊢
  obtain ⟨hl, ht, hlt⟩ := List.findIdx?_eq_some_iff_getElem.mp h
  obtain ⟨k, hk, he⟩ := W.at' j ds[j] (List.getElem?_eq_getElem hl)
  rw [at0_of hk]
  obtain ⟨kl, ke⟩ := List.getElem?_eq_some_iff.mp he
  refine List.findIdx?_eq_some_iff_getElem.mpr ⟨kl, by rw [ke]; exact ht, fun i hi => ?_⟩
  cases hh : (es[i]'(by omega)).top with
  | false => simp
  | true =>
    exfalso
    have il : i < es.length := by omega
    have mi : i ∈ Ev.idxs Pl.top 0 es := idxs_iff.mpr ⟨es[i], List.getElem?_eq_getElem il, hh⟩
    rw [W.idxs (f := Pl.top) rfl ren_top] at mi
    obtain ⟨a, ma, ea⟩ := List.mem_map.mp mi
    obtain ⟨p, hp, fp⟩ := idxs_iff.mp ma
    obtain ⟨b, hb, _⟩ := W.at' a p hp
    rw [at0_of hb] at ea
    subst ea
    have aj : a < j := by
      rcases Nat.lt_trichotomy a j with z | z | z
      · exact z
      · subst z
        rw [hb] at hk
        cases hk
        omega
      · have := asc_lt W.asc hk hb z
        omega
    have := hlt a aj
    obtain ⟨al, ae⟩ := List.getElem?_eq_some_iff.mp hp
    rw [ae, fp] at this
    simp at this
def renT (φ : D → D) (es : List Pl) (t : D) : D := match t with
  | .tup [.str s, y] => if s = "look" then .tup [.str "look", .tup (es.map Pl.lev)] else if s = "word" then .tup [.str "word", φ y] else t
  | _ => t
theorem Wd.step (W : Wd φ ν ds es) {p q : Pl} {t : D} (R : StepR ds p t q) : StepR es (ren φ p) (renT φ es t) (ren φ q) := by
  have t2 : twoS es = twoS ds := W.any (f := Pl.top) rfl ren_top
  have o1 : oneS es = oneS ds := W.any (f := Pl.mid) rfl ren_mid
  cases R with
  | one z =>
    have e : renT φ es (.tup [.str "level", .int 1]) = .tup [.str "level", .int 1] := by simp [renT]
    rw [e]
    exact StepR.one (p := ren φ p) z
  | look z =>
    have e : renT φ es (.tup [.str "look", .tup (ds.map Pl.lev)]) = .tup [.str "look", .tup (es.map Pl.lev)] := by simp [renT]
    rw [e]
    have := StepR.look (ds := es) (p := ren φ p) z
    rw [t2] at this
    exact this
  | two z =>
    have e : renT φ es (.tup [.str "level", if p.won = true then .int 2 else .int 0]) = .tup [.str "level", if p.won = true then .int 2 else .int 0] := by simp [renT]
    rw [e]
    exact StepR.two (ds := es) (p := ren φ p) z
  | wait z h =>
    have e : renT φ es (.tup [.str "wait"]) = .tup [.str "wait"] := by simp [renT]
    rw [e]
    exact StepR.wait (p := ren φ p) z (by rw [o1]; exact h)
  | word j w y z h hj hw hy =>
    have e : renT φ es (.tup [.str "word", y]) = .tup [.str "word", φ y] := by simp [renT]
    rw [e]
    obtain ⟨k, hk, he⟩ := W.at' j w hw
    have hj' := W.win hj
    rw [at0_of hk] at hj'
    have := StepR.word (ds := es) (p := ren φ p) k (ren φ w) (φ y) z (by rw [o1]; exact h) hj' he (by simp [ren, hy])
    exact this
theorem Wd.set (W : Wd φ ν ds es) {i j : Nat} {q : Pl} (hj : ν[i]? = some j) (hl : j < es.length) : Wd φ ν (ds.set i q) (es.set j (ren φ q)) := by
  refine ⟨W.asc, by rw [List.length_set]; exact W.lν, fun a p hp => ?_, fun a p hp ha => ?_⟩
  · by_cases z : i = a
    · subst z
      have il : i < ds.length := by rw [← W.lν]; exact (List.getElem?_eq_some_iff.mp hj).1
      rw [List.getElem?_set_self il] at hp
      cases hp
      exact ⟨j, hj, List.getElem?_set_self hl⟩
    · rw [List.getElem?_set_ne z] at hp
      obtain ⟨k, hk, he⟩ := W.at' a p hp
      have jk : j ≠ k := fun e => by
        subst e
        exact z (asc_inj W.asc hj hk)
      exact ⟨k, hk, by rw [List.getElem?_set_ne jk]; exact he⟩
  · have ja : j ≠ a := fun e => ha (e ▸ List.mem_of_getElem? hj)
    rw [List.getElem?_set_ne ja] at hp
    exact W.off a p hp ha
/-- a list of the wider one, from that of the lesser one -/
theorem Wd.led (W : Wd φ ν ds es) {F G : Pl → D} (h0 : F freshP = .non) (hr : ∀ p ∈ ds, F (ren φ p) = G p) {xs : List D} (hl : xs.length = es.length) (h1 : ∀ (i : Nat) (p : Pl) (j : Nat), ds[i]? = some p → ν[i]? = some j → xs[j]? = some (G p)) (h2 : ∀ (j : Nat) (x : D), xs[j]? = some x → j ∉ ν → x = .non) : xs = es.map F := by
  apply List.ext_getElem?
  intro j
  rw [List.getElem?_map]
  by_cases jl : j < es.length
  · by_cases hj : j ∈ ν
    · obtain ⟨i, hi⟩ := List.getElem?_of_mem hj
      have il : i < ds.length := by rw [← W.lν]; exact (List.getElem?_eq_some_iff.mp hi).1
      have hp : ds[i]? = some ds[i] := List.getElem?_eq_getElem il
      obtain ⟨k, hk, he⟩ := W.at' i _ hp
      rw [hi] at hk
      cases hk
      rw [h1 i _ j hp hi, he, Option.map_some, hr _ (List.mem_of_getElem? hp)]
    · have e1 : es[j]? = some es[j] := List.getElem?_eq_getElem jl
      have e2 : xs[j]? = some (xs[j]'(by omega)) := List.getElem?_eq_getElem (by omega)
      rw [e1, e2, Option.map_some, h2 j _ e2 hj, W.off j _ e1 hj, h0]
  · rw [List.getElem?_eq_none (by omega), List.getElem?_eq_none (by omega)]
    rfl
end
end Ev

/-! Dr5: deeds at a door, one behind the other, done again; rows of deeds told apart by their texts. -/
namespace Ev
open PySem L2
open PyProof.Rows hiding St
abbrev Deed := Nat × Option D
def dnOf (m : Deed) : D := match m.2 with | some x => .tup [.int (m.1 : Nat), .str "come", x] | none => .tup [.int (m.1 : Nat)]
def lwOf (m : Deed) : D := match m.2 with | some x => .tup [.int (m.1 : Nat), .tup [x]] | none => .tup [.int (m.1 : Nat), .non]
inductive Go1 : List Pl → Deed → List Pl → Prop
  | come {ds : List Pl} {i : Nat} {p : Pl} {x : D} : ds[i]? = some p → p.came = none → Go1 ds (i, some x) (ds.set i { p with came := some x })
  | step {ds : List Pl} {i : Nat} {p q : Pl} {x t : D} : ds[i]? = some p → p.came = some x → StepR ds p t q → Go1 ds (i, none) (ds.set i q)
inductive RunR : List Pl → List Deed → List Pl → Prop
  | nil {ds : List Pl} : RunR ds [] ds
  | cons {ds a b : List Pl} {m : Deed} {ms : List Deed} : Go1 ds m a → RunR a ms b → RunR ds (m :: ms) b
section
variable {ds a b d0 : List Pl} {m : Deed} {ms : List Deed} {p q q' : Pl} {t t' : D} {i : Nat}
theorem StepR.det (h : StepR ds p t q) (h' : StepR ds p t' q') : t = t' ∧ q = q' := by
  cases h with
  | one z => cases h' <;> (try omega) <;> exact ⟨rfl, rfl⟩
  | look z => cases h' <;> (try omega) <;> exact ⟨rfl, rfl⟩
  | two z => cases h' <;> (try omega) <;> exact ⟨rfl, rfl⟩
  | wait z z1 =>
    cases h' with
    | wait _ _ => exact ⟨rfl, rfl⟩
    | word j w y _ z2 => rw [z1] at z2; cases z2
    | _ => omega
  | word j w y z z1 z2 z3 z4 =>
    cases h' with
    | wait _ z5 => rw [z1] at z5; cases z5
    | word j' w' y' _ _ z5 z6 z7 =>
      rw [z2] at z5
      cases z5
      rw [z3] at z6
      cases z6
      rw [z4] at z7
      cases z7
      exact ⟨rfl, rfl⟩
    | _ => omega
theorem Go1.det (h : Go1 ds m a) (h' : Go1 ds m b) : a = b := by
  cases h with
  | come h1 h2 =>
    cases h' with
    | come h3 h4 =>
      rw [h1] at h3
      cases h3
      rfl
  | step h1 h2 R =>
    cases h' with
    | step h3 h4 R' =>
      rw [h1] at h3
      cases h3
      rw [(R.det R').2]
theorem RunR.det (h : RunR ds ms a) (h' : RunR ds ms b) : a = b := by
  induction h with
  | nil => cases h'; rfl
  | cons g _ ih =>
    cases h' with
    | cons g' r' =>
      rw [g.det g'] at ih
      exact ih r'
theorem RunR.snoc (h : RunR ds ms a) (g : Go1 a m b) : RunR ds (ms ++ [m]) b := by
  induction h with
  | nil => exact .cons g .nil
  | cons g' _ ih => exact .cons g' (ih g)
theorem RunR.unsnoc : ∀ {ms : List Deed} {ds : List Pl}, RunR ds (ms ++ [m]) b → ∃ a, RunR ds ms a ∧ Go1 a m b
  | [], ds, h => by
    cases h with
    | cons g r =>
      cases r
      exact ⟨ds, .nil, g⟩
  | n :: ms, ds, h => by
    cases h with
    | cons g r =>
      obtain ⟨a, r', g'⟩ := RunR.unsnoc r
      exact ⟨a, .cons g r', g'⟩
theorem good_come {x : D} (G : GoodS ds) (hp : ds[i]? = some p) : GoodS (ds.set i { p with came := some x }) := by
  have mp := List.mem_of_getElem? hp
  have two : twoS ds = true → twoS (ds.set i { p with came := some x }) = true := fun z => any_set z fun p' e f => by
    rw [hp] at e
    cases e
    exact f
  refine ⟨fun r m => ?_, fun r m z => ?_, fun r m z1 z2 => ?_⟩
  · rcases mem_set m with rfl | m
    · exact G.le3 p mp
    · exact G.le3 r m
  · rcases mem_set m with rfl | m
    · cases z
    · exact G.no r m z
  · rcases mem_set m with rfl | m
    · exact two (G.two p mp z1 z2)
    · exact two (G.two r m z1 z2)
theorem Go1.good (G : GoodS ds) (h : Go1 ds m a) : GoodS a := by
  cases h with
  | come h1 h2 => exact good_come G h1
  | step h1 h2 R => exact R.good G h1 (by rw [h2]; simp)
theorem RunR.good (G : GoodS ds) (h : RunR ds ms a) : GoodS a := by
  induction h with
  | nil => exact G
  | cons g _ ih => exact ih (g.good G)
theorem Go1.other (h : Go1 ds m a) {j : Nat} (hj : j ≠ m.1) : a[j]? = ds[j]? := by
  cases h with
  | come h1 h2 => exact List.getElem?_set_ne (fun e => hj e.symm)
  | step h1 h2 R => exact List.getElem?_set_ne (fun e => hj e.symm)
/-- what a deed asks: only of its own player -/
theorem Go1.again (G : GoodS b) {m : Deed} (h : Go1 ds m a) (e : b[m.1]? = ds[m.1]?) : ∃ c, Go1 b m c := by
  cases h with
  | come h1 h2 => exact ⟨_, .come (e.trans h1) h2⟩
  | step h1 h2 R =>
    have hb := e.trans h1
    obtain ⟨t, q, R'⟩ := G.step (List.mem_of_getElem? hb)
    exact ⟨_, .step hb h2 R'⟩
theorem RunR.swap {m n : Deed} (G : GoodS ds) (h : RunR ds (ms ++ [m, n]) b) (ne : m.1 ≠ n.1) : ∃ c, RunR ds (ms ++ [n, m]) c := by
  rw [show ms ++ [m, n] = (ms ++ [m]) ++ [n] by simp] at h
  obtain ⟨d1, r1, g1⟩ := h.unsnoc
  obtain ⟨d2, r2, g2⟩ := r1.unsnoc
  have G2 := r2.good G
  obtain ⟨c1, g3⟩ := g1.again G2 (g2.other (fun e => ne e.symm)).symm
  obtain ⟨c2, g4⟩ := g2.again (g3.good G2) (g3.other ne)
  refine ⟨c2, ?_⟩
  rw [show ms ++ [n, m] = (ms ++ [n]) ++ [m] by simp]
  exact (r2.snoc g3).snoc g4
end
/-! ### texts -/
theorem cps_app (a b : Str) : (a ++ b).cps.toList = a.cps.toList ++ b.cps.toList := by rw [Str.cps_append, Array.toList_append]
theorem from_app : ∀ (ts us : List Str) (k : Nat) (acc : Str), textFrom k acc (ts ++ us) = textFrom (k + ts.length) (textFrom k acc ts) us
  | [], us, k, acc => rfl
  | t :: ts, us, k, acc => by
    show textFrom (k + 1) _ (ts ++ us) = textFrom (k + (ts.length + 1)) (textFrom (k + 1) _ ts) us
    rw [from_app, show k + 1 + ts.length = k + (ts.length + 1) by omega]
theorem shownAll_app : ∀ (a b : List PyData), PyData.shownAll (a ++ b) = PyData.shownAll a ++ PyData.shownAll b
  | [], _ => rfl
  | x :: a, b => by
    show PyData.shown x :: PyData.shownAll (a ++ b) = _
    rw [shownAll_app a b]
    rfl
theorem digit_text {i : Nat} (h : i ≤ 9) : (PyData.shown (.int (i : Int))).cps.toList = [48 + i] := by
  have key : ∀ a : Fin 10, (PyData.shown (.int ((a : Nat) : Int))).cps.toList = [48 + (a : Nat)] := by decide +kernel
  exact key ⟨i, by omega⟩
theorem tup_text {i : Nat} (h : i ≤ 9) (r : List PyData) : ∃ rest, (PyData.shown (.tuple (.int (i : Int) :: r))).cps.toList = 40 :: (48 + i) :: rest := by
  have e0 : ("(" : Str).cps.toList = [40] := by decide +kernel
  show ∃ rest, (("(" : Str) ++ Str.join ", " (PyData.shown (.int (i : Int)) :: PyData.shownAll r) ++ (if (PyData.shown (.int (i : Int)) :: PyData.shownAll r).length == 1 then ",)" else ")" : String)).cps.toList = _
  have d := digit_text h
  generalize PyData.shown (.int (i : Int)) = z at d
  generalize ((if (z :: PyData.shownAll r).length == 1 then ",)" else ")" : String) : Str) = tail
  cases PyData.shownAll r with
  | nil =>
    show ∃ rest, (("(" : Str) ++ z ++ tail).cps.toList = _
    rw [cps_app, cps_app, e0, d]
    exact ⟨_, rfl⟩
  | cons y ys =>
    show ∃ rest, (("(" : Str) ++ (z ++ ", " ++ Str.join ", " (y :: ys)) ++ tail).cps.toList = _
    rw [cps_app, cps_app, cps_app, cps_app, e0, d]
    exact ⟨_, rfl⟩
theorem list_text (ts : List PyData) : (PyData.shown (.list ts)).cps.toList = (textFrom 0 "[" (PyData.shownAll ts)).cps.toList ++ [93] := by
  show (textFrom 0 "[" (PyData.shownAll ts) ++ ("]" : String)).cps.toList = _
  rw [cps_app]
  congr 1
/-- one more: another text -/
theorem repr_longer {ts : List PyData} {i : Nat} (hi : i ≤ 9) {r : List PyData} : PyData.shown (.list (ts ++ [.tuple (.int (i : Int) :: r)])) ≠ PyData.shown (.list ts) := fun e => by
  have e1 := congrArg (fun z : Str => z.cps.toList.length) e
  simp only [list_text, shownAll_app, from_app] at e1
  obtain ⟨rest, hr⟩ := tup_text hi r
  have e2 : ∀ (k : Nat) (acc u : Str), (textFrom k acc [u]).cps.toList = acc.cps.toList ++ ((if k > 0 then ", " else "" : String) : Str).cps.toList ++ u.cps.toList := fun k acc u => by
    show (acc ++ (if k > 0 then ", " else "" : String) ++ u).cps.toList = _
    rw [cps_app, cps_app]
  rw [show PyData.shownAll [.tuple (.int (i : Int) :: r)] = [PyData.shown (.tuple (.int (i : Int) :: r))] from rfl, e2, hr] at e1
  simp at e1
  omega
/-- the last two exchanged: another text -/
theorem repr_swap {ts : List PyData} {i j : Nat} (hi : i ≤ 9) (hj : j ≤ 9) (ne : i ≠ j) {r s : List PyData} :
    PyData.shown (.list (ts ++ [.tuple (.int (i : Int) :: r), .tuple (.int (j : Int) :: s)])) ≠ PyData.shown (.list (ts ++ [.tuple (.int (j : Int) :: s), .tuple (.int (i : Int) :: r)])) := fun e => by
  have e1 := congrArg (fun z : Str => z.cps.toList) e
  simp only [list_text, shownAll_app, from_app] at e1
  obtain ⟨r1, h1⟩ := tup_text hi r
  obtain ⟨r2, h2⟩ := tup_text hj s
  have e2 : ∀ (k : Nat) (acc u v : Str), (textFrom k acc [u, v]).cps.toList = (acc.cps.toList ++ ((if k > 0 then ", " else "" : String) : Str).cps.toList) ++ (u.cps.toList ++ ((if k + 1 > 0 then ", " else "" : String) : Str).cps.toList ++ v.cps.toList) := fun k acc u v => by
    show ((acc ++ (if k > 0 then ", " else "" : String) ++ u) ++ (if k + 1 > 0 then ", " else "" : String) ++ v).cps.toList = _
    rw [cps_app, cps_app, cps_app, cps_app]
    simp only [List.append_assoc]
  rw [show ∀ a b : PyData, PyData.shownAll [a, b] = [PyData.shown a, PyData.shown b] from fun _ _ => rfl, show ∀ a b : PyData, PyData.shownAll [a, b] = [PyData.shown a, PyData.shown b] from fun _ _ => rfl, e2, e2, h1, h2] at e1
  simp only [List.append_assoc] at e1
  have e3 := List.append_cancel_left (List.append_cancel_left e1)
  simp at e3
  omega
theorem dat_dn (m : Deed) : ∃ r, (dnOf m).dat = .tuple (.int (m.1 : Int) :: r) := by
  unfold dnOf
  split <;> exact ⟨_, rfl⟩
theorem dat_lw (m : Deed) : ∃ r, (lwOf m).dat = .tuple (.int (m.1 : Int) :: r) := by
  unfold lwOf
  split <;> exact ⟨_, rfl⟩
theorem dats_app : ∀ a b : List D, D.dats (a ++ b) = D.dats a ++ D.dats b
  | [], _ => rfl
  | x :: a, b => by
    show x.dat :: D.dats (a ++ b) = _
    rw [dats_app a b]
    rfl
end Ev

/-! Lv1: the stair, reckoned apart from the program: each hand's level, whether a look is next, its view. -/
namespace Ev
open PySem L2
open PyProof.Rows hiding St
abbrev intN (js : List Nat) : List D := js.map fun j => D.int (j : Nat)
/-- the places of those that f takes -/
def ixs {A : Type} (f : A → Bool) : Nat → List A → List Nat
  | _, [] => []
  | k, x :: xs => if f x = true then k :: ixs f (k + 1) xs else ixs f (k + 1) xs
theorem ixs_mem {A : Type} {f : A → Bool} : ∀ {xs : List A} {k j : Nat}, j ∈ ixs f k xs → ∃ i x, j = k + i ∧ xs[i]? = some x ∧ f x = true
  | [], _, _, h => by cases h
  | p :: ds, k, j, h => by
    unfold ixs at h
    by_cases hp : f p = true
    · rw [if_pos hp] at h
      rcases List.mem_cons.mp h with rfl | h
      · exact ⟨0, p, rfl, rfl, hp⟩
      · obtain ⟨i, q, e, e2, e3⟩ := ixs_mem h
        exact ⟨i + 1, q, by omega, by simpa using e2, e3⟩
    · rw [if_neg hp] at h
      obtain ⟨i, q, e, e2, e3⟩ := ixs_mem h
      exact ⟨i + 1, q, by omega, by simpa using e2, e3⟩
theorem mem_ixs {A : Type} {f : A → Bool} : ∀ {ds : List A} {k i : Nat} {p : A}, ds[i]? = some p → f p = true → k + i ∈ ixs f k ds
  | [], _, _, _, h, _ => by simp at h
  | q :: ds, k, 0, p, h, hf => by
    simp at h
    subst h
    unfold ixs
    rw [if_pos hf]
    exact List.mem_cons_self ..
  | q :: ds, k, i + 1, p, h, hf => by
    have z := mem_ixs (f := f) (ds := ds) (k := k + 1) (i := i) (p := p) (by simpa using h) hf
    unfold ixs
    rw [show k + (i + 1) = k + 1 + i by omega]
    split
    · exact List.mem_cons_of_mem _ z
    · exact z
theorem ixs_len {A : Type} (f : A → Bool) : ∀ (ds : List A) (k : Nat), (ixs f k ds).length = ds.countP f
  | [], _ => rfl
  | p :: ds, k => by
    unfold ixs
    by_cases h : f p = true
    · rw [if_pos h, List.length_cons, ixs_len f ds, List.countP_cons_of_pos h]
    · rw [if_neg h, ixs_len f ds, List.countP_cons_of_neg h]
theorem ixs_set {A : Type} {f : A → Bool} : ∀ {ds : List A} {k i : Nat} {p q : A}, ds[i]? = some p → f q = f p → ixs f k (ds.set i q) = ixs f k ds
  | [], _, _, _, _, h, _ => by simp at h
  | x :: ds, k, 0, p, q, h, e => by
    simp at h
    subst h
    simp only [List.set_cons_zero, ixs, e]
  | x :: ds, k, i + 1, p, q, h, e => by
    have z := ixs_set (f := f) (ds := ds) (k := k + 1) (i := i) (p := p) (q := q) (by simpa using h) e
    simp only [List.set_cons_succ, ixs, z]
theorem cnt_set {A : Type} {f : A → Bool} : ∀ {ds : List A} {i : Nat} {p q : A}, ds[i]? = some p → (ds.set i q).countP f + (if f p = true then 1 else 0) = ds.countP f + (if f q = true then 1 else 0)
  | [], _, _, _, h => by simp at h
  | x :: ds, 0, p, q, h => by
    simp at h
    subst h
    rw [List.set_cons_zero, List.countP_cons, List.countP_cons]
    omega
  | x :: ds, i + 1, p, q, h => by
    have z := cnt_set (f := f) (ds := ds) (i := i) (p := p) (q := q) (by simpa using h)
    rw [List.set_cons_succ, List.countP_cons, List.countP_cons]
    omega
theorem mem_setA {A : Type} {ds : List A} {i : Nat} {q r : A} (h : r ∈ ds.set i q) : r = q ∨ r ∈ ds := (List.mem_or_eq_of_mem_set h).symm
structure Hd where
  lev : Nat
  wr : Bool
  view : Option (List Nat)
def Hd.l (h : Hd) : D := if h.lev = 0 then .non else .int (h.lev : Int)
def Hd.w (h : Hd) : D := .bl h.wr
def Hd.v (h : Hd) : D := match h.view with | none => .non | some v => .tup (intN v)
def le (l : Nat) (h : Hd) : Bool := decide (1 ≤ h.lev) && decide (h.lev ≤ l)
/-- at l or below, or about to go there -/
def cm (l : Nat) (h : Hd) : Bool := decide (1 ≤ h.lev) && (decide (h.lev ≤ l) || (decide (h.lev = l + 1) && !h.wr && h.view.isNone))
inductive StepL (n i : Nat) (hs : List Hd) (h : Hd) : D → Hd → Prop
  | first : h.view = none → h.wr = false → h.lev = 0 → StepL n i hs h (.tup [.int (i : Nat), .str "write", .int (n : Nat)]) { h with lev := n, wr := true }
  | down (m : Nat) : h.view = none → h.wr = false → h.lev = m + 1 → 1 ≤ m → StepL n i hs h (.tup [.int (i : Nat), .str "write", .int (m : Nat)]) { h with lev := m, wr := true }
  | miss : h.view = none → h.wr = true → (ixs (le h.lev) 0 hs).length < h.lev → StepL n i hs h (.tup [.int (i : Nat), .str "look", .tup (hs.map Hd.l)]) { h with wr := false }
  | got : h.view = none → h.wr = true → h.lev ≤ (ixs (le h.lev) 0 hs).length → StepL n i hs h (.tup [.int (i : Nat), .str "look", .tup (hs.map Hd.l)]) { h with wr := false, view := some (ixs (le h.lev) 0 hs) }
structure GoodL (n : Nat) (hs : List Hd) : Prop where
  len : hs.length = n
  top : ∀ h ∈ hs, h.lev ≤ n
  wr1 : ∀ h ∈ hs, h.wr = true → 1 ≤ h.lev ∧ h.view = none
  low : ∀ h ∈ hs, h.wr = false → h.view = none → h.lev ≠ 1
  cms : ∀ l, 1 ≤ l → l < n → hs.countP (cm l) ≤ l
  vw : ∀ h ∈ hs, ∀ v, h.view = some v → 1 ≤ h.lev ∧ h.wr = false ∧ v = ixs (le h.lev) 0 hs ∧ v.length = h.lev
theorem cnt_le {A : Type} {f g : A → Bool} {xs : List A} (h : ∀ x ∈ xs, f x = true → g x = true) : xs.countP f ≤ xs.countP g := List.countP_mono_left h
/-- at l or below stand l at most -/
theorem few_of {n : Nat} {hs : List Hd} (len : hs.length = n) (cms : ∀ l, 1 ≤ l → l < n → hs.countP (cm l) ≤ l) {l : Nat} (h1 : 1 ≤ l) : hs.countP (le l) ≤ l := by
  by_cases h : l < n
  · refine Nat.le_trans (cnt_le fun x _ hx => ?_) (cms l h1 h)
    simp only [le, cm, Bool.and_eq_true, decide_eq_true_eq] at hx ⊢
    exact ⟨hx.1, by simp [hx.2]⟩
  · have := List.countP_le_length (p := le l) (l := hs)
    omega
theorem GoodL.few {n : Nat} {hs : List Hd} (G : GoodL n hs) {l : Nat} (h1 : 1 ≤ l) : hs.countP (le l) ≤ l := few_of G.len G.cms h1
theorem StepL.none {n i : Nat} {hs : List Hd} {h q : Hd} {t : D} (R : StepL n i hs h t q) : h.view = none := by cases R <;> assumption
theorem StepL.good {n i : Nat} {hs : List Hd} {h q : Hd} {t : D} (R : StepL n i hs h t q) (G : GoodL n hs) (hp : hs[i]? = some h) : GoodL n (hs.set i q) := by
  have mp := List.mem_of_getElem? hp
  have il : i < hs.length := (List.getElem?_eq_some_iff.mp hp).1
  have len : (hs.set i q).length = n := by rw [List.length_set]; exact G.len
  have vn := StepL.none R
  have lt := G.top h mp
  have n1 : 1 ≤ n := by have := G.len; omega
  -- the counts
  have cms : ∀ l, 1 ≤ l → l < n → (hs.set i q).countP (cm l) ≤ l := fun l h1 h2 => by
    have c := cnt_set (f := cm l) (q := q) hp
    have g := G.cms l h1 h2
    cases R with
    | first a b c0 =>
      have e1 : cm l h = false := by simp [cm, c0]
      have e2 : cm l { h with lev := n, wr := true } = false := by simp [cm]; omega
      rw [e1, e2] at c
      simp at c
      omega
    | down m a b c0 d0 =>
      have e : cm l { h with lev := m, wr := true } = cm l h := by
        simp only [cm, a, b, c0]
        have : decide (1 ≤ m) = true := by simpa using d0
        by_cases z : m ≤ l
        · by_cases y : m + 1 ≤ l
          · simp [z, y, d0]
          · have : m = l := by omega
            simp [this, d0]; omega
        · have z1 : ¬ m + 1 ≤ l := by omega
          have z2 : ¬ m = l := by omega
          simp [z, z1, z2]
      rw [e] at c
      omega
    | miss a b c0 =>
      by_cases z : h.lev = l + 1
      · refine Nat.le_trans (cnt_le (g := le (l + 1)) fun x mx hx => ?_) (?_ : (hs.set i { h with wr := false }).countP (le (l + 1)) ≤ l)
        · simp only [le, cm, Bool.and_eq_true, Bool.or_eq_true, decide_eq_true_eq] at hx ⊢
          refine ⟨hx.1, ?_⟩
          rcases hx.2 with y | y
          · omega
          · omega
        · have c2 := cnt_set (f := le (l + 1)) (q := { h with wr := false }) hp
          have e : le (l + 1) { h with wr := false } = le (l + 1) h := rfl
          rw [e] at c2
          rw [ixs_len, z] at c0
          omega
      · have e : cm l { h with wr := false } = cm l h := by
          simp [cm, z]
        rw [e] at c
        omega
    | got a b c0 =>
      have e : cm l { h with wr := false, view := some (ixs (le h.lev) 0 hs) } = cm l h := by
        simp [cm, b]
      rw [e] at c
      omega
  have fewer : ∀ l, 1 ≤ l → (hs.set i q).countP (le l) ≤ l := fun l h1 => few_of len cms h1
  -- the views of those that have one: nobody comes below
  have keep : ∀ r ∈ hs, ∀ v, r.view = some v → ixs (le r.lev) 0 (hs.set i q) = ixs (le r.lev) 0 hs := fun r mr v e => by
    obtain ⟨r1, r2, r3, r4⟩ := G.vw r mr v e
    refine ixs_set hp ?_
    have c := cnt_set (f := le r.lev) (q := q) hp
    have f := fewer r.lev r1
    rw [r3, ixs_len] at r4
    have up : le r.lev h = true → le r.lev q = true := fun z => by
      simp only [le, Bool.and_eq_true, decide_eq_true_eq] at z ⊢
      cases R with
      | first a b c0 => omega
      | down m a b c0 d0 => simp only; omega
      | miss a b c0 => exact z
      | got a b c0 => exact z
    cases h1 : le r.lev h with
    | true => exact up h1
    | false =>
      cases h2 : le r.lev q with
      | false => rfl
      | true =>
        rw [h1, h2] at c
        simp at c
        omega
  have same : ∀ (b : Bool) (w : Option (List Nat)), ixs (le h.lev) 0 (hs.set i { h with wr := b, view := w }) = ixs (le h.lev) 0 hs := fun b w => ixs_set hp rfl
  refine ⟨len, fun r mr => ?_, fun r mr z => ?_, fun r mr z1 z2 => ?_, cms, fun r mr v e => ?_⟩
  · rcases mem_setA mr with rfl | mr
    · cases R with
      | first a b c0 => exact Nat.le_refl _
      | down m a b c0 d0 => simp only; omega
      | miss a b c0 => exact lt
      | got a b c0 => exact lt
    · exact G.top r mr
  · rcases mem_setA mr with rfl | mr
    · cases R with
      | first a b c0 => exact ⟨n1, vn⟩
      | down m a b c0 d0 => exact ⟨d0, vn⟩
      | miss a b c0 => cases z
      | got a b c0 => cases z
    · exact G.wr1 r mr z
  · rcases mem_setA mr with rfl | mr
    · cases R with
      | first a b c0 => cases z1
      | down m a b c0 d0 => cases z1
      | miss a b c0 =>
        intro y
        have y' : h.lev = 1 := y
        have := mem_ixs (f := le h.lev) (k := 0) hp (by simp [le, y'])
        have := List.length_pos_of_mem this
        omega
      | got a b c0 => cases z2
    · exact G.low r mr z1 z2
  · rcases mem_setA mr with rfl | mr
    · cases R with
      | first a b c0 => rw [a] at e; cases e
      | down m a b c0 d0 => rw [a] at e; cases e
      | miss a b c0 => rw [a] at e; cases e
      | got a b c0 =>
        cases e
        have l1 := (G.wr1 h mp b).1
        refine ⟨l1, rfl, (same _ _).symm, ?_⟩
        have := G.few l1
        rw [ixs_len] at c0 ⊢
        show _ = h.lev
        omega
    · obtain ⟨r1, r2, r3, r4⟩ := G.vw r mr v e
      exact ⟨r1, r2, by rw [keep r mr v e]; exact r3, r4⟩
/-- a step there always is, unless there is a view -/
theorem GoodL.next {n : Nat} {hs : List Hd} (G : GoodL n hs) {i : Nat} {h : Hd} (hp : hs[i]? = some h) (hv : h.view = none) : ∃ t q, StepL n i hs h t q := by
  have mp := List.mem_of_getElem? hp
  cases hw : h.wr with
  | true =>
    by_cases z : h.lev ≤ (ixs (le h.lev) 0 hs).length
    · exact ⟨_, _, .got hv hw z⟩
    · exact ⟨_, _, .miss hv hw (by omega)⟩
  | false =>
    by_cases z : h.lev = 0
    · exact ⟨_, _, .first hv hw z⟩
    · have := G.low h mp hw hv
      exact ⟨_, _, .down (h.lev - 1) hv hw (by omega) (by omega)⟩
/-- how many steps a hand has at most -/
def left (n : Nat) (h : Hd) : Nat := if h.view.isSome = true then 0 else if h.lev = 0 then 2 * n else if h.wr = true then 2 * h.lev - 1 else 2 * (h.lev - 1)
theorem left_le {n : Nat} {hs : List Hd} (G : GoodL n hs) {h : Hd} (mp : h ∈ hs) : left n h ≤ 2 * n := by
  have := G.top h mp
  unfold left
  split
  · omega
  · split
    · omega
    · split <;> omega
theorem StepL.left {n i : Nat} {hs : List Hd} {h q : Hd} {t : D} (R : StepL n i hs h t q) (G : GoodL n hs) (hp : hs[i]? = some h) : left n q + 1 ≤ left n h := by
  have mp := List.mem_of_getElem? hp
  have il : i < hs.length := (List.getElem?_eq_some_iff.mp hp).1
  have n1 : 1 ≤ n := by have := G.len; omega
  have n0 : ¬ n = 0 := by omega
  cases R with
  | first a b c => simp [Ev.left, a, c, n0]; omega
  | down m a b c d =>
    have m0 : ¬ m = 0 := by omega
    simp [Ev.left, a, b, c, m0]; omega
  | miss a b c =>
    have l1 := (G.wr1 h mp b).1
    have l0 : ¬ h.lev = 0 := by omega
    simp [Ev.left, a, b, l0]; omega
  | got a b c =>
    have l1 := (G.wr1 h mp b).1
    have l0 : ¬ h.lev = 0 := by omega
    simp [Ev.left, a, b, l0]; omega
theorem view_of_left {n : Nat} {hs : List Hd} (G : GoodL n hs) {h : Hd} (mp : h ∈ hs) (z : left n h = 0) : ∃ v, h.view = some v := by
  cases hv : h.view with
  | some v => exact ⟨v, rfl⟩
  | none =>
    have n1 : 1 ≤ n := by
      have := G.len
      have := List.length_pos_of_mem mp
      omega
    cases hw : h.wr with
    | true =>
      have l1 := (G.wr1 h mp hw).1
      have l0 : ¬ h.lev = 0 := by omega
      simp [left, hv, hw, l0] at z
      omega
    | false =>
      have := G.low h mp hw hv
      by_cases l0 : h.lev = 0
      · simp [left, hv, l0] at z; omega
      · simp [left, hv, hw, l0] at z; omega
/-- who has a view is in it -/
theorem GoodL.self {n : Nat} {hs : List Hd} (G : GoodL n hs) {i : Nat} {h : Hd} {v : List Nat} (hp : hs[i]? = some h) (hv : h.view = some v) : i ∈ v := by
  obtain ⟨r1, _, r3, _⟩ := G.vw h (List.mem_of_getElem? hp) v hv
  rw [r3]
  have := mem_ixs (f := le h.lev) (k := 0) hp (by simp [le, r1])
  simpa using this
/-- of two views the one of the lower level lies within the other -/
theorem GoodL.within {n : Nat} {hs : List Hd} (G : GoodL n hs) {h r : Hd} (mh : h ∈ hs) (mr : r ∈ hs) {v w : List Nat} (hv : h.view = some v) (hw : r.view = some w) (hl : h.lev ≤ r.lev) : ∀ j ∈ v, j ∈ w := fun j mj => by
  obtain ⟨_, _, r3, _⟩ := G.vw h mh v hv
  obtain ⟨_, _, s3, _⟩ := G.vw r mr w hw
  rw [r3] at mj
  rw [s3]
  obtain ⟨a, x, e, hx, fx⟩ := ixs_mem mj
  simp only [le, Bool.and_eq_true, decide_eq_true_eq] at fx
  rw [e]
  exact mem_ixs hx (by simp only [le, Bool.and_eq_true, decide_eq_true_eq]; omega)
/-- the level of those who are in a view -/
theorem GoodL.inview {n : Nat} {hs : List Hd} (G : GoodL n hs) {h x : Hd} (mh : h ∈ hs) {v : List Nat} (hv : h.view = some v) {j : Nat} (hx : hs[j]? = some x) : j ∈ v ↔ 1 ≤ x.lev ∧ x.lev ≤ h.lev := by
  obtain ⟨_, _, r3, _⟩ := G.vw h mh v hv
  rw [r3]
  constructor
  · intro m
    obtain ⟨a, y, e, hy, fy⟩ := ixs_mem m
    have : j = a := by omega
    subst this
    rw [hx] at hy
    cases hy
    simpa [le] using fy
  · intro z
    have := mem_ixs (f := le h.lev) (k := 0) hx (by simpa [le] using z)
    simpa using this
end Ev

/-! Tl1: what may be told: how deep and how long it is. -/
namespace Ev
open PySem L2
open PyProof.Rows hiding St
theorem small_int {j n : Nat} (h : j ≤ 9) : Rp n 20 (.int (j : Nat)) := by
  have z : j = 0 ∨ j = 1 ∨ j = 2 ∨ j = 3 ∨ j = 4 ∨ j = 5 ∨ j = 6 ∨ j = 7 ∨ j = 8 ∨ j = 9 := by omega
  rcases z with rfl | rfl | rfl | rfl | rfl | rfl | rfl | rfl | rfl | rfl <;> exact Rp.int'
theorem flats_of : ∀ {ds : List D}, (∀ d ∈ ds, d.flat = true) → D.flats ds = true
  | [], _ => rfl
  | d :: ds, h => by
    simp only [D.flats, Bool.and_eq_true]
    exact ⟨h d (List.mem_cons_self ..), flats_of fun x m => h x (List.mem_cons_of_mem _ m)⟩
theorem rps_of {n c : Nat} : ∀ {ds : List D}, (∀ d ∈ ds, Rp n c d.dat) → Rps n (ds.length * (c + 2)) (D.dats ds)
  | [], _ => ⟨rfl, rfl, Nat.zero_le _, Nat.zero_le _⟩
  | d :: ds, h => by
    simp only [D.dats]
    refine Rps.cons (h d (List.mem_cons_self ..)) (rps_of fun x m => h x (List.mem_cons_of_mem _ m)) ?_
    rw [List.length_cons, Nat.succ_mul]
    omega
def Told (n c : Nat) (t : D) : Prop := t.flat = true ∧ Rp n c t.dat
theorem Told.tup {n c m k : Nat} {xs : List D} (h : ∀ x ∈ xs, Told n c x) (hl : xs.length ≤ m) (hk : m * (c + 2) + 3 ≤ k) : Told (n + 1) k (.tup xs) := by
  refine ⟨by simp only [D.flat]; exact flats_of fun x mx => (h x mx).1, ?_⟩
  have r := rps_of (n := n) (c := c) (ds := xs) fun x mx => (h x mx).2
  have := Nat.mul_le_mul_right (c + 2) hl
  exact Rps.tup r (Nat.le_refl _) (by omega)
theorem Told.up {n c m k : Nat} {t : D} (h : Told n c t) (h1 : n ≤ m) (h2 : c ≤ k) : Told m k t := ⟨h.1, h.2.mono h1 h2⟩
theorem told_int {n j : Nat} (h : j ≤ 9) : Told n 20 (.int (j : Int)) := ⟨rfl, small_int h⟩
theorem told_non {n : Nat} : Told n 20 .non := ⟨rfl, Rp.non⟩
theorem told_str {n : Nat} {z : Str} (h : (PyData.strOk z && decide ((reprText z).length ≤ 40)) = true := by decide +kernel) : Told n 40 (.str z) := ⟨rfl, Rp.str' h⟩
theorem told_l {n k : Nat} {h : Hd} (hk : h.lev ≤ 9) : Told n 20 h.l := by
  unfold Hd.l
  split
  · exact told_non
  · exact told_int hk
theorem told_ints {n : Nat} {js : List Nat} (h : ∀ j ∈ js, j ≤ 9) (hl : js.length ≤ 9) : Told (n + 1) 300 (.tup (intN js)) := Told.tup (n := n) (c := 20) (m := 9) (fun x m => by
  obtain ⟨j, mj, rfl⟩ := List.mem_map.mp m
  exact told_int (h j mj)) (by rw [List.length_map]; exact hl) (by decide)
theorem told_ls {n : Nat} {hs : List Hd} (h : ∀ x ∈ hs, x.lev ≤ 9) (hl : hs.length ≤ 9) : Told (n + 1) 300 (.tup (hs.map Hd.l)) := Told.tup (n := n) (c := 20) (m := 9) (fun x m => by
  obtain ⟨p, mp, rfl⟩ := List.mem_map.mp m
  exact told_l (k := 0) (h p mp)) (by rw [List.length_map]; exact hl) (by decide)
theorem StepL.told {n i : Nat} {hs : List Hd} {h q : Hd} {t : D} (R : StepL n i hs h t q) (G : GoodL n hs) (mp : h ∈ hs) (hi : i < n) (n5 : n ≤ 5) : Told 5 2000 t := by
  have three : ∀ {a b c : D}, Told 4 300 a → Told 4 300 b → Told 4 300 c → Told 5 2000 (.tup [a, b, c]) := fun {a b c} ha hb hc => Told.tup (n := 4) (c := 300) (m := 3) (fun x m => by
    simp only [List.mem_cons, List.not_mem_nil, or_false] at m
    rcases m with rfl | rfl | rfl
    · exact ha
    · exact hb
    · exact hc) (by simp) (by decide)
  have ti : Told 4 300 (.int (i : Nat)) := (told_int (by omega)).up (Nat.le_refl _) (by decide)
  have top := G.top
  have len := G.len
  have tl : Told 4 300 (.tup (hs.map Hd.l)) := told_ls (fun x m => by have := top x m; omega) (by omega)
  have tw : Told 4 300 (.str "write") := (told_str (n := 4)).up (Nat.le_refl _) (by decide)
  have tk : Told 4 300 (.str "look") := (told_str (n := 4)).up (Nat.le_refl _) (by decide)
  cases R with
  | first a b c => exact three ti tw ((told_int (by omega)).up (Nat.le_refl _) (by decide))
  | down m a b c d =>
    refine three ti tw ((told_int ?_).up (Nat.le_refl _) (by decide))
    have := top h mp
    omega
  | miss a b c => exact three ti tk tl
  | got a b c => exact three ti tk tl
theorem Told.repr {t : D} {c : Nat} (h : Told 12 c t) (hc : c ≤ 16777216) (s : Store) : reprP (pdW (pdN s 3) t) s = .ok (.str t.dat.shown) s := by
  have e : pdW (pdN s 3) t = some t.dat := pdW_flat h.1
  rw [e]
  exact reprP_ok' h.2 hc
theorem small_ints {n : Nat} : ∀ {js : List Nat}, (∀ j ∈ js, j ≤ 9) → Rps n (22 * js.length) (js.map fun j => PyData.int (j : Nat))
  | [], _ => Rps.nil'
  | j :: js, h => Rps.cons (small_int (h j (List.mem_cons_self ..))) (small_ints fun x m => h x (List.mem_cons_of_mem _ m)) (by rw [List.length_cons]; omega)
theorem pdWs_ints {f : Nat → Option (List PyData)} : ∀ js : List Nat, pdWs f (intN js) = some (js.map fun j => PyData.int (j : Nat))
  | [] => rfl
  | j :: js => by
    show pdWs f (D.int (j : Nat) :: intN js) = _
    simp only [pdWs_cons, pdW_int, pdWs_ints js, Option.bind_some, cM_some, List.map_cons]
theorem eq_list {s : Store} {a c : Nat} {hh : List Nat} (h1 : s[a]? = some (.lst (intN hh))) (h2 : s[c]? = some (.lst [])) (sm : ∀ x ∈ hh, x ≤ 9) (hl : hh.length ≤ 9) : eqF false (.loc a) (.loc c) s = .ok (.bl (decide (hh = []))) s := by
  have e1 : pdW (pdN s 3) (.loc a) = some (.list (hh.map fun j => PyData.int (j : Nat))) := by
    show (pdN s 3 a).map PyData.list = _
    rw [ev_pdN3, h1]
    show (pdWs (pdN s 2) (intN hh)).map PyData.list = _
    rw [pdWs_ints]
    rfl
  have e2 : pdW (pdN s 3) (.loc c) = some (.list []) := by
    show (pdN s 3 c).map PyData.list = _
    rw [ev_pdN3, h2]
    rfl
  have r : Rp 12 1000 (PyData.list (hh.map fun j => PyData.int (j : Nat))) := Rps.lst (n := 11) (small_ints sm) (Nat.le_refl _) (by omega)
  rw [ev_eqLL, e1, e2, eqP_ok r (Rps.lst (n := 11) (c := 0) (d := 100) Rps.nil' (Nat.le_refl _) (by decide))]
  cases hh with
  | nil => simp [PyData.eqv, PyData.eqvAll]
  | cons a l => simp [PyData.eqv, PyData.eqvAll]
theorem told_bl {n : Nat} {b : Bool} : Told n 20 (.bl b) := ⟨rfl, Rp.bl⟩
theorem told_v {n : Nat} {h : Hd} (h1 : ∀ v, h.view = some v → (∀ j ∈ v, j ≤ 9) ∧ v.length ≤ 9) : Told (n + 1) 300 h.v := by
  cases hv : h.view with
  | none =>
    rw [show h.v = .non by simp [Hd.v, hv]]
    exact (told_non (n := n + 1)).up (Nat.le_refl _) (by decide)
  | some v =>
    rw [show h.v = .tup (intN v) by simp [Hd.v, hv]]
    exact told_ints (h1 v hv).1 (h1 v hv).2
theorem told_vs {n : Nat} {hs : List Hd} (h : ∀ x ∈ hs, ∀ v, x.view = some v → (∀ j ∈ v, j ≤ 9) ∧ v.length ≤ 9) (hl : hs.length ≤ 9) : Told (n + 2) 3000 (.tup (hs.map Hd.v)) := Told.tup (n := n + 1) (c := 300) (m := 9) (fun x m => by
  obtain ⟨p, mp, rfl⟩ := List.mem_map.mp m
  exact told_v (h p mp)) (by rw [List.length_map]; exact hl) (by decide)
end Ev

/-! Tl2: repr of alike values. -/
namespace Ev
open PySem L2
open PyProof.Rows hiding St
section
variable {s s1 s2 s3 : Store} {env : EEnv} {fx fy : Ef} {x y t u w : D} {neg : Bool} {c : Nat}
theorem rep_eq (e1 : fx env s = .ok x s1) (e2 : fy env s1 = .ok x s2) (ht : Told 12 c x) (hc : c ≤ 16777216) : eBin (eqF neg) (eCall reprF (aCons fx aNil)) (eCall reprF (aCons fy aNil)) env s = .ok (.bl (!neg)) s2 := by
  have r1 := ht.repr hc s1
  have r2 := ht.repr hc s2
  have f1 : eCall reprF (aCons fx aNil) env s = .ok (.str x.dat.shown) s1 := by
    rw [ev_eCall, ev_aCons, e1, R.bind_ok, ev_kCons, ev_aNil, R.bind_ok, ev_kCons2, R.bind_ok, ev_repr]
    exact r1
  have f2 : eCall reprF (aCons fy aNil) env s1 = .ok (.str x.dat.shown) s2 := by
    rw [ev_eCall, ev_aCons, e2, R.bind_ok, ev_kCons, ev_aNil, R.bind_ok, ev_kCons2, R.bind_ok, ev_repr]
    exact r2
  rw [ev_eBin, f1, R.bind_ok, ev_kBin, f2, R.bind_ok, ev_eqSS]
  cases neg <;> simp
theorem repq_eq {gx gy : Af} {xs : List D} {m : Nat} (e1 : gx env s = .ok xs s1) (e2 : gy env s1 = .ok xs s2) (ht : ∀ x ∈ xs, Told 11 c x) (hl : xs.length ≤ m) (hc : m * (c + 2) + 3 ≤ 16777216) : eBin (eqF neg) (eCall reprQ gx) (eCall reprQ gy) env s = .ok (.bl (!neg)) s2 := by
  have e : ∀ s, (pdWs (pdN s 3) xs).map PyData.list = some (.list (D.dats xs)) := fun s => by
    rw [pdWs_flat (flats_of fun x m => (ht x m).1)]
    rfl
  have r : Rp 12 (m * (c + 2) + 3) (.list (D.dats xs)) := Rps.lst (n := 11) (c := xs.length * (c + 2)) (rps_of fun x m => (ht x m).2) (Nat.le_refl _) (by have := Nat.mul_le_mul_right (c + 2) hl; omega)
  have f1 : eCall reprQ gx env s = .ok (.str (PyData.list (D.dats xs)).shown) s1 := by
    rw [ev_eCall, e1, R.bind_ok, ev_reprQ, e]
    exact reprP_ok' r hc
  have f2 : eCall reprQ gy env s1 = .ok (.str (PyData.list (D.dats xs)).shown) s2 := by
    rw [ev_eCall, e2, R.bind_ok, ev_reprQ, e]
    exact reprP_ok' r hc
  rw [ev_eBin, f1, R.bind_ok, ev_kBin, f2, R.bind_ok, ev_eqSS]
  cases neg <;> simp
end
end Ev

namespace K35
open PySem L2 Ev
open PyProof.Rows hiding St

def top (i : Nat) : Stmt := PySem.Challenge.pw_fewplaymany_k35_whole_levels_step_by_ste.main.body.getD i (.Pass ⟨0, 0, 0, 0⟩)
abbrev s__law_cells : Stmt := top 32
abbrev s__law_take : Stmt := top 30
abbrev s__law_door : Stmt := top 33
abbrev s_is_whole : Stmt := top 11
abbrev s_is_integer : Stmt := top 12
abbrev s_Door_init : Stmt := inClass (top 27) 0
abbrev s_Door_many : Stmt := inClass (top 27) 1
abbrev s_Door_came : Stmt := inClass (top 27) 2
abbrev s_Door_heard : Stmt := inClass (top 27) 4
abbrev s_Door_levels : Stmt := inClass (top 27) 3
abbrev s_Door_len : Stmt := inClass (top 27) 5
abbrev s_Door_check_player : Stmt := inClass (top 27) 7
abbrev s_Door_next : Stmt := inClass (top 27) 9
abbrev s__law_door_next : Stmt := top 35
abbrev s__law_is_door : Stmt := top 39
abbrev s__law_of : Stmt := top 31
abbrev s__law_drawn_value : Stmt := top 38
abbrev s__law_drawn_deed : Stmt := top 40
abbrev s__law_door_come : Stmt := top 36
abbrev s_is_tuple : Stmt := top 13
abbrev s_is_near_value : Stmt := top 15
abbrev s_is_value : Stmt := top 14
abbrev s_Door_come : Stmt := inClass (top 27) 8
abbrev s_Door_show : Stmt := inClass (top 27) 11
abbrev s_Door_ask : Stmt := inClass (top 27) 12
abbrev s_Door_step : Stmt := inClass (top 27) 10
abbrev s__law_door_step : Stmt := top 37
abbrev s__law_deed : Stmt := top 41
abbrev s__law_door_copy : Stmt := top 34
abbrev s_Door_copy : Stmt := inClass (top 27) 13
abbrev s_Door_eq : Stmt := inClass (top 27) 6
abbrev s__law_done_again : Stmt := top 42
abbrev s__law_right : Stmt := top 43
abbrev s__law_pot : Stmt := top 29
abbrev s_law : Stmt := top 44

theorem sc__law_cells : FnScope ["script", "limit"] ["script", "limit"] (defScope s__law_cells) := ⟨rfl, rfl, rfl, by decide +kernel, rfl, by decide +kernel, by decide +kernel⟩
theorem sc__law_take : FnScope ["pot", "upto", "digit", "prime", "blend"] ["pot", "upto"] (defScope s__law_take) := ⟨rfl, rfl, rfl, by decide +kernel, rfl, by decide +kernel, by decide +kernel⟩
theorem sc__law_door : FnScope ["many"] ["many"] (defScope s__law_door) := ⟨rfl, rfl, rfl, by decide +kernel, rfl, by decide +kernel, by decide +kernel⟩
theorem sc_is_whole : FnScope ["value"] ["value"] (defScope s_is_whole) := ⟨rfl, rfl, rfl, by decide +kernel, rfl, by decide +kernel, by decide +kernel⟩
theorem sc_is_integer : FnScope ["value", "low", "high"] ["value", "low", "high"] (defScope s_is_integer) := ⟨rfl, rfl, rfl, by decide +kernel, rfl, by decide +kernel, by decide +kernel⟩
theorem sc_Door_init : FnScope ["self", "many"] ["self", "many"] (defScope s_Door_init) := ⟨rfl, rfl, rfl, by decide +kernel, rfl, by decide +kernel, by decide +kernel⟩
theorem sc_Door_many : FnScope ["self"] ["self"] (defScope s_Door_many) := ⟨rfl, rfl, rfl, by decide +kernel, rfl, by decide +kernel, by decide +kernel⟩
theorem sc_Door_came : FnScope ["self"] ["self"] (defScope s_Door_came) := ⟨rfl, rfl, rfl, by decide +kernel, rfl, by decide +kernel, by decide +kernel⟩
theorem sc_Door_heard : FnScope ["self"] ["self"] (defScope s_Door_heard) := ⟨rfl, rfl, rfl, by decide +kernel, rfl, by decide +kernel, by decide +kernel⟩
theorem sc_Door_levels : FnScope ["self"] ["self"] (defScope s_Door_levels) := ⟨rfl, rfl, rfl, by decide +kernel, rfl, by decide +kernel, by decide +kernel⟩
theorem sc_Door_len : FnScope ["self", "deed"] ["self"] (defScope s_Door_len) := ⟨rfl, rfl, rfl, by decide +kernel, rfl, by decide +kernel, by decide +kernel⟩
abbrev sc_bk_Door_len_0 : Scope := { kind := .function, names := [(PySem.Str.ofString ".0", PySem.NameKind.local), (PySem.Str.ofString "deed", PySem.NameKind.local), (PySem.Str.ofString "len", PySem.NameKind.globalImplicit)], isGenerator := false, isCoroutine := false, more := [] }
theorem bk_Door_len_0 : BlkOk ["self", "deed"] (defScope s_Door_len) sc_bk_Door_len_0 [("deed", 1)] := ⟨rfl, by decide +kernel, by decide +kernel, by decide +kernel, by decide +kernel⟩
theorem sc_Door_check_player : FnScope ["self", "player"] ["self", "player"] (defScope s_Door_check_player) := ⟨rfl, rfl, rfl, by decide +kernel, rfl, by decide +kernel, by decide +kernel⟩
theorem sc_Door_next : FnScope ["self", "player"] ["self", "player"] (defScope s_Door_next) := ⟨rfl, rfl, rfl, by decide +kernel, rfl, by decide +kernel, by decide +kernel⟩
theorem sc__law_door_next : FnScope ["door", "player"] ["door", "player"] (defScope s__law_door_next) := ⟨rfl, rfl, rfl, by decide +kernel, rfl, by decide +kernel, by decide +kernel⟩
theorem sc__law_is_door : FnScope ["door", "own", "many", "player"] ["door", "own"] (defScope s__law_is_door) := ⟨rfl, rfl, rfl, by decide +kernel, rfl, by decide +kernel, by decide +kernel⟩
abbrev sc_bk__law_is_door_0 : Scope := { kind := .function, names := [(PySem.Str.ofString ".0", PySem.NameKind.local), (PySem.Str.ofString "player", PySem.NameKind.local), (PySem.Str.ofString "door", PySem.NameKind.free)], isGenerator := false, isCoroutine := false, more := [] }
theorem bk__law_is_door_0 : BlkOk ["door", "own", "many", "player"] (defScope s__law_is_door) sc_bk__law_is_door_0 [("player", 3)] := ⟨rfl, by decide +kernel, by decide +kernel, by decide +kernel, by decide +kernel⟩
abbrev sc_bk__law_is_door_1 : Scope := { kind := .function, names := [(PySem.Str.ofString ".0", PySem.NameKind.local), (PySem.Str.ofString "player", PySem.NameKind.local), (PySem.Str.ofString "_law_door_next", PySem.NameKind.globalImplicit), (PySem.Str.ofString "own", PySem.NameKind.free)], isGenerator := false, isCoroutine := false, more := [] }
theorem bk__law_is_door_1 : BlkOk ["door", "own", "many", "player"] (defScope s__law_is_door) sc_bk__law_is_door_1 [("player", 3)] := ⟨rfl, by decide +kernel, by decide +kernel, by decide +kernel, by decide +kernel⟩
theorem sc__law_of : FnScope ["pot", "some"] ["pot", "some"] (defScope s__law_of) := ⟨rfl, rfl, rfl, by decide +kernel, rfl, by decide +kernel, by decide +kernel⟩
theorem sc__law_drawn_value : FnScope ["pot", "deep", "way", "lap"] ["pot", "deep"] (defScope s__law_drawn_value) := ⟨rfl, rfl, rfl, by decide +kernel, rfl, by decide +kernel, by decide +kernel⟩
abbrev sc_bk__law_drawn_value_0 : Scope := { kind := .function, names := [(PySem.Str.ofString ".0", PySem.NameKind.local), (PySem.Str.ofString "lap", PySem.NameKind.local), (PySem.Str.ofString "_law_drawn_value", PySem.NameKind.globalImplicit), (PySem.Str.ofString "deep", PySem.NameKind.free), (PySem.Str.ofString "pot", PySem.NameKind.free)], isGenerator := false, isCoroutine := false, more := [] }
theorem bk__law_drawn_value_0 : BlkOk ["pot", "deep", "way", "lap"] (defScope s__law_drawn_value) sc_bk__law_drawn_value_0 [("lap", 3)] := ⟨rfl, by decide +kernel, by decide +kernel, by decide +kernel, by decide +kernel⟩
theorem sc__law_drawn_deed : FnScope ["pot", "own", "player"] ["pot", "own"] (defScope s__law_drawn_deed) := ⟨rfl, rfl, rfl, by decide +kernel, rfl, by decide +kernel, by decide +kernel⟩
theorem sc__law_door_come : FnScope ["door", "player", "value"] ["door", "player", "value"] (defScope s__law_door_come) := ⟨rfl, rfl, rfl, by decide +kernel, rfl, by decide +kernel, by decide +kernel⟩
theorem sc_is_tuple : FnScope ["value", "least", "most"] ["value", "least", "most"] (defScope s_is_tuple) := ⟨rfl, rfl, rfl, by decide +kernel, rfl, by decide +kernel, by decide +kernel⟩
theorem sc_is_near_value : FnScope ["value", "deep", "one"] ["value", "deep"] (defScope s_is_near_value) := ⟨rfl, rfl, rfl, by decide +kernel, rfl, by decide +kernel, by decide +kernel⟩
abbrev sc_bk_is_near_value_0 : Scope := { kind := .function, names := [(PySem.Str.ofString ".0", PySem.NameKind.local), (PySem.Str.ofString "one", PySem.NameKind.local), (PySem.Str.ofString "is_near_value", PySem.NameKind.globalImplicit), (PySem.Str.ofString "deep", PySem.NameKind.free)], isGenerator := false, isCoroutine := false, more := [] }
theorem bk_is_near_value_0 : BlkOk ["value", "deep", "one"] (defScope s_is_near_value) sc_bk_is_near_value_0 [("one", 2)] := ⟨rfl, by decide +kernel, by decide +kernel, by decide +kernel, by decide +kernel⟩
theorem sc_is_value : FnScope ["value"] ["value"] (defScope s_is_value) := ⟨rfl, rfl, rfl, by decide +kernel, rfl, by decide +kernel, by decide +kernel⟩
theorem sc_Door_come : FnScope ["self", "player", "value"] ["self", "player", "value"] (defScope s_Door_come) := ⟨rfl, rfl, rfl, by decide +kernel, rfl, by decide +kernel, by decide +kernel⟩
theorem sc_Door_show : FnScope ["self", "player", "level"] ["self", "player"] (defScope s_Door_show) := ⟨rfl, rfl, rfl, by decide +kernel, rfl, by decide +kernel, by decide +kernel⟩
theorem sc_Door_ask : FnScope ["self", "player"] ["self", "player"] (defScope s_Door_ask) := ⟨rfl, rfl, rfl, by decide +kernel, rfl, by decide +kernel, by decide +kernel⟩
theorem sc_Door_step : FnScope ["self", "player", "kind"] ["self", "player"] (defScope s_Door_step) := ⟨rfl, rfl, rfl, by decide +kernel, rfl, by decide +kernel, by decide +kernel⟩
theorem sc__law_door_step : FnScope ["door", "player", "stage"] ["door", "player"] (defScope s__law_door_step) := ⟨rfl, rfl, rfl, by decide +kernel, rfl, by decide +kernel, by decide +kernel⟩
theorem sc__law_deed : FnScope ["pot", "door", "own", "done", "player", "coming"] ["pot", "door", "own", "done"] (defScope s__law_deed) := ⟨rfl, rfl, rfl, by decide +kernel, rfl, by decide +kernel, by decide +kernel⟩
theorem sc__law_door_copy : FnScope ["door", "key"] ["door"] (defScope s__law_door_copy) := ⟨rfl, rfl, rfl, by decide +kernel, rfl, by decide +kernel, by decide +kernel⟩
abbrev sc_bk__law_door_copy_0 : Scope := { kind := .function, names := [(PySem.Str.ofString ".0", PySem.NameKind.local), (PySem.Str.ofString "key", PySem.NameKind.local), (PySem.Str.ofString "list", PySem.NameKind.globalImplicit), (PySem.Str.ofString "door", PySem.NameKind.free)], isGenerator := false, isCoroutine := false, more := [] }
theorem bk__law_door_copy_0 : BlkOk ["door", "key"] (defScope s__law_door_copy) sc_bk__law_door_copy_0 [("key", 1)] := ⟨rfl, by decide +kernel, by decide +kernel, by decide +kernel, by decide +kernel⟩
theorem sc_Door_copy : FnScope ["self", "found", "deed"] ["self"] (defScope s_Door_copy) := ⟨rfl, rfl, rfl, by decide +kernel, rfl, by decide +kernel, by decide +kernel⟩
theorem sc_Door_eq : FnScope ["self", "other"] ["self", "other"] (defScope s_Door_eq) := ⟨rfl, rfl, rfl, by decide +kernel, rfl, by decide +kernel, by decide +kernel⟩
theorem sc__law_done_again : FnScope ["many", "done", "door", "player", "coming"] ["many", "done"] (defScope s__law_done_again) := ⟨rfl, rfl, rfl, by decide +kernel, rfl, by decide +kernel, by decide +kernel⟩
theorem sc__law_right : FnScope ["pot", "many", "door", "own", "done", "lap", "twin", "its", "other", "is_let"] ["pot"] (defScope s__law_right) := ⟨rfl, rfl, rfl, by decide +kernel, rfl, by decide +kernel, by decide +kernel⟩
theorem sc__law_pot : FnScope ["script", "place", "cell", "own", "small"] ["script", "place"] (defScope s__law_pot) := ⟨rfl, rfl, rfl, by decide +kernel, rfl, by decide +kernel, by decide +kernel⟩
theorem sc_law : FnScope ["script", "place"] ["script"] (defScope s_law) := ⟨rfl, rfl, rfl, by decide +kernel, rfl, by decide +kernel, by decide +kernel⟩
abbrev sc_bk_law_0 : Scope := { kind := .function, names := [(PySem.Str.ofString ".0", PySem.NameKind.local), (PySem.Str.ofString "place", PySem.NameKind.local), (PySem.Str.ofString "_law_right", PySem.NameKind.globalImplicit), (PySem.Str.ofString "_law_pot", PySem.NameKind.globalImplicit), (PySem.Str.ofString "script", PySem.NameKind.free)], isGenerator := false, isCoroutine := false, more := [] }
theorem bk_law_0 : BlkOk ["script", "place"] (defScope s_law) sc_bk_law_0 [("place", 1)] := ⟨rfl, by decide +kernel, by decide +kernel, by decide +kernel, by decide +kernel⟩
/-- a def as it stands in the written part -/
structure Dn (K : PySem.W.Frag) (x qual : Str) (st : Stmt) (ps : List Str) : Type where
  a : Addr
  fd : FuncData
  F : Fun K x qual st a fd
  B : Binds K fd ps []
  kp : PySem.W.keepIn K (.ref a) = true
structure Txt (K : PySem.W.Frag) (mg : Str → Option Value) : Type where
  d__law_cells : Dn K "_law_cells" "_law_cells" s__law_cells ["script", "limit"]
  m__law_cells : mg "_law_cells" = some (.ref d__law_cells.a)
  d__law_take : Dn K "_law_take" "_law_take" s__law_take ["pot", "upto"]
  m__law_take : mg "_law_take" = some (.ref d__law_take.a)
  d__law_door : Dn K "_law_door" "_law_door" s__law_door ["many"]
  m__law_door : mg "_law_door" = some (.ref d__law_door.a)
  d_is_whole : Dn K "is_whole" "is_whole" s_is_whole ["value"]
  m_is_whole : mg "is_whole" = some (.ref d_is_whole.a)
  d_is_integer : Dn K "is_integer" "is_integer" s_is_integer ["value", "low", "high"]
  m_is_integer : mg "is_integer" = some (.ref d_is_integer.a)
  d_Door_init : Dn K "__init__" "Door.__init__" s_Door_init ["self", "many"]
  d_Door_many : Dn K "many" "Door.many" s_Door_many ["self"]
  d_Door_came : Dn K "came" "Door.came" s_Door_came ["self"]
  d_Door_heard : Dn K "heard" "Door.heard" s_Door_heard ["self"]
  d_Door_levels : Dn K "levels" "Door.levels" s_Door_levels ["self"]
  d_Door_len : Dn K "__len__" "Door.__len__" s_Door_len ["self"]
  d_Door_check_player : Dn K "check_player" "Door.check_player" s_Door_check_player ["self", "player"]
  d_Door_next : Dn K "next" "Door.next" s_Door_next ["self", "player"]
  d__law_door_next : Dn K "_law_door_next" "_law_door_next" s__law_door_next ["door", "player"]
  m__law_door_next : mg "_law_door_next" = some (.ref d__law_door_next.a)
  d__law_is_door : Dn K "_law_is_door" "_law_is_door" s__law_is_door ["door", "own"]
  m__law_is_door : mg "_law_is_door" = some (.ref d__law_is_door.a)
  d__law_of : Dn K "_law_of" "_law_of" s__law_of ["pot", "some"]
  m__law_of : mg "_law_of" = some (.ref d__law_of.a)
  d__law_drawn_value : Dn K "_law_drawn_value" "_law_drawn_value" s__law_drawn_value ["pot", "deep"]
  m__law_drawn_value : mg "_law_drawn_value" = some (.ref d__law_drawn_value.a)
  d__law_drawn_deed : Dn K "_law_drawn_deed" "_law_drawn_deed" s__law_drawn_deed ["pot", "own"]
  m__law_drawn_deed : mg "_law_drawn_deed" = some (.ref d__law_drawn_deed.a)
  d__law_door_come : Dn K "_law_door_come" "_law_door_come" s__law_door_come ["door", "player", "value"]
  m__law_door_come : mg "_law_door_come" = some (.ref d__law_door_come.a)
  d_is_tuple : Dn K "is_tuple" "is_tuple" s_is_tuple ["value", "least", "most"]
  m_is_tuple : mg "is_tuple" = some (.ref d_is_tuple.a)
  d_is_near_value : Dn K "is_near_value" "is_near_value" s_is_near_value ["value", "deep"]
  m_is_near_value : mg "is_near_value" = some (.ref d_is_near_value.a)
  d_is_value : Dn K "is_value" "is_value" s_is_value ["value"]
  m_is_value : mg "is_value" = some (.ref d_is_value.a)
  d_Door_come : Dn K "come" "Door.come" s_Door_come ["self", "player", "value"]
  d_Door_show : Dn K "show" "Door.show" s_Door_show ["self", "player"]
  d_Door_ask : Dn K "ask" "Door.ask" s_Door_ask ["self", "player"]
  d_Door_step : Dn K "step" "Door.step" s_Door_step ["self", "player"]
  d__law_door_step : Dn K "_law_door_step" "_law_door_step" s__law_door_step ["door", "player"]
  m__law_door_step : mg "_law_door_step" = some (.ref d__law_door_step.a)
  d__law_deed : Dn K "_law_deed" "_law_deed" s__law_deed ["pot", "door", "own", "done"]
  m__law_deed : mg "_law_deed" = some (.ref d__law_deed.a)
  d__law_door_copy : Dn K "_law_door_copy" "_law_door_copy" s__law_door_copy ["door"]
  m__law_door_copy : mg "_law_door_copy" = some (.ref d__law_door_copy.a)
  d_Door_copy : Dn K "copy" "Door.copy" s_Door_copy ["self"]
  d_Door_eq : Dn K "__eq__" "Door.__eq__" s_Door_eq ["self", "other"]
  d__law_done_again : Dn K "_law_done_again" "_law_done_again" s__law_done_again ["many", "done"]
  m__law_done_again : mg "_law_done_again" = some (.ref d__law_done_again.a)
  d__law_right : Dn K "_law_right" "_law_right" s__law_right ["pot"]
  m__law_right : mg "_law_right" = some (.ref d__law_right.a)
  d__law_pot : Dn K "_law_pot" "_law_pot" s__law_pot ["script", "place"]
  m__law_pot : mg "_law_pot" = some (.ref d__law_pot.a)
  d_law : Dn K "law" "law" s_law ["script"]
  m_law : mg "law" = some (.ref d_law.a)
  t_MOST_PLAYERS : Tok
  gl_MOST_PLAYERS : mg "MOST_PLAYERS" = some (.int 5 t_MOST_PLAYERS)
  t_LEVEL : Tok
  gl_LEVEL : mg "LEVEL" = some (.str "level" t_LEVEL)
  t_IN : Tok
  gl_IN : mg "IN" = some (.int 1 t_IN)
  t_LOOK : Tok
  gl_LOOK : mg "LOOK" = some (.str "look" t_LOOK)
  t_ASK : Tok
  gl_ASK : mg "ASK" = some (.str "ask" t_ASK)
  t_COME : Tok
  gl_COME : mg "COME" = some (.str "come" t_COME)
  t_SETTLED : Tok
  gl_SETTLED : mg "SETTLED" = some (.int 2 t_SETTLED)
  t_MOST_DEEP : Tok
  gl_MOST_DEEP : mg "MOST_DEEP" = some (.int 12 t_MOST_DEEP)
  t_OUT : Tok
  gl_OUT : mg "OUT" = some (.int 0 t_OUT)
  t_WAIT : Tok
  gl_WAIT : mg "WAIT" = some (.str "wait" t_WAIT)
  t_WORD : Tok
  gl_WORD : mg "WORD" = some (.str "word" t_WORD)
  t_MOST_NUMBER : Tok
  gl_MOST_NUMBER : mg "MOST_NUMBER" = some (.int 9999 t_MOST_NUMBER)
  t_MOST_THINGS : Tok
  gl_MOST_THINGS : mg "MOST_THINGS" = some (.int 60 t_MOST_THINGS)
  a_Door : Addr
  cl_Door : Cls K a_Door
  mk_Door : Mk K a_Door d_Door_init.a
  mC_Door : mg "Door" = some (.ref a_Door)
  ii_Door : InsOk K a_Door
  is1_Door : PySem.W.isClsIn K a_Door = true
  is2_Door : PySem.W.typeIn K (.ref a_Door) = some (.type "type")
  ib_Door_NoneType : PySem.W.subIn K (.type "NoneType") (.ref a_Door) = some false
  ib_Door_bool : PySem.W.subIn K (.type "bool") (.ref a_Door) = some false
  ib_Door_int : PySem.W.subIn K (.type "int") (.ref a_Door) = some false
  ib_Door_str : PySem.W.subIn K (.type "str") (.ref a_Door) = some false
  ib_Door_tuple : PySem.W.subIn K (.type "tuple") (.ref a_Door) = some false
  ib_Door_list : PySem.W.subIn K (.type "list") (.ref a_Door) = some false
  ib_Door_dict : PySem.W.subIn K (.type "dict") (.ref a_Door) = some false
  io_Door_Door : PySem.W.subIn K (.ref a_Door) (.ref a_Door) = some true
  na_Door_own_many : NoAttr K a_Door "own_many"
  na_Door_own_came : NoAttr K a_Door "own_came"
  na_Door_own_levels : NoAttr K a_Door "own_levels"
  na_Door_own_heard : NoAttr K a_Door "own_heard"
  na_Door_own_seen : NoAttr K a_Door "own_seen"
  na_Door_own_done : NoAttr K a_Door "own_done"
  mt_Door_ask : Meth K a_Door "ask" d_Door_ask.a
  mt_Door_check_player : Meth K a_Door "check_player" d_Door_check_player.a
  mt_Door_come : Meth K a_Door "come" d_Door_come.a
  mt_Door_copy : Meth K a_Door "copy" d_Door_copy.a
  mt_Door_next : Meth K a_Door "next" d_Door_next.a
  mt_Door_show : Meth K a_Door "show" d_Door_show.a
  mt_Door_step : Meth K a_Door "step" d_Door_step.a
  p_Door_came : Addr
  pr_Door_came : PropOf K a_Door "came" p_Door_came d_Door_came.a
  p_Door_heard : Addr
  pr_Door_heard : PropOf K a_Door "heard" p_Door_heard d_Door_heard.a
  p_Door_levels : Addr
  pr_Door_levels : PropOf K a_Door "levels" p_Door_levels d_Door_levels.a
  p_Door_many : Addr
  pr_Door_many : PropOf K a_Door "many" p_Door_many d_Door_many.a
  ln_Door : Meth K a_Door "__len__" d_Door_len.a
  eqf_Door : PySem.W.findIn K (.ref a_Door) "__eq__" = some (some (.ref d_Door_eq.a))
  eqn_Door : PySem.W.isFn K (.ref d_Door_eq.a) = true
  bl : ∀ x ∈ blts, mg x = none
section
variable {P : Program} {w : World} {K : PySem.W.Frag} {mg : Str → Option Value} {base : Heap}
abbrev gfld : Nat → Str := fun i => match i with | 0 => "own_many" | 1 => "own_came" | 2 => "own_levels" | 3 => "own_heard" | 4 => "own_seen" | _ => "own_done"
abbrev Txt.g (T : Txt K mg) : Gh := ⟨K, fun i => match i with  | _ => T.a_Door, gfld, 1, 6⟩
theorem Txt.iso_Door (T : Txt K mg) : IsO T.g T.a_Door (fun c => decide (c = 0)) where
  isc := T.is1_Door
  ty := T.is2_Door
  self := T.io_Door_Door
  blt := by
    intro t ht
    simp only [bltT, List.mem_cons, List.not_mem_nil, or_false] at ht
    rcases ht with rfl | rfl | rfl | rfl | rfl | rfl | rfl
    · exact T.ib_Door_NoneType
    · exact T.ib_Door_bool
    · exact T.ib_Door_int
    · exact T.ib_Door_str
    · exact T.ib_Door_tuple
    · exact T.ib_Door_list
    · exact T.ib_Door_dict
  ins := fun c hc => match c, hc with | 0, _ => T.ii_Door | n + 1, h => absurd (show n + 1 < 1 from h) (by omega)
  own := fun c hc => match c, hc with | 0, _ => T.io_Door_Door | n + 1, h => absurd (show n + 1 < 1 from h) (by omega)
theorem Txt.gf (T : Txt K mg) : GF T.g mg where
  bl := T.bl
  cls := fun c hc => match c, hc with | 0, _ => T.cl_Door | n + 1, h => absurd (show n + 1 < 1 from h) (by omega)
  na := fun c hc i hi => match c, hc, i, hi with | 0, _, 0, _ => T.na_Door_own_many | 0, _, 1, _ => T.na_Door_own_came | 0, _, 2, _ => T.na_Door_own_levels | 0, _, 3, _ => T.na_Door_own_heard | 0, _, 4, _ => T.na_Door_own_seen | 0, _, 5, _ => T.na_Door_own_done | n + 1, h, _, _ => absurd (show n + 1 < 1 from h) (by omega) | 0, _, n + 6, h => absurd (show n + 6 < 6 from h) (by omega)
  inj := by
    have h : ∀ i : Fin 6, ∀ j : Fin 6, gfld i.1 = gfld j.1 → i.1 = j.1 := by decide +kernel
    exact fun i j hi hj q => h ⟨i, hi⟩ ⟨j, hj⟩ q
theorem fno_ask : ∀ i, i < 6 → gfld i ≠ "ask" := by
  have h : ∀ i : Fin 6, gfld i.1 ≠ "ask" := by decide +kernel
  exact fun i hi => h ⟨i, hi⟩
theorem fno_check_player : ∀ i, i < 6 → gfld i ≠ "check_player" := by
  have h : ∀ i : Fin 6, gfld i.1 ≠ "check_player" := by decide +kernel
  exact fun i hi => h ⟨i, hi⟩
theorem fno_come : ∀ i, i < 6 → gfld i ≠ "come" := by
  have h : ∀ i : Fin 6, gfld i.1 ≠ "come" := by decide +kernel
  exact fun i hi => h ⟨i, hi⟩
theorem fno_copy : ∀ i, i < 6 → gfld i ≠ "copy" := by
  have h : ∀ i : Fin 6, gfld i.1 ≠ "copy" := by decide +kernel
  exact fun i hi => h ⟨i, hi⟩
theorem fno_next : ∀ i, i < 6 → gfld i ≠ "next" := by
  have h : ∀ i : Fin 6, gfld i.1 ≠ "next" := by decide +kernel
  exact fun i hi => h ⟨i, hi⟩
theorem fno_show : ∀ i, i < 6 → gfld i ≠ "show" := by
  have h : ∀ i : Fin 6, gfld i.1 ≠ "show" := by decide +kernel
  exact fun i hi => h ⟨i, hi⟩
theorem fno_step : ∀ i, i < 6 → gfld i ≠ "step" := by
  have h : ∀ i : Fin 6, gfld i.1 ≠ "step" := by decide +kernel
  exact fun i hi => h ⟨i, hi⟩
variable {k : Nat} {T : Txt K mg}
def b__law_cells  : Sf :=
  (sRet (eNew (nRange1 (eCall max2F (aCons (eC (.int 1)) (aCons (eCall min2F (aCons (eVar 1) (aCons (eCall lenF (aCons (eVar 0) aNil)) aNil))) aNil))))))
abbrev f__law_cells  : SemF := semOf 2 2 (b__law_cells )
theorem ok__law_cells  : FnG T.g P w K mg base (k + 1) T.d__law_cells.a T.d__law_cells.fd ["script", "limit"] (f__law_cells ) :=
  fn_g T.gf T.d__law_cells.F sc__law_cells fun cdv A outer s H E x hr => by
    unfold b__law_cells
    exact (ss_one (s_ret (e_new (n_listRange1 x (e_max2 x (a_cons e_int (a_cons (e_min2 x (a_cons (e_var 1) (a_cons (e_len x (e_var 0)) a_nil))) a_nil)))))))
def b__law_take  : Sf :=
  (sSeq (sIf (tfB (eBin gtF (eBin ixF (eVar 0) (eC (.int 0))) (eC (.int 0)))) (sSeq (sSet 2 (eBin modF (eCall intF (aCons (eBin ixF (eVar 0) (eC (.int 0))) aNil)) (eVar 1))) (sSeq (sAsg (eBin fdivF (eBin ixF (eVar 0) (eC (.int 0))) (eVar 1)) (gS (eVar 0) (eC (.int 0)))) (sRet (eVar 2)))) sNil) (sSeq (sAsg (eM (mBin addM (eBin ixF (eVar 0) (eC (.int 2))) (eC (.int 1)))) (gS (eVar 0) (eC (.int 2)))) (sSeq (sSet 3 (eBin ixF (eNew (nLst (aCons (eC (.int 2147483647)) (aCons (eC (.int 2147483629)) (aCons (eC (.int 2147483587)) (aCons (eC (.int 2147483579)) (aCons (eC (.int 2147483563)) aNil))))))) (eBin modF (eCall intF (aCons (eBin ixF (eVar 0) (eC (.int 2))) aNil)) (eC (.int 5))))) (sSeq (sSet 4 (eBin modF (eCall intF (aCons (eBin powF (eCall intF (aCons (eM (mBin addM (eM (mBin addM (eBin ixF (eVar 0) (eC (.int 1))) (eM (mBin mulM (eM (mBin mulM (eC (.int 100909)) (eBin ixF (eVar 0) (eC (.int 2))))) (eBin ixF (eVar 0) (eC (.int 2))))))) (eC (.int 1411)))) aNil)) (eC (.int 3))) aNil)) (eVar 3))) (sRet (eBin modF (eCall intF (aCons (eBin fdivF (eM (mBin mulM (eVar 4) (eM (mBin addM (eBin modF (eCall intF (aCons (eVar 4) aNil)) (eC (.int 11367))) (eM (mBin mulM (eC (.int 573)) (eBin ixF (eVar 0) (eC (.int 2))))))))) (eC (.int 309))) aNil)) (eVar 1)))))))
abbrev f__law_take  : SemF := semOf 5 2 (b__law_take )
theorem ok__law_take  : FnG T.g P w K mg base (k + 1) T.d__law_take.a T.d__law_take.fd ["pot", "upto"] (f__law_take ) :=
  fn_g T.gf T.d__law_take.F sc__law_take fun cdv A outer s H E x hr => by
    unfold b__law_take
    exact (ss_cons (s_if (t_gt (e_ix x (e_var 0) e_int) e_int) (ss_cons (s_set x 2 (e_mod (e_intC x (e_ix x (e_var 0) e_int)) (e_var 1))) (ss_cons (s_asg (e_fdiv (e_ix x (e_var 0) e_int) (e_var 1)) (g_sub (e_var 0) e_int)) (ss_one (s_ret (e_var 2))))) ss_nil) (ss_cons (s_asg (e_m (m_add x (e_ix x (e_var 0) e_int) e_int)) (g_sub (e_var 0) e_int)) (ss_cons (s_set x 3 (e_ix x (e_new (n_lst (a_cons e_int (a_cons e_int (a_cons e_int (a_cons e_int (a_cons e_int a_nil))))))) (e_mod (e_intC x (e_ix x (e_var 0) e_int)) e_int))) (ss_cons (s_set x 4 (e_mod (e_intC x (e_pow (e_intC x (e_m (m_add x (e_m (m_add x (e_ix x (e_var 0) e_int) (e_m (m_mul x (e_m (m_mul x e_int (e_ix x (e_var 0) e_int))) (e_ix x (e_var 0) e_int))))) e_int))) e_int)) (e_var 3))) (ss_one (s_ret (e_mod (e_intC x (e_fdiv (e_m (m_mul x (e_var 4) (e_m (m_add x (e_mod (e_intC x (e_var 4)) e_int) (e_m (m_mul x e_int (e_ix x (e_var 0) e_int))))))) e_int)) (e_var 1))))))))
def b__law_door  : Sf :=
  (sRet (eDict (pCons (eC (.str "came")) (eM (mBin mulM (eNew (nLst (aCons (eC .non) aNil))) (eVar 0))) (pCons (eC (.str "levels")) (eM (mBin mulM (eNew (nLst (aCons (eC .non) aNil))) (eVar 0))) (pCons (eC (.str "stages")) (eM (mBin mulM (eNew (nLst (aCons (eC (.int 0)) aNil))) (eVar 0))) (pCons (eC (.str "won")) (eM (mBin mulM (eNew (nLst (aCons (eC (.bl false)) aNil))) (eVar 0))) (pCons (eC (.str "heard")) (eM (mBin mulM (eNew (nLst (aCons (eC .non) aNil))) (eVar 0))) (pCons (eC (.str "steps")) (eC (.int 0)) pNil))))))))
abbrev f__law_door  : SemF := semOf 1 1 (b__law_door )
theorem ok__law_door  : FnG T.g P w K mg base (k + 1) T.d__law_door.a T.d__law_door.fd ["many"] (f__law_door ) :=
  fn_g T.gf T.d__law_door.F sc__law_door fun cdv A outer s H E x hr => by
    unfold b__law_door
    exact (ss_one (s_ret (e_disp (.cons e_str (e_m (m_mul x (e_new (n_lst (a_cons e_non a_nil))) (e_var 0))) (.cons e_str (e_m (m_mul x (e_new (n_lst (a_cons e_non a_nil))) (e_var 0))) (.cons e_str (e_m (m_mul x (e_new (n_lst (a_cons e_int a_nil))) (e_var 0))) (.cons e_str (e_m (m_mul x (e_new (n_lst (a_cons e_bl a_nil))) (e_var 0))) (.cons e_str (e_m (m_mul x (e_new (n_lst (a_cons e_non a_nil))) (e_var 0))) (.cons e_str e_int .nil)))))))))
def b_is_whole  : Sf :=
  (sRet (eAnd (eIsi "int" (eVar 0)) (eNot (eIsi "bool" (eVar 0)))))
abbrev f_is_whole  : SemF := semOf 1 1 (b_is_whole )
theorem ok_is_whole  : FnG T.g P w K mg base (k + 1) T.d_is_whole.a T.d_is_whole.fd ["value"] (f_is_whole ) :=
  fn_g T.gf T.d_is_whole.F sc_is_whole fun cdv A outer s H E x hr => by
    unfold b_is_whole
    exact (ss_one (s_ret (e_and (e_isi x "int" (e_var 0)) (e_one (e_not (e_isi x "bool" (e_var 0)))))))
def b_is_integer (c_is_whole : SemF) : Sf :=
  (sRet (eAnd (eCall c_is_whole (aCons (eVar 0) aNil)) (eChain leF leF (eVar 1) (eVar 0) (eVar 2))))
abbrev f_is_integer (c_is_whole : SemF) : SemF := semOf 3 3 (b_is_integer c_is_whole)
theorem ok_is_integer {c_is_whole : SemF} (h_is_whole : FnG T.g P w K mg base k T.d_is_whole.a T.d_is_whole.fd ["value"] c_is_whole) : FnG T.g P w K mg base (k + 1) T.d_is_integer.a T.d_is_integer.fd ["value", "low", "high"] (f_is_integer c_is_whole) :=
  fn_g T.gf T.d_is_integer.F sc_is_integer fun cdv A outer s H E x hr => by
    unfold b_is_integer
    exact (ss_one (s_ret (e_and (e_call x h_is_whole hr T.m_is_whole T.d_is_whole.kp T.d_is_whole.B (a_cons (e_var 0) a_nil)) (e_one (e_lele (e_var 1) (e_var 0) (e_var 2))))))
def b_Door_init (c_is_integer : SemF) : Sf :=
  (sSeq (sIf (tfNot (tfB (eCall c_is_integer (aCons (eVar 1) (aCons (eC (.int 1)) (aCons (eC (.int 5)) aNil)))))) sBad sNil) (sSeq (sFldE 0 (eVar 0) (eVar 1)) (sSeq (sFldE 1 (eVar 0) (eM (mBin mulM (eNew (nLst (aCons (eC .non) aNil))) (eVar 1)))) (sSeq (sFldE 2 (eVar 0) (eM (mBin mulM (eNew (nLst (aCons (eC .non) aNil))) (eVar 1)))) (sSeq (sFldE 3 (eVar 0) (eM (mBin mulM (eNew (nLst (aCons (eC .non) aNil))) (eVar 1)))) (sSeq (sFldE 4 (eVar 0) (eM (mBin mulM (eNew (nLst (aCons (eC .non) aNil))) (eVar 1)))) (sFldE 5 (eVar 0) (eNew (nLst aNil)))))))))
abbrev f_Door_init (c_is_integer : SemF) : SemF := semOf 2 2 (b_Door_init c_is_integer)
theorem ok_Door_init {c_is_integer : SemF} (h_is_integer : FnG T.g P w K mg base k T.d_is_integer.a T.d_is_integer.fd ["value", "low", "high"] c_is_integer) : FnG T.g P w K mg base (k + 1) T.d_Door_init.a T.d_Door_init.fd ["self", "many"] (f_Door_init c_is_integer) :=
  fn_g T.gf T.d_Door_init.F sc_Door_init fun cdv A outer s H E x hr => by
    unfold b_Door_init
    exact (ss_cons (s_if (t_not (t_val (e_call x h_is_integer hr T.m_is_integer T.d_is_integer.kp T.d_is_integer.B (a_cons (e_var 1) (a_cons e_int (a_cons (e_globI T.gl_MOST_PLAYERS) a_nil)))))) (ss_one s_never) ss_nil) (ss_cons (s_fld x 0 (e_var 0) (e_var 1) rfl (by show 0 < 6; decide)) (ss_cons (s_fld x 1 (e_var 0) (e_m (m_mul x (e_new (n_lst (a_cons e_non a_nil))) (e_var 1))) rfl (by show 1 < 6; decide)) (ss_cons (s_fld x 2 (e_var 0) (e_m (m_mul x (e_new (n_lst (a_cons e_non a_nil))) (e_var 1))) rfl (by show 2 < 6; decide)) (ss_cons (s_fld x 3 (e_var 0) (e_m (m_mul x (e_new (n_lst (a_cons e_non a_nil))) (e_var 1))) rfl (by show 3 < 6; decide)) (ss_cons (s_fld x 4 (e_var 0) (e_m (m_mul x (e_new (n_lst (a_cons e_non a_nil))) (e_var 1))) rfl (by show 4 < 6; decide)) (ss_one (s_fld x 5 (e_var 0) (e_new (n_lst a_nil)) rfl (by show 5 < 6; decide)))))))))
def b_Door_many  : Sf :=
  (sRet (eFld 0 (eVar 0)))
abbrev f_Door_many  : SemF := semOf 1 1 (b_Door_many )
theorem ok_Door_many  : FnG T.g P w K mg base (k + 1) T.d_Door_many.a T.d_Door_many.fd ["self"] (f_Door_many ) :=
  fn_g T.gf T.d_Door_many.F sc_Door_many fun cdv A outer s H E x hr => by
    unfold b_Door_many
    exact (ss_one (s_ret (e_fld x 0 (e_var 0) rfl (by show 0 < 6; decide))))
def b_Door_came  : Sf :=
  (sRet (eCall tupQ (qOf (eFld 1 (eVar 0)))))
abbrev f_Door_came  : SemF := semOf 1 1 (b_Door_came )
theorem ok_Door_came  : FnG T.g P w K mg base (k + 1) T.d_Door_came.a T.d_Door_came.fd ["self"] (f_Door_came ) :=
  fn_g T.gf T.d_Door_came.F sc_Door_came fun cdv A outer s H E x hr => by
    unfold b_Door_came
    exact (ss_one (s_ret (e_tuple x (q_of (e_fld x 1 (e_var 0) rfl (by show 1 < 6; decide))))))
def b_Door_heard  : Sf :=
  (sRet (eCall tupQ (qOf (eFld 3 (eVar 0)))))
abbrev f_Door_heard  : SemF := semOf 1 1 (b_Door_heard )
theorem ok_Door_heard  : FnG T.g P w K mg base (k + 1) T.d_Door_heard.a T.d_Door_heard.fd ["self"] (f_Door_heard ) :=
  fn_g T.gf T.d_Door_heard.F sc_Door_heard fun cdv A outer s H E x hr => by
    unfold b_Door_heard
    exact (ss_one (s_ret (e_tuple x (q_of (e_fld x 3 (e_var 0) rfl (by show 3 < 6; decide))))))
def b_Door_levels  : Sf :=
  (sRet (eCall tupQ (qOf (eFld 2 (eVar 0)))))
abbrev f_Door_levels  : SemF := semOf 1 1 (b_Door_levels )
theorem ok_Door_levels  : FnG T.g P w K mg base (k + 1) T.d_Door_levels.a T.d_Door_levels.fd ["self"] (f_Door_levels ) :=
  fn_g T.gf T.d_Door_levels.F sc_Door_levels fun cdv A outer s H E x hr => by
    unfold b_Door_levels
    exact (ss_one (s_ret (e_tuple x (q_of (e_fld x 2 (e_var 0) rfl (by show 2 < 6; decide))))))
def b_Door_len  : Sf :=
  (sRet (eCall lenQ (nComp [1] (iVal (eFld 5 (eVar 0))) (gN 1) (tfB (eBin (eqF false) (eCall lenF (aCons (eVar 1) aNil)) (eC (.int 1)))) (eVar 1))))
abbrev f_Door_len  : SemF := semOf 2 1 (b_Door_len )
theorem ok_Door_len  : FnG T.g P w K mg base (k + 1) T.d_Door_len.a T.d_Door_len.fd ["self"] (f_Door_len ) :=
  fn_g T.gf T.d_Door_len.F sc_Door_len fun cdv A outer s H E x hr => by
    unfold b_Door_len
    exact (ss_one (s_ret (e_lenQ x (q_new (n_comp x [("deed", 1)] (i_val x (e_fld x 5 (e_var 0) rfl (by show 5 < 6; decide))) bk_Door_len_0 (fun _ _ _ _ _ => (g_name (x.blk _ _ _ _ _) 1)) (fun _ _ _ _ _ => (ts_one (t_eq (x.blk _ _ _ _ _) (e_len (x.blk _ _ _ _ _) (e_var 1)) e_int))) (fun _ _ _ _ _ => (e_var 1)))))))
def b_Door_check_player (c_is_integer : SemF) : Sf :=
  (sIf (tfNot (tfB (eCall c_is_integer (aCons (eVar 1) (aCons (eC (.int 0)) (aCons (eBin subF (eFld 0 (eVar 0)) (eC (.int 1))) aNil)))))) sBad sNil)
abbrev f_Door_check_player (c_is_integer : SemF) : SemF := semOf 2 2 (b_Door_check_player c_is_integer)
theorem ok_Door_check_player {c_is_integer : SemF} (h_is_integer : FnG T.g P w K mg base k T.d_is_integer.a T.d_is_integer.fd ["value", "low", "high"] c_is_integer) : FnG T.g P w K mg base (k + 1) T.d_Door_check_player.a T.d_Door_check_player.fd ["self", "player"] (f_Door_check_player c_is_integer) :=
  fn_g T.gf T.d_Door_check_player.F sc_Door_check_player fun cdv A outer s H E x hr => by
    unfold b_Door_check_player
    exact (ss_one (s_if (t_not (t_val (e_call x h_is_integer hr T.m_is_integer T.d_is_integer.kp T.d_is_integer.B (a_cons (e_var 1) (a_cons e_int (a_cons (e_sub (e_fld x 0 (e_var 0) rfl (by show 0 < 6; decide)) e_int) a_nil)))))) (ss_one s_never) ss_nil))
def b_Door_next (c_Door_check_player : SemF) : Sf :=
  (sSeq (sExpr (eMeth 0 c_Door_check_player (eVar 0) (aCons (eVar 1) aNil))) (sSeq (sIf (tfB (eIsN (eBin ixF (eFld 1 (eVar 0)) (eVar 1)))) (sRet (eC .non)) sNil) (sSeq (sIf (tfB (eIsN (eBin ixF (eFld 2 (eVar 0)) (eVar 1)))) (sRet (eC (.str "level"))) sNil) (sSeq (sIf (tfB (eBin (eqF false) (eBin ixF (eFld 2 (eVar 0)) (eVar 1)) (eC (.int 1)))) (sRet (eIf (tfB (eIsN (eBin ixF (eFld 4 (eVar 0)) (eVar 1)))) (eC (.str "look")) (eC (.str "level")))) sNil) (sRet (eC (.str "ask")))))))
abbrev f_Door_next (c_Door_check_player : SemF) : SemF := semOf 2 2 (b_Door_next c_Door_check_player)
theorem ok_Door_next {c_Door_check_player : SemF} (h_Door_check_player : FnG T.g P w K mg base k T.d_Door_check_player.a T.d_Door_check_player.fd ["self", "player"] c_Door_check_player) : FnG T.g P w K mg base (k + 1) T.d_Door_next.a T.d_Door_next.fd ["self", "player"] (f_Door_next c_Door_check_player) :=
  fn_g T.gf T.d_Door_next.F sc_Door_next fun cdv A outer s H E x hr => by
    unfold b_Door_next
    exact (ss_cons (s_expr (e_meth x 0 (e_var 0) T.mt_Door_check_player h_Door_check_player hr T.d_Door_check_player.B fno_check_player (a_cons (e_var 1) a_nil))) (ss_cons (s_if (t_isN (e_ix x (e_fld x 1 (e_var 0) rfl (by show 1 < 6; decide)) (e_var 1))) (ss_one (s_ret e_non)) ss_nil) (ss_cons (s_if (t_isN (e_ix x (e_fld x 2 (e_var 0) rfl (by show 2 < 6; decide)) (e_var 1))) (ss_one (s_ret (e_globS T.gl_LEVEL))) ss_nil) (ss_cons (s_if (t_eq x (e_ix x (e_fld x 2 (e_var 0) rfl (by show 2 < 6; decide)) (e_var 1)) (e_globI T.gl_IN)) (ss_one (s_ret (e_if (t_isN (e_ix x (e_fld x 4 (e_var 0) rfl (by show 4 < 6; decide)) (e_var 1))) (e_globS T.gl_LOOK) (e_globS T.gl_LEVEL)))) ss_nil) (ss_one (s_ret (e_globS T.gl_ASK)))))))
def b__law_door_next  : Sf :=
  (sSeq (sIf (tfB (eIsN (eBin ixF (eBin dgF (eVar 0) (eC (.str "came"))) (eVar 1)))) (sRet (eC .non)) sNil) (sRet (eBin ixF (eNew (nLst (aCons (eC (.str "level")) (aCons (eC (.str "look")) (aCons (eC (.str "level")) (aCons (eC (.str "ask")) aNil)))))) (eBin ixF (eBin dgF (eVar 0) (eC (.str "stages"))) (eVar 1)))))
abbrev f__law_door_next  : SemF := semOf 2 2 (b__law_door_next )
theorem ok__law_door_next  : FnG T.g P w K mg base (k + 1) T.d__law_door_next.a T.d__law_door_next.fd ["door", "player"] (f__law_door_next ) :=
  fn_g T.gf T.d__law_door_next.F sc__law_door_next fun cdv A outer s H E x hr => by
    unfold b__law_door_next
    exact (ss_cons (s_if (t_isN (e_ix x (e_dg x (e_var 0) e_str) (e_var 1))) (ss_one (s_ret e_non)) ss_nil) (ss_one (s_ret (e_ix x (e_new (n_lst (a_cons e_str (a_cons e_str (a_cons e_str (a_cons e_str a_nil)))))) (e_ix x (e_dg x (e_var 0) e_str) (e_var 1))))))
def b__law_is_door (c_Door_came : SemF) (c_Door_heard : SemF) (c_Door_levels : SemF) (c_Door_len : SemF) (c_Door_next : SemF) (c__law_door_next : SemF) : Sf :=
  (sSeq (sIf (tfB (eBin (eqF true) (eCall reprF (aCons (eTup (aCons (eProp 0 c_Door_levels (eVar 0)) (aCons (eProp 0 c_Door_heard (eVar 0)) (aCons (eProp 0 c_Door_came (eVar 0)) aNil)))) aNil)) (eCall reprF (aCons (eTup (aCons (eCall tupQ (qOf (eBin dgF (eVar 1) (eC (.str "levels"))))) (aCons (eCall tupQ (qOf (eBin dgF (eVar 1) (eC (.str "heard"))))) (aCons (eCall tupQ (qOf (eBin dgF (eVar 1) (eC (.str "came"))))) aNil)))) aNil)))) (sRet (eC (.bl false))) sNil) (sSeq (sSet 2 (eCall lenF (aCons (eBin dgF (eVar 1) (eC (.str "came"))) aNil))) (sRet (eAnd (eBin (eqF false) (eCall (lenOF 0 c_Door_len) (aCons (eVar 0) aNil)) (eBin dgF (eVar 1) (eC (.str "steps")))) (eBin (eqF false) (eNew (nComp [3] (iRange1 (eVar 2)) (gN 3) tfYes (eMeth 0 c_Door_next (eVar 0) (aCons (eVar 3) aNil)))) (eNew (nComp [3] (iRange1 (eVar 2)) (gN 3) tfYes (eCall c__law_door_next (aCons (eVar 1) (aCons (eVar 3) aNil))))))))))
abbrev f__law_is_door (c_Door_came : SemF) (c_Door_heard : SemF) (c_Door_levels : SemF) (c_Door_len : SemF) (c_Door_next : SemF) (c__law_door_next : SemF) : SemF := semOf 4 2 (b__law_is_door c_Door_came c_Door_heard c_Door_levels c_Door_len c_Door_next c__law_door_next)
theorem ok__law_is_door {c_Door_came : SemF} {c_Door_heard : SemF} {c_Door_levels : SemF} {c_Door_len : SemF} {c_Door_next : SemF} {c__law_door_next : SemF} (h_Door_came : FnG T.g P w K mg base k T.d_Door_came.a T.d_Door_came.fd ["self"] c_Door_came) (h_Door_heard : FnG T.g P w K mg base k T.d_Door_heard.a T.d_Door_heard.fd ["self"] c_Door_heard) (h_Door_levels : FnG T.g P w K mg base k T.d_Door_levels.a T.d_Door_levels.fd ["self"] c_Door_levels) (h_Door_len : FnG T.g P w K mg base k T.d_Door_len.a T.d_Door_len.fd ["self"] c_Door_len) (h_Door_next : FnG T.g P w K mg base k T.d_Door_next.a T.d_Door_next.fd ["self", "player"] c_Door_next) (h__law_door_next : FnG T.g P w K mg base k T.d__law_door_next.a T.d__law_door_next.fd ["door", "player"] c__law_door_next) : FnG T.g P w K mg base (k + 2) T.d__law_is_door.a T.d__law_is_door.fd ["door", "own"] (f__law_is_door c_Door_came c_Door_heard c_Door_levels c_Door_len c_Door_next c__law_door_next) :=
  fn_g T.gf T.d__law_is_door.F sc__law_is_door fun cdv A outer s H E x hr => by
    unfold b__law_is_door
    exact (ss_cons (s_if (t_ne x (e_repr x (e_tup (a_cons (e_prop x 0 (e_var 0) T.pr_Door_levels h_Door_levels hr T.d_Door_levels.B) (a_cons (e_prop x 0 (e_var 0) T.pr_Door_heard h_Door_heard hr T.d_Door_heard.B) (a_cons (e_prop x 0 (e_var 0) T.pr_Door_came h_Door_came hr T.d_Door_came.B) a_nil))))) (e_repr x (e_tup (a_cons (e_tuple x (q_of (e_dg x (e_var 1) e_str))) (a_cons (e_tuple x (q_of (e_dg x (e_var 1) e_str))) (a_cons (e_tuple x (q_of (e_dg x (e_var 1) e_str))) a_nil)))))) (ss_one (s_ret e_bl)) ss_nil) (ss_cons (s_set x 2 (e_len x (e_dg x (e_var 1) e_str))) (ss_one (s_ret (e_and (e_eq x (e_lenO x 0 (e_var 0) T.ln_Door h_Door_len hr T.d_Door_len.B) (e_dg x (e_var 1) e_str)) (e_one (e_eq x (e_new (n_comp x [("player", 3)] (i_range1 x (e_var 2)) bk__law_is_door_0 (fun _ _ _ _ _ => (g_name (x.blk _ _ _ _ _) 3)) (fun _ _ _ _ _ => ts_nil) (fun _ _ _ _ _ => (e_meth (x.blk _ _ _ _ _) 0 (e_var 0) T.mt_Door_next h_Door_next (hr.mono (Nat.le_succ _)) T.d_Door_next.B fno_next (a_cons (e_var 3) a_nil))))) (e_new (n_comp x [("player", 3)] (i_range1 x (e_var 2)) bk__law_is_door_1 (fun _ _ _ _ _ => (g_name (x.blk _ _ _ _ _) 3)) (fun _ _ _ _ _ => ts_nil) (fun _ _ _ _ _ => (e_call (x.blk _ _ _ _ _) h__law_door_next (hr.mono (Nat.le_succ _)) T.m__law_door_next T.d__law_door_next.kp T.d__law_door_next.B (a_cons (e_var 1) (a_cons (e_var 3) a_nil)))))))))))))
def b__law_of (c__law_take : SemF) : Sf :=
  (sRet (eBin ixF (eVar 1) (eCall c__law_take (aCons (eVar 0) (aCons (eCall lenF (aCons (eVar 1) aNil)) aNil)))))
abbrev f__law_of (c__law_take : SemF) : SemF := semOf 2 2 (b__law_of c__law_take)
theorem ok__law_of {c__law_take : SemF} (h__law_take : FnG T.g P w K mg base k T.d__law_take.a T.d__law_take.fd ["pot", "upto"] c__law_take) : FnG T.g P w K mg base (k + 1) T.d__law_of.a T.d__law_of.fd ["pot", "some"] (f__law_of c__law_take) :=
  fn_g T.gf T.d__law_of.F sc__law_of fun cdv A outer s H E x hr => by
    unfold b__law_of
    exact (ss_one (s_ret (e_ix x (e_var 1) (e_call x h__law_take hr T.m__law_take T.d__law_take.kp T.d__law_take.B (a_cons (e_var 0) (a_cons (e_len x (e_var 1)) a_nil))))))
def b__law_drawn_value (c__law_take : SemF) (c__law_of : SemF) (c__law_drawn_value : SemF) : Sf :=
  (sSeq (sSet 2 (eCall c__law_take (aCons (eVar 0) (aCons (eIf (tfB (eBin gtF (eVar 1) (eC (.int 0)))) (eC (.int 6)) (eC (.int 4))) aNil)))) (sSeq (sIf (tfB (eBin ltF (eVar 2) (eC (.int 4)))) (sRet (eCall c__law_of (aCons (eVar 0) (aCons (eNew (nLst (aCons (eC .non) (aCons (eC (.int 0)) (aCons (eC (.int 1)) (aCons (eC (.int 7)) (aCons (eNeg (eC (.int 9999))) (aCons (eC (.int 9999)) (aCons (eC (.int 42)) (aCons (eC (.int 7)) aNil)))))))))) aNil)))) sNil) (sRet (eCall tupQ (nComp [3] (iRange1 (eCall c__law_take (aCons (eVar 0) (aCons (eC (.int 4)) aNil)))) (gN 3) tfYes (eCall c__law_drawn_value (aCons (eVar 0) (aCons (eBin subF (eVar 1) (eC (.int 1))) aNil))))))))
abbrev f__law_drawn_value (c__law_take : SemF) (c__law_of : SemF) (c__law_drawn_value : SemF) : SemF := semOf 4 2 (b__law_drawn_value c__law_take c__law_of c__law_drawn_value)
theorem ok__law_drawn_value {c__law_take : SemF} {c__law_of : SemF} {c__law_drawn_value : SemF} (h__law_take : FnG T.g P w K mg base k T.d__law_take.a T.d__law_take.fd ["pot", "upto"] c__law_take) (h__law_of : FnG T.g P w K mg base k T.d__law_of.a T.d__law_of.fd ["pot", "some"] c__law_of) (h__law_drawn_value : FnG T.g P w K mg base k T.d__law_drawn_value.a T.d__law_drawn_value.fd ["pot", "deep"] c__law_drawn_value) : FnG T.g P w K mg base (k + 1) T.d__law_drawn_value.a T.d__law_drawn_value.fd ["pot", "deep"] (f__law_drawn_value c__law_take c__law_of c__law_drawn_value) :=
  fn_g T.gf T.d__law_drawn_value.F sc__law_drawn_value fun cdv A outer s H E x hr => by
    unfold b__law_drawn_value
    exact (ss_cons (s_set x 2 (e_call x h__law_take hr T.m__law_take T.d__law_take.kp T.d__law_take.B (a_cons (e_var 0) (a_cons (e_if (t_gt (e_var 1) e_int) e_int e_int) a_nil)))) (ss_cons (s_if (t_lt (e_var 2) e_int) (ss_one (s_ret (e_call x h__law_of hr T.m__law_of T.d__law_of.kp T.d__law_of.B (a_cons (e_var 0) (a_cons (e_new (n_lst (a_cons e_non (a_cons e_int (a_cons e_int (a_cons e_int (a_cons (e_neg e_int) (a_cons e_int (a_cons e_int (a_cons e_int a_nil)))))))))) a_nil))))) ss_nil) (ss_one (s_ret (e_tuple x (q_new (n_comp x [("lap", 3)] (i_range1 x (e_call x h__law_take hr T.m__law_take T.d__law_take.kp T.d__law_take.B (a_cons (e_var 0) (a_cons e_int a_nil)))) bk__law_drawn_value_0 (fun _ _ _ _ _ => (g_name (x.blk _ _ _ _ _) 3)) (fun _ _ _ _ _ => ts_nil) (fun _ _ _ _ _ => (e_call (x.blk _ _ _ _ _) h__law_drawn_value hr T.m__law_drawn_value T.d__law_drawn_value.kp T.d__law_drawn_value.B (a_cons (e_var 0) (a_cons (e_sub (e_var 1) e_int) a_nil)))))))))))
def b__law_drawn_deed (c__law_take : SemF) (c__law_drawn_value : SemF) : Sf :=
  (sSeq (sSet 2 (eCall c__law_take (aCons (eVar 0) (aCons (eCall lenF (aCons (eBin dgF (eVar 1) (eC (.str "came"))) aNil)) aNil)))) (sSeq (sIf (tfB (eIsN (eBin ixF (eBin dgF (eVar 1) (eC (.str "came"))) (eVar 2)))) (sRet (eTup (aCons (eVar 2) (aCons (eTup (aCons (eCall c__law_drawn_value (aCons (eVar 0) (aCons (eC (.int 2)) aNil))) aNil)) aNil)))) sNil) (sRet (eTup (aCons (eVar 2) (aCons (eC .non) aNil))))))
abbrev f__law_drawn_deed (c__law_take : SemF) (c__law_drawn_value : SemF) : SemF := semOf 3 2 (b__law_drawn_deed c__law_take c__law_drawn_value)
theorem ok__law_drawn_deed {c__law_take : SemF} {c__law_drawn_value : SemF} (h__law_take : FnG T.g P w K mg base k T.d__law_take.a T.d__law_take.fd ["pot", "upto"] c__law_take) (h__law_drawn_value : FnG T.g P w K mg base k T.d__law_drawn_value.a T.d__law_drawn_value.fd ["pot", "deep"] c__law_drawn_value) : FnG T.g P w K mg base (k + 1) T.d__law_drawn_deed.a T.d__law_drawn_deed.fd ["pot", "own"] (f__law_drawn_deed c__law_take c__law_drawn_value) :=
  fn_g T.gf T.d__law_drawn_deed.F sc__law_drawn_deed fun cdv A outer s H E x hr => by
    unfold b__law_drawn_deed
    exact (ss_cons (s_set x 2 (e_call x h__law_take hr T.m__law_take T.d__law_take.kp T.d__law_take.B (a_cons (e_var 0) (a_cons (e_len x (e_dg x (e_var 1) e_str)) a_nil)))) (ss_cons (s_if (t_isN (e_ix x (e_dg x (e_var 1) e_str) (e_var 2))) (ss_one (s_ret (e_tup (a_cons (e_var 2) (a_cons (e_tup (a_cons (e_call x h__law_drawn_value hr T.m__law_drawn_value T.d__law_drawn_value.kp T.d__law_drawn_value.B (a_cons (e_var 0) (a_cons e_int a_nil))) a_nil)) a_nil))))) ss_nil) (ss_one (s_ret (e_tup (a_cons (e_var 2) (a_cons e_non a_nil)))))))
def b__law_door_come  : Sf :=
  (sAsg (eTup (aCons (eVar 2) aNil)) (gS (eBin dgF (eVar 0) (eC (.str "came"))) (eVar 1)))
abbrev f__law_door_come  : SemF := semOf 3 3 (b__law_door_come )
theorem ok__law_door_come  : FnG T.g P w K mg base (k + 1) T.d__law_door_come.a T.d__law_door_come.fd ["door", "player", "value"] (f__law_door_come ) :=
  fn_g T.gf T.d__law_door_come.F sc__law_door_come fun cdv A outer s H E x hr => by
    unfold b__law_door_come
    exact (ss_one (s_asg (e_tup (a_cons (e_var 2) a_nil)) (g_sub (e_dg x (e_var 0) e_str) (e_var 1))))
def b_is_tuple  : Sf :=
  (sRet (eAnd (eIsi "tuple" (eVar 0)) (eChain leF leF (eVar 1) (eCall lenF (aCons (eVar 0) aNil)) (eVar 2))))
abbrev f_is_tuple  : SemF := semOf 3 3 (b_is_tuple )
theorem ok_is_tuple  : FnG T.g P w K mg base (k + 1) T.d_is_tuple.a T.d_is_tuple.fd ["value", "least", "most"] (f_is_tuple ) :=
  fn_g T.gf T.d_is_tuple.F sc_is_tuple fun cdv A outer s H E x hr => by
    unfold b_is_tuple
    exact (ss_one (s_ret (e_and (e_isi x "tuple" (e_var 0)) (e_one (e_lele (e_var 1) (e_len x (e_var 0)) (e_var 2))))))
def b_is_near_value (c_is_integer : SemF) (c_is_tuple : SemF) (c_is_near_value : SemF) : Sf :=
  (sSeq (sIf (tfOr (tfB (eIsN (eVar 0))) (tfB (eCall c_is_integer (aCons (eVar 0) (aCons (eNeg (eC (.int 9999))) (aCons (eC (.int 9999)) aNil)))))) (sRet (eC (.bl true))) sNil) (sRet (eAnd (eBin gtF (eVar 1) (eC (.int 0))) (eAnd (eCall c_is_tuple (aCons (eVar 0) (aCons (eC (.int 0)) (aCons (eC (.int 60)) aNil)))) (eCall allQ (nComp [2] (iVal (eVar 0)) (gN 2) tfYes (eCall c_is_near_value (aCons (eVar 2) (aCons (eBin subF (eVar 1) (eC (.int 1))) aNil)))))))))
abbrev f_is_near_value (c_is_integer : SemF) (c_is_tuple : SemF) (c_is_near_value : SemF) : SemF := semOf 3 2 (b_is_near_value c_is_integer c_is_tuple c_is_near_value)
theorem ok_is_near_value {c_is_integer : SemF} {c_is_tuple : SemF} {c_is_near_value : SemF} (h_is_integer : FnG T.g P w K mg base k T.d_is_integer.a T.d_is_integer.fd ["value", "low", "high"] c_is_integer) (h_is_tuple : FnG T.g P w K mg base k T.d_is_tuple.a T.d_is_tuple.fd ["value", "least", "most"] c_is_tuple) (h_is_near_value : FnG T.g P w K mg base k T.d_is_near_value.a T.d_is_near_value.fd ["value", "deep"] c_is_near_value) : FnG T.g P w K mg base (k + 1) T.d_is_near_value.a T.d_is_near_value.fd ["value", "deep"] (f_is_near_value c_is_integer c_is_tuple c_is_near_value) :=
  fn_g T.gf T.d_is_near_value.F sc_is_near_value fun cdv A outer s H E x hr => by
    unfold b_is_near_value
    exact (ss_cons (s_if (t_w (w_or (t_isN (e_var 0)) (w_or1 (t_val (e_call x h_is_integer hr T.m_is_integer T.d_is_integer.kp T.d_is_integer.B (a_cons (e_var 0) (a_cons (e_neg (e_globI T.gl_MOST_NUMBER)) (a_cons (e_globI T.gl_MOST_NUMBER) a_nil)))))))) (ss_one (s_ret e_bl)) ss_nil) (ss_one (s_ret (e_and (e_gt (e_var 1) e_int) (e_and (e_call x h_is_tuple hr T.m_is_tuple T.d_is_tuple.kp T.d_is_tuple.B (a_cons (e_var 0) (a_cons e_int (a_cons (e_globI T.gl_MOST_THINGS) a_nil)))) (e_one (e_all x (l_new (n_comp x [("one", 2)] (i_val x (e_var 0)) bk_is_near_value_0 (fun _ _ _ _ _ => (g_name (x.blk _ _ _ _ _) 2)) (fun _ _ _ _ _ => ts_nil) (fun _ _ _ _ _ => (e_call (x.blk _ _ _ _ _) h_is_near_value hr T.m_is_near_value T.d_is_near_value.kp T.d_is_near_value.B (a_cons (e_var 2) (a_cons (e_sub (e_var 1) e_int) a_nil)))))))))))))
def b_is_value (c_is_near_value : SemF) : Sf :=
  (sRet (eCall c_is_near_value (aCons (eVar 0) (aCons (eC (.int 12)) aNil))))
abbrev f_is_value (c_is_near_value : SemF) : SemF := semOf 1 1 (b_is_value c_is_near_value)
theorem ok_is_value {c_is_near_value : SemF} (h_is_near_value : FnG T.g P w K mg base k T.d_is_near_value.a T.d_is_near_value.fd ["value", "deep"] c_is_near_value) : FnG T.g P w K mg base (k + 1) T.d_is_value.a T.d_is_value.fd ["value"] (f_is_value c_is_near_value) :=
  fn_g T.gf T.d_is_value.F sc_is_value fun cdv A outer s H E x hr => by
    unfold b_is_value
    exact (ss_one (s_ret (e_call x h_is_near_value hr T.m_is_near_value T.d_is_near_value.kp T.d_is_near_value.B (a_cons (e_var 0) (a_cons (e_globI T.gl_MOST_DEEP) a_nil)))))
def b_Door_come (c_Door_check_player : SemF) (c_is_value : SemF) : Sf :=
  (sSeq (sExpr (eMeth 0 c_Door_check_player (eVar 0) (aCons (eVar 1) aNil))) (sSeq (sIf (tfNot (tfB (eCall c_is_value (aCons (eVar 2) aNil)))) sBad sNil) (sSeq (sIf (tfB (eNotN (eBin ixF (eFld 1 (eVar 0)) (eVar 1)))) sBad sNil) (sSeq (sAsg (eTup (aCons (eVar 2) aNil)) (gS (eFld 1 (eVar 0)) (eVar 1))) (sExpr (eBM appF (eFld 5 (eVar 0)) (aCons (eTup (aCons (eVar 1) (aCons (eC (.str "come")) (aCons (eVar 2) aNil)))) aNil)))))))
abbrev f_Door_come (c_Door_check_player : SemF) (c_is_value : SemF) : SemF := semOf 3 3 (b_Door_come c_Door_check_player c_is_value)
theorem ok_Door_come {c_Door_check_player : SemF} {c_is_value : SemF} (h_Door_check_player : FnG T.g P w K mg base k T.d_Door_check_player.a T.d_Door_check_player.fd ["self", "player"] c_Door_check_player) (h_is_value : FnG T.g P w K mg base k T.d_is_value.a T.d_is_value.fd ["value"] c_is_value) : FnG T.g P w K mg base (k + 1) T.d_Door_come.a T.d_Door_come.fd ["self", "player", "value"] (f_Door_come c_Door_check_player c_is_value) :=
  fn_g T.gf T.d_Door_come.F sc_Door_come fun cdv A outer s H E x hr => by
    unfold b_Door_come
    exact (ss_cons (s_expr (e_meth x 0 (e_var 0) T.mt_Door_check_player h_Door_check_player hr T.d_Door_check_player.B fno_check_player (a_cons (e_var 1) a_nil))) (ss_cons (s_if (t_not (t_val (e_call x h_is_value hr T.m_is_value T.d_is_value.kp T.d_is_value.B (a_cons (e_var 2) a_nil)))) (ss_one s_never) ss_nil) (ss_cons (s_if (t_notN (e_ix x (e_fld x 1 (e_var 0) rfl (by show 1 < 6; decide)) (e_var 1))) (ss_one s_never) ss_nil) (ss_cons (s_asg (e_tup (a_cons (e_var 2) a_nil)) (g_sub (e_fld x 1 (e_var 0) rfl (by show 1 < 6; decide)) (e_var 1))) (ss_one (s_expr (e_app x (e_fld x 5 (e_var 0) rfl (by show 5 < 6; decide)) (e_tup (a_cons (e_var 1) (a_cons (e_globS T.gl_COME) (a_cons (e_var 2) a_nil)))))))))))
def b_Door_show  : Sf :=
  (sSeq (sSet 2 (eC (.int 1))) (sSeq (sIf (tfB (eBin (eqF false) (eBin ixF (eFld 2 (eVar 0)) (eVar 1)) (eC (.int 1)))) (sSet 2 (eIf (tfB (eBin ixF (eFld 4 (eVar 0)) (eVar 1))) (eC (.int 0)) (eC (.int 2)))) sNil) (sSeq (sAsg (eVar 2) (gS (eFld 2 (eVar 0)) (eVar 1))) (sRet (eTup (aCons (eC (.str "level")) (aCons (eVar 2) aNil)))))))
abbrev f_Door_show  : SemF := semOf 3 2 (b_Door_show )
theorem ok_Door_show  : FnG T.g P w K mg base (k + 1) T.d_Door_show.a T.d_Door_show.fd ["self", "player"] (f_Door_show ) :=
  fn_g T.gf T.d_Door_show.F sc_Door_show fun cdv A outer s H E x hr => by
    unfold b_Door_show
    exact (ss_cons (s_set x 2 (e_globI T.gl_IN)) (ss_cons (s_if (t_eq x (e_ix x (e_fld x 2 (e_var 0) rfl (by show 2 < 6; decide)) (e_var 1)) (e_globI T.gl_IN)) (ss_one (s_set x 2 (e_if (t_val (e_ix x (e_fld x 4 (e_var 0) rfl (by show 4 < 6; decide)) (e_var 1))) (e_globI T.gl_OUT) (e_globI T.gl_SETTLED)))) ss_nil) (ss_cons (s_asg (e_var 2) (g_sub (e_fld x 2 (e_var 0) rfl (by show 2 < 6; decide)) (e_var 1))) (ss_one (s_ret (e_tup (a_cons (e_globS T.gl_LEVEL) (a_cons (e_var 2) a_nil))))))))
def b_Door_ask  : Sf :=
  (sSeq (sIf (tfB (eIn false (eC (.int 1)) (qOf (eFld 2 (eVar 0))))) (sRet (eTup (aCons (eC (.str "wait")) aNil))) sNil) (sSeq (sAsg (eBin ixF (eFld 1 (eVar 0)) (eBM indexF (eFld 2 (eVar 0)) (aCons (eC (.int 2)) aNil))) (gS (eFld 3 (eVar 0)) (eVar 1))) (sRet (eTup (aCons (eC (.str "word")) (aStar (qOf (eBin ixF (eFld 3 (eVar 0)) (eVar 1))) aNil))))))
abbrev f_Door_ask  : SemF := semOf 2 2 (b_Door_ask )
theorem ok_Door_ask  : FnG T.g P w K mg base (k + 1) T.d_Door_ask.a T.d_Door_ask.fd ["self", "player"] (f_Door_ask ) :=
  fn_g T.gf T.d_Door_ask.F sc_Door_ask fun cdv A outer s H E x hr => by
    unfold b_Door_ask
    exact (ss_cons (s_if (t_in x (e_globI T.gl_IN) (q_of (e_fld x 2 (e_var 0) rfl (by show 2 < 6; decide)))) (ss_one (s_ret (e_tup (a_cons (e_globS T.gl_WAIT) a_nil)))) ss_nil) (ss_cons (s_asg (e_ix x (e_fld x 1 (e_var 0) rfl (by show 1 < 6; decide)) (e_index x (e_fld x 2 (e_var 0) rfl (by show 2 < 6; decide)) (e_globI T.gl_SETTLED))) (g_sub (e_fld x 3 (e_var 0) rfl (by show 3 < 6; decide)) (e_var 1))) (ss_one (s_ret (e_tup (a_cons (e_globS T.gl_WORD) (a_star x (q_of (e_ix x (e_fld x 3 (e_var 0) rfl (by show 3 < 6; decide)) (e_var 1))) a_nil)))))))
def b_Door_step (c_Door_next : SemF) (c_Door_levels : SemF) (c_Door_show : SemF) (c_Door_ask : SemF) : Sf :=
  (sSeq (sSet 2 (eMeth 0 c_Door_next (eVar 0) (aCons (eVar 1) aNil))) (sSeq (sIf (tfB (eIsN (eVar 2))) sBad sNil) (sSeq (sExpr (eBM appF (eFld 5 (eVar 0)) (aCons (eTup (aCons (eVar 1) aNil)) aNil))) (sSeq (sIf (tfB (eBin (eqF false) (eVar 2) (eC (.str "look")))) (sSeq (sAsg (eIn false (eC (.int 2)) (qOf (eFld 2 (eVar 0)))) (gS (eFld 4 (eVar 0)) (eVar 1))) (sRet (eTup (aCons (eC (.str "look")) (aCons (eProp 0 c_Door_levels (eVar 0)) aNil))))) sNil) (sRet (eIf (tfB (eBin (eqF false) (eVar 2) (eC (.str "level")))) (eMeth 0 c_Door_show (eVar 0) (aCons (eVar 1) aNil)) (eMeth 0 c_Door_ask (eVar 0) (aCons (eVar 1) aNil))))))))
abbrev f_Door_step (c_Door_next : SemF) (c_Door_levels : SemF) (c_Door_show : SemF) (c_Door_ask : SemF) : SemF := semOf 3 2 (b_Door_step c_Door_next c_Door_levels c_Door_show c_Door_ask)
theorem ok_Door_step {c_Door_next : SemF} {c_Door_levels : SemF} {c_Door_show : SemF} {c_Door_ask : SemF} (h_Door_next : FnG T.g P w K mg base k T.d_Door_next.a T.d_Door_next.fd ["self", "player"] c_Door_next) (h_Door_levels : FnG T.g P w K mg base k T.d_Door_levels.a T.d_Door_levels.fd ["self"] c_Door_levels) (h_Door_show : FnG T.g P w K mg base k T.d_Door_show.a T.d_Door_show.fd ["self", "player"] c_Door_show) (h_Door_ask : FnG T.g P w K mg base k T.d_Door_ask.a T.d_Door_ask.fd ["self", "player"] c_Door_ask) : FnG T.g P w K mg base (k + 2) T.d_Door_step.a T.d_Door_step.fd ["self", "player"] (f_Door_step c_Door_next c_Door_levels c_Door_show c_Door_ask) :=
  fn_g T.gf T.d_Door_step.F sc_Door_step fun cdv A outer s H E x hr => by
    unfold b_Door_step
    exact (ss_cons (s_set x 2 (e_meth x 0 (e_var 0) T.mt_Door_next h_Door_next (hr.mono (Nat.le_succ _)) T.d_Door_next.B fno_next (a_cons (e_var 1) a_nil))) (ss_cons (s_if (t_isN (e_var 2)) (ss_one s_never) ss_nil) (ss_cons (s_expr (e_app x (e_fld x 5 (e_var 0) rfl (by show 5 < 6; decide)) (e_tup (a_cons (e_var 1) a_nil)))) (ss_cons (s_if (t_eq x (e_var 2) (e_globS T.gl_LOOK)) (ss_cons (s_asg (e_in x (e_globI T.gl_SETTLED) (q_of (e_fld x 2 (e_var 0) rfl (by show 2 < 6; decide)))) (g_sub (e_fld x 4 (e_var 0) rfl (by show 4 < 6; decide)) (e_var 1))) (ss_one (s_ret (e_tup (a_cons (e_globS T.gl_LOOK) (a_cons (e_prop x 0 (e_var 0) T.pr_Door_levels h_Door_levels hr T.d_Door_levels.B) a_nil)))))) ss_nil) (ss_one (s_ret (e_if (t_eq x (e_var 2) (e_globS T.gl_LEVEL)) (e_meth x 0 (e_var 0) T.mt_Door_show h_Door_show (hr.mono (Nat.le_succ _)) T.d_Door_show.B fno_show (a_cons (e_var 1) a_nil)) (e_meth x 0 (e_var 0) T.mt_Door_ask h_Door_ask (hr.mono (Nat.le_succ _)) T.d_Door_ask.B fno_ask (a_cons (e_var 1) a_nil)))))))))
def b__law_door_step  : Sf :=
  (sSeq (sSet 2 (eBin ixF (eBin dgF (eVar 0) (eC (.str "stages"))) (eVar 1))) (sSeq (sAsg (eM (mBin addM (eBin dgF (eVar 0) (eC (.str "steps"))) (eC (.int 1)))) (gD (eVar 0) (eC (.str "steps")))) (sSeq (sAsg (eCall min2F (aCons (eC (.int 3)) (aCons (eM (mBin addM (eVar 2) (eC (.int 1)))) aNil))) (gS (eBin dgF (eVar 0) (eC (.str "stages"))) (eVar 1))) (sSeq (sIf (tfB (eBin (eqF false) (eVar 2) (eC (.int 0)))) (sSeq (sAsg (eC (.int 1)) (gS (eBin dgF (eVar 0) (eC (.str "levels"))) (eVar 1))) (sRet (eTup (aCons (eC (.str "level")) (aCons (eC (.int 1)) aNil))))) sNil) (sSeq (sIf (tfB (eBin (eqF false) (eVar 2) (eC (.int 1)))) (sSeq (sAsg (eIn true (eC (.int 2)) (qOf (eBin dgF (eVar 0) (eC (.str "levels"))))) (gS (eBin dgF (eVar 0) (eC (.str "won"))) (eVar 1))) (sRet (eTup (aCons (eC (.str "look")) (aCons (eCall tupQ (qOf (eBin dgF (eVar 0) (eC (.str "levels"))))) aNil))))) sNil) (sSeq (sIf (tfB (eBin (eqF false) (eVar 2) (eC (.int 2)))) (sSeq (sAsg (eIf (tfB (eBin ixF (eBin dgF (eVar 0) (eC (.str "won"))) (eVar 1))) (eC (.int 2)) (eC (.int 0))) (gS (eBin dgF (eVar 0) (eC (.str "levels"))) (eVar 1))) (sRet (eTup (aCons (eC (.str "level")) (aCons (eBin ixF (eBin dgF (eVar 0) (eC (.str "levels"))) (eVar 1)) aNil))))) sNil) (sSeq (sIf (tfB (eIn false (eC (.int 1)) (qOf (eBin dgF (eVar 0) (eC (.str "levels")))))) (sRet (eTup (aCons (eC (.str "wait")) aNil))) sNil) (sSeq (sAsg (eBin ixF (eBin dgF (eVar 0) (eC (.str "came"))) (eBM indexF (eBin dgF (eVar 0) (eC (.str "levels"))) (aCons (eC (.int 2)) aNil))) (gS (eBin dgF (eVar 0) (eC (.str "heard"))) (eVar 1))) (sRet (eM (mBin addM (eTup (aCons (eC (.str "word")) aNil)) (eBin ixF (eBin dgF (eVar 0) (eC (.str "heard"))) (eVar 1)))))))))))))
abbrev f__law_door_step  : SemF := semOf 3 2 (b__law_door_step )
theorem ok__law_door_step  : FnG T.g P w K mg base (k + 1) T.d__law_door_step.a T.d__law_door_step.fd ["door", "player"] (f__law_door_step ) :=
  fn_g T.gf T.d__law_door_step.F sc__law_door_step fun cdv A outer s H E x hr => by
    unfold b__law_door_step
    exact (ss_cons (s_set x 2 (e_ix x (e_dg x (e_var 0) e_str) (e_var 1))) (ss_cons (s_asg (e_m (m_add x (e_dg x (e_var 0) e_str) e_int)) (g_dsub x (e_var 0) e_str)) (ss_cons (s_asg (e_min2 x (a_cons e_int (a_cons (e_m (m_add x (e_var 2) e_int)) a_nil))) (g_sub (e_dg x (e_var 0) e_str) (e_var 1))) (ss_cons (s_if (t_eq x (e_var 2) e_int) (ss_cons (s_asg e_int (g_sub (e_dg x (e_var 0) e_str) (e_var 1))) (ss_one (s_ret (e_tup (a_cons e_str (a_cons e_int a_nil)))))) ss_nil) (ss_cons (s_if (t_eq x (e_var 2) e_int) (ss_cons (s_asg (e_notIn x e_int (q_of (e_dg x (e_var 0) e_str))) (g_sub (e_dg x (e_var 0) e_str) (e_var 1))) (ss_one (s_ret (e_tup (a_cons e_str (a_cons (e_tuple x (q_of (e_dg x (e_var 0) e_str))) a_nil)))))) ss_nil) (ss_cons (s_if (t_eq x (e_var 2) e_int) (ss_cons (s_asg (e_if (t_val (e_ix x (e_dg x (e_var 0) e_str) (e_var 1))) e_int e_int) (g_sub (e_dg x (e_var 0) e_str) (e_var 1))) (ss_one (s_ret (e_tup (a_cons e_str (a_cons (e_ix x (e_dg x (e_var 0) e_str) (e_var 1)) a_nil)))))) ss_nil) (ss_cons (s_if (t_in x e_int (q_of (e_dg x (e_var 0) e_str))) (ss_one (s_ret (e_tup (a_cons e_str a_nil)))) ss_nil) (ss_cons (s_asg (e_ix x (e_dg x (e_var 0) e_str) (e_index x (e_dg x (e_var 0) e_str) e_int)) (g_sub (e_dg x (e_var 0) e_str) (e_var 1))) (ss_one (s_ret (e_m (m_add x (e_tup (a_cons e_str a_nil)) (e_ix x (e_dg x (e_var 0) e_str) (e_var 1))))))))))))))
def b__law_deed (c__law_drawn_deed : SemF) (c__law_door_come : SemF) (c_Door_come : SemF) (c_Door_step : SemF) (c__law_door_step : SemF) : Sf :=
  (sSeq (sAsg (eCall c__law_drawn_deed (aCons (eVar 0) (aCons (eVar 2) aNil))) (gT 2 (gsCons (gN 4) (gsCons (gN 5) gsNil)))) (sSeq (sExpr (eBM appF (eVar 3) (aCons (eTup (aCons (eVar 4) (aCons (eVar 5) aNil))) aNil))) (sSeq (sIf (tfB (eNotN (eVar 5))) (sSeq (sExpr (eCall c__law_door_come (aCons (eVar 2) (aCons (eVar 4) (aCons (eBin ixF (eVar 5) (eC (.int 0))) aNil))))) (sRet (eIsN (eMeth 0 c_Door_come (eVar 1) (aCons (eVar 4) (aCons (eBin ixF (eVar 5) (eC (.int 0))) aNil)))))) sNil) (sRet (eBin (eqF false) (eCall reprF (aCons (eMeth 0 c_Door_step (eVar 1) (aCons (eVar 4) aNil)) aNil)) (eCall reprF (aCons (eCall c__law_door_step (aCons (eVar 2) (aCons (eVar 4) aNil))) aNil)))))))
abbrev f__law_deed (c__law_drawn_deed : SemF) (c__law_door_come : SemF) (c_Door_come : SemF) (c_Door_step : SemF) (c__law_door_step : SemF) : SemF := semOf 6 4 (b__law_deed c__law_drawn_deed c__law_door_come c_Door_come c_Door_step c__law_door_step)
theorem ok__law_deed {c__law_drawn_deed : SemF} {c__law_door_come : SemF} {c_Door_come : SemF} {c_Door_step : SemF} {c__law_door_step : SemF} (h__law_drawn_deed : FnG T.g P w K mg base k T.d__law_drawn_deed.a T.d__law_drawn_deed.fd ["pot", "own"] c__law_drawn_deed) (h__law_door_come : FnG T.g P w K mg base k T.d__law_door_come.a T.d__law_door_come.fd ["door", "player", "value"] c__law_door_come) (h_Door_come : FnG T.g P w K mg base k T.d_Door_come.a T.d_Door_come.fd ["self", "player", "value"] c_Door_come) (h_Door_step : FnG T.g P w K mg base k T.d_Door_step.a T.d_Door_step.fd ["self", "player"] c_Door_step) (h__law_door_step : FnG T.g P w K mg base k T.d__law_door_step.a T.d__law_door_step.fd ["door", "player"] c__law_door_step) : FnG T.g P w K mg base (k + 1) T.d__law_deed.a T.d__law_deed.fd ["pot", "door", "own", "done"] (f__law_deed c__law_drawn_deed c__law_door_come c_Door_come c_Door_step c__law_door_step) :=
  fn_g T.gf T.d__law_deed.F sc__law_deed fun cdv A outer s H E x hr => by
    unfold b__law_deed
    exact (ss_cons (s_asg (e_call x h__law_drawn_deed hr T.m__law_drawn_deed T.d__law_drawn_deed.kp T.d__law_drawn_deed.B (a_cons (e_var 0) (a_cons (e_var 2) a_nil))) (g_tup x (gs_cons (g_name x 4) (gs_cons (g_name x 5) gs_nil)))) (ss_cons (s_expr (e_app x (e_var 3) (e_tup (a_cons (e_var 4) (a_cons (e_var 5) a_nil))))) (ss_cons (s_if (t_notN (e_var 5)) (ss_cons (s_expr (e_call x h__law_door_come hr T.m__law_door_come T.d__law_door_come.kp T.d__law_door_come.B (a_cons (e_var 2) (a_cons (e_var 4) (a_cons (e_ix x (e_var 5) e_int) a_nil))))) (ss_one (s_ret (e_isN (e_meth x 0 (e_var 1) T.mt_Door_come h_Door_come hr T.d_Door_come.B fno_come (a_cons (e_var 4) (a_cons (e_ix x (e_var 5) e_int) a_nil))))))) ss_nil) (ss_one (s_ret (e_eq x (e_repr x (e_meth x 0 (e_var 1) T.mt_Door_step h_Door_step hr T.d_Door_step.B fno_step (a_cons (e_var 4) a_nil))) (e_repr x (e_call x h__law_door_step hr T.m__law_door_step T.d__law_door_step.kp T.d__law_door_step.B (a_cons (e_var 2) (a_cons (e_var 4) a_nil))))))))))
def b__law_door_copy  : Sf :=
  (sRet (eDCopy 1 "steps" (eVar 0)))
abbrev f__law_door_copy  : SemF := semOf 2 1 (b__law_door_copy )
theorem ok__law_door_copy  : FnG T.g P w K mg base (k + 1) T.d__law_door_copy.a T.d__law_door_copy.fd ["door"] (f__law_door_copy ) :=
  fn_g T.gf T.d__law_door_copy.F sc__law_door_copy fun cdv A outer s H E x hr => by
    unfold b__law_door_copy
    exact (ss_one (s_ret (e_dcopy x (ik := 1) (i := 0) (by decide) (pe_var rfl (by first | exact Or.inl rfl | exact Or.inr (Or.inl rfl) | exact Or.inr (Or.inr rfl))) bk__law_door_copy_0 (fun _ _ _ _ _ => pg_name (XG.nd (x.blk _ _ _ _ _)) rfl (by first | exact Or.inl rfl | exact Or.inr rfl)) (fun _ _ _ _ _ _ => pe_var rfl (by first | exact Or.inl rfl | exact Or.inr (Or.inl rfl) | exact Or.inr (Or.inr rfl))) (fun _ _ _ _ _ _ => pe_var rfl (by first | exact Or.inl rfl | exact Or.inr (Or.inl rfl) | exact Or.inr (Or.inr rfl))) (fun _ _ _ _ _ => rfl))))
def b_Door_copy (c_Door_init : SemF) (c_Door_step : SemF) (c_Door_come : SemF) : Sf :=
  (sSeq (sSet 1 (eCall (mkF 0 c_Door_init) (aCons (eFld 0 (eVar 0)) aNil))) (sSeq (sFor (iVal (eFld 5 (eVar 0))) (gN 2) (sIf (tfB (eBin (eqF false) (eCall lenF (aCons (eVar 2) aNil)) (eC (.int 1)))) (sExpr (eMeth 0 c_Door_step (eVar 1) (aCons (eBin ixF (eVar 2) (eC (.int 0))) aNil))) (sExpr (eMeth 0 c_Door_come (eVar 1) (aCons (eBin ixF (eVar 2) (eC (.int 0))) (aCons (eBin ixF (eVar 2) (eNeg (eC (.int 1)))) aNil)))))) (sRet (eVar 1))))
abbrev f_Door_copy (c_Door_init : SemF) (c_Door_step : SemF) (c_Door_come : SemF) : SemF := semOf 3 1 (b_Door_copy c_Door_init c_Door_step c_Door_come)
theorem ok_Door_copy {c_Door_init : SemF} {c_Door_step : SemF} {c_Door_come : SemF} (h_Door_init : FnG T.g P w K mg base k T.d_Door_init.a T.d_Door_init.fd ["self", "many"] c_Door_init) (h_Door_step : FnG T.g P w K mg base k T.d_Door_step.a T.d_Door_step.fd ["self", "player"] c_Door_step) (h_Door_come : FnG T.g P w K mg base k T.d_Door_come.a T.d_Door_come.fd ["self", "player", "value"] c_Door_come) : FnG T.g P w K mg base (k + 2) T.d_Door_copy.a T.d_Door_copy.fd ["self"] (f_Door_copy c_Door_init c_Door_step c_Door_come) :=
  fn_g T.gf T.d_Door_copy.F sc_Door_copy fun cdv A outer s H E x hr => by
    unfold b_Door_copy
    exact (ss_cons (s_set x 1 (e_make x 0 (by show 0 < 1; decide) rfl T.mk_Door h_Door_init hr T.mC_Door T.d_Door_init.B (a_cons (e_fld x 0 (e_var 0) rfl (by show 0 < 6; decide)) a_nil))) (ss_cons (s_for x (i_val x (e_fld x 5 (e_var 0) rfl (by show 5 < 6; decide))) (g_name x 2) (ss_one (s_if (t_eq x (e_len x (e_var 2)) e_int) (ss_one (s_expr (e_meth x 0 (e_var 1) T.mt_Door_step h_Door_step (hr.mono (Nat.le_succ _)) T.d_Door_step.B fno_step (a_cons (e_ix x (e_var 2) e_int) a_nil)))) (ss_one (s_expr (e_meth x 0 (e_var 1) T.mt_Door_come h_Door_come (hr.mono (Nat.le_succ _)) T.d_Door_come.B fno_come (a_cons (e_ix x (e_var 2) e_int) (a_cons (e_ix x (e_var 2) (e_neg e_int)) a_nil)))))))) (ss_one (s_ret (e_var 1)))))
def b_Door_eq  : Sf :=
  (sSeq (sIf (tfOr (tfNot (tfB (eIsO (fun c => decide (c = 0)) (eVar 1)))) (tfB (eBin (eqF true) (eFld 0 (eVar 0)) (eFld 0 (eVar 1))))) (sRet (eC (.bl false))) sNil) (sRet (eBin (eqF false) (eCall reprF (aCons (eFld 5 (eVar 0)) aNil)) (eCall reprF (aCons (eFld 5 (eVar 1)) aNil)))))
abbrev f_Door_eq  : SemF := semOf 2 2 (b_Door_eq )
theorem ok_Door_eq  : FnG T.g P w K mg base (k + 1) T.d_Door_eq.a T.d_Door_eq.fd ["self", "other"] (f_Door_eq ) :=
  fn_g T.gf T.d_Door_eq.F sc_Door_eq fun cdv A outer s H E x hr => by
    unfold b_Door_eq
    exact (ss_cons (s_if (t_w (w_or (t_not (t_val (e_isO x T.iso_Door (e_var 1) T.mC_Door))) (w_or1 (t_ne x (e_fld x 0 (e_var 0) rfl (by show 0 < 6; decide)) (e_fld x 0 (e_var 1) rfl (by show 0 < 6; decide)))))) (ss_one (s_ret e_bl)) ss_nil) (ss_one (s_ret (e_eq x (e_repr x (e_fld x 5 (e_var 0) rfl (by show 5 < 6; decide))) (e_repr x (e_fld x 5 (e_var 1) rfl (by show 5 < 6; decide)))))))
def b__law_done_again (c_Door_init : SemF) (c_Door_step : SemF) (c_Door_come : SemF) : Sf :=
  (sSeq (sSet 2 (eCall (mkF 0 c_Door_init) (aCons (eVar 0) aNil))) (sSeq (sFor (iVal (eVar 1)) (gT 2 (gsCons (gN 3) (gsCons (gN 4) gsNil))) (sIf (tfB (eIsN (eVar 4))) (sExpr (eMeth 0 c_Door_step (eVar 2) (aCons (eVar 3) aNil))) (sExpr (eMeth 0 c_Door_come (eVar 2) (aCons (eVar 3) (aCons (eBin ixF (eVar 4) (eC (.int 0))) aNil)))))) (sRet (eVar 2))))
abbrev f__law_done_again (c_Door_init : SemF) (c_Door_step : SemF) (c_Door_come : SemF) : SemF := semOf 5 2 (b__law_done_again c_Door_init c_Door_step c_Door_come)
theorem ok__law_done_again {c_Door_init : SemF} {c_Door_step : SemF} {c_Door_come : SemF} (h_Door_init : FnG T.g P w K mg base k T.d_Door_init.a T.d_Door_init.fd ["self", "many"] c_Door_init) (h_Door_step : FnG T.g P w K mg base k T.d_Door_step.a T.d_Door_step.fd ["self", "player"] c_Door_step) (h_Door_come : FnG T.g P w K mg base k T.d_Door_come.a T.d_Door_come.fd ["self", "player", "value"] c_Door_come) : FnG T.g P w K mg base (k + 2) T.d__law_done_again.a T.d__law_done_again.fd ["many", "done"] (f__law_done_again c_Door_init c_Door_step c_Door_come) :=
  fn_g T.gf T.d__law_done_again.F sc__law_done_again fun cdv A outer s H E x hr => by
    unfold b__law_done_again
    exact (ss_cons (s_set x 2 (e_make x 0 (by show 0 < 1; decide) rfl T.mk_Door h_Door_init hr T.mC_Door T.d_Door_init.B (a_cons (e_var 0) a_nil))) (ss_cons (s_for x (i_val x (e_var 1)) (g_tup x (gs_cons (g_name x 3) (gs_cons (g_name x 4) gs_nil))) (ss_one (s_if (t_isN (e_var 4)) (ss_one (s_expr (e_meth x 0 (e_var 2) T.mt_Door_step h_Door_step (hr.mono (Nat.le_succ _)) T.d_Door_step.B fno_step (a_cons (e_var 3) a_nil)))) (ss_one (s_expr (e_meth x 0 (e_var 2) T.mt_Door_come h_Door_come (hr.mono (Nat.le_succ _)) T.d_Door_come.B fno_come (a_cons (e_var 3) (a_cons (e_ix x (e_var 4) e_int) a_nil)))))))) (ss_one (s_ret (e_var 2)))))
def b__law_right (c__law_take : SemF) (c__law_door : SemF) (c_Door_init : SemF) (c_Door_many : SemF) (c__law_is_door : SemF) (c__law_deed : SemF) (c__law_door_copy : SemF) (c_Door_copy : SemF) (c_Door_eq : SemF) (c__law_done_again : SemF) : Sf :=
  (sSeq (sSet 1 (eM (mBin addM (eC (.int 1)) (eCall c__law_take (aCons (eVar 0) (aCons (eC (.int 5)) aNil)))))) (sSeq (sPar [2, 3, 4] (aCons (eCall (mkF 0 c_Door_init) (aCons (eVar 1) aNil)) (aCons (eCall c__law_door (aCons (eVar 1) aNil)) (aCons (eNew (nLst aNil)) aNil)))) (sSeq (sIf (tfOr (tfB (eBin (eqF true) (eProp 0 c_Door_many (eVar 2)) (eVar 1))) (tfNot (tfB (eCall c__law_is_door (aCons (eVar 2) (aCons (eVar 3) aNil)))))) (sRet (eC (.bl false))) sNil) (sSeq (sFor (iRange1 (eM (mBin addM (eC (.int 3)) (eCall c__law_take (aCons (eVar 0) (aCons (eC (.int 24)) aNil)))))) (gN 5) (sSeq (sIf (tfOr (tfNot (tfB (eCall c__law_deed (aCons (eVar 0) (aCons (eVar 2) (aCons (eVar 3) (aCons (eVar 4) aNil))))))) (tfNot (tfB (eCall c__law_is_door (aCons (eVar 2) (aCons (eVar 3) aNil)))))) (sRet (eC (.bl false))) sNil) (sIf (tfB (eBin (eqF false) (eCall c__law_take (aCons (eVar 0) (aCons (eC (.int 6)) aNil))) (eC (.int 0)))) (sSeq (sPar [6, 7] (aCons (eMeth 0 c_Door_copy (eVar 2) aNil) (aCons (eCall c__law_door_copy (aCons (eVar 3) aNil)) aNil))) (sSeq (sIf (tfOr (tfB (eBin (isBF true) (eBin (eqOF 0 (fun c => decide (c = 0)) c_Door_eq) (eVar 6) (eVar 2)) (eC (.bl true)))) (tfOr (tfNot (tfB (eCall c__law_deed (aCons (eVar 0) (aCons (eVar 6) (aCons (eVar 7) (aCons (eNew (qOf (eVar 4))) aNil))))))) (tfNot (tfB (eCall c__law_is_door (aCons (eVar 2) (aCons (eVar 3) aNil))))))) (sRet (eC (.bl false))) sNil) (sIf (tfOr (tfNot (tfB (eCall c__law_is_door (aCons (eVar 6) (aCons (eVar 7) aNil))))) (tfB (eBin (isBF true) (eBin (eqOF 0 (fun c => decide (c = 0)) c_Door_eq) (eVar 6) (eVar 2)) (eC (.bl false))))) (sRet (eC (.bl false))) sNil))) sNil))) (sSeq (sSet 8 (eM (mBin addM (eM (mSl (eVar 4) oNo (oSo (eNeg (eC (.int 2)))))) (eM (mSl3 (eVar 4) oNo (oSo (eNeg (eC (.int 3)))) (oSo (eNeg (eC (.int 1))))))))) (sSeq (sSet 9 (eOr (eBin ltF (eCall lenF (aCons (eVar 4) aNil)) (eC (.int 2))) (eBin (eqF true) (eBin ixF (eBin ixF (eVar 4) (eNeg (eC (.int 1)))) (eC (.int 0))) (eBin ixF (eBin ixF (eVar 4) (eNeg (eC (.int 2)))) (eC (.int 0)))))) (sSeq (sIf (tfOr (tfB (eBin (isBF true) (eBin (eqOF 0 (fun c => decide (c = 0)) c_Door_eq) (eCall c__law_done_again (aCons (eVar 1) (aCons (eVar 4) aNil))) (eVar 2)) (eC (.bl true)))) (tfB (eBin (isBF true) (eBin (eqOF 0 (fun c => decide (c = 0)) c_Door_eq) (eVar 2) (eVar 3)) (eC (.bl false))))) (sRet (eC (.bl false))) sNil) (sRet (eOr (eNot (eVar 9)) (eBin (eqF false) (eBin (eqOF 0 (fun c => decide (c = 0)) c_Door_eq) (eCall c__law_done_again (aCons (eVar 1) (aCons (eVar 8) aNil))) (eVar 2)) (eBin (eqF false) (eCall reprF (aCons (eVar 8) aNil)) (eCall reprF (aCons (eVar 4) aNil)))))))))))))
abbrev f__law_right (c__law_take : SemF) (c__law_door : SemF) (c_Door_init : SemF) (c_Door_many : SemF) (c__law_is_door : SemF) (c__law_deed : SemF) (c__law_door_copy : SemF) (c_Door_copy : SemF) (c_Door_eq : SemF) (c__law_done_again : SemF) : SemF := semOf 10 1 (b__law_right c__law_take c__law_door c_Door_init c_Door_many c__law_is_door c__law_deed c__law_door_copy c_Door_copy c_Door_eq c__law_done_again)
theorem ok__law_right {c__law_take : SemF} {c__law_door : SemF} {c_Door_init : SemF} {c_Door_many : SemF} {c__law_is_door : SemF} {c__law_deed : SemF} {c__law_door_copy : SemF} {c_Door_copy : SemF} {c_Door_eq : SemF} {c__law_done_again : SemF} (h__law_take : FnG T.g P w K mg base k T.d__law_take.a T.d__law_take.fd ["pot", "upto"] c__law_take) (h__law_door : FnG T.g P w K mg base k T.d__law_door.a T.d__law_door.fd ["many"] c__law_door) (h_Door_init : FnG T.g P w K mg base k T.d_Door_init.a T.d_Door_init.fd ["self", "many"] c_Door_init) (h_Door_many : FnG T.g P w K mg base k T.d_Door_many.a T.d_Door_many.fd ["self"] c_Door_many) (h__law_is_door : FnG T.g P w K mg base k T.d__law_is_door.a T.d__law_is_door.fd ["door", "own"] c__law_is_door) (h__law_deed : FnG T.g P w K mg base k T.d__law_deed.a T.d__law_deed.fd ["pot", "door", "own", "done"] c__law_deed) (h__law_door_copy : FnG T.g P w K mg base k T.d__law_door_copy.a T.d__law_door_copy.fd ["door"] c__law_door_copy) (h_Door_copy : FnG T.g P w K mg base k T.d_Door_copy.a T.d_Door_copy.fd ["self"] c_Door_copy) (h_Door_eq : FnG T.g P w K mg base k T.d_Door_eq.a T.d_Door_eq.fd ["self", "other"] c_Door_eq) (h__law_done_again : FnG T.g P w K mg base k T.d__law_done_again.a T.d__law_done_again.fd ["many", "done"] c__law_done_again) : FnG T.g P w K mg base (k + 2) T.d__law_right.a T.d__law_right.fd ["pot"] (f__law_right c__law_take c__law_door c_Door_init c_Door_many c__law_is_door c__law_deed c__law_door_copy c_Door_copy c_Door_eq c__law_done_again) :=
  fn_g T.gf T.d__law_right.F sc__law_right fun cdv A outer s H E x hr => by
    unfold b__law_right
    exact (ss_cons (s_set x 1 (e_m (m_add x e_int (e_call x h__law_take (hr.mono (Nat.le_succ _)) T.m__law_take T.d__law_take.kp T.d__law_take.B (a_cons (e_var 0) (a_cons e_int a_nil)))))) (ss_cons (s_par3 x 2 3 4 (a_cons (e_make x 0 (by show 0 < 1; decide) rfl T.mk_Door h_Door_init hr T.mC_Door T.d_Door_init.B (a_cons (e_var 1) a_nil)) (a_cons (e_call x h__law_door (hr.mono (Nat.le_succ _)) T.m__law_door T.d__law_door.kp T.d__law_door.B (a_cons (e_var 1) a_nil)) (a_cons (e_new (n_lst a_nil)) a_nil)))) (ss_cons (s_if (t_w (w_or (t_ne x (e_prop x 0 (e_var 2) T.pr_Door_many h_Door_many hr T.d_Door_many.B) (e_var 1)) (w_or1 (t_not (t_val (e_call x h__law_is_door (hr.mono (Nat.le_succ _)) T.m__law_is_door T.d__law_is_door.kp T.d__law_is_door.B (a_cons (e_var 2) (a_cons (e_var 3) a_nil)))))))) (ss_one (s_ret e_bl)) ss_nil) (ss_cons (s_for x (i_range1 x (e_m (m_add x e_int (e_call x h__law_take (hr.mono (Nat.le_succ _)) T.m__law_take T.d__law_take.kp T.d__law_take.B (a_cons (e_var 0) (a_cons e_int a_nil)))))) (g_name x 5) (ss_cons (s_if (t_w (w_or (t_not (t_val (e_call x h__law_deed (hr.mono (Nat.le_succ _)) T.m__law_deed T.d__law_deed.kp T.d__law_deed.B (a_cons (e_var 0) (a_cons (e_var 2) (a_cons (e_var 3) (a_cons (e_var 4) a_nil))))))) (w_or1 (t_not (t_val (e_call x h__law_is_door (hr.mono (Nat.le_succ _)) T.m__law_is_door T.d__law_is_door.kp T.d__law_is_door.B (a_cons (e_var 2) (a_cons (e_var 3) a_nil)))))))) (ss_one (s_ret e_bl)) ss_nil) (ss_one (s_if (t_eq x (e_call x h__law_take (hr.mono (Nat.le_succ _)) T.m__law_take T.d__law_take.kp T.d__law_take.B (a_cons (e_var 0) (a_cons e_int a_nil))) e_int) (ss_cons (s_par2 x 6 7 (a_cons (e_meth0 x 0 (e_var 2) T.mt_Door_copy h_Door_copy (hr.mono (Nat.le_succ _)) T.d_Door_copy.B fno_copy) (a_cons (e_call x h__law_door_copy (hr.mono (Nat.le_succ _)) T.m__law_door_copy T.d__law_door_copy.kp T.d__law_door_copy.B (a_cons (e_var 3) a_nil)) a_nil))) (ss_cons (s_if (t_w (w_or (t_notB (e_eqO x 0 (by show 0 < 1; decide) T.iso_Door h_Door_eq (hr.mono (Nat.le_succ _)) T.d_Door_eq.B T.eqf_Door T.eqn_Door (e_var 6) (e_var 2)) e_bl) (w_or (t_not (t_val (e_call x h__law_deed (hr.mono (Nat.le_succ _)) T.m__law_deed T.d__law_deed.kp T.d__law_deed.B (a_cons (e_var 0) (a_cons (e_var 6) (a_cons (e_var 7) (a_cons (e_new (n_list x (q_of (e_var 4)))) a_nil))))))) (w_or1 (t_not (t_val (e_call x h__law_is_door (hr.mono (Nat.le_succ _)) T.m__law_is_door T.d__law_is_door.kp T.d__law_is_door.B (a_cons (e_var 2) (a_cons (e_var 3) a_nil))))))))) (ss_one (s_ret e_bl)) ss_nil) (ss_one (s_if (t_w (w_or (t_not (t_val (e_call x h__law_is_door (hr.mono (Nat.le_succ _)) T.m__law_is_door T.d__law_is_door.kp T.d__law_is_door.B (a_cons (e_var 6) (a_cons (e_var 7) a_nil))))) (w_or1 (t_notB (e_eqO x 0 (by show 0 < 1; decide) T.iso_Door h_Door_eq (hr.mono (Nat.le_succ _)) T.d_Door_eq.B T.eqf_Door T.eqn_Door (e_var 6) (e_var 2)) e_bl)))) (ss_one (s_ret e_bl)) ss_nil)))) ss_nil)))) (ss_cons (s_set x 8 (e_m (m_add x (e_m (m_slice x (e_var 4) o_no (o_so (e_neg e_int)))) (e_m (m_slice3 x (e_var 4) o_no (o_so (e_neg e_int)) (o_so (e_neg e_int))))))) (ss_cons (s_set x 9 (e_or (e_lt (e_len x (e_var 4)) e_int) (e_one (e_ne x (e_ix x (e_ix x (e_var 4) (e_neg e_int)) e_int) (e_ix x (e_ix x (e_var 4) (e_neg e_int)) e_int))))) (ss_cons (s_if (t_w (w_or (t_notB (e_eqO x 0 (by show 0 < 1; decide) T.iso_Door h_Door_eq (hr.mono (Nat.le_succ _)) T.d_Door_eq.B T.eqf_Door T.eqn_Door (e_call x h__law_done_again (hr.mono (Nat.le_succ _)) T.m__law_done_again T.d__law_done_again.kp T.d__law_done_again.B (a_cons (e_var 1) (a_cons (e_var 4) a_nil))) (e_var 2)) e_bl) (w_or1 (t_notB (e_eqO x 0 (by show 0 < 1; decide) T.iso_Door h_Door_eq (hr.mono (Nat.le_succ _)) T.d_Door_eq.B T.eqf_Door T.eqn_Door (e_var 2) (e_var 3)) e_bl)))) (ss_one (s_ret e_bl)) ss_nil) (ss_one (s_ret (e_or (e_not (e_var 9)) (e_one (e_eq x (e_eqO x 0 (by show 0 < 1; decide) T.iso_Door h_Door_eq (hr.mono (Nat.le_succ _)) T.d_Door_eq.B T.eqf_Door T.eqn_Door (e_call x h__law_done_again (hr.mono (Nat.le_succ _)) T.m__law_done_again T.d__law_done_again.kp T.d__law_done_again.B (a_cons (e_var 1) (a_cons (e_var 8) a_nil))) (e_var 2)) (e_eq x (e_repr x (e_var 8)) (e_repr x (e_var 4)))))))))))))))
def b__law_pot  : Sf :=
  (sSeq (sSet 2 (eIf (tfB (eBin ltF (eVar 1) (eCall lenF (aCons (eVar 0) aNil)))) (eBin ixF (eVar 0) (eVar 1)) (eM (mBin addM (eM (mBin addM (eBin modF (eCall intF (aCons (eCall sumQ (lM (mSl (eVar 0) oNo (oSo (eC (.int 1)))))) aNil)) (eC (.int 1000003))) (eM (mBin mulM (eC (.int 1571)) (eVar 1))))) (eC (.int 1401)))))) (sSeq (sSet 3 (eM (mBin mulM (eBin modF (eCall intF (aCons (eCall absF (aCons (eVar 2) aNil)) aNil)) (eBin powF (eBin powF (eC (.int 10)) (eC (.int 60))) (eC (.int 5)))) (eCall intF (aCons (eBin geF (eCall absF (aCons (eVar 2) aNil)) (eBin powF (eC (.int 10)) (eC (.int 18)))) aNil))))) (sSeq (sSet 4 (eBin modF (eCall intF (aCons (eVar 2) aNil)) (eC (.int 2305843009213693951)))) (sRet (eNew (nLst (aCons (eVar 3) (aCons (eBin modF (eCall intF (aCons (eM (mBin addM (eM (mBin addM (eM (mBin mulM (eVar 4) (eC (.int 86631)))) (eM (mBin mulM (eM (mBin mulM (eC (.int 10321)) (eVar 1))) (eVar 1))))) (eC (.int 689)))) aNil)) (eC (.int 2305843009213693921))) (aCons (eC (.int 0)) aNil)))))))))
abbrev f__law_pot  : SemF := semOf 5 2 (b__law_pot )
theorem ok__law_pot  : FnG T.g P w K mg base (k + 1) T.d__law_pot.a T.d__law_pot.fd ["script", "place"] (f__law_pot ) :=
  fn_g T.gf T.d__law_pot.F sc__law_pot fun cdv A outer s H E x hr => by
    unfold b__law_pot
    exact (ss_cons (s_set x 2 (e_if (t_lt (e_var 1) (e_len x (e_var 0))) (e_ix x (e_var 0) (e_var 1)) (e_m (m_add x (e_m (m_add x (e_mod (e_intC x (e_sum x (l_m (m_slice x (e_var 0) o_no (o_so e_int))))) e_int) (e_m (m_mul x e_int (e_var 1))))) e_int)))) (ss_cons (s_set x 3 (e_m (m_mul x (e_mod (e_intC x (e_abs x (e_var 2))) (e_pow (e_pow e_int e_int) e_int)) (e_intC x (e_ge (e_abs x (e_var 2)) (e_pow e_int e_int)))))) (ss_cons (s_set x 4 (e_mod (e_intC x (e_var 2)) e_int)) (ss_one (s_ret (e_new (n_lst (a_cons (e_var 3) (a_cons (e_mod (e_intC x (e_m (m_add x (e_m (m_add x (e_m (m_mul x (e_var 4) e_int)) (e_m (m_mul x (e_m (m_mul x e_int (e_var 1))) (e_var 1))))) e_int))) e_int) (a_cons e_int a_nil))))))))))
def b_law (c__law_cells : SemF) (c__law_right : SemF) (c__law_pot : SemF) : Sf :=
  (sRet (eCall allQ (nComp [1] (iVal (eCall c__law_cells (aCons (eVar 0) (aCons (eC (.int 2)) aNil)))) (gN 1) tfYes (eCall c__law_right (aCons (eCall c__law_pot (aCons (eVar 0) (aCons (eVar 1) aNil))) aNil)))))
abbrev f_law (c__law_cells : SemF) (c__law_right : SemF) (c__law_pot : SemF) : SemF := semOf 2 1 (b_law c__law_cells c__law_right c__law_pot)
theorem ok_law {c__law_cells : SemF} {c__law_right : SemF} {c__law_pot : SemF} (h__law_cells : FnG T.g P w K mg base k T.d__law_cells.a T.d__law_cells.fd ["script", "limit"] c__law_cells) (h__law_right : FnG T.g P w K mg base k T.d__law_right.a T.d__law_right.fd ["pot"] c__law_right) (h__law_pot : FnG T.g P w K mg base k T.d__law_pot.a T.d__law_pot.fd ["script", "place"] c__law_pot) : FnG T.g P w K mg base (k + 1) T.d_law.a T.d_law.fd ["script"] (f_law c__law_cells c__law_right c__law_pot) :=
  fn_g T.gf T.d_law.F sc_law fun cdv A outer s H E x hr => by
    unfold b_law
    exact (ss_one (s_ret (e_all x (l_new (n_comp x [("place", 1)] (i_val x (e_call x h__law_cells hr T.m__law_cells T.d__law_cells.kp T.d__law_cells.B (a_cons (e_var 0) (a_cons e_int a_nil)))) bk_law_0 (fun _ _ _ _ _ => (g_name (x.blk _ _ _ _ _) 1)) (fun _ _ _ _ _ => ts_nil) (fun _ _ _ _ _ => (e_call (x.blk _ _ _ _ _) h__law_right hr T.m__law_right T.d__law_right.kp T.d__law_right.B (a_cons (e_call (x.blk _ _ _ _ _) h__law_pot hr T.m__law_pot T.d__law_pot.kp T.d__law_pot.B (a_cons (e_var 0) (a_cons (e_var 1) a_nil))) a_nil))))))))
end
set_option maxHeartbeats 2000000 in
theorem facts {l : PySem.W.OpenLaw} {w : World} {K : PySem.W.Frag} {h : Heap} {mg : Str → Option Value} {fa : Addr} (X : K.In h) (G : h.Ns mainGlobals mg) (hfa : mg "law" = some (.ref fa))
    {a_Door : Addr}
    {f__law_cells : Addr} {od__law_cells an__law_cells : Option Addr} {sl__law_cells : Array (Option Value)} {oc__law_cells kV__law_cells dc__law_cells pm__law_cells cd__law_cells ct__law_cells : Value}
    {f__law_take : Addr} {od__law_take an__law_take : Option Addr} {sl__law_take : Array (Option Value)} {oc__law_take kV__law_take dc__law_take pm__law_take cd__law_take ct__law_take : Value}
    {f__law_door : Addr} {od__law_door an__law_door : Option Addr} {sl__law_door : Array (Option Value)} {oc__law_door kV__law_door dc__law_door pm__law_door cd__law_door ct__law_door : Value}
    {f_is_whole : Addr} {od_is_whole an_is_whole : Option Addr} {sl_is_whole : Array (Option Value)} {oc_is_whole kV_is_whole dc_is_whole pm_is_whole cd_is_whole ct_is_whole : Value}
    {f_is_integer : Addr} {od_is_integer an_is_integer : Option Addr} {sl_is_integer : Array (Option Value)} {oc_is_integer kV_is_integer dc_is_integer pm_is_integer cd_is_integer ct_is_integer : Value}
    {f_Door_init : Addr} {od_Door_init an_Door_init : Option Addr} {sl_Door_init : Array (Option Value)} {oc_Door_init kV_Door_init dc_Door_init pm_Door_init cd_Door_init ct_Door_init : Value}
    {f_Door_many : Addr} {od_Door_many an_Door_many : Option Addr} {sl_Door_many : Array (Option Value)} {oc_Door_many kV_Door_many dc_Door_many pm_Door_many cd_Door_many ct_Door_many : Value}
    {p_Door_many : Addr} {rs_Door_many : List Value}
    {f_Door_came : Addr} {od_Door_came an_Door_came : Option Addr} {sl_Door_came : Array (Option Value)} {oc_Door_came kV_Door_came dc_Door_came pm_Door_came cd_Door_came ct_Door_came : Value}
    {p_Door_came : Addr} {rs_Door_came : List Value}
    {f_Door_heard : Addr} {od_Door_heard an_Door_heard : Option Addr} {sl_Door_heard : Array (Option Value)} {oc_Door_heard kV_Door_heard dc_Door_heard pm_Door_heard cd_Door_heard ct_Door_heard : Value}
    {p_Door_heard : Addr} {rs_Door_heard : List Value}
    {f_Door_levels : Addr} {od_Door_levels an_Door_levels : Option Addr} {sl_Door_levels : Array (Option Value)} {oc_Door_levels kV_Door_levels dc_Door_levels pm_Door_levels cd_Door_levels ct_Door_levels : Value}
    {p_Door_levels : Addr} {rs_Door_levels : List Value}
    {f_Door_len : Addr} {od_Door_len an_Door_len : Option Addr} {sl_Door_len : Array (Option Value)} {oc_Door_len kV_Door_len dc_Door_len pm_Door_len cd_Door_len ct_Door_len : Value}
    {f_Door_check_player : Addr} {od_Door_check_player an_Door_check_player : Option Addr} {sl_Door_check_player : Array (Option Value)} {oc_Door_check_player kV_Door_check_player dc_Door_check_player pm_Door_check_player cd_Door_check_player ct_Door_check_player : Value}
    {f_Door_next : Addr} {od_Door_next an_Door_next : Option Addr} {sl_Door_next : Array (Option Value)} {oc_Door_next kV_Door_next dc_Door_next pm_Door_next cd_Door_next ct_Door_next : Value}
    {f__law_door_next : Addr} {od__law_door_next an__law_door_next : Option Addr} {sl__law_door_next : Array (Option Value)} {oc__law_door_next kV__law_door_next dc__law_door_next pm__law_door_next cd__law_door_next ct__law_door_next : Value}
    {f__law_is_door : Addr} {od__law_is_door an__law_is_door : Option Addr} {sl__law_is_door : Array (Option Value)} {oc__law_is_door kV__law_is_door dc__law_is_door pm__law_is_door cd__law_is_door ct__law_is_door : Value}
    {f__law_of : Addr} {od__law_of an__law_of : Option Addr} {sl__law_of : Array (Option Value)} {oc__law_of kV__law_of dc__law_of pm__law_of cd__law_of ct__law_of : Value}
    {f__law_drawn_value : Addr} {od__law_drawn_value an__law_drawn_value : Option Addr} {sl__law_drawn_value : Array (Option Value)} {oc__law_drawn_value kV__law_drawn_value dc__law_drawn_value pm__law_drawn_value cd__law_drawn_value ct__law_drawn_value : Value}
    {f__law_drawn_deed : Addr} {od__law_drawn_deed an__law_drawn_deed : Option Addr} {sl__law_drawn_deed : Array (Option Value)} {oc__law_drawn_deed kV__law_drawn_deed dc__law_drawn_deed pm__law_drawn_deed cd__law_drawn_deed ct__law_drawn_deed : Value}
    {f__law_door_come : Addr} {od__law_door_come an__law_door_come : Option Addr} {sl__law_door_come : Array (Option Value)} {oc__law_door_come kV__law_door_come dc__law_door_come pm__law_door_come cd__law_door_come ct__law_door_come : Value}
    {f_is_tuple : Addr} {od_is_tuple an_is_tuple : Option Addr} {sl_is_tuple : Array (Option Value)} {oc_is_tuple kV_is_tuple dc_is_tuple pm_is_tuple cd_is_tuple ct_is_tuple : Value}
    {f_is_near_value : Addr} {od_is_near_value an_is_near_value : Option Addr} {sl_is_near_value : Array (Option Value)} {oc_is_near_value kV_is_near_value dc_is_near_value pm_is_near_value cd_is_near_value ct_is_near_value : Value}
    {f_is_value : Addr} {od_is_value an_is_value : Option Addr} {sl_is_value : Array (Option Value)} {oc_is_value kV_is_value dc_is_value pm_is_value cd_is_value ct_is_value : Value}
    {f_Door_come : Addr} {od_Door_come an_Door_come : Option Addr} {sl_Door_come : Array (Option Value)} {oc_Door_come kV_Door_come dc_Door_come pm_Door_come cd_Door_come ct_Door_come : Value}
    {f_Door_show : Addr} {od_Door_show an_Door_show : Option Addr} {sl_Door_show : Array (Option Value)} {oc_Door_show kV_Door_show dc_Door_show pm_Door_show cd_Door_show ct_Door_show : Value}
    {f_Door_ask : Addr} {od_Door_ask an_Door_ask : Option Addr} {sl_Door_ask : Array (Option Value)} {oc_Door_ask kV_Door_ask dc_Door_ask pm_Door_ask cd_Door_ask ct_Door_ask : Value}
    {f_Door_step : Addr} {od_Door_step an_Door_step : Option Addr} {sl_Door_step : Array (Option Value)} {oc_Door_step kV_Door_step dc_Door_step pm_Door_step cd_Door_step ct_Door_step : Value}
    {f__law_door_step : Addr} {od__law_door_step an__law_door_step : Option Addr} {sl__law_door_step : Array (Option Value)} {oc__law_door_step kV__law_door_step dc__law_door_step pm__law_door_step cd__law_door_step ct__law_door_step : Value}
    {f__law_deed : Addr} {od__law_deed an__law_deed : Option Addr} {sl__law_deed : Array (Option Value)} {oc__law_deed kV__law_deed dc__law_deed pm__law_deed cd__law_deed ct__law_deed : Value}
    {f__law_door_copy : Addr} {od__law_door_copy an__law_door_copy : Option Addr} {sl__law_door_copy : Array (Option Value)} {oc__law_door_copy kV__law_door_copy dc__law_door_copy pm__law_door_copy cd__law_door_copy ct__law_door_copy : Value}
    {f_Door_copy : Addr} {od_Door_copy an_Door_copy : Option Addr} {sl_Door_copy : Array (Option Value)} {oc_Door_copy kV_Door_copy dc_Door_copy pm_Door_copy cd_Door_copy ct_Door_copy : Value}
    {f_Door_eq : Addr} {od_Door_eq an_Door_eq : Option Addr} {sl_Door_eq : Array (Option Value)} {oc_Door_eq kV_Door_eq dc_Door_eq pm_Door_eq cd_Door_eq ct_Door_eq : Value}
    {f__law_done_again : Addr} {od__law_done_again an__law_done_again : Option Addr} {sl__law_done_again : Array (Option Value)} {oc__law_done_again kV__law_done_again dc__law_done_again pm__law_done_again cd__law_done_again ct__law_done_again : Value}
    {f__law_right : Addr} {od__law_right an__law_right : Option Addr} {sl__law_right : Array (Option Value)} {oc__law_right kV__law_right dc__law_right pm__law_right cd__law_right ct__law_right : Value}
    {f__law_pot : Addr} {od__law_pot an__law_pot : Option Addr} {sl__law_pot : Array (Option Value)} {oc__law_pot kV__law_pot dc__law_pot pm__law_pot cd__law_pot ct__law_pot : Value}
    {f_law : Addr} {od_law an_law : Option Addr} {sl_law : Array (Option Value)} {oc_law kV_law dc_law pm_law cd_law ct_law : Value}
    {t_MOST_PLAYERS : Tok}
    {t_LEVEL : Tok}
    {t_IN : Tok}
    {t_LOOK : Tok}
    {t_ASK : Tok}
    {t_COME : Tok}
    {t_SETTLED : Tok}
    {t_MOST_DEEP : Tok}
    {t_OUT : Tok}
    {t_WAIT : Tok}
    {t_WORD : Tok}
    {t_MOST_NUMBER : Tok}
    {t_MOST_THINGS : Tok}
    (x_Door : PySem.W.nsIn K mainGlobals "Door" = some (some (.ref a_Door)))
    (x__law_cells : PySem.W.nsIn K mainGlobals "_law_cells" = some (some (.ref f__law_cells)))
    (l__law_cells : K.lookup f__law_cells = some ⟨oc__law_cells, od__law_cells, .func (PySem.W.fnOf "_law_cells" "_law_cells" (defArgs s__law_cells) (defBody s__law_cells) (defScope s__law_cells) .none kV__law_cells dc__law_cells pm__law_cells an__law_cells cd__law_cells ct__law_cells), sl__law_cells⟩)
    (c__law_cells : PySem.W.codeIn K cd__law_cells "_law_cells" = true)
    (k__law_cells : PySem.W.keepIn K (.ref f__law_cells) = true)
    (x__law_take : PySem.W.nsIn K mainGlobals "_law_take" = some (some (.ref f__law_take)))
    (l__law_take : K.lookup f__law_take = some ⟨oc__law_take, od__law_take, .func (PySem.W.fnOf "_law_take" "_law_take" (defArgs s__law_take) (defBody s__law_take) (defScope s__law_take) .none kV__law_take dc__law_take pm__law_take an__law_take cd__law_take ct__law_take), sl__law_take⟩)
    (c__law_take : PySem.W.codeIn K cd__law_take "_law_take" = true)
    (k__law_take : PySem.W.keepIn K (.ref f__law_take) = true)
    (x__law_door : PySem.W.nsIn K mainGlobals "_law_door" = some (some (.ref f__law_door)))
    (l__law_door : K.lookup f__law_door = some ⟨oc__law_door, od__law_door, .func (PySem.W.fnOf "_law_door" "_law_door" (defArgs s__law_door) (defBody s__law_door) (defScope s__law_door) .none kV__law_door dc__law_door pm__law_door an__law_door cd__law_door ct__law_door), sl__law_door⟩)
    (c__law_door : PySem.W.codeIn K cd__law_door "_law_door" = true)
    (k__law_door : PySem.W.keepIn K (.ref f__law_door) = true)
    (x_is_whole : PySem.W.nsIn K mainGlobals "is_whole" = some (some (.ref f_is_whole)))
    (l_is_whole : K.lookup f_is_whole = some ⟨oc_is_whole, od_is_whole, .func (PySem.W.fnOf "is_whole" "is_whole" (defArgs s_is_whole) (defBody s_is_whole) (defScope s_is_whole) .none kV_is_whole dc_is_whole pm_is_whole an_is_whole cd_is_whole ct_is_whole), sl_is_whole⟩)
    (c_is_whole : PySem.W.codeIn K cd_is_whole "is_whole" = true)
    (k_is_whole : PySem.W.keepIn K (.ref f_is_whole) = true)
    (x_is_integer : PySem.W.nsIn K mainGlobals "is_integer" = some (some (.ref f_is_integer)))
    (l_is_integer : K.lookup f_is_integer = some ⟨oc_is_integer, od_is_integer, .func (PySem.W.fnOf "is_integer" "is_integer" (defArgs s_is_integer) (defBody s_is_integer) (defScope s_is_integer) .none kV_is_integer dc_is_integer pm_is_integer an_is_integer cd_is_integer ct_is_integer), sl_is_integer⟩)
    (c_is_integer : PySem.W.codeIn K cd_is_integer "is_integer" = true)
    (k_is_integer : PySem.W.keepIn K (.ref f_is_integer) = true)
    (x_Door_init : PySem.W.findIn K (.ref a_Door) "__init__" = some (some (.ref f_Door_init)))
    (i_Door_init : PySem.W.isFn K (.ref f_Door_init) = true)
    (l_Door_init : K.lookup f_Door_init = some ⟨oc_Door_init, od_Door_init, .func (PySem.W.fnOf "__init__" "Door.__init__" (defArgs s_Door_init) (defBody s_Door_init) (defScope s_Door_init) .none kV_Door_init dc_Door_init pm_Door_init an_Door_init cd_Door_init ct_Door_init), sl_Door_init⟩)
    (c_Door_init : PySem.W.codeIn K cd_Door_init "Door.__init__" = true)
    (k_Door_init : PySem.W.keepIn K (.ref f_Door_init) = true)
    (y1_Door_many : PySem.W.findIn K (.ref a_Door) "many" = some (some (.ref p_Door_many)))
    (y2_Door_many : PySem.W.specialIn K (.ref p_Door_many) "__get__" = some (some (.builtin "property.__get__")))
    (y3_Door_many : PySem.W.takesIn K (.ref p_Door_many) = some true)
    (y4_Door_many : PySem.W.recIn K p_Door_many "property" = some (.ref f_Door_many :: rs_Door_many))
    (l_Door_many : K.lookup f_Door_many = some ⟨oc_Door_many, od_Door_many, .func (PySem.W.fnOf "many" "Door.many" (defArgs s_Door_many) (defBody s_Door_many) (defScope s_Door_many) .none kV_Door_many dc_Door_many pm_Door_many an_Door_many cd_Door_many ct_Door_many), sl_Door_many⟩)
    (c_Door_many : PySem.W.codeIn K cd_Door_many "Door.many" = true)
    (k_Door_many : PySem.W.keepIn K (.ref f_Door_many) = true)
    (y1_Door_came : PySem.W.findIn K (.ref a_Door) "came" = some (some (.ref p_Door_came)))
    (y2_Door_came : PySem.W.specialIn K (.ref p_Door_came) "__get__" = some (some (.builtin "property.__get__")))
    (y3_Door_came : PySem.W.takesIn K (.ref p_Door_came) = some true)
    (y4_Door_came : PySem.W.recIn K p_Door_came "property" = some (.ref f_Door_came :: rs_Door_came))
    (l_Door_came : K.lookup f_Door_came = some ⟨oc_Door_came, od_Door_came, .func (PySem.W.fnOf "came" "Door.came" (defArgs s_Door_came) (defBody s_Door_came) (defScope s_Door_came) .none kV_Door_came dc_Door_came pm_Door_came an_Door_came cd_Door_came ct_Door_came), sl_Door_came⟩)
    (c_Door_came : PySem.W.codeIn K cd_Door_came "Door.came" = true)
    (k_Door_came : PySem.W.keepIn K (.ref f_Door_came) = true)
    (y1_Door_heard : PySem.W.findIn K (.ref a_Door) "heard" = some (some (.ref p_Door_heard)))
    (y2_Door_heard : PySem.W.specialIn K (.ref p_Door_heard) "__get__" = some (some (.builtin "property.__get__")))
    (y3_Door_heard : PySem.W.takesIn K (.ref p_Door_heard) = some true)
    (y4_Door_heard : PySem.W.recIn K p_Door_heard "property" = some (.ref f_Door_heard :: rs_Door_heard))
    (l_Door_heard : K.lookup f_Door_heard = some ⟨oc_Door_heard, od_Door_heard, .func (PySem.W.fnOf "heard" "Door.heard" (defArgs s_Door_heard) (defBody s_Door_heard) (defScope s_Door_heard) .none kV_Door_heard dc_Door_heard pm_Door_heard an_Door_heard cd_Door_heard ct_Door_heard), sl_Door_heard⟩)
    (c_Door_heard : PySem.W.codeIn K cd_Door_heard "Door.heard" = true)
    (k_Door_heard : PySem.W.keepIn K (.ref f_Door_heard) = true)
    (y1_Door_levels : PySem.W.findIn K (.ref a_Door) "levels" = some (some (.ref p_Door_levels)))
    (y2_Door_levels : PySem.W.specialIn K (.ref p_Door_levels) "__get__" = some (some (.builtin "property.__get__")))
    (y3_Door_levels : PySem.W.takesIn K (.ref p_Door_levels) = some true)
    (y4_Door_levels : PySem.W.recIn K p_Door_levels "property" = some (.ref f_Door_levels :: rs_Door_levels))
    (l_Door_levels : K.lookup f_Door_levels = some ⟨oc_Door_levels, od_Door_levels, .func (PySem.W.fnOf "levels" "Door.levels" (defArgs s_Door_levels) (defBody s_Door_levels) (defScope s_Door_levels) .none kV_Door_levels dc_Door_levels pm_Door_levels an_Door_levels cd_Door_levels ct_Door_levels), sl_Door_levels⟩)
    (c_Door_levels : PySem.W.codeIn K cd_Door_levels "Door.levels" = true)
    (k_Door_levels : PySem.W.keepIn K (.ref f_Door_levels) = true)
    (x_Door_len : PySem.W.findIn K (.ref a_Door) "__len__" = some (some (.ref f_Door_len)))
    (i_Door_len : PySem.W.isFn K (.ref f_Door_len) = true)
    (l_Door_len : K.lookup f_Door_len = some ⟨oc_Door_len, od_Door_len, .func (PySem.W.fnOf "__len__" "Door.__len__" (defArgs s_Door_len) (defBody s_Door_len) (defScope s_Door_len) .none kV_Door_len dc_Door_len pm_Door_len an_Door_len cd_Door_len ct_Door_len), sl_Door_len⟩)
    (c_Door_len : PySem.W.codeIn K cd_Door_len "Door.__len__" = true)
    (k_Door_len : PySem.W.keepIn K (.ref f_Door_len) = true)
    (x_Door_check_player : PySem.W.findIn K (.ref a_Door) "check_player" = some (some (.ref f_Door_check_player)))
    (i_Door_check_player : PySem.W.isFn K (.ref f_Door_check_player) = true)
    (l_Door_check_player : K.lookup f_Door_check_player = some ⟨oc_Door_check_player, od_Door_check_player, .func (PySem.W.fnOf "check_player" "Door.check_player" (defArgs s_Door_check_player) (defBody s_Door_check_player) (defScope s_Door_check_player) .none kV_Door_check_player dc_Door_check_player pm_Door_check_player an_Door_check_player cd_Door_check_player ct_Door_check_player), sl_Door_check_player⟩)
    (c_Door_check_player : PySem.W.codeIn K cd_Door_check_player "Door.check_player" = true)
    (k_Door_check_player : PySem.W.keepIn K (.ref f_Door_check_player) = true)
    (x_Door_next : PySem.W.findIn K (.ref a_Door) "next" = some (some (.ref f_Door_next)))
    (i_Door_next : PySem.W.isFn K (.ref f_Door_next) = true)
    (l_Door_next : K.lookup f_Door_next = some ⟨oc_Door_next, od_Door_next, .func (PySem.W.fnOf "next" "Door.next" (defArgs s_Door_next) (defBody s_Door_next) (defScope s_Door_next) .none kV_Door_next dc_Door_next pm_Door_next an_Door_next cd_Door_next ct_Door_next), sl_Door_next⟩)
    (c_Door_next : PySem.W.codeIn K cd_Door_next "Door.next" = true)
    (k_Door_next : PySem.W.keepIn K (.ref f_Door_next) = true)
    (x__law_door_next : PySem.W.nsIn K mainGlobals "_law_door_next" = some (some (.ref f__law_door_next)))
    (l__law_door_next : K.lookup f__law_door_next = some ⟨oc__law_door_next, od__law_door_next, .func (PySem.W.fnOf "_law_door_next" "_law_door_next" (defArgs s__law_door_next) (defBody s__law_door_next) (defScope s__law_door_next) .none kV__law_door_next dc__law_door_next pm__law_door_next an__law_door_next cd__law_door_next ct__law_door_next), sl__law_door_next⟩)
    (c__law_door_next : PySem.W.codeIn K cd__law_door_next "_law_door_next" = true)
    (k__law_door_next : PySem.W.keepIn K (.ref f__law_door_next) = true)
    (x__law_is_door : PySem.W.nsIn K mainGlobals "_law_is_door" = some (some (.ref f__law_is_door)))
    (l__law_is_door : K.lookup f__law_is_door = some ⟨oc__law_is_door, od__law_is_door, .func (PySem.W.fnOf "_law_is_door" "_law_is_door" (defArgs s__law_is_door) (defBody s__law_is_door) (defScope s__law_is_door) .none kV__law_is_door dc__law_is_door pm__law_is_door an__law_is_door cd__law_is_door ct__law_is_door), sl__law_is_door⟩)
    (c__law_is_door : PySem.W.codeIn K cd__law_is_door "_law_is_door" = true)
    (k__law_is_door : PySem.W.keepIn K (.ref f__law_is_door) = true)
    (x__law_of : PySem.W.nsIn K mainGlobals "_law_of" = some (some (.ref f__law_of)))
    (l__law_of : K.lookup f__law_of = some ⟨oc__law_of, od__law_of, .func (PySem.W.fnOf "_law_of" "_law_of" (defArgs s__law_of) (defBody s__law_of) (defScope s__law_of) .none kV__law_of dc__law_of pm__law_of an__law_of cd__law_of ct__law_of), sl__law_of⟩)
    (c__law_of : PySem.W.codeIn K cd__law_of "_law_of" = true)
    (k__law_of : PySem.W.keepIn K (.ref f__law_of) = true)
    (x__law_drawn_value : PySem.W.nsIn K mainGlobals "_law_drawn_value" = some (some (.ref f__law_drawn_value)))
    (l__law_drawn_value : K.lookup f__law_drawn_value = some ⟨oc__law_drawn_value, od__law_drawn_value, .func (PySem.W.fnOf "_law_drawn_value" "_law_drawn_value" (defArgs s__law_drawn_value) (defBody s__law_drawn_value) (defScope s__law_drawn_value) .none kV__law_drawn_value dc__law_drawn_value pm__law_drawn_value an__law_drawn_value cd__law_drawn_value ct__law_drawn_value), sl__law_drawn_value⟩)
    (c__law_drawn_value : PySem.W.codeIn K cd__law_drawn_value "_law_drawn_value" = true)
    (k__law_drawn_value : PySem.W.keepIn K (.ref f__law_drawn_value) = true)
    (x__law_drawn_deed : PySem.W.nsIn K mainGlobals "_law_drawn_deed" = some (some (.ref f__law_drawn_deed)))
    (l__law_drawn_deed : K.lookup f__law_drawn_deed = some ⟨oc__law_drawn_deed, od__law_drawn_deed, .func (PySem.W.fnOf "_law_drawn_deed" "_law_drawn_deed" (defArgs s__law_drawn_deed) (defBody s__law_drawn_deed) (defScope s__law_drawn_deed) .none kV__law_drawn_deed dc__law_drawn_deed pm__law_drawn_deed an__law_drawn_deed cd__law_drawn_deed ct__law_drawn_deed), sl__law_drawn_deed⟩)
    (c__law_drawn_deed : PySem.W.codeIn K cd__law_drawn_deed "_law_drawn_deed" = true)
    (k__law_drawn_deed : PySem.W.keepIn K (.ref f__law_drawn_deed) = true)
    (x__law_door_come : PySem.W.nsIn K mainGlobals "_law_door_come" = some (some (.ref f__law_door_come)))
    (l__law_door_come : K.lookup f__law_door_come = some ⟨oc__law_door_come, od__law_door_come, .func (PySem.W.fnOf "_law_door_come" "_law_door_come" (defArgs s__law_door_come) (defBody s__law_door_come) (defScope s__law_door_come) .none kV__law_door_come dc__law_door_come pm__law_door_come an__law_door_come cd__law_door_come ct__law_door_come), sl__law_door_come⟩)
    (c__law_door_come : PySem.W.codeIn K cd__law_door_come "_law_door_come" = true)
    (k__law_door_come : PySem.W.keepIn K (.ref f__law_door_come) = true)
    (x_is_tuple : PySem.W.nsIn K mainGlobals "is_tuple" = some (some (.ref f_is_tuple)))
    (l_is_tuple : K.lookup f_is_tuple = some ⟨oc_is_tuple, od_is_tuple, .func (PySem.W.fnOf "is_tuple" "is_tuple" (defArgs s_is_tuple) (defBody s_is_tuple) (defScope s_is_tuple) .none kV_is_tuple dc_is_tuple pm_is_tuple an_is_tuple cd_is_tuple ct_is_tuple), sl_is_tuple⟩)
    (c_is_tuple : PySem.W.codeIn K cd_is_tuple "is_tuple" = true)
    (k_is_tuple : PySem.W.keepIn K (.ref f_is_tuple) = true)
    (x_is_near_value : PySem.W.nsIn K mainGlobals "is_near_value" = some (some (.ref f_is_near_value)))
    (l_is_near_value : K.lookup f_is_near_value = some ⟨oc_is_near_value, od_is_near_value, .func (PySem.W.fnOf "is_near_value" "is_near_value" (defArgs s_is_near_value) (defBody s_is_near_value) (defScope s_is_near_value) .none kV_is_near_value dc_is_near_value pm_is_near_value an_is_near_value cd_is_near_value ct_is_near_value), sl_is_near_value⟩)
    (c_is_near_value : PySem.W.codeIn K cd_is_near_value "is_near_value" = true)
    (k_is_near_value : PySem.W.keepIn K (.ref f_is_near_value) = true)
    (x_is_value : PySem.W.nsIn K mainGlobals "is_value" = some (some (.ref f_is_value)))
    (l_is_value : K.lookup f_is_value = some ⟨oc_is_value, od_is_value, .func (PySem.W.fnOf "is_value" "is_value" (defArgs s_is_value) (defBody s_is_value) (defScope s_is_value) .none kV_is_value dc_is_value pm_is_value an_is_value cd_is_value ct_is_value), sl_is_value⟩)
    (c_is_value : PySem.W.codeIn K cd_is_value "is_value" = true)
    (k_is_value : PySem.W.keepIn K (.ref f_is_value) = true)
    (x_Door_come : PySem.W.findIn K (.ref a_Door) "come" = some (some (.ref f_Door_come)))
    (i_Door_come : PySem.W.isFn K (.ref f_Door_come) = true)
    (l_Door_come : K.lookup f_Door_come = some ⟨oc_Door_come, od_Door_come, .func (PySem.W.fnOf "come" "Door.come" (defArgs s_Door_come) (defBody s_Door_come) (defScope s_Door_come) .none kV_Door_come dc_Door_come pm_Door_come an_Door_come cd_Door_come ct_Door_come), sl_Door_come⟩)
    (c_Door_come : PySem.W.codeIn K cd_Door_come "Door.come" = true)
    (k_Door_come : PySem.W.keepIn K (.ref f_Door_come) = true)
    (x_Door_show : PySem.W.findIn K (.ref a_Door) "show" = some (some (.ref f_Door_show)))
    (i_Door_show : PySem.W.isFn K (.ref f_Door_show) = true)
    (l_Door_show : K.lookup f_Door_show = some ⟨oc_Door_show, od_Door_show, .func (PySem.W.fnOf "show" "Door.show" (defArgs s_Door_show) (defBody s_Door_show) (defScope s_Door_show) .none kV_Door_show dc_Door_show pm_Door_show an_Door_show cd_Door_show ct_Door_show), sl_Door_show⟩)
    (c_Door_show : PySem.W.codeIn K cd_Door_show "Door.show" = true)
    (k_Door_show : PySem.W.keepIn K (.ref f_Door_show) = true)
    (x_Door_ask : PySem.W.findIn K (.ref a_Door) "ask" = some (some (.ref f_Door_ask)))
    (i_Door_ask : PySem.W.isFn K (.ref f_Door_ask) = true)
    (l_Door_ask : K.lookup f_Door_ask = some ⟨oc_Door_ask, od_Door_ask, .func (PySem.W.fnOf "ask" "Door.ask" (defArgs s_Door_ask) (defBody s_Door_ask) (defScope s_Door_ask) .none kV_Door_ask dc_Door_ask pm_Door_ask an_Door_ask cd_Door_ask ct_Door_ask), sl_Door_ask⟩)
    (c_Door_ask : PySem.W.codeIn K cd_Door_ask "Door.ask" = true)
    (k_Door_ask : PySem.W.keepIn K (.ref f_Door_ask) = true)
    (x_Door_step : PySem.W.findIn K (.ref a_Door) "step" = some (some (.ref f_Door_step)))
    (i_Door_step : PySem.W.isFn K (.ref f_Door_step) = true)
    (l_Door_step : K.lookup f_Door_step = some ⟨oc_Door_step, od_Door_step, .func (PySem.W.fnOf "step" "Door.step" (defArgs s_Door_step) (defBody s_Door_step) (defScope s_Door_step) .none kV_Door_step dc_Door_step pm_Door_step an_Door_step cd_Door_step ct_Door_step), sl_Door_step⟩)
    (c_Door_step : PySem.W.codeIn K cd_Door_step "Door.step" = true)
    (k_Door_step : PySem.W.keepIn K (.ref f_Door_step) = true)
    (x__law_door_step : PySem.W.nsIn K mainGlobals "_law_door_step" = some (some (.ref f__law_door_step)))
    (l__law_door_step : K.lookup f__law_door_step = some ⟨oc__law_door_step, od__law_door_step, .func (PySem.W.fnOf "_law_door_step" "_law_door_step" (defArgs s__law_door_step) (defBody s__law_door_step) (defScope s__law_door_step) .none kV__law_door_step dc__law_door_step pm__law_door_step an__law_door_step cd__law_door_step ct__law_door_step), sl__law_door_step⟩)
    (c__law_door_step : PySem.W.codeIn K cd__law_door_step "_law_door_step" = true)
    (k__law_door_step : PySem.W.keepIn K (.ref f__law_door_step) = true)
    (x__law_deed : PySem.W.nsIn K mainGlobals "_law_deed" = some (some (.ref f__law_deed)))
    (l__law_deed : K.lookup f__law_deed = some ⟨oc__law_deed, od__law_deed, .func (PySem.W.fnOf "_law_deed" "_law_deed" (defArgs s__law_deed) (defBody s__law_deed) (defScope s__law_deed) .none kV__law_deed dc__law_deed pm__law_deed an__law_deed cd__law_deed ct__law_deed), sl__law_deed⟩)
    (c__law_deed : PySem.W.codeIn K cd__law_deed "_law_deed" = true)
    (k__law_deed : PySem.W.keepIn K (.ref f__law_deed) = true)
    (x__law_door_copy : PySem.W.nsIn K mainGlobals "_law_door_copy" = some (some (.ref f__law_door_copy)))
    (l__law_door_copy : K.lookup f__law_door_copy = some ⟨oc__law_door_copy, od__law_door_copy, .func (PySem.W.fnOf "_law_door_copy" "_law_door_copy" (defArgs s__law_door_copy) (defBody s__law_door_copy) (defScope s__law_door_copy) .none kV__law_door_copy dc__law_door_copy pm__law_door_copy an__law_door_copy cd__law_door_copy ct__law_door_copy), sl__law_door_copy⟩)
    (c__law_door_copy : PySem.W.codeIn K cd__law_door_copy "_law_door_copy" = true)
    (k__law_door_copy : PySem.W.keepIn K (.ref f__law_door_copy) = true)
    (x_Door_copy : PySem.W.findIn K (.ref a_Door) "copy" = some (some (.ref f_Door_copy)))
    (i_Door_copy : PySem.W.isFn K (.ref f_Door_copy) = true)
    (l_Door_copy : K.lookup f_Door_copy = some ⟨oc_Door_copy, od_Door_copy, .func (PySem.W.fnOf "copy" "Door.copy" (defArgs s_Door_copy) (defBody s_Door_copy) (defScope s_Door_copy) .none kV_Door_copy dc_Door_copy pm_Door_copy an_Door_copy cd_Door_copy ct_Door_copy), sl_Door_copy⟩)
    (c_Door_copy : PySem.W.codeIn K cd_Door_copy "Door.copy" = true)
    (k_Door_copy : PySem.W.keepIn K (.ref f_Door_copy) = true)
    (x_Door_eq : PySem.W.findIn K (.ref a_Door) "__eq__" = some (some (.ref f_Door_eq)))
    (i_Door_eq : PySem.W.isFn K (.ref f_Door_eq) = true)
    (l_Door_eq : K.lookup f_Door_eq = some ⟨oc_Door_eq, od_Door_eq, .func (PySem.W.fnOf "__eq__" "Door.__eq__" (defArgs s_Door_eq) (defBody s_Door_eq) (defScope s_Door_eq) .none kV_Door_eq dc_Door_eq pm_Door_eq an_Door_eq cd_Door_eq ct_Door_eq), sl_Door_eq⟩)
    (c_Door_eq : PySem.W.codeIn K cd_Door_eq "Door.__eq__" = true)
    (k_Door_eq : PySem.W.keepIn K (.ref f_Door_eq) = true)
    (x__law_done_again : PySem.W.nsIn K mainGlobals "_law_done_again" = some (some (.ref f__law_done_again)))
    (l__law_done_again : K.lookup f__law_done_again = some ⟨oc__law_done_again, od__law_done_again, .func (PySem.W.fnOf "_law_done_again" "_law_done_again" (defArgs s__law_done_again) (defBody s__law_done_again) (defScope s__law_done_again) .none kV__law_done_again dc__law_done_again pm__law_done_again an__law_done_again cd__law_done_again ct__law_done_again), sl__law_done_again⟩)
    (c__law_done_again : PySem.W.codeIn K cd__law_done_again "_law_done_again" = true)
    (k__law_done_again : PySem.W.keepIn K (.ref f__law_done_again) = true)
    (x__law_right : PySem.W.nsIn K mainGlobals "_law_right" = some (some (.ref f__law_right)))
    (l__law_right : K.lookup f__law_right = some ⟨oc__law_right, od__law_right, .func (PySem.W.fnOf "_law_right" "_law_right" (defArgs s__law_right) (defBody s__law_right) (defScope s__law_right) .none kV__law_right dc__law_right pm__law_right an__law_right cd__law_right ct__law_right), sl__law_right⟩)
    (c__law_right : PySem.W.codeIn K cd__law_right "_law_right" = true)
    (k__law_right : PySem.W.keepIn K (.ref f__law_right) = true)
    (x__law_pot : PySem.W.nsIn K mainGlobals "_law_pot" = some (some (.ref f__law_pot)))
    (l__law_pot : K.lookup f__law_pot = some ⟨oc__law_pot, od__law_pot, .func (PySem.W.fnOf "_law_pot" "_law_pot" (defArgs s__law_pot) (defBody s__law_pot) (defScope s__law_pot) .none kV__law_pot dc__law_pot pm__law_pot an__law_pot cd__law_pot ct__law_pot), sl__law_pot⟩)
    (c__law_pot : PySem.W.codeIn K cd__law_pot "_law_pot" = true)
    (k__law_pot : PySem.W.keepIn K (.ref f__law_pot) = true)
    (x_law : PySem.W.nsIn K mainGlobals "law" = some (some (.ref f_law)))
    (l_law : K.lookup f_law = some ⟨oc_law, od_law, .func (PySem.W.fnOf "law" "law" (defArgs s_law) (defBody s_law) (defScope s_law) .none kV_law dc_law pm_law an_law cd_law ct_law), sl_law⟩)
    (c_law : PySem.W.codeIn K cd_law "law" = true)
    (k_law : PySem.W.keepIn K (.ref f_law) = true)
    (g_MOST_PLAYERS : PySem.W.nsIn K mainGlobals "MOST_PLAYERS" = some (some (.int 5 t_MOST_PLAYERS)))
    (g_LEVEL : PySem.W.nsIn K mainGlobals "LEVEL" = some (some (.str "level" t_LEVEL)))
    (g_IN : PySem.W.nsIn K mainGlobals "IN" = some (some (.int 1 t_IN)))
    (g_LOOK : PySem.W.nsIn K mainGlobals "LOOK" = some (some (.str "look" t_LOOK)))
    (g_ASK : PySem.W.nsIn K mainGlobals "ASK" = some (some (.str "ask" t_ASK)))
    (g_COME : PySem.W.nsIn K mainGlobals "COME" = some (some (.str "come" t_COME)))
    (g_SETTLED : PySem.W.nsIn K mainGlobals "SETTLED" = some (some (.int 2 t_SETTLED)))
    (g_MOST_DEEP : PySem.W.nsIn K mainGlobals "MOST_DEEP" = some (some (.int 12 t_MOST_DEEP)))
    (g_OUT : PySem.W.nsIn K mainGlobals "OUT" = some (some (.int 0 t_OUT)))
    (g_WAIT : PySem.W.nsIn K mainGlobals "WAIT" = some (some (.str "wait" t_WAIT)))
    (g_WORD : PySem.W.nsIn K mainGlobals "WORD" = some (some (.str "word" t_WORD)))
    (g_MOST_NUMBER : PySem.W.nsIn K mainGlobals "MOST_NUMBER" = some (some (.int 9999 t_MOST_NUMBER)))
    (g_MOST_THINGS : PySem.W.nsIn K mainGlobals "MOST_THINGS" = some (some (.int 60 t_MOST_THINGS)))
    (pg_Door : PySem.W.plainGet K a_Door Str.empty = true)
    (hd_Door : PySem.W.hasDictIn K a_Door = true)
    (po_Door : PySem.W.plainOver K a_Door = true)
    (sa_Door : PySem.W.findIn K (.ref a_Door) "__setattr__" = some (some (.builtin "object.__setattr__")))
    (ih_Door : PySem.W.findIn K (.ref a_Door) "__class__" = some (some (.builtin "object.__class__")))
    (im_Door : PySem.W.mroIn K a_Door (.type "object") = some true)
    (is1_Door : PySem.W.isClsIn K a_Door = true)
    (is2_Door : PySem.W.typeIn K (.ref a_Door) = some (.type "type"))
    (ib_Door_NoneType : PySem.W.subIn K (.type "NoneType") (.ref a_Door) = some false)
    (ib_Door_bool : PySem.W.subIn K (.type "bool") (.ref a_Door) = some false)
    (ib_Door_int : PySem.W.subIn K (.type "int") (.ref a_Door) = some false)
    (ib_Door_str : PySem.W.subIn K (.type "str") (.ref a_Door) = some false)
    (ib_Door_tuple : PySem.W.subIn K (.type "tuple") (.ref a_Door) = some false)
    (ib_Door_list : PySem.W.subIn K (.type "list") (.ref a_Door) = some false)
    (ib_Door_dict : PySem.W.subIn K (.type "dict") (.ref a_Door) = some false)
    (io_Door_Door : PySem.W.subIn K (.ref a_Door) (.ref a_Door) = some true)
    (mk_Door : PySem.W.makesIn K a_Door = true)
    (kc_Door : PySem.W.keepIn K (.ref a_Door) = true)
    (na_Door_own_many : PySem.W.findIn K (.ref a_Door) "own_many" = some none)
    (na_Door_own_came : PySem.W.findIn K (.ref a_Door) "own_came" = some none)
    (na_Door_own_levels : PySem.W.findIn K (.ref a_Door) "own_levels" = some none)
    (na_Door_own_heard : PySem.W.findIn K (.ref a_Door) "own_heard" = some none)
    (na_Door_own_seen : PySem.W.findIn K (.ref a_Door) "own_seen" = some none)
    (na_Door_own_done : PySem.W.findIn K (.ref a_Door) "own_done" = some none)
    (ihn : PySem.W.specialIn K (.builtin "object.__class__") "__get__" = some (some (.builtin "getset_descriptor.__get__")))
    (iht : PySem.W.takesIn K (.builtin "object.__class__") = some true)
    (z_len : PySem.W.nsIn K mainGlobals "len" = some none)
    (z_tuple : PySem.W.nsIn K mainGlobals "tuple" = some none)
    (z_list : PySem.W.nsIn K mainGlobals "list" = some none)
    (z_range : PySem.W.nsIn K mainGlobals "range" = some none)
    (z_max : PySem.W.nsIn K mainGlobals "max" = some none)
    (z_min : PySem.W.nsIn K mainGlobals "min" = some none)
    (z_sum : PySem.W.nsIn K mainGlobals "sum" = some none)
    (z_all : PySem.W.nsIn K mainGlobals "all" = some none)
    (z_any : PySem.W.nsIn K mainGlobals "any" = some none)
    (z_sorted : PySem.W.nsIn K mainGlobals "sorted" = some none)
    (z_abs : PySem.W.nsIn K mainGlobals "abs" = some none)
    (z_int : PySem.W.nsIn K mainGlobals "int" = some none)
    (z_repr : PySem.W.nsIn K mainGlobals "repr" = some none)
    (z_enumerate : PySem.W.nsIn K mainGlobals "enumerate" = some none)
    (z_zip : PySem.W.nsIn K mainGlobals "zip" = some none)
    (z_isinstance : PySem.W.nsIn K mainGlobals "isinstance" = some none)
    (z_set : PySem.W.nsIn K mainGlobals "set" = some none)
    (z_str : PySem.W.nsIn K mainGlobals "str" = some none)
    (z_dict : PySem.W.nsIn K mainGlobals "dict" = some none)
    (z_bool : PySem.W.nsIn K mainGlobals "bool" = some none)
    (z_reversed : PySem.W.nsIn K mainGlobals "reversed" = some none)
    (z_type : PySem.W.nsIn K mainGlobals "type" = some none)
    : ∃ T : Txt K mg, T.d_law.a = fa ∧ ∀ (s : Shared) (v : Value), BindsTo s T.d_law.fd ⟨[v], []⟩ [("script", v)] := by
  have e := hfa.symm.trans (PySem.W.mg_of X G x_law)
  cases e
  have F__law_cells := fun_mk (st := s__law_cells) l__law_cells c__law_cells k__law_cells
  have B__law_cells := F__law_cells.binds (ps := ["script", "limit"]) fun _ _ _ _ _ _ us hl => match us, hl with | [_, _], _ => rfl
  have F__law_take := fun_mk (st := s__law_take) l__law_take c__law_take k__law_take
  have B__law_take := F__law_take.binds (ps := ["pot", "upto"]) fun _ _ _ _ _ _ us hl => match us, hl with | [_, _], _ => rfl
  have F__law_door := fun_mk (st := s__law_door) l__law_door c__law_door k__law_door
  have B__law_door := F__law_door.binds (ps := ["many"]) fun _ _ _ _ _ _ us hl => match us, hl with | [_], _ => rfl
  have F_is_whole := fun_mk (st := s_is_whole) l_is_whole c_is_whole k_is_whole
  have B_is_whole := F_is_whole.binds (ps := ["value"]) fun _ _ _ _ _ _ us hl => match us, hl with | [_], _ => rfl
  have F_is_integer := fun_mk (st := s_is_integer) l_is_integer c_is_integer k_is_integer
  have B_is_integer := F_is_integer.binds (ps := ["value", "low", "high"]) fun _ _ _ _ _ _ us hl => match us, hl with | [_, _, _], _ => rfl
  have F_Door_init := fun_mk (st := s_Door_init) l_Door_init c_Door_init k_Door_init
  have B_Door_init := F_Door_init.binds (ps := ["self", "many"]) fun _ _ _ _ _ _ us hl => match us, hl with | [_, _], _ => rfl
  have F_Door_many := fun_mk (st := s_Door_many) l_Door_many c_Door_many k_Door_many
  have B_Door_many := F_Door_many.binds (ps := ["self"]) fun _ _ _ _ _ _ us hl => match us, hl with | [_], _ => rfl
  have F_Door_came := fun_mk (st := s_Door_came) l_Door_came c_Door_came k_Door_came
  have B_Door_came := F_Door_came.binds (ps := ["self"]) fun _ _ _ _ _ _ us hl => match us, hl with | [_], _ => rfl
  have F_Door_heard := fun_mk (st := s_Door_heard) l_Door_heard c_Door_heard k_Door_heard
  have B_Door_heard := F_Door_heard.binds (ps := ["self"]) fun _ _ _ _ _ _ us hl => match us, hl with | [_], _ => rfl
  have F_Door_levels := fun_mk (st := s_Door_levels) l_Door_levels c_Door_levels k_Door_levels
  have B_Door_levels := F_Door_levels.binds (ps := ["self"]) fun _ _ _ _ _ _ us hl => match us, hl with | [_], _ => rfl
  have F_Door_len := fun_mk (st := s_Door_len) l_Door_len c_Door_len k_Door_len
  have B_Door_len := F_Door_len.binds (ps := ["self"]) fun _ _ _ _ _ _ us hl => match us, hl with | [_], _ => rfl
  have F_Door_check_player := fun_mk (st := s_Door_check_player) l_Door_check_player c_Door_check_player k_Door_check_player
  have B_Door_check_player := F_Door_check_player.binds (ps := ["self", "player"]) fun _ _ _ _ _ _ us hl => match us, hl with | [_, _], _ => rfl
  have F_Door_next := fun_mk (st := s_Door_next) l_Door_next c_Door_next k_Door_next
  have B_Door_next := F_Door_next.binds (ps := ["self", "player"]) fun _ _ _ _ _ _ us hl => match us, hl with | [_, _], _ => rfl
  have F__law_door_next := fun_mk (st := s__law_door_next) l__law_door_next c__law_door_next k__law_door_next
  have B__law_door_next := F__law_door_next.binds (ps := ["door", "player"]) fun _ _ _ _ _ _ us hl => match us, hl with | [_, _], _ => rfl
  have F__law_is_door := fun_mk (st := s__law_is_door) l__law_is_door c__law_is_door k__law_is_door
  have B__law_is_door := F__law_is_door.binds (ps := ["door", "own"]) fun _ _ _ _ _ _ us hl => match us, hl with | [_, _], _ => rfl
  have F__law_of := fun_mk (st := s__law_of) l__law_of c__law_of k__law_of
  have B__law_of := F__law_of.binds (ps := ["pot", "some"]) fun _ _ _ _ _ _ us hl => match us, hl with | [_, _], _ => rfl
  have F__law_drawn_value := fun_mk (st := s__law_drawn_value) l__law_drawn_value c__law_drawn_value k__law_drawn_value
  have B__law_drawn_value := F__law_drawn_value.binds (ps := ["pot", "deep"]) fun _ _ _ _ _ _ us hl => match us, hl with | [_, _], _ => rfl
  have F__law_drawn_deed := fun_mk (st := s__law_drawn_deed) l__law_drawn_deed c__law_drawn_deed k__law_drawn_deed
  have B__law_drawn_deed := F__law_drawn_deed.binds (ps := ["pot", "own"]) fun _ _ _ _ _ _ us hl => match us, hl with | [_, _], _ => rfl
  have F__law_door_come := fun_mk (st := s__law_door_come) l__law_door_come c__law_door_come k__law_door_come
  have B__law_door_come := F__law_door_come.binds (ps := ["door", "player", "value"]) fun _ _ _ _ _ _ us hl => match us, hl with | [_, _, _], _ => rfl
  have F_is_tuple := fun_mk (st := s_is_tuple) l_is_tuple c_is_tuple k_is_tuple
  have B_is_tuple := F_is_tuple.binds (ps := ["value", "least", "most"]) fun _ _ _ _ _ _ us hl => match us, hl with | [_, _, _], _ => rfl
  have F_is_near_value := fun_mk (st := s_is_near_value) l_is_near_value c_is_near_value k_is_near_value
  have B_is_near_value := F_is_near_value.binds (ps := ["value", "deep"]) fun _ _ _ _ _ _ us hl => match us, hl with | [_, _], _ => rfl
  have F_is_value := fun_mk (st := s_is_value) l_is_value c_is_value k_is_value
  have B_is_value := F_is_value.binds (ps := ["value"]) fun _ _ _ _ _ _ us hl => match us, hl with | [_], _ => rfl
  have F_Door_come := fun_mk (st := s_Door_come) l_Door_come c_Door_come k_Door_come
  have B_Door_come := F_Door_come.binds (ps := ["self", "player", "value"]) fun _ _ _ _ _ _ us hl => match us, hl with | [_, _, _], _ => rfl
  have F_Door_show := fun_mk (st := s_Door_show) l_Door_show c_Door_show k_Door_show
  have B_Door_show := F_Door_show.binds (ps := ["self", "player"]) fun _ _ _ _ _ _ us hl => match us, hl with | [_, _], _ => rfl
  have F_Door_ask := fun_mk (st := s_Door_ask) l_Door_ask c_Door_ask k_Door_ask
  have B_Door_ask := F_Door_ask.binds (ps := ["self", "player"]) fun _ _ _ _ _ _ us hl => match us, hl with | [_, _], _ => rfl
  have F_Door_step := fun_mk (st := s_Door_step) l_Door_step c_Door_step k_Door_step
  have B_Door_step := F_Door_step.binds (ps := ["self", "player"]) fun _ _ _ _ _ _ us hl => match us, hl with | [_, _], _ => rfl
  have F__law_door_step := fun_mk (st := s__law_door_step) l__law_door_step c__law_door_step k__law_door_step
  have B__law_door_step := F__law_door_step.binds (ps := ["door", "player"]) fun _ _ _ _ _ _ us hl => match us, hl with | [_, _], _ => rfl
  have F__law_deed := fun_mk (st := s__law_deed) l__law_deed c__law_deed k__law_deed
  have B__law_deed := F__law_deed.binds (ps := ["pot", "door", "own", "done"]) fun _ _ _ _ _ _ us hl => match us, hl with | [_, _, _, _], _ => rfl
  have F__law_door_copy := fun_mk (st := s__law_door_copy) l__law_door_copy c__law_door_copy k__law_door_copy
  have B__law_door_copy := F__law_door_copy.binds (ps := ["door"]) fun _ _ _ _ _ _ us hl => match us, hl with | [_], _ => rfl
  have F_Door_copy := fun_mk (st := s_Door_copy) l_Door_copy c_Door_copy k_Door_copy
  have B_Door_copy := F_Door_copy.binds (ps := ["self"]) fun _ _ _ _ _ _ us hl => match us, hl with | [_], _ => rfl
  have F_Door_eq := fun_mk (st := s_Door_eq) l_Door_eq c_Door_eq k_Door_eq
  have B_Door_eq := F_Door_eq.binds (ps := ["self", "other"]) fun _ _ _ _ _ _ us hl => match us, hl with | [_, _], _ => rfl
  have F__law_done_again := fun_mk (st := s__law_done_again) l__law_done_again c__law_done_again k__law_done_again
  have B__law_done_again := F__law_done_again.binds (ps := ["many", "done"]) fun _ _ _ _ _ _ us hl => match us, hl with | [_, _], _ => rfl
  have F__law_right := fun_mk (st := s__law_right) l__law_right c__law_right k__law_right
  have B__law_right := F__law_right.binds (ps := ["pot"]) fun _ _ _ _ _ _ us hl => match us, hl with | [_], _ => rfl
  have F__law_pot := fun_mk (st := s__law_pot) l__law_pot c__law_pot k__law_pot
  have B__law_pot := F__law_pot.binds (ps := ["script", "place"]) fun _ _ _ _ _ _ us hl => match us, hl with | [_, _], _ => rfl
  have F_law := fun_mk (st := s_law) l_law c_law k_law
  have B_law := F_law.binds (ps := ["script"]) fun _ _ _ _ _ _ us hl => match us, hl with | [_], _ => rfl
  refine ⟨{
    d__law_cells := ⟨f__law_cells, PySem.W.fnOf "_law_cells" "_law_cells" (defArgs s__law_cells) (defBody s__law_cells) (defScope s__law_cells) .none kV__law_cells dc__law_cells pm__law_cells an__law_cells cd__law_cells ct__law_cells, F__law_cells, B__law_cells, k__law_cells⟩,
    m__law_cells := PySem.W.mg_of X G x__law_cells,
    d__law_take := ⟨f__law_take, PySem.W.fnOf "_law_take" "_law_take" (defArgs s__law_take) (defBody s__law_take) (defScope s__law_take) .none kV__law_take dc__law_take pm__law_take an__law_take cd__law_take ct__law_take, F__law_take, B__law_take, k__law_take⟩,
    m__law_take := PySem.W.mg_of X G x__law_take,
    d__law_door := ⟨f__law_door, PySem.W.fnOf "_law_door" "_law_door" (defArgs s__law_door) (defBody s__law_door) (defScope s__law_door) .none kV__law_door dc__law_door pm__law_door an__law_door cd__law_door ct__law_door, F__law_door, B__law_door, k__law_door⟩,
    m__law_door := PySem.W.mg_of X G x__law_door,
    d_is_whole := ⟨f_is_whole, PySem.W.fnOf "is_whole" "is_whole" (defArgs s_is_whole) (defBody s_is_whole) (defScope s_is_whole) .none kV_is_whole dc_is_whole pm_is_whole an_is_whole cd_is_whole ct_is_whole, F_is_whole, B_is_whole, k_is_whole⟩,
    m_is_whole := PySem.W.mg_of X G x_is_whole,
    d_is_integer := ⟨f_is_integer, PySem.W.fnOf "is_integer" "is_integer" (defArgs s_is_integer) (defBody s_is_integer) (defScope s_is_integer) .none kV_is_integer dc_is_integer pm_is_integer an_is_integer cd_is_integer ct_is_integer, F_is_integer, B_is_integer, k_is_integer⟩,
    m_is_integer := PySem.W.mg_of X G x_is_integer,
    d_Door_init := ⟨f_Door_init, PySem.W.fnOf "__init__" "Door.__init__" (defArgs s_Door_init) (defBody s_Door_init) (defScope s_Door_init) .none kV_Door_init dc_Door_init pm_Door_init an_Door_init cd_Door_init ct_Door_init, F_Door_init, B_Door_init, k_Door_init⟩,
    d_Door_many := ⟨f_Door_many, PySem.W.fnOf "many" "Door.many" (defArgs s_Door_many) (defBody s_Door_many) (defScope s_Door_many) .none kV_Door_many dc_Door_many pm_Door_many an_Door_many cd_Door_many ct_Door_many, F_Door_many, B_Door_many, k_Door_many⟩,
    d_Door_came := ⟨f_Door_came, PySem.W.fnOf "came" "Door.came" (defArgs s_Door_came) (defBody s_Door_came) (defScope s_Door_came) .none kV_Door_came dc_Door_came pm_Door_came an_Door_came cd_Door_came ct_Door_came, F_Door_came, B_Door_came, k_Door_came⟩,
    d_Door_heard := ⟨f_Door_heard, PySem.W.fnOf "heard" "Door.heard" (defArgs s_Door_heard) (defBody s_Door_heard) (defScope s_Door_heard) .none kV_Door_heard dc_Door_heard pm_Door_heard an_Door_heard cd_Door_heard ct_Door_heard, F_Door_heard, B_Door_heard, k_Door_heard⟩,
    d_Door_levels := ⟨f_Door_levels, PySem.W.fnOf "levels" "Door.levels" (defArgs s_Door_levels) (defBody s_Door_levels) (defScope s_Door_levels) .none kV_Door_levels dc_Door_levels pm_Door_levels an_Door_levels cd_Door_levels ct_Door_levels, F_Door_levels, B_Door_levels, k_Door_levels⟩,
    d_Door_len := ⟨f_Door_len, PySem.W.fnOf "__len__" "Door.__len__" (defArgs s_Door_len) (defBody s_Door_len) (defScope s_Door_len) .none kV_Door_len dc_Door_len pm_Door_len an_Door_len cd_Door_len ct_Door_len, F_Door_len, B_Door_len, k_Door_len⟩,
    d_Door_check_player := ⟨f_Door_check_player, PySem.W.fnOf "check_player" "Door.check_player" (defArgs s_Door_check_player) (defBody s_Door_check_player) (defScope s_Door_check_player) .none kV_Door_check_player dc_Door_check_player pm_Door_check_player an_Door_check_player cd_Door_check_player ct_Door_check_player, F_Door_check_player, B_Door_check_player, k_Door_check_player⟩,
    d_Door_next := ⟨f_Door_next, PySem.W.fnOf "next" "Door.next" (defArgs s_Door_next) (defBody s_Door_next) (defScope s_Door_next) .none kV_Door_next dc_Door_next pm_Door_next an_Door_next cd_Door_next ct_Door_next, F_Door_next, B_Door_next, k_Door_next⟩,
    d__law_door_next := ⟨f__law_door_next, PySem.W.fnOf "_law_door_next" "_law_door_next" (defArgs s__law_door_next) (defBody s__law_door_next) (defScope s__law_door_next) .none kV__law_door_next dc__law_door_next pm__law_door_next an__law_door_next cd__law_door_next ct__law_door_next, F__law_door_next, B__law_door_next, k__law_door_next⟩,
    m__law_door_next := PySem.W.mg_of X G x__law_door_next,
    d__law_is_door := ⟨f__law_is_door, PySem.W.fnOf "_law_is_door" "_law_is_door" (defArgs s__law_is_door) (defBody s__law_is_door) (defScope s__law_is_door) .none kV__law_is_door dc__law_is_door pm__law_is_door an__law_is_door cd__law_is_door ct__law_is_door, F__law_is_door, B__law_is_door, k__law_is_door⟩,
    m__law_is_door := PySem.W.mg_of X G x__law_is_door,
    d__law_of := ⟨f__law_of, PySem.W.fnOf "_law_of" "_law_of" (defArgs s__law_of) (defBody s__law_of) (defScope s__law_of) .none kV__law_of dc__law_of pm__law_of an__law_of cd__law_of ct__law_of, F__law_of, B__law_of, k__law_of⟩,
    m__law_of := PySem.W.mg_of X G x__law_of,
    d__law_drawn_value := ⟨f__law_drawn_value, PySem.W.fnOf "_law_drawn_value" "_law_drawn_value" (defArgs s__law_drawn_value) (defBody s__law_drawn_value) (defScope s__law_drawn_value) .none kV__law_drawn_value dc__law_drawn_value pm__law_drawn_value an__law_drawn_value cd__law_drawn_value ct__law_drawn_value, F__law_drawn_value, B__law_drawn_value, k__law_drawn_value⟩,
    m__law_drawn_value := PySem.W.mg_of X G x__law_drawn_value,
    d__law_drawn_deed := ⟨f__law_drawn_deed, PySem.W.fnOf "_law_drawn_deed" "_law_drawn_deed" (defArgs s__law_drawn_deed) (defBody s__law_drawn_deed) (defScope s__law_drawn_deed) .none kV__law_drawn_deed dc__law_drawn_deed pm__law_drawn_deed an__law_drawn_deed cd__law_drawn_deed ct__law_drawn_deed, F__law_drawn_deed, B__law_drawn_deed, k__law_drawn_deed⟩,
    m__law_drawn_deed := PySem.W.mg_of X G x__law_drawn_deed,
    d__law_door_come := ⟨f__law_door_come, PySem.W.fnOf "_law_door_come" "_law_door_come" (defArgs s__law_door_come) (defBody s__law_door_come) (defScope s__law_door_come) .none kV__law_door_come dc__law_door_come pm__law_door_come an__law_door_come cd__law_door_come ct__law_door_come, F__law_door_come, B__law_door_come, k__law_door_come⟩,
    m__law_door_come := PySem.W.mg_of X G x__law_door_come,
    d_is_tuple := ⟨f_is_tuple, PySem.W.fnOf "is_tuple" "is_tuple" (defArgs s_is_tuple) (defBody s_is_tuple) (defScope s_is_tuple) .none kV_is_tuple dc_is_tuple pm_is_tuple an_is_tuple cd_is_tuple ct_is_tuple, F_is_tuple, B_is_tuple, k_is_tuple⟩,
    m_is_tuple := PySem.W.mg_of X G x_is_tuple,
    d_is_near_value := ⟨f_is_near_value, PySem.W.fnOf "is_near_value" "is_near_value" (defArgs s_is_near_value) (defBody s_is_near_value) (defScope s_is_near_value) .none kV_is_near_value dc_is_near_value pm_is_near_value an_is_near_value cd_is_near_value ct_is_near_value, F_is_near_value, B_is_near_value, k_is_near_value⟩,
    m_is_near_value := PySem.W.mg_of X G x_is_near_value,
    d_is_value := ⟨f_is_value, PySem.W.fnOf "is_value" "is_value" (defArgs s_is_value) (defBody s_is_value) (defScope s_is_value) .none kV_is_value dc_is_value pm_is_value an_is_value cd_is_value ct_is_value, F_is_value, B_is_value, k_is_value⟩,
    m_is_value := PySem.W.mg_of X G x_is_value,
    d_Door_come := ⟨f_Door_come, PySem.W.fnOf "come" "Door.come" (defArgs s_Door_come) (defBody s_Door_come) (defScope s_Door_come) .none kV_Door_come dc_Door_come pm_Door_come an_Door_come cd_Door_come ct_Door_come, F_Door_come, B_Door_come, k_Door_come⟩,
    d_Door_show := ⟨f_Door_show, PySem.W.fnOf "show" "Door.show" (defArgs s_Door_show) (defBody s_Door_show) (defScope s_Door_show) .none kV_Door_show dc_Door_show pm_Door_show an_Door_show cd_Door_show ct_Door_show, F_Door_show, B_Door_show, k_Door_show⟩,
    d_Door_ask := ⟨f_Door_ask, PySem.W.fnOf "ask" "Door.ask" (defArgs s_Door_ask) (defBody s_Door_ask) (defScope s_Door_ask) .none kV_Door_ask dc_Door_ask pm_Door_ask an_Door_ask cd_Door_ask ct_Door_ask, F_Door_ask, B_Door_ask, k_Door_ask⟩,
    d_Door_step := ⟨f_Door_step, PySem.W.fnOf "step" "Door.step" (defArgs s_Door_step) (defBody s_Door_step) (defScope s_Door_step) .none kV_Door_step dc_Door_step pm_Door_step an_Door_step cd_Door_step ct_Door_step, F_Door_step, B_Door_step, k_Door_step⟩,
    d__law_door_step := ⟨f__law_door_step, PySem.W.fnOf "_law_door_step" "_law_door_step" (defArgs s__law_door_step) (defBody s__law_door_step) (defScope s__law_door_step) .none kV__law_door_step dc__law_door_step pm__law_door_step an__law_door_step cd__law_door_step ct__law_door_step, F__law_door_step, B__law_door_step, k__law_door_step⟩,
    m__law_door_step := PySem.W.mg_of X G x__law_door_step,
    d__law_deed := ⟨f__law_deed, PySem.W.fnOf "_law_deed" "_law_deed" (defArgs s__law_deed) (defBody s__law_deed) (defScope s__law_deed) .none kV__law_deed dc__law_deed pm__law_deed an__law_deed cd__law_deed ct__law_deed, F__law_deed, B__law_deed, k__law_deed⟩,
    m__law_deed := PySem.W.mg_of X G x__law_deed,
    d__law_door_copy := ⟨f__law_door_copy, PySem.W.fnOf "_law_door_copy" "_law_door_copy" (defArgs s__law_door_copy) (defBody s__law_door_copy) (defScope s__law_door_copy) .none kV__law_door_copy dc__law_door_copy pm__law_door_copy an__law_door_copy cd__law_door_copy ct__law_door_copy, F__law_door_copy, B__law_door_copy, k__law_door_copy⟩,
    m__law_door_copy := PySem.W.mg_of X G x__law_door_copy,
    d_Door_copy := ⟨f_Door_copy, PySem.W.fnOf "copy" "Door.copy" (defArgs s_Door_copy) (defBody s_Door_copy) (defScope s_Door_copy) .none kV_Door_copy dc_Door_copy pm_Door_copy an_Door_copy cd_Door_copy ct_Door_copy, F_Door_copy, B_Door_copy, k_Door_copy⟩,
    d_Door_eq := ⟨f_Door_eq, PySem.W.fnOf "__eq__" "Door.__eq__" (defArgs s_Door_eq) (defBody s_Door_eq) (defScope s_Door_eq) .none kV_Door_eq dc_Door_eq pm_Door_eq an_Door_eq cd_Door_eq ct_Door_eq, F_Door_eq, B_Door_eq, k_Door_eq⟩,
    d__law_done_again := ⟨f__law_done_again, PySem.W.fnOf "_law_done_again" "_law_done_again" (defArgs s__law_done_again) (defBody s__law_done_again) (defScope s__law_done_again) .none kV__law_done_again dc__law_done_again pm__law_done_again an__law_done_again cd__law_done_again ct__law_done_again, F__law_done_again, B__law_done_again, k__law_done_again⟩,
    m__law_done_again := PySem.W.mg_of X G x__law_done_again,
    d__law_right := ⟨f__law_right, PySem.W.fnOf "_law_right" "_law_right" (defArgs s__law_right) (defBody s__law_right) (defScope s__law_right) .none kV__law_right dc__law_right pm__law_right an__law_right cd__law_right ct__law_right, F__law_right, B__law_right, k__law_right⟩,
    m__law_right := PySem.W.mg_of X G x__law_right,
    d__law_pot := ⟨f__law_pot, PySem.W.fnOf "_law_pot" "_law_pot" (defArgs s__law_pot) (defBody s__law_pot) (defScope s__law_pot) .none kV__law_pot dc__law_pot pm__law_pot an__law_pot cd__law_pot ct__law_pot, F__law_pot, B__law_pot, k__law_pot⟩,
    m__law_pot := PySem.W.mg_of X G x__law_pot,
    d_law := ⟨fa, PySem.W.fnOf "law" "law" (defArgs s_law) (defBody s_law) (defScope s_law) .none kV_law dc_law pm_law an_law cd_law ct_law, F_law, B_law, k_law⟩,
    m_law := PySem.W.mg_of X G x_law,
    t_MOST_PLAYERS := t_MOST_PLAYERS,
    gl_MOST_PLAYERS := PySem.W.mg_of X G g_MOST_PLAYERS,
    t_LEVEL := t_LEVEL,
    gl_LEVEL := PySem.W.mg_of X G g_LEVEL,
    t_IN := t_IN,
    gl_IN := PySem.W.mg_of X G g_IN,
    t_LOOK := t_LOOK,
    gl_LOOK := PySem.W.mg_of X G g_LOOK,
    t_ASK := t_ASK,
    gl_ASK := PySem.W.mg_of X G g_ASK,
    t_COME := t_COME,
    gl_COME := PySem.W.mg_of X G g_COME,
    t_SETTLED := t_SETTLED,
    gl_SETTLED := PySem.W.mg_of X G g_SETTLED,
    t_MOST_DEEP := t_MOST_DEEP,
    gl_MOST_DEEP := PySem.W.mg_of X G g_MOST_DEEP,
    t_OUT := t_OUT,
    gl_OUT := PySem.W.mg_of X G g_OUT,
    t_WAIT := t_WAIT,
    gl_WAIT := PySem.W.mg_of X G g_WAIT,
    t_WORD := t_WORD,
    gl_WORD := PySem.W.mg_of X G g_WORD,
    t_MOST_NUMBER := t_MOST_NUMBER,
    gl_MOST_NUMBER := PySem.W.mg_of X G g_MOST_NUMBER,
    t_MOST_THINGS := t_MOST_THINGS,
    gl_MOST_THINGS := PySem.W.mg_of X G g_MOST_THINGS,
    a_Door := a_Door,
    cl_Door := ⟨pg_Door, hd_Door, po_Door, sa_Door⟩,
    mk_Door := ⟨mk_Door, x_Door_init, i_Door_init, kc_Door⟩,
    mC_Door := PySem.W.mg_of X G x_Door,
    ii_Door := ⟨ih_Door, ihn, iht, im_Door⟩,
    is1_Door := is1_Door,
    is2_Door := is2_Door,
    ib_Door_NoneType := ib_Door_NoneType,
    ib_Door_bool := ib_Door_bool,
    ib_Door_int := ib_Door_int,
    ib_Door_str := ib_Door_str,
    ib_Door_tuple := ib_Door_tuple,
    ib_Door_list := ib_Door_list,
    ib_Door_dict := ib_Door_dict,
    io_Door_Door := io_Door_Door,
    na_Door_own_many := na_Door_own_many,
    na_Door_own_came := na_Door_own_came,
    na_Door_own_levels := na_Door_own_levels,
    na_Door_own_heard := na_Door_own_heard,
    na_Door_own_seen := na_Door_own_seen,
    na_Door_own_done := na_Door_own_done,
    mt_Door_ask := ⟨x_Door_ask, i_Door_ask, k_Door_ask⟩,
    mt_Door_check_player := ⟨x_Door_check_player, i_Door_check_player, k_Door_check_player⟩,
    mt_Door_come := ⟨x_Door_come, i_Door_come, k_Door_come⟩,
    mt_Door_copy := ⟨x_Door_copy, i_Door_copy, k_Door_copy⟩,
    mt_Door_next := ⟨x_Door_next, i_Door_next, k_Door_next⟩,
    mt_Door_show := ⟨x_Door_show, i_Door_show, k_Door_show⟩,
    mt_Door_step := ⟨x_Door_step, i_Door_step, k_Door_step⟩,
    p_Door_came := p_Door_came,
    pr_Door_came := ⟨y1_Door_came, y2_Door_came, y3_Door_came, rs_Door_came, y4_Door_came⟩,
    p_Door_heard := p_Door_heard,
    pr_Door_heard := ⟨y1_Door_heard, y2_Door_heard, y3_Door_heard, rs_Door_heard, y4_Door_heard⟩,
    p_Door_levels := p_Door_levels,
    pr_Door_levels := ⟨y1_Door_levels, y2_Door_levels, y3_Door_levels, rs_Door_levels, y4_Door_levels⟩,
    p_Door_many := p_Door_many,
    pr_Door_many := ⟨y1_Door_many, y2_Door_many, y3_Door_many, rs_Door_many, y4_Door_many⟩,
    ln_Door := ⟨x_Door_len, i_Door_len, k_Door_len⟩,
    eqf_Door := x_Door_eq,
    eqn_Door := i_Door_eq,
    bl := by
      intro x hx
      simp only [blts, List.mem_cons, List.not_mem_nil, or_false] at hx
      rcases hx with rfl | rfl | rfl | rfl | rfl | rfl | rfl | rfl | rfl | rfl | rfl | rfl | rfl | rfl | rfl | rfl | rfl | rfl | rfl | rfl | rfl | rfl
      · exact PySem.W.mg_none_of X G z_len
      · exact PySem.W.mg_none_of X G z_tuple
      · exact PySem.W.mg_none_of X G z_list
      · exact PySem.W.mg_none_of X G z_range
      · exact PySem.W.mg_none_of X G z_max
      · exact PySem.W.mg_none_of X G z_min
      · exact PySem.W.mg_none_of X G z_sum
      · exact PySem.W.mg_none_of X G z_all
      · exact PySem.W.mg_none_of X G z_any
      · exact PySem.W.mg_none_of X G z_sorted
      · exact PySem.W.mg_none_of X G z_abs
      · exact PySem.W.mg_none_of X G z_int
      · exact PySem.W.mg_none_of X G z_repr
      · exact PySem.W.mg_none_of X G z_enumerate
      · exact PySem.W.mg_none_of X G z_zip
      · exact PySem.W.mg_none_of X G z_isinstance
      · exact PySem.W.mg_none_of X G z_set
      · exact PySem.W.mg_none_of X G z_str
      · exact PySem.W.mg_none_of X G z_dict
      · exact PySem.W.mg_none_of X G z_bool
      · exact PySem.W.mg_none_of X G z_reversed
      · exact PySem.W.mg_none_of X G z_type }, rfl, fun s v => .of_eq rfl⟩
end K35

namespace K35
open PySem L2 Ev
open PyProof.Rows hiding St
abbrev doorNext : SemF := f_Door_next (f_Door_check_player isIntM)
abbrev doorStep : SemF := f_Door_step doorNext f_Door_levels f_Door_show f_Door_ask
section
variable {st : Store} {o c v h s d : Nat} {ds : List Pl} {dn : List D} {i : Nat} {p : Pl} {x : D}
theorem nes (A : DoorAt st o c v h s d ds dn) : ((o ≠ c ∧ o ≠ v ∧ o ≠ h ∧ o ≠ s ∧ o ≠ d) ∧ (c ≠ v ∧ c ≠ h ∧ c ≠ s ∧ c ≠ d) ∧ (v ≠ h ∧ v ≠ s ∧ v ≠ d) ∧ (h ≠ s ∧ h ≠ d) ∧ s ≠ d) ∧ ((c ≠ o ∧ v ≠ o ∧ h ≠ o ∧ s ≠ o ∧ d ≠ o) ∧ (v ≠ c ∧ h ≠ c ∧ s ≠ c ∧ d ≠ c) ∧ (h ≠ v ∧ s ≠ v ∧ d ≠ v) ∧ (s ≠ h ∧ d ≠ h) ∧ d ≠ s) := by
  have n := A.nd
  simp only [List.nodup_cons, List.mem_cons, List.not_mem_nil, or_false, not_or] at n
  obtain ⟨⟨a1, a2, a3, a4, a5⟩, ⟨b1, b2, b3, b4⟩, ⟨c1, c2, c3⟩, ⟨d1, d2⟩, e1, _⟩ := n
  exact ⟨⟨⟨a1, a2, a3, a4, a5⟩, ⟨b1, b2, b3, b4⟩, ⟨c1, c2, c3⟩, ⟨d1, d2⟩, e1⟩, ⟨⟨Ne.symm a1, Ne.symm a2, Ne.symm a3, Ne.symm a4, Ne.symm a5⟩, ⟨Ne.symm b1, Ne.symm b2, Ne.symm b3, Ne.symm b4⟩, ⟨Ne.symm c1, Ne.symm c2, Ne.symm c3⟩, ⟨Ne.symm d1, Ne.symm d2⟩, Ne.symm e1⟩⟩
theorem lts (A : DoorAt st o c v h s d ds dn) : (o < st.length ∧ c < st.length ∧ v < st.length) ∧ h < st.length ∧ s < st.length ∧ d < st.length := ⟨⟨lt_of_get A.h0, lt_of_get A.hc, lt_of_get A.hv⟩, lt_of_get A.hh, lt_of_get A.hs, lt_of_get A.hd⟩
theorem chk_ok (A : DoorAt st o c v h s d ds dn) (hp : ds[i]? = some p) : f_Door_check_player isIntM [.loc o, .int (i : Int)] st = .ok .non st := by
  have hl : i < ds.length := (List.getElem?_eq_some_iff.mp hp).1
  have h1 : (0 : Int) ≤ i := by omega
  have h2 : (i : Int) ≤ (ds.length : Int) - 1 := by omega
  simp [b_Door_check_player, A.h0, h1, h2]
theorem Pl.lev1 (h0 : p.st ≠ 0) (h : p.st < 3) : p.lev = .int 1 := by simp [Pl.lev, h0, h]
theorem lev_isN (h0 : p.st ≠ 0) : isNF p.lev = false := by
  unfold Pl.lev
  rw [if_neg h0]
  split
  · rfl
  · split <;> rfl
def kindS (p : Pl) : D := if p.st = 0 then .str "level" else if p.st = 1 then .str "look" else if p.st = 2 then .str "level" else .str "ask"
theorem next_ok {C : SemF} (k : C [.loc o, .int (i : Int)] st = .ok .non st) (A : DoorAt st o c v h s d ds dn) (hp : ds[i]? = some p) (hc : p.came = some x) : f_Door_next C [.loc o, .int (i : Int)] st = .ok (kindS p) st := by
  have a1 := at_map (f := Pl.c) hp
  have a2 := at_map (f := Pl.lev) hp
  have a3 := at_map (f := Pl.seen) hp
  have pc : p.c = .tup [x] := by simp [Pl.c, hc]
  rw [pc] at a1
  by_cases z0 : p.st = 0
  · have e : p.lev = .non := by simp [Pl.lev, z0]
    rw [e] at a2
    simp [b_Door_next, A.h0, A.hc, A.hv, A.hs, k, a1, a2, a3, -ev_atI, z0, kindS]
  · by_cases z3 : p.st < 3
    · have e : p.lev = .int 1 := by simp [Pl.lev, z0, z3]
      rw [e] at a2
      by_cases z1 : p.st = 1
      · have e3 : p.seen = .non := by simp [Pl.seen, z1]
        rw [e3] at a3
        simp [b_Door_next, A.h0, A.hc, A.hv, A.hs, k, a1, a2, a3, -ev_atI, z1, kindS]
      · have z2 : p.st = 2 := by omega
        have e3 : p.seen = .bl (!p.won) := by simp [Pl.seen, z2]
        rw [e3] at a3
        simp [b_Door_next, A.h0, A.hc, A.hv, A.hs, k, a1, a2, a3, -ev_atI, z2, kindS]
    · have z3' : ¬ p.st = 1 ∧ ¬ p.st = 2 := by omega
      cases hw : p.won with
      | true =>
        have e : p.lev = .int 2 := by simp [Pl.lev, z0, z3, hw]
        rw [e] at a2
        simp [b_Door_next, A.h0, A.hc, A.hv, A.hs, k, a1, a2, a3, -ev_atI, z0, z3', kindS]
      | false =>
        have e : p.lev = .int 0 := by simp [Pl.lev, z0, z3, hw]
        rw [e] at a2
        simp [b_Door_next, A.h0, A.hc, A.hv, A.hs, k, a1, a2, a3, -ev_atI, z0, z3', kindS]
theorem levels_ok (A : DoorAt st o c v h s d ds dn) : f_Door_levels [.loc o] st = .ok (.tup (ds.map Pl.lev)) st := by
  simp [b_Door_levels, A.h0, A.hv]
/-- a player's row is changed -/
theorem door_put (A : DoorAt st o c v h s d ds dn) {q : Pl} {st' : Store} {dn' : List D} (hp : ds[i]? = some p) (h0 : st'[o]? = st[o]?) (hc : st'[c]? = some (.lst ((ds.map Pl.c).set i q.c))) (hv : st'[v]? = some (.lst ((ds.map Pl.lev).set i q.lev)))
    (hh : st'[h]? = some (.lst ((ds.map Pl.heard).set i q.heard))) (hs : st'[s]? = some (.lst ((ds.map Pl.seen).set i q.seen))) (hd : st'[d]? = some (.lst dn')) (hn : dn'.length ≤ 100000) : DoorAt st' o c v h s d (ds.set i q) dn' :=
  ⟨A.nd, by rw [h0, A.h0, List.length_set], by rw [hc, List.map_set], by rw [hv, List.map_set], by rw [hh, List.map_set], by rw [hs, List.map_set], hd, by rw [List.length_set]; exact A.n5, hn⟩
theorem same_map {f : Pl → D} {q : Pl} (hp : ds[i]? = some p) (e : f q = f p) : (ds.map f).set i (f q) = ds.map f := by
  rw [e]
  exact set_same (by rw [List.getElem?_map, hp]; rfl)
/-- show: level 1, or settled -/
theorem show_ok (A : DoorAt st o c v h s d ds dn) (hp : ds[i]? = some p) (z : p.st = 0 ∨ p.st = 2) :
    ∃ q : Pl, q = { p with st := p.st + 1 } ∧ f_Door_show [.loc o, .int (i : Int)] st = .ok (.tup [.str "level", q.lev]) (st.set v (.lst ((ds.map Pl.lev).set i q.lev))) := by
  refine ⟨_, rfl, ?_⟩
  have a2 := at_map (f := Pl.lev) hp
  have a3 := at_map (f := Pl.seen) hp
  have hl : i < ds.length := (List.getElem?_eq_some_iff.mp hp).1
  have ix := ixN_nat hl
  have ⟨n1, n2⟩ := nes A
  have lt := lts A
  rcases z with z | z
  · have e : p.lev = .non := by simp [Pl.lev, z]
    rw [e] at a2
    simp [b_Door_show, A.h0, A.hv, a2, -ev_atI, ix, szL, Pl.lev, z]
  · have e : p.lev = .int 1 := by simp [Pl.lev, z]
    have e3 : p.seen = .bl (!p.won) := by simp [Pl.seen, z]
    rw [e] at a2
    rw [e3] at a3
    cases hw : p.won <;> simp [b_Door_show, A.h0, A.hv, A.hs, a2, a3, -ev_atI, ix, szL, Pl.lev, z, hw]
theorem ask_wait (A : DoorAt st o c v h s d ds dn) (h1 : oneS ds = true) : f_Door_ask [.loc o, .int (i : Int)] st = .ok (.tup [.str "wait"]) st := by
  have f1 := levs_flat ds
  have f2 := levs_one ds
  rw [h1] at f2
  simp only [List.all_map, List.any_map] at f1 f2
  simp [b_Door_ask, A.h0, A.hv, f1, f2, szL, -List.all_eq_true, -List.any_eq_true]
theorem ask_word (A : DoorAt st o c v h s d ds dn) (h1 : oneS ds = false) {j : Nat} {w : Pl} {y : D} (hj : winS ds = some j) (hw : ds[j]? = some w) (hy : w.came = some y) (hp : ds[i]? = some p) :
    f_Door_ask [.loc o, .int (i : Int)] st = .ok (.tup [.str "word", y]) (st.set h (.lst ((ds.map Pl.heard).set i (.tup [y])))) := by
  have f1 := levs_flat ds
  have f2 := levs_one ds
  have f3 := levs_win ds 0
  rw [h1] at f2
  rw [hj] at f3
  have a1 := at_map (f := Pl.c) hw
  have e1 : w.c = .tup [y] := by simp [Pl.c, hy]
  rw [e1] at a1
  have hl : i < ds.length := (List.getElem?_eq_some_iff.mp hp).1
  have ix := ixN_nat hl
  have a4 : atI ((ds.map Pl.heard).set i (.tup [y])) (i : Int) = some (.tup [y]) := by
    unfold atI
    rw [List.length_set, List.length_map, ix]
    simp [hl]
  have ⟨n1, n2⟩ := nes A
  have lt := lts A
  simp only [List.all_map, List.any_map] at f1 f2
  have g1 : ∀ X : O, (st.set h X)[h]? = some X := fun X => List.getElem?_set_self lt.2.1
  have g2 : ∀ X : O, (st.set h X)[o]? = st[o]? := fun X => List.getElem?_set_ne n2.1.2.2.1
  simp [b_Door_ask, A.h0, A.hv, A.hc, A.hh, f1, f2, f3, a1, a4, ix, szL, -ev_atI, g1, g2, -List.all_eq_true, -List.any_eq_true]
theorem step_ok {N L S K : SemF} (hN : ∀ st dn, DoorAt st o c v h s d ds dn → N [.loc o, .int (i : Int)] st = .ok (kindS p) st) (hL : ∀ st ds dn, DoorAt st o c v h s d ds dn → L [.loc o] st = .ok (.tup (ds.map Pl.lev)) st)
    (hS : ∀ st dn, DoorAt st o c v h s d ds dn → (p.st = 0 ∨ p.st = 2) → S [.loc o, .int (i : Int)] st = .ok (.tup [.str "level", Pl.lev { p with st := p.st + 1 }]) (st.set v (.lst ((ds.map Pl.lev).set i (Pl.lev { p with st := p.st + 1 })))))
    (hW : ∀ st dn, DoorAt st o c v h s d ds dn → oneS ds = true → K [.loc o, .int (i : Int)] st = .ok (.tup [.str "wait"]) st)
    (hK : ∀ st dn j w y, DoorAt st o c v h s d ds dn → oneS ds = false → winS ds = some j → ds[j]? = some w → w.came = some y → K [.loc o, .int (i : Int)] st = .ok (.tup [.str "word", y]) (st.set h (.lst ((ds.map Pl.heard).set i (.tup [y])))))
    (A : DoorAt st o c v h s d ds dn) (hn : dn.length < 100000) (hp : ds[i]? = some p) {t : D} {q : Pl} (R : StepR ds p t q) :
    ∃ st', f_Door_step N L S K [.loc o, .int (i : Int)] st = .ok t st' ∧ Upd [v, h, s, d] st st' ∧ DoorAt st' o c v h s d (ds.set i q) (dn ++ [.tup [.int i]]) := by
  have lt := lts A
  have ⟨n1, n2⟩ := nes A
  have hl : i < ds.length := (List.getElem?_eq_some_iff.mp hp).1
  have ix := ixN_nat hl
  have U0 : Upd [d] st (st.set d (.lst (dn ++ [.tup [.int i]]))) := Upd.set (by simp)
  have gd : (st.set d (.lst (dn ++ [.tup [.int i]])))[d]? = some (.lst (dn ++ [.tup [.int i]])) := List.getElem?_set_self lt.2.2.2
  have nx : ∀ j, j ≠ d → ∀ u : Option O, st[j]? = u → (st.set d (.lst (dn ++ [.tup [.int i]])))[j]? = u := fun j hj u e => by rw [List.getElem?_set_ne (Ne.symm hj)]; exact e
  have A1 : DoorAt (st.set d (.lst (dn ++ [.tup [.int i]]))) o c v h s d ds (dn ++ [.tup [.int i]]) :=
    ⟨A.nd, nx o n1.1.2.2.2.2 _ A.h0, nx c n1.2.1.2.2.2 _ A.hc, nx v n1.2.2.1.2.2 _ A.hv, nx h n1.2.2.2.1.2 _ A.hh, nx s n1.2.2.2.2 _ A.hs, gd, A.n5, by simp; omega⟩
  generalize hs1 : st.set d (.lst (dn ++ [.tup [.int i]])) = s1 at U0 A1
  have kN := hN st dn A
  have hz : dn.length < 16777216 := by omega
  have lt1 := lts A1
  have sc : ∀ q : Pl, q.c = p.c → (ds.map Pl.c).set i q.c = ds.map Pl.c := fun q e => same_map hp e
  have sv : ∀ q : Pl, q.lev = p.lev → (ds.map Pl.lev).set i q.lev = ds.map Pl.lev := fun q e => same_map hp e
  have sh : ∀ q : Pl, q.heard = p.heard → (ds.map Pl.heard).set i q.heard = ds.map Pl.heard := fun q e => same_map hp e
  have ss : ∀ q : Pl, q.seen = p.seen → (ds.map Pl.seen).set i q.seen = ds.map Pl.seen := fun q e => same_map hp e
  cases R with
  | one z =>
    have e := hS s1 _ A1 (.inl z)
    refine ⟨_, ?_, (U0.trans (Upd.set (W := [v]) (l := v) (by simp) (o := .lst ((ds.map Pl.lev).set i (Pl.lev { p with st := p.st + 1 })))) : Upd _ st _).sub (by simp), ?_⟩
    · simp [b_Door_step, kN, kindS, z, A.h0, A.hd, A1.h0, hz, szL, hs1, e, Pl.lev]
    · refine door_put A1 hp ?_ ?_ ?_ ?_ ?_ ?_ A1.nn
      · rw [List.getElem?_set_ne n2.1.2.1]
      · rw [List.getElem?_set_ne n2.2.1.1, sc]; exact A1.hc; rfl
      · rw [List.getElem?_set_self lt1.1.2.2]; simp [z]
      · rw [List.getElem?_set_ne n1.2.2.1.1, sh]; exact A1.hh; rfl
      · rw [List.getElem?_set_ne n1.2.2.1.2.1, ss]; exact A1.hs; simp [Pl.seen, z]
      · rw [List.getElem?_set_ne n1.2.2.1.2.2]; exact A1.hd
  | two z =>
    have e := hS s1 _ A1 (.inr z)
    refine ⟨_, ?_, (U0.trans (Upd.set (W := [v]) (l := v) (by simp) (o := .lst ((ds.map Pl.lev).set i (Pl.lev { p with st := p.st + 1 })))) : Upd _ st _).sub (by simp), ?_⟩
    · simp [b_Door_step, kN, kindS, z, A.h0, A.hd, A1.h0, hz, szL, hs1, e, Pl.lev]
    · refine door_put A1 hp ?_ ?_ ?_ ?_ ?_ ?_ A1.nn
      · rw [List.getElem?_set_ne n2.1.2.1]
      · rw [List.getElem?_set_ne n2.2.1.1, sc]; exact A1.hc; rfl
      · rw [List.getElem?_set_self lt1.1.2.2]; simp [z]
      · rw [List.getElem?_set_ne n1.2.2.1.1, sh]; exact A1.hh; rfl
      · rw [List.getElem?_set_ne n1.2.2.1.2.1, ss]; exact A1.hs; simp [Pl.seen, z]
      · rw [List.getElem?_set_ne n1.2.2.1.2.2]; exact A1.hd
  | look z =>
    have f1 := levs_flat ds
    have f2 := levs_two ds
    simp only [List.all_map, List.any_map] at f1 f2
    have es : Pl.seen { p with st := 2, won := !twoS ds } = .bl (twoS ds) := by simp [Pl.seen]
    have A2 : DoorAt (s1.set s (.lst ((ds.map Pl.seen).set i (.bl (twoS ds))))) o c v h s d (ds.set i { p with st := 2, won := !twoS ds }) (dn ++ [.tup [.int i]]) := by
      refine door_put A1 hp ?_ ?_ ?_ ?_ ?_ ?_ A1.nn
      · rw [List.getElem?_set_ne n2.1.2.2.2.1]
      · rw [List.getElem?_set_ne n2.2.1.2.2.1, sc]; exact A1.hc; rfl
      · rw [List.getElem?_set_ne n2.2.2.1.2.1, sv]; exact A1.hv; simp [Pl.lev, z]
      · rw [List.getElem?_set_ne n2.2.2.2.1.1, sh]; exact A1.hh; rfl
      · rw [List.getElem?_set_self lt1.2.2.1, es]
      · rw [List.getElem?_set_ne n1.2.2.2.2]; exact A1.hd
    have el := hL _ _ _ A2
    have em : (ds.set i { p with st := 2, won := !twoS ds }).map Pl.lev = ds.map Pl.lev := by
      rw [List.map_set]
      exact sv _ (by simp [Pl.lev, z])
    rw [em] at el
    refine ⟨_, ?_, (U0.trans (Upd.set (W := [s]) (l := s) (by simp) (o := .lst ((ds.map Pl.seen).set i (.bl (twoS ds))))) : Upd _ st _).sub (by simp), A2⟩
    have o2 : ∀ X : O, (s1.set s X)[o]? = s1[o]? := fun X => List.getElem?_set_ne n2.1.2.2.2.1
    simp [b_Door_step, kN, kindS, z, A.h0, A.hd, hz, hs1, o2, A1.h0, A1.hv, A1.hs, f1, f2, ix, szL, el, -List.all_eq_true, -List.any_eq_true]
  | wait z z1 =>
    have e := hW s1 _ A1 z1
    refine ⟨s1, ?_, U0.sub (by simp), by rw [Ev.set_same hp]; exact A1⟩
    simp [b_Door_step, kN, kindS, z, A.h0, A.hd, A1.h0, hz, szL, hs1, e]
  | word j w y z z1 hj hw hy =>
    have e := hK s1 _ j w y A1 z1 hj hw hy
    refine ⟨_, ?_, (U0.trans (Upd.set (W := [h]) (l := h) (by simp) (o := .lst ((ds.map Pl.heard).set i (.tup [y])))) : Upd _ st _).sub (by simp), ?_⟩
    · simp [b_Door_step, kN, kindS, z, A.h0, A.hd, A1.h0, hz, szL, hs1, e]
    · refine door_put A1 hp ?_ ?_ ?_ ?_ ?_ ?_ A1.nn
      · rw [List.getElem?_set_ne n2.1.2.2.1]
      · rw [List.getElem?_set_ne n2.2.1.2.1, sc]; exact A1.hc; rfl
      · rw [List.getElem?_set_ne n2.2.2.1.1, sv]; exact A1.hv; rfl
      · rw [List.getElem?_set_self lt1.2.1]
      · rw [List.getElem?_set_ne n1.2.2.2.1.1, ss]; exact A1.hs; rfl
      · rw [List.getElem?_set_ne n1.2.2.2.1.2]; exact A1.hd
abbrev doorAsk : SemF := f_Door_ask
theorem doorStep_ok (A : DoorAt st o c v h s d ds dn) (hn : dn.length < 100000) (hp : ds[i]? = some p) (hc : p.came = some x) {t : D} {q : Pl} (R : StepR ds p t q) :
    ∃ st', doorStep [.loc o, .int (i : Int)] st = .ok t st' ∧ Upd [v, h, s, d] st st' ∧ DoorAt st' o c v h s d (ds.set i q) (dn ++ [.tup [.int i]]) :=
  step_ok (fun _ _ B => next_ok (chk_ok B hp) B hp hc) (fun _ _ _ B => levels_ok B) (fun _ _ B z => by obtain ⟨q, rfl, e⟩ := show_ok B hp z; exact e) (fun _ _ B z => ask_wait B z) (fun _ _ _ _ _ B z1 z2 z3 z4 => ask_word B z1 z2 z3 z4 hp) A hn hp R
theorem come_ok {C V : SemF} (hC : ∀ st, DoorAt st o c v h s d ds dn → C [.loc o, .int (i : Int)] st = .ok .non st) (hV : ∀ st, V [x] st = .ok (.bl true) st) (A : DoorAt st o c v h s d ds dn) (hn : dn.length < 100000) (hp : ds[i]? = some p) (hc : p.came = none) :
    ∃ st', f_Door_come C V [.loc o, .int (i : Int), x] st = .ok .non st' ∧ Upd [c, d] st st' ∧ DoorAt st' o c v h s d (ds.set i { p with came := some x }) (dn ++ [.tup [.int i, .str "come", x]]) := by
  have lt := lts A
  have ⟨n1, n2⟩ := nes A
  have hl : i < ds.length := (List.getElem?_eq_some_iff.mp hp).1
  have ix := ixN_nat hl
  have a1 := at_map (f := Pl.c) hp
  have pc : p.c = .non := by simp [Pl.c, hc]
  rw [pc] at a1
  have hz : dn.length < 16777216 := by omega
  have kC := hC st A
  have ec : Pl.c { p with came := some x } = .tup [x] := rfl
  have g1 : ∀ X : O, (st.set c X)[o]? = st[o]? := fun X => List.getElem?_set_ne n2.1.1
  have g2 : ∀ X : O, (st.set c X)[d]? = st[d]? := fun X => List.getElem?_set_ne n1.2.1.2.2.2
  have sv : ∀ q : Pl, q.lev = p.lev → (ds.map Pl.lev).set i q.lev = ds.map Pl.lev := fun q e => same_map hp e
  have sh : ∀ q : Pl, q.heard = p.heard → (ds.map Pl.heard).set i q.heard = ds.map Pl.heard := fun q e => same_map hp e
  have ss : ∀ q : Pl, q.seen = p.seen → (ds.map Pl.seen).set i q.seen = ds.map Pl.seen := fun q e => same_map hp e
  have lc : c < (st.set d (O.lst (dn ++ [.tup [.int i, .str "come", x]]))).length := by rw [List.length_set]; exact lt.1.2.1
  refine ⟨(st.set c (.lst ((ds.map Pl.c).set i (.tup [x])))).set d (.lst (dn ++ [.tup [.int i, .str "come", x]])), ?_, ((Upd.set (W := [c]) (l := c) (by simp)).trans (Upd.set (W := [d]) (l := d) (by simp))).sub (by simp), ?_⟩
  · simp [b_Door_come, kC, hV, A.h0, A.hc, A.hd, a1, -ev_atI, ix, g1, g2, szL, hz]
  · refine door_put A hp ?_ ?_ ?_ ?_ ?_ ?_ (by simp; omega)
    · rw [List.getElem?_set_ne n2.1.2.2.2.2, g1]
    · rw [List.getElem?_set_ne n2.2.1.2.2.2, List.getElem?_set_self lt.1.2.1, ec]
    · rw [List.getElem?_set_ne n2.2.2.1.2.2, List.getElem?_set_ne n1.2.1.1, sv]; exact A.hv; rfl
    · rw [List.getElem?_set_ne n2.2.2.2.1.2, List.getElem?_set_ne n1.2.1.2.1, sh]; exact A.hh; rfl
    · rw [List.getElem?_set_ne n2.2.2.2.2, List.getElem?_set_ne n1.2.1.2.2.1, ss]; exact A.hs; rfl
    · rw [List.getElem?_set_self (by rw [List.length_set]; exact lt.2.2.2)]
abbrev freshDs (n : Nat) : List Pl := List.replicate n ⟨none, 0, false, .non⟩
theorem init_ok {n : Nat} (h1 : 1 ≤ n) (h2 : n ≤ 5) : ∃ st', f_Door_init isIntM [.loc st.length, .int (n : Int)] (st ++ [.ins 0 []]) = .ok .non st' ∧ Upd [] st st' ∧ st'.length = st.length + 10 ∧
    DoorAt st' st.length (st.length + 2) (st.length + 4) (st.length + 6) (st.length + 8) (st.length + 9) (freshDs n) [] := by
  have k1 : (1 : Int) ≤ n := by omega
  have k2 : (n : Int) ≤ 5 := by omega
  have k3 : -9223372036854775808 ≤ (n : Int) := by omega
  have k4 : (n : Int) < 9223372036854775808 := by omega
  have k5 : n ≤ 16777216 := by omega
  refine ⟨st ++ [.ins 0 [(0, .int (n : Int)), (1, .loc (st.length + 2)), (2, .loc (st.length + 4)), (3, .loc (st.length + 6)), (4, .loc (st.length + 8)), (5, .loc (st.length + 9))], .lst [.non], .lst (List.replicate n .non), .lst [.non], .lst (List.replicate n .non), .lst [.non], .lst (List.replicate n .non), .lst [.non], .lst (List.replicate n .non), .lst []], ?_, Upd.push _, by simp, ?_⟩
  · simp [b_Door_init, k1, k2, k3, k4, k5, szL]
  · exact ⟨by simp, by simp, by simp [Pl.c], by simp [Pl.lev], by simp, by simp [Pl.seen], by simp, by simp; exact h2, by simp⟩
/-- which of the rows, by their levels -/
def pickG (n : Int) (d : D) : Option D := match d with | .tup [i, l] => if eqD l (.int n) = true then some i else none | _ => none
theorem pick_one (ds : List Pl) : (enumD 0 (ds.map Pl.lev)).filterMap (pickG 1) = intL (idxs Pl.mid 0 ds) := enum_pick Pl.lev Pl.mid (pickG 1) (fun p j => by simp only [pickG, lev_one]) ds 0
theorem pick_two (ds : List Pl) : (enumD 0 (ds.map Pl.lev)).filterMap (pickG 2) = intL (idxs Pl.top 0 ds) := enum_pick Pl.lev Pl.top (pickG 2) (fun p j => by simp only [pickG, lev_two]) ds 0
theorem small_int {j n : Nat} (h : j ≤ 9) : Rp n 20 (.int (j : Nat)) := by
  have z : j = 0 ∨ j = 1 ∨ j = 2 ∨ j = 3 ∨ j = 4 ∨ j = 5 ∨ j = 6 ∨ j = 7 ∨ j = 8 ∨ j = 9 := by omega
  rcases z with rfl | rfl | rfl | rfl | rfl | rfl | rfl | rfl | rfl | rfl <;> exact Rp.int'
theorem small_ints {n : Nat} : ∀ {js : List Nat}, (∀ j ∈ js, j ≤ 9) → Rps n (22 * js.length) (js.map fun j => PyData.int (j : Nat))
  | [], _ => Rps.nil'
  | j :: js, h => Rps.cons (small_int (h j (List.mem_cons_self ..))) (small_ints fun x m => h x (List.mem_cons_of_mem _ m)) (by rw [List.length_cons]; omega)
theorem pdWs_ints {f : Nat → Option (List PyData)} : ∀ js : List Nat, pdWs f (intL js) = some (js.map fun j => PyData.int (j : Nat))
  | [] => rfl
  | j :: js => by
    show pdWs f (D.int (j : Nat) :: intL js) = _
    simp only [pdWs_cons, pdW_int, pdWs_ints js, Option.bind_some, cM_some, List.map_cons]
theorem idxs_len (f : Pl → Bool) : ∀ (ds : List Pl) (k : Nat), (idxs f k ds).length ≤ ds.length
  | [], _ => Nat.le_refl _
  | p :: ds, k => by
    unfold idxs
    split
    · have := idxs_len f ds (k + 1); simp; omega
    · have := idxs_len f ds (k + 1); simp; omega
theorem intsD_nat : ∀ js : List Nat, intsD (intL js) = some (js.map fun j => ((j : Nat) : Int))
  | [] => rfl
  | j :: js => by
    show intsD (D.int (j : Nat) :: intL js) = _
    simp [intsD, intsD_nat js]
theorem minI_head {j : Nat} : ∀ {r : List Nat}, (∀ x ∈ r, j < x) → minI (j : Nat) (r.map fun j => ((j : Nat) : Int)) = (j : Nat) := fun {r} h => by
  rcases minI_mem (r.map fun j => ((j : Nat) : Int)) (j : Nat) with z | z
  · exact z
  · obtain ⟨x, m, e⟩ := List.mem_map.mp z
    have h1 := h x m
    have h2 := (minI_le (r.map fun j => ((j : Nat) : Int)) (j : Nat)).1
    omega
end
end K35

namespace K35
open PySem L2 Ev
open PyProof.Rows hiding St

theorem take_ok : Takes (frame1 f__law_take) := by
  intro st l a b n k u hl hp hk hu hu2
  obtain ⟨a0, b0, b1, n0, n1⟩ := hp
  have key : ∃ d a' n' s2, 0 ≤ d ∧ d < u ∧ PotOk a' b n' (k + 1) ∧ f__law_take [.loc 0, .int u] [.lst [.int a, .int b, .int n]] = .ok (.int d) (.lst [.int a', .int b, .int n'] :: s2) := by
    have hu3 : u < 1073741824 := by omega
    have at0 : ∀ x y z : D, atI [x, y, z] 0 = some x := fun _ _ _ => rfl
    have at1 : ∀ x y z : D, atI [x, y, z] 1 = some y := fun _ _ _ => rfl
    have at2 : ∀ x y z : D, atI [x, y, z] 2 = some z := fun _ _ _ => rfl
    by_cases ha : 0 < a
    · refine ⟨a % u, a / u, n, [], Int.emod_nonneg _ (by omega), Int.emod_lt_of_pos _ hu, ⟨Int.ediv_nonneg a0 (by omega), b0, b1, n0, by omega⟩, ?_⟩
      simp [b__law_take, -ev_atI, at0, at1, at2, ixN, ha, hu, hu3, szL]
    · have ha0 : a = 0 := by omega
      subst ha0
      obtain ⟨p, hp, p0, p1⟩ : ∃ p : Int, atI [D.int 2147483647, D.int 2147483629, D.int 2147483587, D.int 2147483579, D.int 2147483563] ((n + 1) % 5) = some (.int p) ∧ 0 < p ∧ p < 2147483648 := by
        have h : (n + 1) % 5 = 0 ∨ (n + 1) % 5 = 1 ∨ (n + 1) % 5 = 2 ∨ (n + 1) % 5 = 3 ∨ (n + 1) % 5 = 4 := by omega
        rcases h with h | h | h | h | h <;> rw [h] <;> exact ⟨_, rfl, by decide, by decide⟩
      have hn : 0 ≤ (n + 1) ∧ (n + 1) ≤ 100001 := by omega
      have hsq : 0 ≤ (n + 1) * (n + 1) ∧ (n + 1) * (n + 1) ≤ 100001 * 100001 := ⟨Int.mul_nonneg hn.1 hn.1, Int.mul_le_mul hn.2 hn.2 hn.1 (by decide)⟩
      have hb : 100909 * (n + 1) * (n + 1) = 100909 * ((n + 1) * (n + 1)) := Int.mul_assoc _ _ _
      have m1 : mulOk 100909 (n + 1) = true := mulOk_l (by decide)
      have m2 : mulOk (100909 * (n + 1)) (n + 1) = true := mulOk_r (by omega)
      have m3 : mulOk 573 (n + 1) = true := mulOk_l (by decide)
      have w : powOk (b + 100909 * (n + 1) * (n + 1) + 1411) 3 = true := powOk_3 (by omega)
      have m4 : ∀ x y : Int, mulOk (x % p) y = true := fun x y => mulOk_l (by
        have h1 := Int.emod_nonneg x (b := p) (by omega)
        have h2 := Int.emod_lt_of_pos x p0
        omega)
      refine ⟨((b + 100909 * (n + 1) * (n + 1) + 1411) ^ 3 % p * ((b + 100909 * (n + 1) * (n + 1) + 1411) ^ 3 % p % 11367 + 573 * (n + 1)) / 309) % u, 0, n + 1, [.lst [D.int 2147483647, D.int 2147483629, D.int 2147483587, D.int 2147483579, D.int 2147483563]], Int.emod_nonneg _ (by omega), Int.emod_lt_of_pos _ hu, ⟨by omega, b0, b1, by omega, by omega⟩, ?_⟩
      have z1 : ¬ ((0 : Int) < 0) := by omega
      have st1 : ixN 3 2 = some 2 := rfl
      simp [b__law_take, -ev_atI, at0, at1, at2, hp, p0, hu, szL, ev_pow, m1, m2, m3, m4, w, st1]
  obtain ⟨d, a', n', s2, h1, h2, h3, h4⟩ := key
  exact ⟨d, a', n', h1, h2, h3, frame1_ok hl rfl flat_pot h4 rfl flat_pot⟩
theorem pot_ok (ns : List Int) (st : Store) (l : Nat) (p : Int) (hl : st[l]? = some (.ro ns)) (p0 : 0 ≤ p) (pm : p < 1000) : ∃ a b, PotOk a b 0 0 ∧ f__law_pot [.loc l, .int p] st = .ok (.loc st.length) (st ++ [.lst [.int a, .int b, .int 0]]) := by
  have w1 : powOk 10 60 = true := by decide +kernel
  have w2 : powOk 1000000000000000000000000000000000000000000000000000000000000 5 = true := by decide +kernel
  have w3 : powOk 10 18 = true := by decide +kernel
  have main : ∀ c : Int, ∃ a b, PotOk a b 0 0 ∧ a = (if c < 0 then -c else c) % 1000000000000000000000000000000000000000000000000000000000000000000000000000000000000000000000000000000000000000000000000000000000000000000000000000000000000000000000000000000000000000000000000000000000000000000000000000000000000000000000000000000000000000000000000000000000000000000000000000000000000 * (if 1000000000000000000 ≤ (if c < 0 then -c else c) then 1 else 0) ∧ b = (c % 2305843009213693951 * 86631 + 10321 * p * p + 689) % 2305843009213693921 := fun c => by
    refine ⟨_, _, ⟨?_, Int.emod_nonneg _ (by decide), ?_, by decide, by decide⟩, rfl, rfl⟩
    · exact Int.mul_nonneg (Int.emod_nonneg _ (by decide)) (ite01 _)
    · have := Int.emod_lt_of_pos (c % 2305843009213693951 * 86631 + 10321 * p * p + 689) (b := 2305843009213693921) (by decide)
      omega
  have m2 : ∀ c : Int, mulOk ((if c < 0 then -c else c) % 1000000000000000000000000000000000000000000000000000000000000000000000000000000000000000000000000000000000000000000000000000000000000000000000000000000000000000000000000000000000000000000000000000000000000000000000000000000000000000000000000000000000000000000000000000000000000000000000000000000000000) (if 1000000000000000000 ≤ (if c < 0 then -c else c) then 1 else 0) = true := fun c => mulOk_r (ite01n _)
  have m3 : ∀ c : Int, mulOk (c % 2305843009213693951) 86631 = true := fun c => mulOk_r (by decide)
  have m4 : mulOk 10321 p = true := mulOk_l (by decide)
  have m5 : mulOk (10321 * p) p = true := mulOk_r (by omega)
  have m6 : mulOk 1571 p = true := mulOk_l (by decide)
  by_cases hp : p < ns.length
  · have hn : p.toNat < ns.length := by omega
    have e : atI (ns.map D.int) p = some (.int ns[p.toNat]) := by
      unfold atI ixN
      simp [p0, hp, List.getElem?_eq_getElem hn]
    obtain ⟨a, b, ok, ea, eb⟩ := main ns[p.toNat]
    refine ⟨a, b, ok, ?_⟩
    subst ea
    subst eb
    simp [b__law_pot, -ev_atI, hl, hp, e, ev_pow, w1, w2, w3, m2, m3, m4, m5, szL]
  · have e : Ev.cutD (ns.map D.int) none (some 1) = (ns.take 1).map D.int := by
      cases ns <;> simp [Ev.cutD, HT.sIx]
    have e2 : intsD (List.take 1 (List.map D.int ns)) = some (List.take 1 ns) := by
      rw [← List.map_take]
      exact intsD_map _
    obtain ⟨a, b, ok, ea, eb⟩ := main ((ns.take 1).sum % 1000003 + 1571 * p + 1401)
    refine ⟨a, b, ok, ?_⟩
    subst ea
    subst eb
    simp [b__law_pot, -ev_atI, hl, hp, e, ev_pow, w1, w2, w3, m2, m3, m4, m5, m6, szL, sumQ, e2]

theorem cells_ok (ns : List Int) (hl : ns.length ≤ 63) : ∃ m : Nat, m ≤ 2 ∧ f__law_cells [.loc 0, .int 2] [.ro ns] = .ok (.loc 1) [.ro ns, .lst (intD 0 m)] := by
  obtain ⟨K, hK, k1, k2⟩ : ∃ K : Int, K = (if (if (ns.length : Int) < 2 then (ns.length : Int) else 2) > 1 then (if (ns.length : Int) < 2 then (ns.length : Int) else 2) else 1) ∧ 1 ≤ K ∧ K ≤ 2 := ⟨_, rfl, by split <;> omega, by split <;> (try split) <;> omega⟩
  have hr : rgF 0 K = fun s => R.ok (intD 0 K.toNat) s := by
    funext s
    have r1 : rgOk 0 = true := by decide
    have r2 : rgOk K = true := by simp [rgOk]; omega
    simp [rgF, r1, r2]
    omega
  refine ⟨K.toNat, by omega, ?_⟩
  simp [b__law_cells, szL, -gt_iff_lt, ← hK, hr]
theorem law_run (RR : SemF) (hR : ∀ (a b : Int) (st : Store) (l : Nat), st[l]? = some (.lst [.int a, .int b, .int 0]) → PotOk a b 0 0 → ∃ ys, RR [.loc l] st = .ok (.bl true) (st.set l (.lst ys))) (ns : List Int) (hl : ns.length ≤ 63) :
    ∃ st', f_law f__law_cells RR f__law_pot [.loc 0] [.ro ns] = .ok (.bl true) st' := by
  obtain ⟨m, hm, ec⟩ := cells_ok ns hl
  have lm : (intD 0 m).length = m := intD_length _ _
  obtain ⟨vs, st', q1, q2, q3, q4⟩ := compF_invW (gf := gN 1) (tf := tfYes) (ef := eCall RR (aCons (eCall f__law_pot (aCons (eVar 0) (aCons (eVar 1) aNil))) aNil)) (env := [some (.loc 0), none]) (ws := [(1, intD 0 m)])
    (· = .bl true) (fun _ s => s[0]? = some (.ro ns) ∧ s[1]? = some (.lst (intD 0 m))) (fun j s h => by simp [h.2]) (intD 0 m) 0 [.ro ns, .lst (intD 0 m)] ⟨rfl, rfl⟩ (fun d hd j s hj hI => by
      obtain ⟨i, hi, rfl⟩ := List.mem_map.mp hd
      have hi' := List.mem_range.mp hi
      obtain ⟨a, b, ok, ep⟩ := pot_ok ns s 0 (0 + (i : Int)) hI.1 (by omega) (by omega)
      obtain ⟨ys, er⟩ := hR a b (s ++ [.lst [.int a, .int b, .int 0]]) s.length (by simp) ok
      have l1 : 1 < s.length := lt_of_get hI.2
      refine ⟨_, .bl true, (s ++ [O.lst [.int a, .int b, .int 0]]).set s.length (.lst ys), rfl, rfl, ?_, rfl, ?_, ?_⟩
      · simp only [ev_eCall, ev_aCons, ev_eVar, List.set_cons_succ, List.set_cons_zero, List.getElem?_cons_succ, List.getElem?_cons_zero, ev_okV, R.bind_ok, ev_kCons, ev_aNil, ev_kCons2]
        rw [ep]
        simp only [R.bind_ok, ev_kCons, ev_aNil, ev_kCons2]
        exact er
      · rw [List.getElem?_set_ne (by omega), List.getElem?_append_left (by omega)]
        exact hI.1
      · rw [List.getElem?_set_ne (by omega), List.getElem?_append_left (by omega)]
        exact hI.2)
  have hz : m ≤ sizeLine := by rw [szL]; omega
  refine ⟨st', ?_⟩
  have e0 : f_law f__law_cells RR f__law_pot [.loc 0] [.ro ns] = outS (b_law f__law_cells RR f__law_pot [some (.loc 0), none] [.ro ns]) := rfl
  rw [e0]
  simp [b_law, -ev_semOf, ec, lm, hz, q1, allQ_true q3]

end K35




namespace K35
open PySem L2 Ev
open PyProof.Rows hiding St
/-! mirrors -/
theorem whole_eq : ∀ ds st v st', isWholeM ds st = .ok v st' → f_is_whole ds st = .ok v st' := fun ds st v st' h => by
  unfold isWholeM at h
  split at h <;> first | cases h | skip
  all_goals simp [b_is_whole]
theorem int_eq : ∀ ds st v st', isIntM ds st = .ok v st' → f_is_integer isWholeM ds st = .ok v st' := fun ds st v st' h => by
  unfold isIntM at h
  split at h <;> first | cases h | skip
  · rename_i a lo hi
    by_cases h1 : lo ≤ a <;> simp [b_is_integer, isWholeM, h1]
  all_goals simp [b_is_integer, isWholeM]
theorem tup_eq : ∀ ds st v st', isTupM ds st = .ok v st' → f_is_tuple ds st = .ok v st' := fun ds st v st' h => by
  unfold isTupM at h
  split at h <;> first | cases h | skip
  · rename_i xs lo hi
    by_cases h1 : lo ≤ (xs.length : Int) <;> simp [b_is_tuple, h1]
  all_goals simp [b_is_tuple]
/-! drawn values -/
def leafs : List D := [.non, .int 0, .int 1, .int 7, .int (-9999), .int 9999, .int 42, .int 2, .int 3, .int 4, .int 5, .int (-7)]
def Val : Nat → D → Prop
  | 0, d => d ∈ leafs
  | n + 1, d => d ∈ leafs ∨ ∃ xs, d = .tup xs ∧ xs.length ≤ 3 ∧ ∀ x ∈ xs, Val n x
theorem Val.cases {n : Nat} {d : D} (h : Val n d) : d ∈ leafs ∨ ∃ m xs, n = m + 1 ∧ d = .tup xs ∧ xs.length ≤ 3 ∧ ∀ x ∈ xs, Val m x := by
  cases n with
  | zero => exact .inl h
  | succ n => exact h.imp id fun ⟨xs, h⟩ => ⟨n, xs, rfl, h⟩
theorem Val.leaf {n : Nat} {d : D} (h : d ∈ leafs) : Val n d := by
  cases n with
  | zero => exact h
  | succ n => exact .inl h
theorem leaf_cases {d : D} (h : d ∈ leafs) : d = .non ∨ ∃ i : Int, d = .int i ∧ -9999 ≤ i ∧ i ≤ 9999 ∧ (decide (i.natAbs.log2 < 1920) && decide ((PyData.shown (.int i)).length ≤ 20)) = true := by
  simp only [leafs, List.mem_cons, List.not_mem_nil, or_false] at h
  rcases h with h | h | h | h | h | h | h | h | h | h | h | h
  · exact .inl h
  all_goals exact .inr ⟨_, h, by decide, by decide, by decide +kernel⟩
theorem flats_of : ∀ {ds : List D}, (∀ d ∈ ds, d.flat = true) → D.flats ds = true
  | [], _ => rfl
  | d :: ds, h => by
    simp only [D.flats, Bool.and_eq_true]
    exact ⟨h d (List.mem_cons_self ..), flats_of fun x m => h x (List.mem_cons_of_mem _ m)⟩
theorem Val.flat {n : Nat} : ∀ {d : D}, Val n d → d.flat = true := by
  induction n with
  | zero =>
    intro d h
    rcases leaf_cases h with rfl | ⟨i, rfl, _⟩ <;> rfl
  | succ n ih =>
    intro d h
    rcases h with h | ⟨xs, rfl, hl, hx⟩
    · rcases leaf_cases h with rfl | ⟨i, rfl, _⟩ <;> rfl
    · simp only [D.flat]
      exact flats_of fun x m => ih (hx x m)
theorem rps_of {n c : Nat} : ∀ {ds : List D}, (∀ d ∈ ds, Rp n c d.dat) → Rps n (ds.length * (c + 2)) (D.dats ds)
  | [], _ => ⟨rfl, rfl, Nat.zero_le _, Nat.zero_le _⟩
  | d :: ds, h => by
    simp only [D.dats]
    refine Rps.cons (h d (List.mem_cons_self ..)) (rps_of fun x m => h x (List.mem_cons_of_mem _ m)) ?_
    rw [List.length_cons, Nat.succ_mul]
    omega
def cst : Nat → Nat
  | 0 => 20
  | n + 1 => 3 * (cst n + 2) + 3
theorem cst_le : ∀ n, 20 ≤ cst n
  | 0 => Nat.le_refl _
  | n + 1 => by have := cst_le n; simp only [cst]; omega
theorem leaf_rp {m : Nat} {d : D} (h : d ∈ leafs) : Rp m 20 d.dat := by
  rcases leaf_cases h with rfl | ⟨i, rfl, _, _, hz⟩
  · exact Rp.non
  · exact Rp.int' hz
theorem Val.rp {n : Nat} : ∀ {m : Nat} {d : D}, Val n d → Rp (m + n) (cst n) d.dat := by
  induction n with
  | zero =>
    intro m d h
    exact leaf_rp h
  | succ n ih =>
    intro m d h
    rcases h with h | ⟨xs, rfl, hl, hx⟩
    · exact (leaf_rp h).up (cst_le _)
    · simp only [D.dat]
      refine Rps.tup (rps_of fun x k => ih (m := m) (hx x k)) (Nat.le_refl _) ?_
      have := Nat.mul_le_mul_right (cst n + 2) hl
      simp only [cst]
      omega
/-! is_value -/
def near : Nat → SemF
  | 0 => fun _ _ => .bad
  | j + 1 => frame0 (f_is_near_value isIntM isTupM (near j))
theorem near_ok (e : Nat) : ∀ (n : Nat) (d : D) (st : Store), Val n d → n ≤ e → near (e + 1) [d, .int (e : Nat)] st = .ok (.bl true) st := by
  induction e with
  | zero =>
    intro n d st h he
    rcases h.cases with h | ⟨m, xs, rfl, _⟩
    · rcases leaf_cases h with rfl | ⟨i, rfl, h1, h2, _⟩
      · exact frame0_ok (s2 := []) rfl (by simp [b_is_near_value]) rfl
      · exact frame0_ok (s2 := []) rfl (by simp [b_is_near_value, h1, h2]) rfl
    · omega
  | succ e ih =>
    intro n d st h he
    rcases h.cases with h | ⟨m, xs, rfl, rfl, hl, hx⟩
    · rcases leaf_cases h with rfl | ⟨i, rfl, h1, h2, _⟩
      · exact frame0_ok (s2 := []) rfl (by simp [b_is_near_value]) rfl
      · exact frame0_ok (s2 := []) rfl (by simp [b_is_near_value, h1, h2]) rfl
    · have fx : D.flats xs = true := flats_of fun x k => (hx x k).flat
      refine frame0_ok (s2 := []) (by simp [D.flats, D.flat, fx]) ?_ rfl
      have p1 : (0 : Int) < ((e + 1 : Nat) : Int) := by omega
      have p2 : (0 : Int) ≤ (xs.length : Int) := by omega
      have p3 : (xs.length : Int) ≤ 60 := by omega
      have p4 : xs.length ≤ sizeLine := by rw [szL]; omega
      have p5 : (((e + 1 : Nat) : Int)) - 1 = (e : Nat) := by omega
      have c := compF_map (gf := gN 2) (tf := tfYes) (ef := eCall (near (e + 1)) (aCons (eVar 2) (aCons (eBin subF (eVar 1) (eC (.int 1))) aNil))) (env := [some (.tup xs), some (.int ((e + 1 : Nat) : Int)), none]) (st := []) (fun _ => .bl true) xs fun x k => ⟨_, rfl, rfl, by
        simp only [ev_eCall, ev_aCons, ev_eVar, List.set_cons_succ, List.set_cons_zero, List.getElem?_cons_succ, List.getElem?_cons_zero, ev_okV, R.bind_ok, ev_kCons, ev_eBin, ev_kBin, ev_eC, ev_sub, p5, ev_aNil, ev_kCons2]
        exact ih m x [] (hx x k) (by omega)⟩
      have a := allQ_true (vs := xs.map fun _ => D.bl true) (st := []) fun v hv => by
        obtain ⟨_, _, rfl⟩ := List.mem_map.mp hv
        rfl
      simp [b_is_near_value, p1, p2, p3, p4, c, a, -Int.natCast_add]
theorem value_ok {n : Nat} {d : D} {st : Store} (h : Val n d) (hn : n ≤ 12) : f_is_value (near 13) [d] st = .ok (.bl true) st := by
  have z := near_ok 12 n d st h hn
  simp only [b_is_value, ev_semOf, List.length_cons, List.length_nil, if_true, List.map_cons, List.map_nil, Nat.sub_self, List.replicate_zero, List.append_nil, Nat.zero_add, ev_sRet, ev_eCall, ev_aCons, ev_eVar, List.getElem?_cons_zero, ev_okV, R.bind_ok, ev_kCons, ev_eC, ev_aNil, ev_kCons2]
  rw [show near 13 [d, D.int 12] st = R.ok (D.bl true) st from z]
  rfl
/-! the draws -/
def take : SemF := frame1 f__law_take
theorem leaf_at (d : Int) (h0 : 0 ≤ d) (h1 : d < 8) : ∃ x, atI [D.non, .int 0, .int 1, .int 7, .int (-9999), .int 9999, .int 42, .int 7] d = some x ∧ x ∈ leafs := by
  have h : d = 0 ∨ d = 1 ∨ d = 2 ∨ d = 3 ∨ d = 4 ∨ d = 5 ∨ d = 6 ∨ d = 7 := by omega
  rcases h with h | h | h | h | h | h | h | h <;> subst h <;> exact ⟨_, rfl, by simp [leafs]⟩
def drawn : Nat → SemF
  | 0 => fun _ _ => .bad
  | j + 1 => frame1 (f__law_drawn_value take (f__law_of take) (drawn j))
def dcost : Nat → Int
  | 0 => 2
  | n + 1 => 2 + 3 * dcost n
theorem dcost_pos : ∀ n, 2 ≤ dcost n
  | 0 => by decide
  | n + 1 => by have := dcost_pos n; simp only [dcost]; omega
theorem drawn_ok : ∀ (n : Nat) (st : Store) (l : Nat) (a b m k : Int), st[l]? = some (.lst [.int a, .int b, .int m]) → PotOk a b m k → k + dcost n < 100000 →
    ∃ d a' m', Val n d ∧ PotOk a' b m' (k + dcost n) ∧ drawn (n + 1) [.loc l, .int (n : Nat)] st = .ok d (st.set l (.lst [.int a', .int b, .int m'])) := by
  have leafDraw : ∀ (n : Nat) (sem : SemF) (a b m k w : Int) (a1 m1 : Int), PotOk a1 b m1 (k + 1) → k + 1 < 100000 → 0 ≤ w → w < 4 →
      take [.loc 0, .int (if 0 < (n : Int) then 6 else 4)] [.lst [.int a, .int b, .int m]] = .ok (.int w) [.lst [.int a1, .int b, .int m1]] →
      ∃ d a' m' s2, Val n d ∧ PotOk a' b m' (k + 2) ∧ f__law_drawn_value take (f__law_of take) sem [.loc 0, .int (n : Nat)] [.lst [.int a, .int b, .int m]] = .ok d (.lst [.int a', .int b, .int m'] :: s2) := by
    intro n sem a b m k w a1 m1 hp1 hk w0 w4 e1
    obtain ⟨d2, a2, m2, q0, q1, hp2, e2⟩ := take_ok [.lst [.int a1, .int b, .int m1], .lst [.non, .int 0, .int 1, .int 7, .int (-9999), .int 9999, .int 42, .int 7]] 0 a1 b m1 (k + 1) 8 rfl hp1 hk (by decide) (by decide)
    obtain ⟨x, ex, hx⟩ := leaf_at d2 q0 q1
    have e2' : take [.loc 0, .int 8] [.lst [.int a1, .int b, .int m1], .lst [.non, .int 0, .int 1, .int 7, .int (-9999), .int 9999, .int 42, .int 7]] = .ok (.int d2) [.lst [.int a2, .int b, .int m2], .lst [.non, .int 0, .int 1, .int 7, .int (-9999), .int 9999, .int 42, .int 7]] := e2
    refine ⟨x, a2, m2, [.lst [.non, .int 0, .int 1, .int 7, .int (-9999), .int 9999, .int 42, .int 7]], Val.leaf hx, hp2.up (by omega), ?_⟩
    by_cases hn : 0 < (n : Int)
    · rw [if_pos hn] at e1
      have hn' : 0 < n := by omega
      simp [b__law_drawn_value, b__law_of, hn, hn', e1, w4, e2', szL, -ev_atI, ex]
    · rw [if_neg hn] at e1
      have hn' : n = 0 := by omega
      subst hn'
      simp [b__law_drawn_value, b__law_of, e1, w4, e2', szL, -ev_atI, ex]
  intro n
  induction n with
  | zero =>
    intro st l a b m k hl hp hk
    obtain ⟨w, a1, m1, w0, w4, hp1, e1⟩ := take_ok [.lst [.int a, .int b, .int m]] 0 a b m k 4 rfl hp (by simp [dcost] at hk; omega) (by decide) (by decide)
    obtain ⟨d, a', m', s2, hv, hp2, e2⟩ := leafDraw 0 (drawn 0) a b m k w a1 m1 hp1 (by simp [dcost] at hk; omega) w0 w4 e1
    exact ⟨d, a', m', hv, hp2, frame1_ok hl rfl flat_pot e2 hv.flat flat_pot⟩
  | succ n ih =>
    intro st l a b m k hl hp hk
    have hd := dcost_pos n
    simp only [dcost] at hk
    obtain ⟨w, a1, m1, w0, w6, hp1, e1⟩ := take_ok [.lst [.int a, .int b, .int m]] 0 a b m k 6 rfl hp (by omega) (by decide) (by decide)
    by_cases hw : w < 4
    · obtain ⟨d, a', m', s2, hv, hp2, e2⟩ := leafDraw (n + 1) (drawn (n + 1)) a b m k w a1 m1 hp1 (by omega) w0 hw (by rw [if_pos (by omega)]; exact e1)
      exact ⟨d, a', m', hv, hp2.up (by simp only [dcost]; omega), frame1_ok hl rfl flat_pot e2 hv.flat flat_pot⟩
    · obtain ⟨c, a2, m2, c0, c4, hp2, e2⟩ := take_ok [.lst [.int a1, .int b, .int m1]] 0 a1 b m1 (k + 1) 4 rfl hp1 (by omega) (by decide) (by decide)
      have e1' : take [.loc 0, .int 6] [.lst [.int a, .int b, .int m]] = .ok (.int w) [.lst [.int a1, .int b, .int m1]] := e1
      have e2' : take [.loc 0, .int 4] [.lst [.int a1, .int b, .int m1]] = .ok (.int c) [.lst [.int a2, .int b, .int m2]] := e2
      have lc : (intD 0 c.toNat).length = c.toNat := intD_length _ _
      obtain ⟨vs, st', q1, q2, q3, a3, m3, q4, q5⟩ := compF_inv (gf := gN 3) (tf := tfYes) (ef := eCall (drawn (n + 1)) (aCons (eVar 0) (aCons (eBin subF (eVar 1) (eC (.int 1))) aNil))) (env := [some (.loc 0), some (.int ((n + 1 : Nat) : Int)), some (.int w), none])
        (Val n) (fun i s => ∃ a3 m3, s = [.lst [.int a3, .int b, .int m3]] ∧ PotOk a3 b m3 (k + 2 + i * dcost n)) (intD 0 c.toNat) 0 [.lst [.int a2, .int b, .int m2]] ⟨a2, m2, rfl, by simpa [Int.add_assoc] using hp2⟩ (fun d hd' j s hj hI => by
          obtain ⟨a3, m3, rfl, hp3⟩ := hI
          rw [lc] at hj
          have j2 : (j : Int) ≤ 2 := by omega
          have jd : (j : Int) * dcost n ≤ 2 * dcost n := Int.mul_le_mul_of_nonneg_right j2 (by omega)
          obtain ⟨x, a4, m4, hv, hp4, e4⟩ := ih [.lst [.int a3, .int b, .int m3]] 0 a3 b m3 (k + 2 + j * dcost n) rfl hp3 (by omega)
          have p5 : (((n + 1 : Nat) : Int)) - 1 = (n : Nat) := by omega
          refine ⟨_, x, [.lst [.int a4, .int b, .int m4]], rfl, rfl, ?_, hv, a4, m4, rfl, ?_⟩
          · simp only [ev_eCall, ev_aCons, ev_eVar, List.set_cons_succ, List.set_cons_zero, List.getElem?_cons_succ, List.getElem?_cons_zero, ev_okV, R.bind_ok, ev_kCons, ev_eBin, ev_kBin, ev_eC, ev_sub, p5, ev_aNil, ev_kCons2]
            exact e4
          · have z : k + 2 + ((j + 1 : Nat) : Int) * dcost n = k + 2 + j * dcost n + dcost n := by
              rw [show ((j + 1 : Nat) : Int) = (j : Int) + 1 by omega, Int.add_mul]
              omega
            rw [z]
            exact hp4)
      rw [lc] at q2
      have hv : Val (n + 1) (.tup vs) := .inr ⟨vs, rfl, by omega, q3⟩
      have zc : ((0 + (intD 0 c.toNat).length : Nat) : Int) * dcost n ≤ 3 * dcost n := Int.mul_le_mul_of_nonneg_right (by rw [lc]; omega) (by omega)
      subst q4
      refine ⟨.tup vs, a3, m3, hv, q5.up (by simp only [dcost]; omega), frame1_ok hl rfl flat_pot (s2 := []) ?_ hv.flat flat_pot⟩
      have hr : rgOk c = true := by simp [rgOk]; omega
      have hz : c.toNat ≤ sizeLine := by rw [szL]; omega
      have hn' : (0 : Int) < ((n + 1 : Nat) : Int) := by omega
      have hz2 : vs.length ≤ sizeLine := by rw [q2]; exact hz
      simp [b__law_drawn_value, hn', e1', hw, e2', hr, hz, q1, lc, -Int.natCast_add]
end K35

namespace K35
open PySem L2 Ev
open PyProof.Rows hiding St
/-! the law's own door -/
def stg (p : Pl) : D := .int (p.st : Int)
def wn (p : Pl) : D := .bl p.won
abbrev ownKs (a l g n e : Nat) (k : Int) : List (Key × D) := [(.inr "came", .loc a), (.inr "levels", .loc l), (.inr "stages", .loc g), (.inr "won", .loc n), (.inr "heard", .loc e), (.inr "steps", .int k)]
structure OwnAt (st : Store) (w a l g n e : Nat) (ds : List Pl) (k : Int) : Prop where
  nd : [w, a, l, g, n, e].Nodup
  hw : st[w]? = some (.dic (ownKs a l g n e k))
  ha : st[a]? = some (.lst (ds.map Pl.c))
  hl : st[l]? = some (.lst (ds.map Pl.lev))
  hg : st[g]? = some (.lst (ds.map stg))
  hn : st[n]? = some (.lst (ds.map wn))
  he : st[e]? = some (.lst (ds.map Pl.heard))
  n5 : ds.length ≤ 5
theorem OwnAt.upd {st st' : Store} {w a l g n e : Nat} {ds : List Pl} {k : Int} {W : List Nat} (O : OwnAt st w a l g n e ds k) (u : Upd W st st') (hw : ∀ j ∈ W, j ∉ [w, a, l, g, n, e]) : OwnAt st' w a l g n e ds k :=
  ⟨O.nd, u.get O.hw fun m => hw _ m (by simp), u.get O.ha fun m => hw _ m (by simp), u.get O.hl fun m => hw _ m (by simp), u.get O.hg fun m => hw _ m (by simp), u.get O.hn fun m => hw _ m (by simp), u.get O.he fun m => hw _ m (by simp), O.n5⟩
section
variable {st : Store} {w a l g n e : Nat} {ds : List Pl} {k : Int} {i : Nat} {p : Pl} {x : D}
theorem OwnAt.ne (O : OwnAt st w a l g n e ds k) : ((w ≠ a ∧ w ≠ l ∧ w ≠ g ∧ w ≠ n ∧ w ≠ e) ∧ (a ≠ l ∧ a ≠ g ∧ a ≠ n ∧ a ≠ e) ∧ (l ≠ g ∧ l ≠ n ∧ l ≠ e) ∧ (g ≠ n ∧ g ≠ e) ∧ n ≠ e) ∧ ((a ≠ w ∧ l ≠ w ∧ g ≠ w ∧ n ≠ w ∧ e ≠ w) ∧ (l ≠ a ∧ g ≠ a ∧ n ≠ a ∧ e ≠ a) ∧ (g ≠ l ∧ n ≠ l ∧ e ≠ l) ∧ (n ≠ g ∧ e ≠ g) ∧ e ≠ n) := by
  have n := O.nd
  simp only [List.nodup_cons, List.mem_cons, List.not_mem_nil, or_false, not_or] at n
  obtain ⟨⟨a1, a2, a3, a4, a5⟩, ⟨b1, b2, b3, b4⟩, ⟨c1, c2, c3⟩, ⟨d1, d2⟩, e1, _⟩ := n
  exact ⟨⟨⟨a1, a2, a3, a4, a5⟩, ⟨b1, b2, b3, b4⟩, ⟨c1, c2, c3⟩, ⟨d1, d2⟩, e1⟩, ⟨⟨Ne.symm a1, Ne.symm a2, Ne.symm a3, Ne.symm a4, Ne.symm a5⟩, ⟨Ne.symm b1, Ne.symm b2, Ne.symm b3, Ne.symm b4⟩, ⟨Ne.symm c1, Ne.symm c2, Ne.symm c3⟩, ⟨Ne.symm d1, Ne.symm d2⟩, Ne.symm e1⟩⟩
theorem OwnAt.lt (O : OwnAt st w a l g n e ds k) : (w < st.length ∧ a < st.length ∧ l < st.length) ∧ g < st.length ∧ n < st.length ∧ e < st.length := ⟨⟨lt_of_get O.hw, lt_of_get O.ha, lt_of_get O.hl⟩, lt_of_get O.hg, lt_of_get O.hn, lt_of_get O.he⟩
theorem OwnAt.put (O : OwnAt st w a l g n e ds k) {q : Pl} {st' : Store} {k' : Int} (hp : ds[i]? = some p) (hw : st'[w]? = some (.dic (ownKs a l g n e k'))) (ha : st'[a]? = some (.lst ((ds.map Pl.c).set i q.c))) (hl : st'[l]? = some (.lst ((ds.map Pl.lev).set i q.lev)))
    (hg : st'[g]? = some (.lst ((ds.map stg).set i (stg q)))) (hn : st'[n]? = some (.lst ((ds.map wn).set i (wn q)))) (he : st'[e]? = some (.lst ((ds.map Pl.heard).set i q.heard))) : OwnAt st' w a l g n e (ds.set i q) k' :=
  ⟨O.nd, hw, by rw [ha, List.map_set], by rw [hl, List.map_set], by rw [hg, List.map_set], by rw [hn, List.map_set], by rw [he, List.map_set], by rw [List.length_set]; exact O.n5⟩
theorem own_ok {N : Nat} (h1 : 1 ≤ N) (h2 : N ≤ 5) : ∃ st', f__law_door [.int (N : Int)] st = .ok (.loc (st.length + 10)) st' ∧ Upd [] st st' ∧ st'.length = st.length + 11 ∧
    OwnAt st' (st.length + 10) (st.length + 1) (st.length + 3) (st.length + 5) (st.length + 7) (st.length + 9) (freshDs N) 0 := by
  have k1 : (1 : Int) ≤ N := by omega
  have k2 : (N : Int) ≤ 5 := by omega
  have k5 : N ≤ 16777216 := by omega
  have k3 : -9223372036854775808 ≤ (N : Int) := by omega
  have k4 : (N : Int) < 9223372036854775808 := by omega
  refine ⟨st ++ [.lst [.non], .lst (List.replicate N .non), .lst [.non], .lst (List.replicate N .non), .lst [.int 0], .lst (List.replicate N (.int 0)), .lst [.bl false], .lst (List.replicate N (.bl false)), .lst [.non], .lst (List.replicate N .non), .dic (ownKs (st.length + 1) (st.length + 3) (st.length + 5) (st.length + 7) (st.length + 9) 0)], ?_, Upd.push _, by simp, ?_⟩
  · simp [b__law_door, k1, k2, k3, k4, k5, szL, putD_cons]
  · exact ⟨by simp, by simp, by simp [Pl.c], by simp [Pl.lev], by simp [stg], by simp [wn], by simp, by simp; exact h2⟩
theorem own_come (O : OwnAt st w a l g n e ds k) (hp : ds[i]? = some p) : f__law_door_come [.loc w, .int (i : Int), x] st = .ok .non (st.set a (.lst ((ds.map Pl.c).set i (.tup [x])))) ∧ OwnAt (st.set a (.lst ((ds.map Pl.c).set i (.tup [x])))) w a l g n e (ds.set i { p with came := some x }) k := by
  have hi : i < ds.length := (List.getElem?_eq_some_iff.mp hp).1
  have ix := ixN_nat hi
  obtain ⟨n1, n2⟩ := O.ne
  have lt := O.lt
  refine ⟨?_, O.put hp ?_ ?_ ?_ ?_ ?_ ?_⟩
  · simp [b__law_door_come, O.hw, O.ha, ix, szL]
  · rw [List.getElem?_set_ne n2.1.1]; exact O.hw
  · rw [List.getElem?_set_self lt.1.2.1]; rfl
  · rw [List.getElem?_set_ne n1.2.1.1, same_map hp (by rfl)]; exact O.hl
  · rw [List.getElem?_set_ne n1.2.1.2.1, same_map hp (by rfl)]; exact O.hg
  · rw [List.getElem?_set_ne n1.2.1.2.2.1, same_map hp (by rfl)]; exact O.hn
  · rw [List.getElem?_set_ne n1.2.1.2.2.2, same_map hp (by rfl)]; exact O.he
/-- the first part of a step: one more, the next stage -/
abbrev ow1 (st : Store) (w a l g n e : Nat) (k : Int) : Store := st.set w (.dic (ownKs a l g n e (k + 1)))
abbrev ow2 (st : Store) (w a l g n e : Nat) (k : Int) (ds : List Pl) (i s : Nat) : Store := (ow1 st w a l g n e k).set g (.lst ((ds.map stg).set i (.int (s : Nat))))
theorem own_step (O : OwnAt st w a l g n e ds k) (hp : ds[i]? = some p) {t : D} {q : Pl} (R : StepR ds p t q) :
    ∃ st', f__law_door_step [.loc w, .int (i : Int)] st = .ok t st' ∧ Upd [w, l, g, n, e] st st' ∧ OwnAt st' w a l g n e (ds.set i q) (k + 1) := by
  have hi : i < ds.length := (List.getElem?_eq_some_iff.mp hp).1
  have ix := ixN_nat hi
  obtain ⟨n1, n2⟩ := O.ne
  obtain ⟨⟨lw, la, ll⟩, lg, ln, le⟩ := O.lt
  have s1 := at_map (f := stg) hp
  have w1 := at_map (f := wn) hp
  have sc : ∀ q : Pl, q.c = p.c → (ds.map Pl.c).set i q.c = ds.map Pl.c := fun q e => same_map hp e
  have sv : ∀ q : Pl, q.lev = p.lev → (ds.map Pl.lev).set i q.lev = ds.map Pl.lev := fun q e => same_map hp e
  have sh : ∀ q : Pl, q.heard = p.heard → (ds.map Pl.heard).set i q.heard = ds.map Pl.heard := fun q e => same_map hp e
  have ss : ∀ q : Pl, stg q = stg p → (ds.map stg).set i (stg q) = ds.map stg := fun q e => same_map hp e
  have sw : ∀ q : Pl, wn q = wn p → (ds.map wn).set i (wn q) = ds.map wn := fun q e => same_map hp e
  obtain ⟨S, hS⟩ : ∃ S : Nat → Store, ∀ s, S s = ow2 st w a l g n e k ds i s := ⟨_, fun _ => rfl⟩
  have U : ∀ s, Upd [w, g] st (S s) := fun s => by
    rw [hS]
    exact ((Upd.set (W := [w]) (l := w) (by simp)).trans (Upd.set (W := [g]) (l := g) (by simp))).sub (by simp)
  have lS : ∀ s, (S s).length = st.length := fun s => by rw [hS]; simp
  have Sw : ∀ s, (S s)[w]? = some (.dic (ownKs a l g n e (k + 1))) := fun s => by rw [hS, List.getElem?_set_ne n2.1.2.2.1, List.getElem?_set_self lw]
  have Sg : ∀ s : Nat, (S s)[g]? = some (.lst ((ds.map stg).set i (.int (s : Nat)))) := fun s => by rw [hS, List.getElem?_set_self (by rw [List.length_set]; exact lg)]
  have Sa : ∀ s, (S s)[a]? = some (.lst (ds.map Pl.c)) := fun s => (U s).get O.ha (by simp [n1, n2])
  have Sl : ∀ s, (S s)[l]? = some (.lst (ds.map Pl.lev)) := fun s => (U s).get O.hl (by simp [n1, n2])
  have Sn : ∀ s, (S s)[n]? = some (.lst (ds.map wn)) := fun s => (U s).get O.hn (by simp [n1, n2])
  have Se : ∀ s, (S s)[e]? = some (.lst (ds.map Pl.heard)) := fun s => (U s).get O.he (by simp [n1, n2])
  have g1 : (ow1 st w a l g n e k)[w]? = some (.dic (ownKs a l g n e (k + 1))) := List.getElem?_set_self lw
  have g2 : (ow1 st w a l g n e k)[g]? = some (.lst (ds.map stg)) := by rw [List.getElem?_set_ne n1.1.2.2.1]; exact O.hg
  have f1 := levs_flat ds
  have f2 := levs_two ds
  have f3 := levs_one ds
  simp only [List.all_map, List.any_map] at f1 f2 f3
  have pre : ∀ s : Nat, (ow1 st w a l g n e k).set g (.lst ((ds.map stg).set i (.int (s : Nat)))) = S s := fun s => (hS s).symm
  cases R with
  | one z =>
    rw [show stg p = .int 0 by simp [stg, z]] at s1
    have p1 : (ow1 st w a l g n e k).set g (.lst ((ds.map stg).set i (.int 1))) = S 1 := pre 1
    refine ⟨(S 1).set l (.lst ((ds.map Pl.lev).set i (.int 1))), ?_, ((U 1).trans (Upd.set (W := [l]) (l := l) (by simp))).sub (by simp), ?_⟩
    · simp [b__law_door_step, O.hw, O.hg, s1, -ev_atI, ix, szL, putD_cons, g1, g2, p1, Sw, Sl]
    · refine O.put hp ?_ ?_ ?_ ?_ ?_ ?_
      · rw [List.getElem?_set_ne n2.1.2.1]; exact Sw 1
      · rw [List.getElem?_set_ne n2.2.1.1, sc _ (by rfl)]; exact Sa 1
      · rw [List.getElem?_set_self (by rw [lS]; exact ll)]; rfl
      · rw [List.getElem?_set_ne n1.2.2.1.1]; exact Sg 1
      · rw [List.getElem?_set_ne n1.2.2.1.2.1, sw _ (by rfl)]; exact Sn 1
      · rw [List.getElem?_set_ne n1.2.2.1.2.2, sh _ (by rfl)]; exact Se 1
  | look z =>
    rw [show stg p = .int 1 by simp [stg, z]] at s1
    have p1 : (ow1 st w a l g n e k).set g (.lst ((ds.map stg).set i (.int 2))) = S 2 := pre 2
    have o1 : ∀ X : Ev.O, ((S 2).set n X)[w]? = (S 2)[w]? := fun X => List.getElem?_set_ne n2.1.2.2.2.1
    have o2 : ∀ X : Ev.O, ((S 2).set n X)[l]? = (S 2)[l]? := fun X => List.getElem?_set_ne n2.2.2.1.2.1
    refine ⟨(S 2).set n (.lst ((ds.map wn).set i (.bl (!twoS ds)))), ?_, ((U 2).trans (Upd.set (W := [n]) (l := n) (by simp))).sub (by simp), ?_⟩
    · simp [b__law_door_step, O.hw, O.hg, s1, -ev_atI, ix, szL, putD_cons, g1, g2, p1, Sw, Sl, Sn, f1, f2, o1, o2, -List.all_eq_true, -List.any_eq_true]
    · refine O.put hp ?_ ?_ ?_ ?_ ?_ ?_
      · rw [o1]; exact Sw 2
      · rw [List.getElem?_set_ne n2.2.1.2.2.1, sc _ (by rfl)]; exact Sa 2
      · rw [o2, sv _ (by simp [Pl.lev, z])]; exact Sl 2
      · rw [List.getElem?_set_ne n2.2.2.2.1.1]; exact Sg 2
      · rw [List.getElem?_set_self (by rw [lS]; exact ln)]; rfl
      · rw [List.getElem?_set_ne n1.2.2.2.2, sh _ (by rfl)]; exact Se 2
  | two z =>
    rw [show stg p = .int 2 by simp [stg, z]] at s1
    rw [show wn p = .bl p.won by rfl] at w1
    have p1 : (ow1 st w a l g n e k).set g (.lst ((ds.map stg).set i (.int 3))) = S 3 := pre 3
    have o1 : ∀ X : Ev.O, ((S 3).set l X)[w]? = (S 3)[w]? := fun X => List.getElem?_set_ne n2.1.2.1
    have o2 : ∀ X : Ev.O, ((S 3).set l X)[l]? = some X := fun X => List.getElem?_set_self (by rw [lS]; exact ll)
    have o3 : ∀ v : D, atI ((ds.map Pl.lev).set i v) (i : Int) = some v := fun v => by
      unfold atI
      rw [List.length_set, List.length_map, ix]
      simp [hi]
    refine ⟨(S 3).set l (.lst ((ds.map Pl.lev).set i (if p.won = true then .int 2 else .int 0))), ?_, ((U 3).trans (Upd.set (W := [l]) (l := l) (by simp))).sub (by simp), ?_⟩
    · cases hw : p.won <;> rw [hw] at w1 <;> simp [b__law_door_step, O.hw, O.hg, s1, w1, -ev_atI, ix, szL, putD_cons, g1, g2, p1, Sw, Sl, Sn, o1, o2, o3]
    · refine O.put hp ?_ ?_ ?_ ?_ ?_ ?_
      · rw [o1]; exact Sw 3
      · rw [List.getElem?_set_ne n2.2.1.1, sc _ (by rfl)]; exact Sa 3
      · rw [o2]; simp [Pl.lev]
      · rw [List.getElem?_set_ne n1.2.2.1.1]; exact Sg 3
      · rw [List.getElem?_set_ne n1.2.2.1.2.1, sw _ (by rfl)]; exact Sn 3
      · rw [List.getElem?_set_ne n1.2.2.1.2.2, sh _ (by rfl)]; exact Se 3
  | wait z z1 =>
    rw [show stg p = .int 3 by simp [stg, z]] at s1
    rw [z1] at f3
    have p1 : (ow1 st w a l g n e k).set g (.lst ((ds.map stg).set i (.int 3))) = S 3 := pre 3
    refine ⟨S 3, ?_, (U 3).sub (by simp), ?_⟩
    · simp [b__law_door_step, O.hw, O.hg, s1, -ev_atI, ix, szL, putD_cons, g1, g2, p1, Sw, Sl, f1, f3, -List.all_eq_true, -List.any_eq_true]
    · refine O.put hp (Sw 3) ?_ ?_ ?_ ?_ ?_
      · rw [sc _ (by rfl)]; exact Sa 3
      · rw [sv _ (by rfl)]; exact Sl 3
      · rw [show stg p = .int (3 : Nat) by simp [stg, z]]; exact Sg 3
      · rw [sw _ (by rfl)]; exact Sn 3
      · rw [sh _ (by rfl)]; exact Se 3
  | word j v y z z1 hj hv hy =>
    rw [show stg p = .int 3 by simp [stg, z]] at s1
    rw [z1] at f3
    have f4 := levs_win ds 0
    rw [hj] at f4
    have a1 := at_map (f := Pl.c) hv
    rw [show v.c = .tup [y] by simp [Pl.c, hy]] at a1
    have p1 : (ow1 st w a l g n e k).set g (.lst ((ds.map stg).set i (.int 3))) = S 3 := pre 3
    have o1 : ∀ X : Ev.O, ((S 3).set e X)[w]? = (S 3)[w]? := fun X => List.getElem?_set_ne n2.1.2.2.2.2
    have o2 : ∀ X : Ev.O, ((S 3).set e X)[e]? = some X := fun X => List.getElem?_set_self (by rw [lS]; exact le)
    have o3 : ∀ v : D, atI ((ds.map Pl.heard).set i v) (i : Int) = some v := fun v => by
      unfold atI
      rw [List.length_set, List.length_map, ix]
      simp [hi]
    refine ⟨(S 3).set e (.lst ((ds.map Pl.heard).set i (.tup [y]))), ?_, ((U 3).trans (Upd.set (W := [e]) (l := e) (by simp))).sub (by simp), ?_⟩
    · simp [b__law_door_step, O.hw, O.hg, s1, -ev_atI, ix, szL, putD_cons, g1, g2, p1, Sw, Sl, Sa, Se, f1, f3, f4, a1, o1, o2, o3, -List.all_eq_true, -List.any_eq_true]
    · refine O.put hp ?_ ?_ ?_ ?_ ?_ ?_
      · rw [o1]; exact Sw 3
      · rw [List.getElem?_set_ne n2.2.1.2.2.2, sc _ (by rfl)]; exact Sa 3
      · rw [List.getElem?_set_ne n2.2.2.1.2.2, sv _ (by rfl)]; exact Sl 3
      · rw [List.getElem?_set_ne n2.2.2.2.1.2, show stg { p with heard := D.tup [y] } = .int (3 : Nat) by simp [stg, z]]; exact Sg 3
      · rw [List.getElem?_set_ne n2.2.2.2.2, sw _ (by rfl)]; exact Sn 3
      · rw [o2]
end
end K35

namespace K35
open PySem L2 Ev
open PyProof.Rows hiding St
/-! both doors at once -/
/-- what a text can be told of -/
def Tells (t : D) : Prop := t.flat = true ∧ Rp 12 1000 t.dat
theorem Tells.repr {t : D} (h : Tells t) (s : Store) : reprP (pd s t) s = .ok (.str t.dat.shown) s := by
  have e : pd s t = some t.dat := pdW_flat h.1
  rw [e]
  exact reprP_ok' h.2 (by decide)
theorem lev_leaf (p : Pl) : Val 0 p.lev := by
  unfold Pl.lev
  split
  · simp [Val, leafs]
  · split
    · simp [Val, leafs]
    · split <;> simp [Val, leafs]
theorem str_rp {n : Nat} {z : Str} (h : (PyData.strOk z && decide ((reprText z).length ≤ 40)) = true := by decide +kernel) : Rp n 40 (.str z) := Rp.str' h
theorem StepR.tells {ds : List Pl} {p q : Pl} {t : D} (h : StepR ds p t q) (n5 : ds.length ≤ 5) (hv : ∀ p ∈ ds, ∀ v, p.came = some v → Val 2 v) : Tells t := by
  cases h with
  | one z => exact ⟨rfl, Rps.tup (Rps.cons (c1 := 40) (c2 := 22) (c := 64) str_rp (Rps.cons (c1 := 20) (c2 := 0) Rp.int' Rps.nil' (by decide)) (by decide)) (Nat.le_refl _) (by decide)⟩
  | look z =>
    have fl : D.flats (ds.map Pl.lev) = true := flats_of fun x m => by
      obtain ⟨p, _, rfl⟩ := List.mem_map.mp m
      exact (lev_leaf p).flat
    refine ⟨by simp [D.flat, D.flats, fl], ?_⟩
    have r := rps_of (n := 10) (c := 20) (ds := ds.map Pl.lev) fun x m => by
      obtain ⟨p, _, rfl⟩ := List.mem_map.mp m
      exact leaf_rp (lev_leaf p)
    have r2 : Rp 11 200 (D.dat (.tup (ds.map Pl.lev))) := Rps.tup r (Nat.le_refl _) (by rw [List.length_map]; omega)
    exact Rps.tup (Rps.cons (c1 := 40) (c2 := 202) (c := 500) str_rp (Rps.cons (c1 := 200) (c2 := 0) r2 Rps.nil' (by decide)) (by decide)) (Nat.le_refl _) (by decide)
  | two z =>
    cases hw : p.won
    · exact ⟨rfl, Rps.tup (Rps.cons (c1 := 40) (c2 := 22) (c := 64) str_rp (Rps.cons (c1 := 20) (c2 := 0) Rp.int' Rps.nil' (by decide)) (by decide)) (Nat.le_refl _) (by decide)⟩
    · exact ⟨rfl, Rps.tup (Rps.cons (c1 := 40) (c2 := 22) (c := 64) str_rp (Rps.cons (c1 := 20) (c2 := 0) Rp.int' Rps.nil' (by decide)) (by decide)) (Nat.le_refl _) (by decide)⟩
  | wait z z1 => exact ⟨rfl, Rps.tup (Rps.cons (c1 := 40) (c2 := 0) (c := 64) str_rp Rps.nil' (by decide)) (Nat.le_refl _) (by decide)⟩
  | word j w y z z1 hj hw hy =>
    have v := hv w (List.mem_of_getElem? hw) y hy
    refine ⟨by simp [D.flat, D.flats, v.flat], ?_⟩
    have r2 : Rp 11 216 y.dat := v.rp (m := 9)
    exact Rps.tup (Rps.cons (c1 := 40) (c2 := 218) (c := 500) str_rp (Rps.cons (c1 := 216) (c2 := 0) r2 Rps.nil' (by decide)) (by decide)) (Nat.le_refl _) (by decide)
theorem GoodS.come {ds : List Pl} {i : Nat} {p : Pl} {x : D} (G : GoodS ds) (hp : ds[i]? = some p) : GoodS (ds.set i { p with came := some x }) := by
  have mp := List.mem_of_getElem? hp
  have two : twoS ds = true → twoS (ds.set i { p with came := some x }) = true := fun z => any_set z fun p' e f => by
    rw [hp] at e
    cases e
    exact f
  refine ⟨fun r m => ?_, fun r m z => ?_, fun r m z1 z2 => ?_⟩
  · rcases mem_set m with rfl | m
    · exact G.le3 p mp
    · exact G.le3 r m
  · rcases mem_set m with rfl | m
    · cases z
    · exact G.no r m z
  · rcases mem_set m with rfl | m
    · exact two (G.two p mp z1 z2)
    · exact two (G.two r m z1 z2)
structure Bo (N : Nat) (b k : Int) (m : Nat) (st : Store) (ds : List Pl) (dn : List D) : Prop where
  A : DoorAt st 1 3 5 7 9 10 ds dn
  O : ∃ q, OwnAt st 21 12 14 16 18 20 ds q
  len : ds.length = N
  pot : ∃ a m, st[0]? = some (.lst [.int a, .int b, .int m]) ∧ PotOk a b m k
  G : GoodS ds
  vs : ∀ p ∈ ds, ∀ v, p.came = some v → Val 2 v
  dl : dn.length ≤ m
section
variable {N : Nat} {b k : Int} {m : Nat} {st : Store} {ds : List Pl} {dn : List D} {i : Nat} {p : Pl} {x : D}
abbrev chk : SemF := f_Door_check_player isIntM
abbrev isv : SemF := f_is_value (near 13)
abbrev comeS : SemF := f_Door_come chk isv
abbrev doorL : List Nat := [1, 3, 5, 7, 9, 10]
abbrev ownL : List Nat := [21, 12, 14, 16, 18, 20]
theorem pot_keep {st' : Store} {W : List Nat} (u : Upd W st st') (h : ∃ a m, st[0]? = some (.lst [.int a, .int b, .int m]) ∧ PotOk a b m k) (hw : 0 ∉ W) : ∃ a m, st'[0]? = some (.lst [.int a, .int b, .int m]) ∧ PotOk a b m k := by
  obtain ⟨a, m, h1, h2⟩ := h
  exact ⟨a, m, u.get h1 hw, h2⟩
theorem vs_set (hv : ∀ p ∈ ds, ∀ v, p.came = some v → Val 2 v) {q : Pl} (hq : ∀ v, q.came = some v → Val 2 v) : ∀ p ∈ ds.set i q, ∀ v, p.came = some v → Val 2 v := fun r mr v e => by
  rcases mem_set mr with rfl | mr
  · exact hq v e
  · exact hv r mr v e
theorem both_come (H : Bo N b k m st ds dn) (hm : m < 100000) (hp : ds[i]? = some p) (hc : p.came = none) (hx : Val 2 x) :
    ∃ s1 st' dn', f__law_door_come [.loc 21, .int (i : Int), x] st = .ok .non s1 ∧ comeS [.loc 1, .int (i : Int), x] s1 = .ok .non st' ∧ s1[1]? = st[1]? ∧ Upd [12, 3, 10] st st' ∧ Bo N b k (m + 1) st' (ds.set i { p with came := some x }) dn' := by
  obtain ⟨q, O⟩ := H.O
  obtain ⟨e1, O1⟩ := own_come O hp (x := x)
  have U1 : Upd [12] st (st.set 12 (.lst ((ds.map Pl.c).set i (.tup [x])))) := Upd.set (by simp)
  have A1 := H.A.upd U1 (by decide)
  obtain ⟨st', e2, U2, A2⟩ := come_ok (C := chk) (V := isv) (x := x) (fun st B => chk_ok B hp) (fun st => value_ok hx (by decide)) A1 (by have := H.dl; omega) hp hc
  have U := (U1.trans U2).sub (V := [12, 3, 10]) (by simp)
  have hl := H.dl
  exact ⟨_, st', _, e1, e2, U1.keep _ (lt_of_get H.A.h0) (by decide), U, A2, ⟨q, O1.upd U2 (by decide)⟩, by rw [List.length_set]; exact H.len, pot_keep U H.pot (by decide), GoodS.come H.G hp, vs_set H.vs (fun v e => by cases e; exact hx), by simp; omega⟩
/-- a player's step at both: the model's -/
theorem both_step (H : Bo N b k m st ds dn) (hm : m < 100000) (hp : ds[i]? = some p) (hc : p.came = some x) :
    ∃ t q s1 st' dn', StepR ds p t q ∧ Tells t ∧ doorStep [.loc 1, .int (i : Int)] st = .ok t s1 ∧ f__law_door_step [.loc 21, .int (i : Int)] s1 = .ok t st' ∧ Upd [5, 7, 9, 10, 21, 14, 16, 18, 20] st st' ∧ Bo N b k (m + 1) st' (ds.set i q) dn' := by
  obtain ⟨t, q, R⟩ := H.G.step (List.mem_of_getElem? hp)
  obtain ⟨w, O⟩ := H.O
  obtain ⟨s1, e1, U1, A1⟩ := doorStep_ok H.A (by have := H.dl; omega) hp hc R
  obtain ⟨st', e2, U2, O2⟩ := own_step (O.upd U1 (by decide)) hp R
  have U := (U1.trans U2).sub (V := [5, 7, 9, 10, 21, 14, 16, 18, 20]) (by simp)
  have hl := H.dl
  have cq : q.came = p.came := by cases R <;> rfl
  exact ⟨t, q, s1, st', _, R, StepR.tells R H.A.n5 H.vs, e1, e2, U, A1.upd U2 (by decide), ⟨_, O2⟩, by rw [List.length_set]; exact H.len, pot_keep U H.pot (by decide), R.good H.G hp (by rw [hc]; simp), vs_set H.vs (fun v e => by rw [cq] at e; exact H.vs p (List.mem_of_getElem? hp) v e), by simp; omega⟩
/-- the same, the own door first -/
theorem both_step' (H : Bo N b k m st ds dn) (hm : m < 100000) (hp : ds[i]? = some p) (hc : p.came = some x) :
    ∃ t q s1 st' dn', StepR ds p t q ∧ Tells t ∧ f__law_door_step [.loc 21, .int (i : Int)] st = .ok t s1 ∧ doorStep [.loc 1, .int (i : Int)] s1 = .ok t st' ∧ s1[1]? = st[1]? ∧ Upd [5, 7, 9, 10, 21, 14, 16, 18, 20] st st' ∧ Bo N b k (m + 1) st' (ds.set i q) dn' := by
  obtain ⟨t, q, R⟩ := H.G.step (List.mem_of_getElem? hp)
  obtain ⟨w, O⟩ := H.O
  obtain ⟨s1, e1, U1, O1⟩ := own_step O hp R
  have hl := H.dl
  obtain ⟨st', e2, U2, A2⟩ := doorStep_ok (H.A.upd U1 (by decide)) (by omega) hp hc R
  have U := (U1.trans U2).sub (V := [5, 7, 9, 10, 21, 14, 16, 18, 20]) (by simp)
  have cq : q.came = p.came := by cases R <;> rfl
  exact ⟨t, q, s1, st', _, R, StepR.tells R H.A.n5 H.vs, e1, e2, U1.keep _ (lt_of_get H.A.h0) (by decide), U, A2, ⟨_, O1.upd U2 (by decide)⟩, by rw [List.length_set]; exact H.len, pot_keep U H.pot (by decide), R.good H.G hp (by rw [hc]; simp), vs_set H.vs (fun v e => by rw [cq] at e; exact H.vs p (List.mem_of_getElem? hp) v e), by simp; omega⟩
/-- a step of the door alone -/
theorem one_step (A : DoorAt st 1 3 5 7 9 10 ds dn) (hm : dn.length < 100000) (G : GoodS ds) (hp : ds[i]? = some p) (hc : p.came = some x) :
    ∃ t q st', StepR ds p t q ∧ doorStep [.loc 1, .int (i : Int)] st = .ok t st' ∧ Upd [5, 7, 9, 10] st st' ∧ DoorAt st' 1 3 5 7 9 10 (ds.set i q) (dn ++ [.tup [.int i]]) ∧ GoodS (ds.set i q) := by
  obtain ⟨t, q, R⟩ := G.step (List.mem_of_getElem? hp)
  obtain ⟨st', e, U, A'⟩ := doorStep_ok A hm hp hc R
  exact ⟨t, q, st', R, e, U, A', R.good G hp (by rw [hc]; simp)⟩
/-- a drawn deed -/
theorem deed_ok (H : Bo N b k m st ds dn) (hN : 0 < N) (hk : k + 40 < 100000) : ∃ i p a' m', i < N ∧ ds[i]? = some p ∧ PotOk a' b m' (k + 30) ∧
    ((p.came = none ∧ ∃ x, Val 2 x ∧ f__law_drawn_deed take (drawn 3) [.loc 0, .loc 21] st = .ok (.tup [.int (i : Int), .tup [x]]) (st.set 0 (.lst [.int a', .int b, .int m']))) ∨
     (∃ x, p.came = some x) ∧ f__law_drawn_deed take (drawn 3) [.loc 0, .loc 21] st = .ok (.tup [.int (i : Int), .non]) (st.set 0 (.lst [.int a', .int b, .int m']))) := by
  obtain ⟨a, q, hl, ok⟩ := H.pot
  obtain ⟨w, O⟩ := H.O
  have n5 := H.A.n5
  have hlen := H.len
  obtain ⟨d, a1, q1, d0, d1, ok1, e1⟩ := take_ok st 0 a b q k (N : Int) hl ok (by omega) (by omega) (by omega)
  obtain ⟨i, hi⟩ : ∃ i : Nat, (i : Int) = d := ⟨d.toNat, by omega⟩
  subst hi
  have iN : i < N := by omega
  obtain ⟨p, hp⟩ : ∃ p, ds[i]? = some p := ⟨_, List.getElem?_eq_getElem (by rw [hlen]; exact iN)⟩
  have U1 : Upd [0] st (st.set 0 (.lst [.int a1, .int b, .int q1])) := Upd.set (by simp)
  have O1 := O.upd U1 (by decide)
  have c1 := at_map (f := Pl.c) hp
  have l0 := lt_of_get hl
  have hl1 : (st.set 0 (.lst [.int a1, .int b, .int q1]))[0]? = some (.lst [.int a1, .int b, .int q1]) := List.getElem?_set_self l0
  have e1' : take [.loc 0, .int (ds.length : Int)] st = .ok (.int (i : Int)) (st.set 0 (.lst [.int a1, .int b, .int q1])) := by rw [hlen]; exact e1
  generalize hs1 : st.set 0 (.lst [.int a1, .int b, .int q1]) = s1 at O1 hl1 e1'
  cases hc : p.came with
  | none =>
    rw [show p.c = .non by simp [Pl.c, hc]] at c1
    obtain ⟨x, a2, q2, vx, ok2, e2⟩ := drawn_ok 2 s1 0 a1 b q1 (k + 1) hl1 ok1 (by simp [dcost]; omega)
    have e2' : drawn 3 [.loc 0, .int 2] s1 = .ok x (s1.set 0 (.lst [.int a2, .int b, .int q2])) := e2
    refine ⟨i, p, a2, q2, iN, hp, ok2.up (by simp [dcost]; omega), .inl ⟨hc, x, vx, ?_⟩⟩
    have e3 : s1.set 0 (.lst [.int a2, .int b, .int q2]) = st.set 0 (.lst [.int a2, .int b, .int q2]) := by rw [← hs1, List.set_set]
    rw [e3] at e2'
    simp [b__law_drawn_deed, O.hw, O.ha, O1.hw, O1.ha, e1', c1, -ev_atI, e2', szL]
  | some x =>
    rw [show p.c = .tup [x] by simp [Pl.c, hc]] at c1
    refine ⟨i, p, a1, q1, iN, hp, ok1.up (by omega), .inr ⟨⟨x, hc⟩, ?_⟩⟩
    rw [hs1]
    simp [b__law_drawn_deed, O.hw, O.ha, O1.hw, O1.ha, e1', c1, -ev_atI, szL]
end
end K35

namespace K35
open PySem L2 Ev
open PyProof.Rows hiding St
/-! deeds done again; doors compared -/
theorem then_nx {f h : Sf} {e e1 : EEnv} {s s1 : Store} {r : RS} (h1 : f e s = .nx e1 s1) (h2 : h e1 s1 = r) : sSeq f h e s = r := by
  rw [ev_sSeq, h1]
  exact h2
theorem then_rt {f h : Sf} {e : EEnv} {s s1 : Store} {v : D} (h1 : f e s = .rt v s1) : sSeq f h e s = .rt v s1 := by
  rw [ev_sSeq, h1]
  rfl
theorem for_ok {fi : If} {gf : Gf} {bf : Sf} {env : EEnv} {s0 s1 : Store} {ws : Wt} {items : List D} {r : RS} (h : fi env s0 = .ok ⟨items, ws⟩ s1) (hl : loopF ws gf bf items env s1 = r) : sFor fi gf bf env s0 = r := by
  unfold sFor
  rw [h]
  exact hl
theorem loop_cons {ws : Wt} {gf : Gf} {bf : Sf} {d : D} {ds : List D} {env e1 e2 : EEnv} {s s1 : Store} {r : RS} (hw : wOk s ws = true) (hg : gf d env s = .ok e1 s) (hb : bf e1 s = .nx e2 s1) (h : loopF ws gf bf ds e2 s1 = r) : loopF ws gf bf (d :: ds) env s = r := by
  rw [ev_loopC, if_pos hw, hg]
  show RS.loop (bf e1 s) _ = r
  rw [hb]
  exact h
theorem loop_nil {ws : Wt} {gf : Gf} {bf : Sf} {env : EEnv} {s : Store} (hw : wOk s ws = true) : loopF ws gf bf [] env s = .nx env s := by
  rw [ev_loopN, if_pos hw]
abbrev doorInit : SemF := f_Door_init isIntM
abbrev cpB (ST CM : SemF) : Sf := (sIf (tfB (eBin (eqF false) (eCall lenF (aCons (eVar 2) aNil)) (eC (.int 1)))) (sExpr (eMeth 0 ST (eVar 1) (aCons (eBin ixF (eVar 2) (eC (.int 0))) aNil))) (sExpr (eMeth 0 CM (eVar 1) (aCons (eBin ixF (eVar 2) (eC (.int 0))) (aCons (eBin ixF (eVar 2) (eNeg (eC (.int 1)))) aNil)))))
theorem cp_chain {IN ST CM : SemF} : b_Door_copy IN ST CM = sSeq (sSet 1 (eCall (mkF 0 IN) (aCons (eFld 0 (eVar 0)) aNil))) (sSeq (sFor (iVal (eFld 5 (eVar 0))) (gN 2) (cpB ST CM)) (sRet (eVar 1))) := rfl
abbrev daB (ST CM : SemF) : Sf := (sIf (tfB (eIsN (eVar 4))) (sExpr (eMeth 0 ST (eVar 2) (aCons (eVar 3) aNil))) (sExpr (eMeth 0 CM (eVar 2) (aCons (eVar 3) (aCons (eBin ixF (eVar 4) (eC (.int 0))) aNil)))))
theorem da_chain {IN ST CM : SemF} : b__law_done_again IN ST CM = sSeq (sSet 2 (eCall (mkF 0 IN) (aCons (eVar 0) aNil))) (sSeq (sFor (iVal (eVar 1)) (gT 2 (gsCons (gN 3) (gsCons (gN 4) gsNil))) (daB ST CM)) (sRet (eVar 2))) := rfl
section
variable {st s s1 : Store} {o o0 c v h s' d N : Nat} {ds ds' : List Pl} {dn : List D} {m : Deed} {ms : List Deed} {x t j : D} {y : Option D} {fs : List (Nat × D)} {ST CM : SemF}
theorem cpB_step (e : ST [.loc o, j] s = .ok t s1) (h0 : s[o]? = some (.ins 0 fs)) : cpB ST CM [some (.loc o0), some (.loc o), some (.tup [j])] s = .nx [some (.loc o0), some (.loc o), some (.tup [j])] s1 := by
  simp [e, h0, ixN]
theorem cpB_come (e : CM [.loc o, j, x] s = .ok .non s1) (h0 : s[o]? = some (.ins 0 fs)) : cpB ST CM [some (.loc o0), some (.loc o), some (.tup [j, .str "come", x])] s = .nx [some (.loc o0), some (.loc o), some (.tup [j, .str "come", x])] s1 := by
  simp [e, h0, ixN]
theorem daB_step {N : D} {l : D} (e : ST [.loc o, j] s = .ok t s1) (h0 : s[o]? = some (.ins 0 fs)) : daB ST CM [some N, some l, some (.loc o), some j, some .non] s = .nx [some N, some l, some (.loc o), some j, some .non] s1 := by
  simp [e, h0]
theorem daB_come {N : D} {l : D} (e : CM [.loc o, j, x] s = .ok .non s1) (h0 : s[o]? = some (.ins 0 fs)) : daB ST CM [some N, some l, some (.loc o), some j, some (.tup [x])] s = .nx [some N, some l, some (.loc o), some j, some (.tup [x])] s1 := by
  simp [e, h0, ixN]
def okV (m : Deed) : Prop := ∀ x, m.2 = some x → Val 2 x
/-- one deed at a door -/
theorem redo (A : DoorAt s o c v h s' d ds dn) (hn : dn.length < 100000) (g : Go1 ds m ds') (hv : okV m) :
    (m.2 = none ∧ ∃ t s1, doorStep [.loc o, .int (m.1 : Nat)] s = .ok t s1 ∧ Upd [c, v, h, s', d] s s1 ∧ DoorAt s1 o c v h s' d ds' (dn ++ [dnOf m])) ∨
    ∃ x s1, m.2 = some x ∧ comeS [.loc o, .int (m.1 : Nat), x] s = .ok .non s1 ∧ Upd [c, v, h, s', d] s s1 ∧ DoorAt s1 o c v h s' d ds' (dn ++ [dnOf m]) := by
  cases g with
  | come h1 h2 =>
    rename_i i p x
    obtain ⟨st', e2, U2, A2⟩ := come_ok (C := chk) (V := isv) (x := x) (fun st B => chk_ok B h1) (fun st => value_ok (hv x rfl) (by decide)) A hn h1 h2
    exact .inr ⟨x, st', rfl, e2, U2.sub (by simp), A2⟩
  | step h1 h2 R =>
    obtain ⟨s1, e1, U1, A1⟩ := doorStep_ok A hn h1 h2 R
    exact .inl ⟨rfl, _, s1, e1, U1.sub (by simp), A1⟩
theorem cp_loop {ws : Wt} : ∀ (ms : List Deed) (s : Store) (ds : List Pl) (dn : List D) (y : Option D), DoorAt s o c v h s' d ds dn → dn.length + ms.length < 100000 → RunR ds ms ds' → (∀ m ∈ ms, okV m) → (∀ s1, Upd [c, v, h, s', d] s s1 → wOk s1 ws = true) →
    ∃ y' s1, loopF ws (gN 2) (cpB doorStep comeS) (ms.map dnOf) [some (.loc o0), some (.loc o), y] s = .nx [some (.loc o0), some (.loc o), y'] s1 ∧ Upd [c, v, h, s', d] s s1 ∧ DoorAt s1 o c v h s' d ds' (dn ++ ms.map dnOf)
  | [], s, ds, dn, y, A, hn, r, hv, hw => by
    cases r
    exact ⟨y, s, loop_nil (hw s Upd.refl), Upd.refl, by simpa using A⟩
  | m :: ms, s, ds, dn, y, A, hn, r, hv, hw => by
    rw [List.length_cons] at hn
    cases r with
    | cons g r =>
      have fin : ∀ {d1 s1}, Upd [c, v, h, s', d] s s1 → DoorAt s1 o c v h s' d d1 (dn ++ [dnOf m]) → RunR d1 ms ds' → cpB doorStep comeS [some (.loc o0), some (.loc o), some (dnOf m)] s = .nx [some (.loc o0), some (.loc o), some (dnOf m)] s1 →
          ∃ y' s2, loopF ws (gN 2) (cpB doorStep comeS) ((m :: ms).map dnOf) [some (.loc o0), some (.loc o), y] s = .nx [some (.loc o0), some (.loc o), y'] s2 ∧ Upd [c, v, h, s', d] s s2 ∧ DoorAt s2 o c v h s' d ds' (dn ++ (m :: ms).map dnOf) := fun {d1 s1} U A1 r eb => by
        obtain ⟨y', s2, e2, U2, A2⟩ := cp_loop ms s1 d1 (dn ++ [dnOf m]) (some (dnOf m)) A1 (by rw [List.length_append, List.length_singleton]; omega) r (fun n mn => hv n (List.mem_cons_of_mem _ mn)) (fun s3 U3 => hw s3 ((U.trans U3).sub (by simp)))
        refine ⟨y', s2, loop_cons (hw s Upd.refl) rfl eb e2, (U.trans U2).sub (by simp), ?_⟩
        rw [List.map_cons, show dn ++ dnOf m :: ms.map dnOf = (dn ++ [dnOf m]) ++ ms.map dnOf by simp]
        exact A2
      rcases redo A (by omega) g (hv m (List.mem_cons_self ..)) with ⟨hm, t, s1, e, U, A1⟩ | ⟨x, s1, hm, e, U, A1⟩
      · refine fin U A1 r ?_
        rw [show dnOf m = .tup [.int (m.1 : Nat)] by simp [dnOf, hm]]
        exact cpB_step e A.h0
      · refine fin U A1 r ?_
        rw [show dnOf m = .tup [.int (m.1 : Nat), .str "come", x] by simp [dnOf, hm]]
        exact cpB_come e A.h0
theorem da_loop {ws : Wt} {N l : D} : ∀ (ms : List Deed) (s : Store) (ds : List Pl) (dn : List D) (y3 y4 : Option D), DoorAt s o c v h s' d ds dn → dn.length + ms.length < 100000 → RunR ds ms ds' → (∀ m ∈ ms, okV m) → (∀ s1, Upd [c, v, h, s', d] s s1 → wOk s1 ws = true) →
    ∃ y3' y4' s1, loopF ws (gT 2 (gsCons (gN 3) (gsCons (gN 4) gsNil))) (daB doorStep comeS) (ms.map lwOf) [some N, some l, some (.loc o), y3, y4] s = .nx [some N, some l, some (.loc o), y3', y4'] s1 ∧ Upd [c, v, h, s', d] s s1 ∧ DoorAt s1 o c v h s' d ds' (dn ++ ms.map dnOf)
  | [], s, ds, dn, y3, y4, A, hn, r, hv, hw => by
    cases r
    exact ⟨y3, y4, s, loop_nil (hw s Upd.refl), Upd.refl, by simpa using A⟩
  | m :: ms, s, ds, dn, y3, y4, A, hn, r, hv, hw => by
    rw [List.length_cons] at hn
    cases r with
    | cons g r =>
      have fin : ∀ {d1 s1} {z : D}, lwOf m = .tup [.int (m.1 : Nat), z] → Upd [c, v, h, s', d] s s1 → DoorAt s1 o c v h s' d d1 (dn ++ [dnOf m]) → RunR d1 ms ds' → daB doorStep comeS [some N, some l, some (.loc o), some (.int (m.1 : Nat)), some z] s = .nx [some N, some l, some (.loc o), some (.int (m.1 : Nat)), some z] s1 →
          ∃ y3' y4' s2, loopF ws (gT 2 (gsCons (gN 3) (gsCons (gN 4) gsNil))) (daB doorStep comeS) ((m :: ms).map lwOf) [some N, some l, some (.loc o), y3, y4] s = .nx [some N, some l, some (.loc o), y3', y4'] s2 ∧ Upd [c, v, h, s', d] s s2 ∧ DoorAt s2 o c v h s' d ds' (dn ++ (m :: ms).map dnOf) := fun {d1 s1 z} hl U A1 r eb => by
        obtain ⟨y3', y4', s2, e2, U2, A2⟩ := da_loop ms s1 d1 (dn ++ [dnOf m]) (some (.int (m.1 : Nat))) (some z) A1 (by rw [List.length_append, List.length_singleton]; omega) r (fun n mn => hv n (List.mem_cons_of_mem _ mn)) (fun s3 U3 => hw s3 ((U.trans U3).sub (by simp)))
        refine ⟨y3', y4', s2, ?_, (U.trans U2).sub (by simp), ?_⟩
        · rw [List.map_cons, hl]
          exact loop_cons (hw s Upd.refl) rfl eb e2
        · rw [List.map_cons, show dn ++ dnOf m :: ms.map dnOf = (dn ++ [dnOf m]) ++ ms.map dnOf by simp]
          exact A2
      rcases redo A (by omega) g (hv m (List.mem_cons_self ..)) with ⟨hm, t, s1, e, U, A1⟩ | ⟨x, s1, hm, e, U, A1⟩
      · exact fin (z := .non) (by simp [lwOf, hm]) U A1 r (daB_step e A.h0)
      · exact fin (z := .tup [x]) (by simp [lwOf, hm]) U A1 r (daB_come e A.h0)
theorem cp_pre {IN : SemF} {n : D} (h0 : st[o]? = some (.ins 0 ((0, n) :: fs))) (e : IN [.loc st.length, n] (st ++ [.ins 0 []]) = .ok .non s1) : sSet 1 (eCall (mkF 0 IN) (aCons (eFld 0 (eVar 0)) aNil)) [some (.loc o), none, none] st = .nx [some (.loc o), some (.loc st.length), none] s1 := by
  simp [h0, e]
theorem da_pre {IN : SemF} {n l : D} (e : IN [.loc st.length, n] (st ++ [.ins 0 []]) = .ok .non s1) : sSet 2 (eCall (mkF 0 IN) (aCons (eVar 0) aNil)) [some n, some l, none, none, none] st = .nx [some n, some l, some (.loc st.length), none, none] s1 := by
  simp [e]
/-- a door's copy -/
theorem copyD_ok (A : DoorAt st o c v h s' d ds (ms.map dnOf)) (hN : ds.length = N) (h1 : 1 ≤ N) (h5 : N ≤ 5) (hl : ms.length < 90000) (r : RunR (freshDs N) ms ds) (hv : ∀ m ∈ ms, okV m) :
    ∃ st', f_Door_copy doorInit doorStep comeS [.loc o] st = .ok (.loc st.length) st' ∧ Upd [] st st' ∧ DoorAt st' st.length (st.length + 2) (st.length + 4) (st.length + 6) (st.length + 8) (st.length + 9) ds (ms.map dnOf) ∧ st.length + 10 ≤ st'.length := by
  obtain ⟨s1, i1, U1, l1, A1⟩ := init_ok (st := st) h1 h5
  obtain ⟨⟨lo, lc, lv⟩, lh, ls, ld⟩ := lts A
  have A0 := A.upd U1 (fun _ m => nomatch m)
  have dnew : d ∉ [st.length + 2, st.length + 4, st.length + 6, st.length + 8, st.length + 9] := by simp; omega
  obtain ⟨y', s2, e2, U2, A2⟩ := cp_loop (o0 := o) (ws := [(d, ms.map dnOf)]) ms s1 (freshDs N) [] none A1 (by simp; omega) r hv (fun s3 U3 => wOk_lst (U3.get A0.hd dnew) rfl)
  refine ⟨s2, ?_, ⟨Nat.le_trans U1.len U2.len, fun j hj _ => ?_⟩, by simpa using A2, by have := U2.len; omega⟩
  · have c1 : sSet 1 (eCall (mkF 0 doorInit) (aCons (eFld 0 (eVar 0)) aNil)) [some (.loc o), none, none] st = .nx [some (.loc o), some (.loc st.length), none] s1 := by
      have i1' : doorInit [.loc st.length, .int (ds.length : Int)] (st ++ [.ins 0 []]) = .ok .non s1 := by rw [hN]; exact i1
      exact cp_pre A.h0 i1'
    have it : iVal (eFld 5 (eVar 0)) [some (.loc o), some (.loc st.length), none] s1 = .ok ⟨ms.map dnOf, [(d, ms.map dnOf)]⟩ s1 := by
      have hd := A0.hd
      generalize ms.map dnOf = xs at hd ⊢
      simp [A0.h0, hd]
    have e0 : f_Door_copy doorInit doorStep comeS [.loc o] st = outS (b_Door_copy doorInit doorStep comeS [some (.loc o), none, none] st) := rfl
    rw [e0, cp_chain, then_nx c1 (then_nx (for_ok it e2) (r := .rt (.loc st.length) s2) rfl)]
    rfl
  · have := l1
    rw [U2.keep j (by omega) (by simp; omega), U1.keep j hj (by simp)]
theorem again_ok {l : Nat} {xs : List D} (hl : st[l]? = some (.lst (ms.map lwOf))) (h1 : 1 ≤ N) (h5 : N ≤ 5) (hms : ms.length < 90000) (r : RunR (freshDs N) ms ds) (hv : ∀ m ∈ ms, okV m) :
    ∃ st', f__law_done_again doorInit doorStep comeS [.int (N : Int), .loc l] st = .ok (.loc st.length) st' ∧ Upd [] st st' ∧ DoorAt st' st.length (st.length + 2) (st.length + 4) (st.length + 6) (st.length + 8) (st.length + 9) ds (ms.map dnOf) ∧ st.length + 10 ≤ st'.length := by
  obtain ⟨s1, i1, U1, l1, A1⟩ := init_ok (st := st) h1 h5
  have ll := lt_of_get hl
  have hl1 := U1.get hl (fun m => nomatch m)
  have lnew : l ∉ [st.length + 2, st.length + 4, st.length + 6, st.length + 8, st.length + 9] := by simp; omega
  obtain ⟨y3', y4', s2, e2, U2, A2⟩ := da_loop (N := .int (N : Int)) (l := .loc l) (ws := [(l, ms.map lwOf)]) ms s1 (freshDs N) [] none none A1 (by simp; omega) r hv (fun s3 U3 => wOk_lst (U3.get hl1 lnew) rfl)
  refine ⟨s2, ?_, ⟨Nat.le_trans U1.len U2.len, fun j hj _ => ?_⟩, by simpa using A2, by have := U2.len; omega⟩
  · have c1 : sSet 2 (eCall (mkF 0 doorInit) (aCons (eVar 0) aNil)) [some (.int (N : Int)), some (.loc l), none, none, none] st = .nx [some (.int (N : Int)), some (.loc l), some (.loc st.length), none, none] s1 := by
      exact da_pre i1
    have it : iVal (eVar 1) [some (.int (N : Int)), some (.loc l), some (.loc st.length), none, none] s1 = .ok ⟨ms.map lwOf, [(l, ms.map lwOf)]⟩ s1 := by
      generalize ms.map lwOf = xs at hl1 ⊢
      simp [hl1]
    have e0 : f__law_done_again doorInit doorStep comeS [.int (N : Int), .loc l] st = outS (b__law_done_again doorInit doorStep comeS [some (.int (N : Int)), some (.loc l), none, none, none] st) := rfl
    rw [e0, da_chain, then_nx c1 (then_nx (for_ok it e2) (r := .rt (.loc st.length) s2) rfl)]
    rfl
  · rw [U2.keep j (by omega) (by simp; omega), U1.keep j hj (by simp)]
end
end K35

namespace K35
open PySem L2 Ev
open PyProof.Rows hiding St
/-! a door beside the law's own; a drawn deed at both -/
theorem Val.toldN {n j : Nat} {d : D} (h : Val n d) (hn : n ≤ j) : Told j (cst n) d := ⟨h.flat, (h.rp (m := 0)).mono (by omega) (Nat.le_refl _)⟩
def oneT (d : D) : Bool := match d with | .tup [_] => true | _ => false
abbrev stN (dn : List D) : Nat := dn.countP oneT
def stepsN (ms : List Deed) : Nat := ms.countP fun m => m.2.isNone
theorem stN_dn (ms : List Deed) : stN (ms.map dnOf) = stepsN ms := by
  unfold stN stepsN
  rw [List.countP_map]
  congr 1
  funext m
  obtain ⟨i, x⟩ := m
  cases x <;> rfl
structure Two (N o c v h s' d w a l g n e : Nat) (st : Store) (ms : List Deed) (ds : List Pl) : Prop where
  A : DoorAt st o c v h s' d ds (ms.map dnOf)
  O : OwnAt st w a l g n e ds (stepsN ms : Nat)
  len : ds.length = N
  run : RunR (freshDs N) ms ds
  vs : ∀ p ∈ ds, ∀ x, p.came = some x → Val 2 x
  hs : ∀ p ∈ ds, p.heard = .non ∨ ∃ y, p.heard = .tup [y] ∧ Val 2 y
  ml : ms.length ≤ 1000
  mv : ∀ m ∈ ms, m.1 < N ∧ okV m
  sep : ∀ j ∈ [o, c, v, h, s', d], j ∉ [w, a, l, g, n, e]
theorem good_fresh (n : Nat) : GoodS (freshDs n) := by
  refine ⟨fun p m => ?_, fun p m _ => ?_, fun p m h _ => ?_⟩
  · rw [List.eq_of_mem_replicate m]; exact Nat.zero_le _
  · rw [List.eq_of_mem_replicate m]
  · rw [List.eq_of_mem_replicate m] at h; exact absurd h (by decide)
section
variable {N o c v h s' d w a l g n e : Nat} {k : Int} {st s s1 s2 : Store} {ms : List Deed} {ds : List Pl} {dn : List D} {i : Nat} {p : Pl} {x t : D}
theorem Two.G (T : Two N o c v h s' d w a l g n e st ms ds) : GoodS ds := T.run.good (good_fresh N)
theorem Two.upd (T : Two N o c v h s' d w a l g n e st ms ds) {W : List Nat} (U : Upd W st s) (h1 : ∀ j ∈ W, j ∉ [o, c, v, h, s', d]) (h2 : ∀ j ∈ W, j ∉ [w, a, l, g, n, e]) : Two N o c v h s' d w a l g n e s ms ds :=
  ⟨T.A.upd U h1, T.O.upd U h2, T.len, T.run, T.vs, T.hs, T.ml, T.mv, T.sep⟩
theorem Two.keep (T : Two N o c v h s' d w a l g n e st ms ds) (U : Upd [] st s) : Two N o c v h s' d w a l g n e s ms ds := T.upd U (fun _ m => nomatch m) (fun _ m => nomatch m)
/-! names -/
theorem came_ok (A : DoorAt st o c v h s' d ds dn) : f_Door_came [.loc o] st = .ok (.tup (ds.map Pl.c)) st := by
  simp [b_Door_came, A.h0, A.hc]
theorem heard_ok (A : DoorAt st o c v h s' d ds dn) : f_Door_heard [.loc o] st = .ok (.tup (ds.map Pl.heard)) st := by
  simp [b_Door_heard, A.h0, A.hh]
abbrev showT (ds : List Pl) : D := .tup [.tup (ds.map Pl.lev), .tup (ds.map Pl.heard), .tup (ds.map Pl.c)]
theorem show_told (n5 : ds.length ≤ 5) (vs : ∀ p ∈ ds, ∀ x, p.came = some x → Val 2 x) (hs : ∀ p ∈ ds, p.heard = .non ∨ ∃ y, p.heard = .tup [y] ∧ Val 2 y) : Told 12 20000 (showT ds) := by
  have c2 : cst 2 ≤ 1000 := by decide
  have hl : ∀ f : Pl → D, (ds.map f).length ≤ 5 := fun f => by rw [List.length_map]; exact n5
  have one : ∀ {y : D}, Val 2 y → Told 10 1005 (.tup [y]) := fun {y} hy => Told.tup (n := 9) (c := 1000) (m := 1) (fun z m => by
    rw [List.mem_singleton] at m
    subst m
    exact (hy.toldN (by decide)).up (Nat.le_refl _) c2) (by simp) (by decide)
  have tl : Told 11 6000 (.tup (ds.map Pl.lev)) := Told.tup (n := 10) (c := 1005) (m := 5) (fun z m => by
    obtain ⟨p, _, rfl⟩ := List.mem_map.mp m
    refine Told.up (n := 10) (c := 20) ?_ (Nat.le_refl _) (by decide)
    unfold Pl.lev
    split
    · exact told_non
    · split
      · exact told_int (j := 1) (by decide)
      · split
        · exact told_int (j := 2) (by decide)
        · exact told_int (j := 0) (by decide)) (hl _) (by decide)
  have th : Told 11 6000 (.tup (ds.map Pl.heard)) := Told.tup (n := 10) (c := 1005) (m := 5) (fun z m => by
    obtain ⟨p, mp, rfl⟩ := List.mem_map.mp m
    rcases hs p mp with e | ⟨y, e, hy⟩
    · rw [e]; exact told_non.up (Nat.le_refl _) (by decide)
    · rw [e]; exact one hy) (hl _) (by decide)
  have tc : Told 11 6000 (.tup (ds.map Pl.c)) := Told.tup (n := 10) (c := 1005) (m := 5) (fun z m => by
    obtain ⟨p, mp, rfl⟩ := List.mem_map.mp m
    unfold Pl.c
    cases hc : p.came with
    | none => exact told_non.up (Nat.le_refl _) (by decide)
    | some x => exact one (vs p mp x hc)) (hl _) (by decide)
  exact Told.tup (n := 11) (c := 6000) (m := 3) (fun z m => by
    simp only [List.mem_cons, List.not_mem_nil, or_false] at m
    rcases m with rfl | rfl | rfl
    · exact tl
    · exact th
    · exact tc) (by simp) (by decide)
/-! how many steps -/
theorem dlen_ok (A : DoorAt st o c v h s' d ds dn) (tp : ∀ x ∈ dn, ∃ xs, x = .tup xs) : f_Door_len [.loc o] st = .ok (.int (stN dn : Nat)) st := by
  have hw : wOk st [(d, dn)] = true := wOk_lst A.hd rfl
  have q := compF_pick (gf := gN 1) (tf := tfB (eBin (eqF false) (eCall lenF (aCons (eVar 1) aNil)) (eC (.int 1)))) (ef := eVar 1) (env := [some (.loc o), none]) hw (fun x => if oneT x = true then some x else none) dn (fun x m => by
    obtain ⟨xs, rfl⟩ := tp x m
    refine ⟨[some (.loc o), some (.tup xs)], oneT (.tup xs), rfl, ?_, fun z => ⟨.tup xs, rfl, by simp [z]⟩, fun z => by simp [z]⟩
    have e : oneT (.tup xs) = ((xs.length : Int) == 1) := by
      match xs with
      | [] => rfl
      | [x] => rfl
      | x :: y :: r =>
        have : ¬ (((x :: y :: r).length : Int) = 1) := by simp; omega
        rw [beq_eq_false_iff_ne.mpr this]
        rfl
    rw [e]
    simp)
  have fl : ∀ ds : List D, (ds.filterMap fun x => if oneT x = true then some x else none) = ds.filter oneT := fun ds => by
    induction ds with
    | nil => rfl
    | cons x ds ih =>
      by_cases h : oneT x = true
      · rw [List.filterMap_cons_some (b := x) (by simp [h]), List.filter_cons_of_pos h, ih]
      · rw [List.filterMap_cons_none (by simp [h]), List.filter_cons_of_neg h, ih]
  rw [fl] at q
  have it : iVal (eFld 5 (eVar 0)) [some (.loc o), none] st = .ok ⟨dn, [(d, dn)]⟩ st := by
    simp [A.h0, A.hd]
  have hz := A.nn
  have e1 : eCall lenQ (nComp [1] (iVal (eFld 5 (eVar 0))) (gN 1) (tfB (eBin (eqF false) (eCall lenF (aCons (eVar 1) aNil)) (eC (.int 1)))) (eVar 1)) [some (.loc o), none] st = .ok (.int (stN dn : Nat)) st := by
    rw [ev_eCall, ev_nComp, it, R.bind_ok, ev_kN, if_pos (by rw [szL]; show dn.length ≤ _; omega)]
    show R.bind (compF _ _ _ _ [some (.loc o), none] dn st) _ = _
    rw [q, R.bind_ok, ev_lenQ, ← List.countP_eq_length_filter]
  have e0 : f_Door_len [.loc o] st = outS (b_Door_len [some (.loc o), none] st) := rfl
  rw [e0]
  unfold b_Door_len sRet
  rw [e1]
  rfl
/-! what is next -/
def nxD (p : Pl) : D := if p.came.isNone = true then .non else kindS p
theorem next_none {C : SemF} (k : C [.loc o, .int (i : Int)] st = .ok .non st) (A : DoorAt st o c v h s' d ds dn) (hp : ds[i]? = some p) (hc : p.came = none) : f_Door_next C [.loc o, .int (i : Int)] st = .ok .non st := by
  have a1 := at_map (f := Pl.c) hp
  rw [show p.c = .non by simp [Pl.c, hc]] at a1
  simp [b_Door_next, A.h0, A.hc, k, a1, -ev_atI]
theorem next_all (A : DoorAt st o c v h s' d ds dn) (hp : ds[i]? = some p) : f_Door_next chk [.loc o, .int (i : Int)] st = .ok (nxD p) st := by
  cases hc : p.came with
  | some x =>
    rw [next_ok (chk_ok A hp) A hp hc]
    simp [nxD, hc]
  | none =>
    rw [next_none (chk_ok A hp) A hp hc]
    simp [nxD, hc]
theorem lnext_ok (O : OwnAt st w a l g n e ds k) (le3 : p.st ≤ 3) (hp : ds[i]? = some p) : ∃ st', f__law_door_next [.loc w, .int (i : Int)] st = .ok (nxD p) st' ∧ Upd [] st st' := by
  have a1 := at_map (f := Pl.c) hp
  have a2 := at_map (f := stg) hp
  cases hc : p.came with
  | none =>
    rw [show p.c = .non by simp [Pl.c, hc]] at a1
    exact ⟨st, by simp [b__law_door_next, O.hw, O.ha, a1, -ev_atI, nxD, hc], Upd.refl⟩
  | some x =>
    rw [show p.c = .tup [x] by simp [Pl.c, hc]] at a1
    refine ⟨st ++ [.lst [.str "level", .str "look", .str "level", .str "ask"]], ?_, Upd.push _⟩
    have lg := O.lt.2.1
    have lw := O.lt.1.1
    have g1 : (st ++ [Ev.O.lst [.str "level", .str "look", .str "level", .str "ask"]])[w]? = st[w]? := List.getElem?_append_left lw
    have g2 : (st ++ [Ev.O.lst [.str "level", .str "look", .str "level", .str "ask"]])[g]? = st[g]? := List.getElem?_append_left lg
    have z : p.st = 0 ∨ p.st = 1 ∨ p.st = 2 ∨ p.st = 3 := by omega
    have q : ∀ k : Nat, stg p = .int (k : Int) → k ≤ 3 → atI [D.str "level", .str "look", .str "level", .str "ask"] (k : Int) = some (nxD p) → f__law_door_next [.loc w, .int (i : Int)] st = .ok (nxD p) (st ++ [.lst [.str "level", .str "look", .str "level", .str "ask"]]) := fun k ek _ ea => by
      rw [ek] at a2
      simp [b__law_door_next, O.hw, O.ha, a1, g1, g2, O.hg, a2, -ev_atI, szL, ea]
    rcases z with z | z | z | z
    · exact q 0 (by simp [stg, z]) (by decide) (by simp [nxD, hc, kindS, z]; rfl)
    · exact q 1 (by simp [stg, z]) (by decide) (by simp [nxD, hc, kindS, z]; rfl)
    · exact q 2 (by simp [stg, z]) (by decide) (by simp [nxD, hc, kindS, z]; rfl)
    · exact q 3 (by simp [stg, z]) (by decide) (by simp [nxD, hc, kindS, z]; rfl)
/-- a comprehension over the numbers of a row -/
theorem compF_ix {gf : Gf} {tf : Tf} {ef : Ef} {env : EEnv} {f : Pl → D} (I : Store → Prop) : ∀ (r : List Pl) (k : Nat) (st : Store), I st →
    (∀ i p s, r[i]? = some p → I s → ∃ e s', gf (.int ((k + i : Nat) : Int)) env s = .ok e s ∧ tf e s = .ok true s ∧ ef e s = .ok (f p) s' ∧ I s') →
    ∃ st', compF [] gf tf ef env (intD (k : Int) r.length) st = .ok (r.map f) st' ∧ I st'
  | [], k, st, h, _ => ⟨st, by simp, h⟩
  | p :: r, k, st, h, hs => by
    obtain ⟨e, s', h1, h2, h3, h4⟩ := hs 0 p st rfl h
    obtain ⟨st', q1, q2⟩ := compF_ix I r (k + 1) s' h4 fun i p' s hp hI => by
      have z := hs (i + 1) p' s (by simpa using hp) hI
      rw [show k + (i + 1) = k + 1 + i by omega] at z
      exact z
    refine ⟨st', ?_, q2⟩
    rw [List.length_cons, ev_intDs]
    rw [show ((k : Int) + 1) = ((k + 1 : Nat) : Int) by omega]
    have h1' : gf (.int (k : Int)) env st = .ok e st := h1
    rw [ev_compC, if_pos ev_wN, h1', R.bind_ok, ev_kC0, h2, R.bind_ok, ev_kC1T, h3, R.bind_ok, ev_kC2, q1, R.bind_ok, ev_kC3]
    rfl
/-! the whole -/
abbrev id1 (c_Door_came : SemF) (c_Door_heard : SemF) (c_Door_levels : SemF) : Sf := (sIf (tfB (eBin (eqF true) (eCall reprF (aCons (eTup (aCons (eProp 0 c_Door_levels (eVar 0)) (aCons (eProp 0 c_Door_heard (eVar 0)) (aCons (eProp 0 c_Door_came (eVar 0)) aNil)))) aNil)) (eCall reprF (aCons (eTup (aCons (eCall tupQ (qOf (eBin dgF (eVar 1) (eC (.str "levels"))))) (aCons (eCall tupQ (qOf (eBin dgF (eVar 1) (eC (.str "heard"))))) (aCons (eCall tupQ (qOf (eBin dgF (eVar 1) (eC (.str "came"))))) aNil)))) aNil)))) (sRet (eC (.bl false))) sNil)
abbrev id2  : Sf := (sSet 2 (eCall lenF (aCons (eBin dgF (eVar 1) (eC (.str "came"))) aNil)))
abbrev id3 (c_Door_len : SemF) (c_Door_next : SemF) (c__law_door_next : SemF) : Sf := (sRet (eAnd (eBin (eqF false) (eCall (lenOF 0 c_Door_len) (aCons (eVar 0) aNil)) (eBin dgF (eVar 1) (eC (.str "steps")))) (eBin (eqF false) (eNew (nComp [3] (iRange1 (eVar 2)) (gN 3) tfYes (eMeth 0 c_Door_next (eVar 0) (aCons (eVar 3) aNil)))) (eNew (nComp [3] (iRange1 (eVar 2)) (gN 3) tfYes (eCall c__law_door_next (aCons (eVar 1) (aCons (eVar 3) aNil))))))))
theorem id_chain {c_Door_came : SemF} {c_Door_heard : SemF} {c_Door_levels : SemF} {c_Door_len : SemF} {c_Door_next : SemF} {c__law_door_next : SemF} : b__law_is_door c_Door_came c_Door_heard c_Door_levels c_Door_len c_Door_next c__law_door_next = (sSeq (id1 c_Door_came c_Door_heard c_Door_levels) (sSeq id2 (id3 c_Door_len c_Door_next c__law_door_next))) := rfl
theorem nxD_flat (p : Pl) : (nxD p).flat = true := by
  unfold nxD kindS
  split
  · rfl
  · split
    · rfl
    · split
      · rfl
      · split <;> rfl
theorem nxD_rp (p : Pl) {m : Nat} : Rp m 40 (nxD p).dat := by
  unfold nxD kindS
  split
  · exact Rp.up (Rp.non (c := 20)) (by decide)
  · split
    · exact Rp.str'
    · split
      · exact Rp.str'
      · split <;> exact Rp.str'
theorem two_lists {b1 b2 : Nat} {xs : List D} (h1 : s[b1]? = some (.lst xs)) (h2 : s[b2]? = some (.lst xs)) (fl : D.flats xs = true) {cc : Nat} (r : Rp 12 cc (.list (D.dats xs))) : eqF false (.loc b1) (.loc b2) s = .ok (.bl true) s := by
  have e : ∀ b, s[b]? = some (.lst xs) → pdW (pdN s 3) (.loc b) = some (.list (D.dats xs)) := fun b hb => by
    simp only [pdW_loc, ev_pdN3, hb, ev_pdGet, pdWs_flat fl]
    rfl
  rw [ev_eqLL, e b1 h1, e b2 h2, eqP_ok r r, SeqAt.eqv_refl _ (SeqAt.canLay_of_shaped (r.shaped (by decide)))]
  rfl
theorem id2_ok {y2 y3 : Option D} (O : OwnAt st w a l g n e ds k) : id2 [some (.loc o), some (.loc w), y2, y3] st = .nx [some (.loc o), some (.loc w), some (.int (ds.length : Int)), y3] st := by
  simp [O.hw, O.ha]
theorem id3a_ok {LN : SemF} {y2 y3 : Option D} {fs : List (Nat × D)} {m : Nat} (h0 : st[o]? = some (.ins 0 fs)) (O : OwnAt st w a l g n e ds (m : Nat)) (hm : m < 100000) (e1 : LN [.loc o] st = .ok (.int (m : Nat)) st) :
    eBin (eqF false) (eCall (lenOF 0 LN) (aCons (eVar 0) aNil)) (eBin dgF (eVar 1) (eC (.str "steps"))) [some (.loc o), some (.loc w), y2, y3] st = .ok (.bl true) st := by
  have key : ∀ j : Int, j = (m : Nat) → LN [.loc o] st = .ok (.int j) st → st[w]? = some (.dic (ownKs a l g n e j)) → eBin (eqF false) (eCall (lenOF 0 LN) (aCons (eVar 0) aNil)) (eBin dgF (eVar 1) (eC (.str "steps"))) [some (.loc o), some (.loc w), y2, y3] st = .ok (.bl true) st := fun j ej e1 hw => by
    have c1 : (0 : Int) ≤ j := by omega
    have c2 : j < 4611686018427387904 := by omega
    simp [h0, e1, hw, c1, c2]
  exact key _ rfl e1 O.hw
theorem and_ret {f1 f2 : Ef} {env : EEnv} {s1 s2 : Store} (h1 : f1 env s1 = .ok (.bl true) s1) (h2 : f2 env s1 = .ok (.bl true) s2) : sRet (eAnd f1 f2) env s1 = .rt (.bl true) s2 := by
  rw [ev_sRet, ev_eAnd, h1]
  show sR (f2 env s1) kRt = _
  rw [h2]
  rfl
theorem isdoor_ok (T : Two N o c v h s' d w a l g n e st ms ds) : ∃ st', f__law_is_door f_Door_came f_Door_heard f_Door_levels f_Door_len (f_Door_next chk) f__law_door_next [.loc o, .loc w] st = .ok (.bl true) st' ∧ Upd [] st st' := by
  have n5 := T.A.n5
  have tld := show_told n5 T.vs T.hs
  have c1 : id1 f_Door_came f_Door_heard f_Door_levels [some (.loc o), some (.loc w), none, none] st = .nx [some (.loc o), some (.loc w), none, none] st := by
    have e1 := came_ok T.A
    have e2 := heard_ok T.A
    have e3 := levels_ok T.A
    have fx : eTup (aCons (eProp 0 f_Door_levels (eVar 0)) (aCons (eProp 0 f_Door_heard (eVar 0)) (aCons (eProp 0 f_Door_came (eVar 0)) aNil))) [some (.loc o), some (.loc w), none, none] st = .ok (showT ds) st := by
      have h0 := T.A.h0
      generalize f_Door_came = C1 at e1 ⊢
      generalize f_Door_heard = C2 at e2 ⊢
      generalize f_Door_levels = C3 at e3 ⊢
      simp [h0, e1, e2, e3, szL]
    have fy : eTup (aCons (eCall tupQ (qOf (eBin dgF (eVar 1) (eC (.str "levels"))))) (aCons (eCall tupQ (qOf (eBin dgF (eVar 1) (eC (.str "heard"))))) (aCons (eCall tupQ (qOf (eBin dgF (eVar 1) (eC (.str "came"))))) aNil))) [some (.loc o), some (.loc w), none, none] st = .ok (showT ds) st := by
      simp [T.O.hw, T.O.ha, T.O.hl, T.O.he, szL]
    have r := rep_eq (neg := true) fx fy tld (by decide)
    show sIf (tfB (eBin (eqF true) (eCall reprF (aCons (eTup _) aNil)) (eCall reprF (aCons (eTup _) aNil)))) _ _ _ st = _
    rw [ev_sIf, ev_tfB, r]
    rfl
  have c2 := id2_ok (o := o) (y2 := none) (y3 := none) T.O
  have ln := dlen_ok T.A (fun x m => by
    obtain ⟨q, _, rfl⟩ := List.mem_map.mp m
    obtain ⟨i, y⟩ := q
    cases y <;> exact ⟨_, rfl⟩)
  rw [stN_dn] at ln
  have sm : stepsN ms ≤ ms.length := List.countP_le_length
  have ml := T.ml
  have c3 := id3a_ok (LN := f_Door_len) (y2 := some (.int (ds.length : Int))) (y3 := none) T.A.h0 T.O (by omega) ln
  obtain ⟨s1, q1, I1⟩ := compF_ix (gf := gN 3) (tf := tfYes) (ef := eMeth 0 (f_Door_next chk) (eVar 0) (aCons (eVar 3) aNil)) (env := [some (.loc o), some (.loc w), some (.int (ds.length : Int)), none]) (f := nxD) (fun s => s = st) ds 0 st rfl (fun i p s hp hs => by
    subst hs
    have e := next_all T.A hp
    refine ⟨_, s, rfl, rfl, ?_, rfl⟩
    have h0 := T.A.h0
    rw [Nat.zero_add]
    generalize f_Door_next chk = NX at e ⊢
    simp [h0, e])
  subst I1
  have U1 : Upd [] s1 (s1 ++ [Ev.O.lst (ds.map nxD)]) := Upd.push _
  obtain ⟨s2, q2, I2⟩ := compF_ix (gf := gN 3) (tf := tfYes) (ef := eCall f__law_door_next (aCons (eVar 1) (aCons (eVar 3) aNil))) (env := [some (.loc o), some (.loc w), some (.int (ds.length : Int)), none]) (f := nxD) (fun s => Upd [] (s1 ++ [.lst (ds.map nxD)]) s) ds 0 (s1 ++ [.lst (ds.map nxD)]) Upd.refl (fun i p s hp hs => by
    have O1 := (T.O.upd U1 (fun _ m => nomatch m)).upd hs (fun _ m => nomatch m)
    obtain ⟨s3, e, U3⟩ := lnext_ok O1 (T.G.le3 p (List.mem_of_getElem? hp)) hp
    refine ⟨_, s3, rfl, rfl, ?_, (hs.trans U3).sub (fun _ m => m)⟩
    rw [Nat.zero_add]
    generalize f__law_door_next = NX at e ⊢
    simp [e])
  have h1 : (s2 ++ [Ev.O.lst (ds.map nxD)])[s1.length]? = some (.lst (ds.map nxD)) := by
    have := I2.len
    simp at this
    rw [List.getElem?_append_left (by omega)]
    exact I2.get (by simp) (fun m => nomatch m)
  have h2 : (s2 ++ [Ev.O.lst (ds.map nxD)])[s2.length]? = some (.lst (ds.map nxD)) := by simp
  have rr : Rp 12 300 (.list (D.dats (ds.map nxD))) := Rps.lst (n := 11) (c := (ds.map nxD).length * (40 + 2)) (rps_of fun z m => by
    obtain ⟨p, _, rfl⟩ := List.mem_map.mp m
    exact nxD_rp p) (by decide) (by rw [List.length_map]; omega)
  have fl : D.flats (ds.map nxD) = true := flats_of fun z m => by
    obtain ⟨p, _, rfl⟩ := List.mem_map.mp m
    exact nxD_flat p
  have e4 := two_lists h1 h2 fl rr
  have l5 : (intD 0 ds.length).length ≤ sizeLine := by rw [intD_length, szL]; omega
  have rg := fun s => rg_nat (s := s) (n := ds.length) (by omega)
  have c4 : eBin (eqF false) (eNew (nComp [3] (iRange1 (eVar 2)) (gN 3) tfYes (eMeth 0 (f_Door_next chk) (eVar 0) (aCons (eVar 3) aNil)))) (eNew (nComp [3] (iRange1 (eVar 2)) (gN 3) tfYes (eCall f__law_door_next (aCons (eVar 1) (aCons (eVar 3) aNil))))) [some (.loc o), some (.loc w), some (.int (ds.length : Int)), none] s1 = .ok (.bl true) (s2 ++ [.lst (ds.map nxD)]) := by
    have f1 : nComp [3] (iRange1 (eVar 2)) (gN 3) tfYes (eMeth 0 (f_Door_next chk) (eVar 0) (aCons (eVar 3) aNil)) [some (.loc o), some (.loc w), some (.int (ds.length : Int)), none] s1 = .ok (ds.map nxD) s1 := by
      rw [ev_nComp, ev_iRange1, ev_eVar]
      show R.bind (R.bind (.ok (.int (ds.length : Int)) s1) kRg1) _ = _
      rw [R.bind_ok, rg s1, R.bind_ok, ev_kN, if_pos l5]
      exact q1
    have f2 : nComp [3] (iRange1 (eVar 2)) (gN 3) tfYes (eCall f__law_door_next (aCons (eVar 1) (aCons (eVar 3) aNil))) [some (.loc o), some (.loc w), some (.int (ds.length : Int)), none] (s1 ++ [.lst (ds.map nxD)]) = .ok (ds.map nxD) s2 := by
      rw [ev_nComp, ev_iRange1, ev_eVar]
      show R.bind (R.bind (.ok (.int (ds.length : Int)) _) kRg1) _ = _
      rw [R.bind_ok, rg, R.bind_ok, ev_kN, if_pos l5]
      exact q2
    rw [ev_eBin, ev_eNew, f1, R.bind_ok, ev_kNew, R.bind_ok, ev_kBin, ev_eNew, f2, R.bind_ok, ev_kNew, R.bind_ok]
    exact e4
  refine ⟨s2 ++ [.lst (ds.map nxD)], ?_, ((U1.trans I2).trans (Upd.push (W := []) _)).sub (by simp)⟩
  have e0 : f__law_is_door f_Door_came f_Door_heard f_Door_levels f_Door_len (f_Door_next chk) f__law_door_next [.loc o, .loc w] s1 = outS (b__law_is_door f_Door_came f_Door_heard f_Door_levels f_Door_len (f_Door_next chk) f__law_door_next [some (.loc o), some (.loc w), none, none] s1) := rfl
  rw [e0, id_chain, then_nx c1 (then_nx c2 (r := .rt (.bl true) (s2 ++ [.lst (ds.map nxD)])) ?_)]
  · rfl
  · exact and_ret c3 c4
end
end K35

namespace K35
open PySem L2 Ev
open PyProof.Rows hiding St
/-! doors compared; a drawn deed at both -/
abbrev sub0 : Nat → Bool := fun c => decide (c = 0)
abbrev dq1  : Sf := (sIf (tfOr (tfNot (tfB (eIsO (fun c => decide (c = 0)) (eVar 1)))) (tfB (eBin (eqF true) (eFld 0 (eVar 0)) (eFld 0 (eVar 1))))) (sRet (eC (.bl false))) sNil)
abbrev dq2  : Sf := (sRet (eBin (eqF false) (eCall reprF (aCons (eFld 5 (eVar 0)) aNil)) (eCall reprF (aCons (eFld 5 (eVar 1)) aNil))))
theorem dq_chain  : b_Door_eq  = (sSeq dq1 dq2) := rfl
section
variable {N o c v h s' d w a l g n e dl i : Nat} {k b k' : Int} {st s s1 s2 s3 : Store} {ms : List Deed} {ds ds2 : List Pl} {dn dn2 : List D} {p : Pl} {x t j : D} {o2 c2 v2 h2 t2 d2 : Nat} {DD OC CM ST OS : SemF} {y4 y5 : Option D} {fs : List (Nat × D)}
abbrev txtD (dn : List D) : Str := (PyData.list (D.dats dn)).shown
theorem repr_dn (hd : s[d]? = some (.lst dn)) {cc m : Nat} (ht : ∀ x ∈ dn, Told 11 cc x) (hl : dn.length ≤ m) (hc : m * (cc + 2) + 3 ≤ 16777216) : reprF [.loc d] s = .ok (.str (txtD dn)) s := by
  have e : pdW (pdN s 3) (.loc d) = some (.list (D.dats dn)) := by
    simp only [pdW_loc, ev_pdN3, hd, ev_pdGet, pdWs_flat (flats_of fun x m => (ht x m).1)]
    rfl
  have r : Rp 12 (m * (cc + 2) + 3) (.list (D.dats dn)) := Rps.lst (n := 11) (c := dn.length * (cc + 2)) (rps_of fun x m => (ht x m).2) (Nat.le_refl _) (by have := Nat.mul_le_mul_right (cc + 2) hl; omega)
  rw [ev_repr, ev_pd, e]
  exact reprP_ok' r hc
theorem told_small {m j : Nat} (h : j ≤ 9) : Told m 1000 (.int (j : Int)) := (told_int h).up (Nat.le_refl _) (by decide)
theorem told_dn {m : Deed} (h1 : m.1 ≤ 9) (hv : okV m) : Told 11 4000 (dnOf m) := by
  have c2 : cst 2 ≤ 1000 := by decide
  unfold dnOf
  cases hm : m.2 with
  | none => exact Told.tup (n := 10) (c := 1000) (m := 3) (fun z mz => by
      rw [List.mem_singleton] at mz
      subst mz
      exact told_small h1) (by simp) (by decide)
  | some x => exact Told.tup (n := 10) (c := 1000) (m := 3) (fun z mz => by
      simp only [List.mem_cons, List.not_mem_nil, or_false] at mz
      rcases mz with rfl | rfl | rfl
      · exact told_small h1
      · exact (told_str (n := 10) (z := "come")).up (Nat.le_refl _) (by decide)
      · exact ((hv _ hm).toldN (by decide)).up (Nat.le_refl _) c2) (by simp) (by decide)
theorem told_lw {m : Deed} (h1 : m.1 ≤ 9) (hv : okV m) : Told 11 4000 (lwOf m) := by
  have c2 : cst 2 ≤ 1000 := by decide
  unfold lwOf
  cases hm : m.2 with
  | none => exact Told.tup (n := 10) (c := 1000) (m := 3) (fun z mz => by
      simp only [List.mem_cons, List.not_mem_nil, or_false] at mz
      rcases mz with rfl | rfl
      · exact told_small h1
      · exact told_non.up (Nat.le_refl _) (by decide)) (by simp) (by decide)
  | some x => exact Told.tup (n := 10) (c := 1010) (m := 3) (fun z mz => by
      simp only [List.mem_cons, List.not_mem_nil, or_false] at mz
      rcases mz with rfl | rfl
      · exact (told_small h1).up (Nat.le_refl _) (by decide)
      · exact Told.tup (n := 9) (c := 1000) (m := 1) (fun y my => by
          rw [List.mem_singleton] at my
          subst my
          exact ((hv _ hm).toldN (by decide)).up (Nat.le_refl _) c2) (by simp) (by decide)) (by simp) (by decide)
theorem told_dns {N : Nat} (n5 : N ≤ 5) (mv : ∀ m ∈ ms, m.1 < N ∧ okV m) : ∀ x ∈ ms.map dnOf, Told 11 4000 x := fun x mx => by
  obtain ⟨m, mm, rfl⟩ := List.mem_map.mp mx
  exact told_dn (by have := (mv m mm).1; omega) (mv m mm).2
theorem told_lws {N : Nat} (n5 : N ≤ 5) (mv : ∀ m ∈ ms, m.1 < N ∧ okV m) : ∀ x ∈ ms.map lwOf, Told 11 4000 x := fun x mx => by
  obtain ⟨m, mm, rfl⟩ := List.mem_map.mp mx
  exact told_lw (by have := (mv m mm).1; omega) (mv m mm).2
theorem dq1_in {m : D} {fs fs2 : List (Nat × D)} {k : Int} (h1 : s[o]? = some (.ins 0 ((0, .int k) :: fs))) (h2 : s[o2]? = some (.ins 0 ((0, .int k) :: fs2))) : dq1 [some (.loc o), some (.loc o2)] s = .nx [some (.loc o), some (.loc o2)] s := by
  simp [h1, h2]
theorem dq1_no {kvs : List (Key × D)} (h2 : s[o2]? = some (.dic kvs)) : dq1 [some (.loc o), some (.loc o2)] s = .rt (.bl false) s := by
  simp [h2]
theorem dq2_ok {z1 z2 : Str} {fs fs2 : List (Nat × D)} {x0 x1 x2 x3 x4 y0 y1 y2 y3 y4 : D} (h1 : s[o]? = some (.ins 0 [(0, x0), (1, x1), (2, x2), (3, x3), (4, x4), (5, .loc d)])) (h2 : s[o2]? = some (.ins 0 [(0, y0), (1, y1), (2, y2), (3, y3), (4, y4), (5, .loc d2)]))
    (e1 : reprF [.loc d] s = .ok (.str z1) s) (e2 : reprF [.loc d2] s = .ok (.str z2) s) : dq2 [some (.loc o), some (.loc o2)] s = .rt (.bl (decide (z1 = z2))) s := by
  simp [h1, h2, e1, e2, -ev_repr]
theorem eq_doors (A : DoorAt s o c v h s' d ds dn) (B : DoorAt s o2 c2 v2 h2 t2 d2 ds2 dn2) (hn : ds.length = ds2.length) (t1 : ∀ x ∈ dn, Told 11 4000 x) (t3 : ∀ x ∈ dn2, Told 11 4000 x) (l1 : dn.length ≤ 1000) (l2 : dn2.length ≤ 1000) :
    eqOF 0 sub0 f_Door_eq (.loc o) (.loc o2) s = .ok (.bl (decide (txtD dn = txtD dn2))) s := by
  have e1 := repr_dn A.hd t1 l1 (by decide)
  have e2 := repr_dn B.hd t3 l2 (by decide)
  have hA := A.h0
  have hB := B.h0
  rw [← hn] at hB
  have q : f_Door_eq [.loc o, .loc o2] s = .ok (.bl (decide (txtD dn = txtD dn2))) s := by
    have e0 : f_Door_eq [.loc o, .loc o2] s = outS (b_Door_eq [some (.loc o), some (.loc o2)] s) := rfl
    rw [e0, dq_chain, then_nx (dq1_in (m := .non) hA hB) (dq2_ok (fs := []) (fs2 := []) hA hB e1 e2)]
    rfl
  generalize f_Door_eq = F at q ⊢
  simp [hA, hB, q]
theorem eq_dict {kvs : List (Key × D)} (A : DoorAt s o c v h s' d ds dn) (hw : s[w]? = some (.dic kvs)) : eqOF 0 sub0 f_Door_eq (.loc o) (.loc w) s = .ok (.bl false) s := by
  have q : f_Door_eq [.loc o, .loc w] s = .ok (.bl false) s := by
    have e0 : f_Door_eq [.loc o, .loc w] s = outS (b_Door_eq [some (.loc o), some (.loc w)] s) := rfl
    rw [e0, dq_chain, then_rt (dq1_no hw)]
    rfl
  have hA := A.h0
  generalize f_Door_eq = F at q ⊢
  simp [hA, hw, q]
/-! a deed -/
abbrev de1 (c__law_drawn_deed : SemF) : Sf := (sAsg (eCall c__law_drawn_deed (aCons (eVar 0) (aCons (eVar 2) aNil))) (gT 2 (gsCons (gN 4) (gsCons (gN 5) gsNil))))
abbrev de2  : Sf := (sExpr (eBM appF (eVar 3) (aCons (eTup (aCons (eVar 4) (aCons (eVar 5) aNil))) aNil)))
abbrev de3 (c__law_door_come : SemF) (c_Door_come : SemF) : Sf := (sIf (tfB (eNotN (eVar 5))) (sSeq (sExpr (eCall c__law_door_come (aCons (eVar 2) (aCons (eVar 4) (aCons (eBin ixF (eVar 5) (eC (.int 0))) aNil))))) (sRet (eIsN (eMeth 0 c_Door_come (eVar 1) (aCons (eVar 4) (aCons (eBin ixF (eVar 5) (eC (.int 0))) aNil)))))) sNil)
abbrev de4 (c_Door_step : SemF) (c__law_door_step : SemF) : Sf := (sRet (eBin (eqF false) (eCall reprF (aCons (eMeth 0 c_Door_step (eVar 1) (aCons (eVar 4) aNil)) aNil)) (eCall reprF (aCons (eCall c__law_door_step (aCons (eVar 2) (aCons (eVar 4) aNil))) aNil))))
theorem de_chain {c__law_drawn_deed : SemF} {c__law_door_come : SemF} {c_Door_come : SemF} {c_Door_step : SemF} {c__law_door_step : SemF} : b__law_deed c__law_drawn_deed c__law_door_come c_Door_come c_Door_step c__law_door_step = (sSeq (de1 c__law_drawn_deed) (sSeq de2 (sSeq (de3 c__law_door_come c_Door_come) (de4 c_Door_step c__law_door_step)))) := rfl
abbrev deE (o w dl : Nat) (y4 y5 : Option D) : EEnv := [some (.loc 0), some (.loc o), some (.loc w), some (.loc dl), y4, y5]
theorem de1_ok (e0 : DD [.loc 0, .loc w] s = .ok (.tup [j, x]) s1) : de1 DD (deE o w dl y4 y5) s = .nx (deE o w dl (some j) (some x)) s1 := by
  simp [e0]
theorem de2_ok {xs : List D} (hd : s[dl]? = some (.lst xs)) (hl : xs.length < 1000000) : de2 (deE o w dl (some j) (some x)) s = .nx (deE o w dl (some j) (some x)) (s.set dl (.lst (xs ++ [.tup [j, x]]))) := by
  have z : xs.length < 16777216 := by omega
  simp [hd, szL, z]
theorem de3_come (e1 : OC [.loc w, j, x] s = .ok .non s1) (h0 : s1[o]? = some (.ins 0 fs)) (e2 : CM [.loc o, j, x] s1 = .ok .non s2) : de3 OC CM (deE o w dl (some j) (some (.tup [x]))) s = .rt (.bl true) s2 := by
  simp [e1, h0, e2, ixN]
theorem de3_no : de3 OC CM (deE o w dl (some j) (some .non)) s = .nx (deE o w dl (some j) (some .non)) s := by
  simp
theorem de4_ok {cc : Nat} (h0 : s[o]? = some (.ins 0 fs)) (e1 : ST [.loc o, j] s = .ok t s1) (e2 : OS [.loc w, j] s1 = .ok t s2) (ht : Told 12 cc t) (hc : cc ≤ 16777216) : de4 ST OS (deE o w dl (some j) y5) s = .rt (.bl true) s2 := by
  have r := rep_eq (neg := false) (env := deE o w dl (some j) y5) (fx := eMeth 0 ST (eVar 1) (aCons (eVar 4) aNil)) (fy := eCall OS (aCons (eVar 2) (aCons (eVar 4) aNil))) (s := s) (s1 := s1) (s2 := s2) (x := t) (by simp [h0, e1]) (by simp [e2]) ht hc
  show sRet (eBin (eqF false) (eCall reprF (aCons (eMeth 0 ST (eVar 1) (aCons (eVar 4) aNil)) aNil)) (eCall reprF (aCons (eCall OS (aCons (eVar 2) (aCons (eVar 4) aNil))) aNil))) _ s = _
  rw [ev_sRet, r]
  rfl
abbrev deedS : SemF := f__law_drawn_deed take (drawn 3)
theorem drawn_gen {aa q : Int} (hl : st[0]? = some (.lst [.int aa, .int b, .int q])) (ok : PotOk aa b q k) (O : OwnAt st w a l g n e ds k') (n1 : 1 ≤ ds.length) (hn : 0 ∉ [w, a, l, g, n, e]) (hk : k + 40 < 100000) : ∃ i p a' m', i < ds.length ∧ ds[i]? = some p ∧ PotOk a' b m' (k + 30) ∧
    ((p.came = none ∧ ∃ x, Val 2 x ∧ deedS [.loc 0, .loc w] st = .ok (.tup [.int (i : Int), .tup [x]]) (st.set 0 (.lst [.int a', .int b, .int m']))) ∨
     (∃ x, p.came = some x) ∧ deedS [.loc 0, .loc w] st = .ok (.tup [.int (i : Int), .non]) (st.set 0 (.lst [.int a', .int b, .int m']))) := by
  have n5 := O.n5
  obtain ⟨d, a1, q1, d0, d1, ok1, e1⟩ := take_ok st 0 aa b q k (ds.length : Int) hl ok (by omega) (by omega) (by omega)
  obtain ⟨i, hi⟩ : ∃ i : Nat, (i : Int) = d := ⟨d.toNat, by omega⟩
  subst hi
  have iN : i < ds.length := by omega
  obtain ⟨p, hp⟩ : ∃ p, ds[i]? = some p := ⟨_, List.getElem?_eq_getElem iN⟩
  have U1 : Upd [0] st (st.set 0 (.lst [.int a1, .int b, .int q1])) := Upd.set (by simp)
  have O1 := O.upd U1 (fun j m => by rw [List.mem_singleton] at m; exact m ▸ hn)
  have c1 := at_map (f := Pl.c) hp
  have l0 := lt_of_get hl
  have hl1 : (st.set 0 (.lst [.int a1, .int b, .int q1]))[0]? = some (.lst [.int a1, .int b, .int q1]) := List.getElem?_set_self l0
  have e1' : take [.loc 0, .int (ds.length : Int)] st = .ok (.int (i : Int)) (st.set 0 (.lst [.int a1, .int b, .int q1])) := e1
  generalize hs1 : st.set 0 (.lst [.int a1, .int b, .int q1]) = s1 at O1 hl1 e1'
  cases hc : p.came with
  | none =>
    rw [show p.c = .non by simp [Pl.c, hc]] at c1
    obtain ⟨x, a2, q2, vx, ok2, e2⟩ := drawn_ok 2 s1 0 a1 b q1 (k + 1) hl1 ok1 (by simp [dcost]; omega)
    have e2' : drawn 3 [.loc 0, .int 2] s1 = .ok x (s1.set 0 (.lst [.int a2, .int b, .int q2])) := e2
    refine ⟨i, p, a2, q2, iN, hp, ok2.up (by simp [dcost]; omega), .inl ⟨hc, x, vx, ?_⟩⟩
    have e3 : s1.set 0 (.lst [.int a2, .int b, .int q2]) = st.set 0 (.lst [.int a2, .int b, .int q2]) := by rw [← hs1, List.set_set]
    rw [e3] at e2'
    simp [b__law_drawn_deed, O.hw, O.ha, O1.hw, O1.ha, e1', c1, -ev_atI, e2', szL]
  | some x =>
    rw [show p.c = .tup [x] by simp [Pl.c, hc]] at c1
    refine ⟨i, p, a1, q1, iN, hp, ok1.up (by omega), .inr ⟨⟨x, hc⟩, ?_⟩⟩
    rw [hs1]
    simp [b__law_drawn_deed, O.hw, O.ha, O1.hw, O1.ha, e1', c1, -ev_atI, szL]
abbrev dS : SemF := f__law_deed deedS f__law_door_come comeS doorStep f__law_door_step
theorem stepsN_snoc (ms : List Deed) (m : Deed) : stepsN (ms ++ [m]) = stepsN ms + (if m.2.isNone = true then 1 else 0) := by
  unfold stepsN
  rw [List.countP_append, List.countP_singleton]
theorem deed2 (T : Two N o c v h s' d w a l g n e st ms ds) {aa q : Int} (hl : st[0]? = some (.lst [.int aa, .int b, .int q])) (ok : PotOk aa b q k) (hd : st[dl]? = some (.lst (ms.map lwOf))) (z1 : 0 ∉ [o, c, v, h, s', d]) (z2 : 0 ∉ [w, a, l, g, n, e]) (z3 : dl ∉ [o, c, v, h, s', d]) (z4 : dl ∉ [w, a, l, g, n, e]) (z5 : dl ≠ 0)
    (hN : 1 ≤ N) (hk : k + 40 < 100000) (hml : ms.length < 900) :
    ∃ m ds' a' q' st', dS [.loc 0, .loc o, .loc w, .loc dl] st = .ok (.bl true) st' ∧ Two N o c v h s' d w a l g n e st' (ms ++ [m]) ds' ∧ st'[0]? = some (.lst [.int a', .int b, .int q']) ∧ PotOk a' b q' (k + 30) ∧ st'[dl]? = some (.lst ((ms ++ [m]).map lwOf)) ∧
      Upd [0, dl, c, v, h, s', d, w, a, l, g, n, e] st st' := by
  have n5 := T.A.n5
  obtain ⟨i, p, a', q', il, hp, ok', hh⟩ := drawn_gen hl ok T.O (by rw [T.len]; exact hN) z2 hk
  have mp := List.mem_of_getElem? hp
  have l0 := lt_of_get hl
  have U1 : Upd [0] st (st.set 0 (.lst [.int a', .int b, .int q'])) := Upd.set (by simp)
  have T1 := T.upd U1 (fun j m => by rw [List.mem_singleton] at m; exact m ▸ z1) (fun j m => by rw [List.mem_singleton] at m; exact m ▸ z2)
  have h1 : (st.set 0 (.lst [.int a', .int b, .int q']))[0]? = some (.lst [.int a', .int b, .int q']) := List.getElem?_set_self l0
  have hd1 := U1.get hd (by simpa using z5)
  -- behind the row's longer
  have two : ∀ m : Deed, ∃ s2, s2 = (st.set 0 (.lst [.int a', .int b, .int q'])).set dl (.lst (ms.map lwOf ++ [lwOf m])) ∧ Upd [0, dl] st s2 ∧ Two N o c v h s' d w a l g n e s2 ms ds ∧ s2[0]? = some (.lst [.int a', .int b, .int q']) ∧ s2[dl]? = some (.lst ((ms ++ [m]).map lwOf)) := fun m => by
    have U2 : Upd [dl] (st.set 0 (.lst [.int a', .int b, .int q'])) ((st.set 0 (.lst [.int a', .int b, .int q'])).set dl (.lst (ms.map lwOf ++ [lwOf m]))) := Upd.set (by simp)
    refine ⟨_, rfl, (U1.trans U2).sub (by simp), T1.upd U2 (fun j m => by rw [List.mem_singleton] at m; exact m ▸ z3) (fun j m => by rw [List.mem_singleton] at m; exact m ▸ z4), U2.get h1 (by simpa using fun e => z5 e.symm), ?_⟩
    rw [List.getElem?_set_self (lt_of_get hd1), List.map_append]
    rfl
  have lm : (ms.map lwOf).length < 1000000 := by rw [List.length_map]; omega
  have lm2 : (ms.map dnOf).length < 100000 := by rw [List.length_map]; omega
  have fin : ∀ {m : Deed} {ds' : List Pl} {s2 s4 : Store}, Upd [0, dl] st s2 → s2[0]? = some (.lst [.int a', .int b, .int q']) → s2[dl]? = some (.lst ((ms ++ [m]).map lwOf)) → Upd [c, v, h, s', d, w, a, l, g, n, e] s2 s4 → DoorAt s4 o c v h s' d ds' (ms.map dnOf ++ [dnOf m]) → OwnAt s4 w a l g n e ds' (stepsN (ms ++ [m]) : Nat) → ds'.length = N → Go1 ds m ds' → m.1 = i → okV m →
      (∀ p ∈ ds', ∀ x, p.came = some x → Val 2 x) → (∀ p ∈ ds', p.heard = .non ∨ ∃ y, p.heard = .tup [y] ∧ Val 2 y) → dS [.loc 0, .loc o, .loc w, .loc dl] st = .ok (.bl true) s4 →
      ∃ m ds' a' q' st', dS [.loc 0, .loc o, .loc w, .loc dl] st = .ok (.bl true) st' ∧ Two N o c v h s' d w a l g n e st' (ms ++ [m]) ds' ∧ st'[0]? = some (.lst [.int a', .int b, .int q']) ∧ PotOk a' b q' (k + 30) ∧ st'[dl]? = some (.lst ((ms ++ [m]).map lwOf)) ∧
      Upd [0, dl, c, v, h, s', d, w, a, l, g, n, e] st st' := fun {m ds' s2 s4} U2 g0 g1 U4 A4 O4 hlen go hm hv vs hs he => by
    refine ⟨m, ds', a', q', s4, he, ⟨by rw [List.map_append]; exact A4, O4, hlen, T.run.snoc go, vs, hs, by simp; omega, fun r mr => ?_, T.sep⟩, U4.get g0 ?_, ok', U4.get g1 ?_, (U2.trans U4).sub (by simp)⟩
    · rcases List.mem_append.mp mr with mr | mr
      · exact T.mv r mr
      · rw [List.mem_singleton] at mr
        subst mr
        exact ⟨by rw [hm, ← T.len]; exact il, hv⟩
    · simp only [List.mem_cons, List.not_mem_nil, or_false, not_or] at z1 z2 ⊢
      exact ⟨z1.2.1, z1.2.2.1, z1.2.2.2.1, z1.2.2.2.2.1, z1.2.2.2.2.2, z2⟩
    · simp only [List.mem_cons, List.not_mem_nil, or_false, not_or] at z3 z4 ⊢
      exact ⟨z3.2.1, z3.2.2.1, z3.2.2.2.1, z3.2.2.2.2.1, z3.2.2.2.2.2, z4⟩
  have sepA : ∀ j ∈ [a], j ∉ [o, c, v, h, s', d] := fun j m hj => by
    rw [List.mem_singleton] at m
    subst m
    exact T.sep _ hj (by simp)
  have whole : ∀ {s4 : Store} {r}, b__law_deed deedS f__law_door_come comeS doorStep f__law_door_step (deE o w dl none none) st = r → r = .rt (.bl true) s4 → dS [.loc 0, .loc o, .loc w, .loc dl] st = .ok (.bl true) s4 := fun {s4 r} h1 h2 => by
    have e0 : dS [.loc 0, .loc o, .loc w, .loc dl] st = outS (b__law_deed deedS f__law_door_come comeS doorStep f__law_door_step (deE o w dl none none) st) := rfl
    rw [e0, h1, h2]
    rfl
  rcases hh with ⟨hc, x, vx, e1⟩ | ⟨⟨x, hc⟩, e1⟩
  · obtain ⟨s2, hs2, U2, T2, g0, g1⟩ := two (i, some x)
    obtain ⟨e3, O3⟩ := own_come T2.O hp (x := x)
    have U3 : Upd [a] s2 (s2.set a (.lst ((ds.map Pl.c).set i (.tup [x])))) := Upd.set (by simp)
    have A3 := T2.A.upd U3 sepA
    obtain ⟨s4, e4, U4, A4⟩ := come_ok (C := chk) (V := isv) (x := x) (fun st B => chk_ok B hp) (fun st => value_ok vx (by decide)) A3 lm2 hp hc
    have O4 := O3.upd U4 (fun j m hj => T.sep j (by
      simp only [List.mem_cons, List.not_mem_nil, or_false] at m ⊢
      rcases m with rfl | rfl <;> simp) hj)
    have c1 := de1_ok (o := o) (dl := dl) (y4 := none) (y5 := none) e1
    have c2 := de2_ok (o := o) (w := w) (j := .int (i : Int)) (x := .tup [x]) hd1 lm
    have c3 := de3_come (dl := dl) e3 A3.h0 e4
    have hs2' : (st.set 0 (.lst [.int a', .int b, .int q'])).set dl (.lst (ms.map lwOf ++ [.tup [.int (i : Int), .tup [x]]])) = s2 := hs2.symm
    rw [hs2'] at c2
    refine fin (m := (i, some x)) U2 g0 g1 ((U3.trans U4).sub (by simp)) A4 (by rw [stepsN_snoc]; exact O4) (by rw [List.length_set]; exact T.len) (.come hp hc) rfl (fun y e => by cases e; exact vx) (fun r mr y ey => ?_) (fun r mr => ?_) (whole rfl (by
      rw [de_chain]
      exact then_nx c1 (then_nx c2 (then_rt c3))))
    · rcases mem_set mr with rfl | mr
      · cases ey
        exact vx
      · exact T.vs r mr y ey
    · rcases mem_set mr with rfl | mr
      · exact T.hs p mp
      · exact T.hs r mr
  · obtain ⟨s2, hs2, U2, T2, g0, g1⟩ := two (i, none)
    obtain ⟨t, q0, R⟩ := T.G.step mp
    obtain ⟨s3, e3, U3, A3⟩ := doorStep_ok T2.A lm2 hp hc R
    have O3 := T2.O.upd U3 (fun j m hj => T.sep j (by
      simp only [List.mem_cons, List.not_mem_nil, or_false] at m ⊢
      rcases m with rfl | rfl | rfl | rfl <;> simp) hj)
    obtain ⟨s4, e4, U4, O4⟩ := own_step O3 hp R
    have A4 := A3.upd U4 (fun j m hj => T.sep j hj (by
      simp only [List.mem_cons, List.not_mem_nil, or_false] at m ⊢
      rcases m with rfl | rfl | rfl | rfl | rfl <;> simp))
    have c1 := de1_ok (o := o) (dl := dl) (y4 := none) (y5 := none) e1
    have c2 := de2_ok (o := o) (w := w) (j := .int (i : Int)) (x := .non) hd1 lm
    have hs2' : (st.set 0 (.lst [.int a', .int b, .int q'])).set dl (.lst (ms.map lwOf ++ [.tup [.int (i : Int), .non]])) = s2 := hs2.symm
    rw [hs2'] at c2
    have c3 := de3_no (o := o) (w := w) (dl := dl) (j := .int (i : Int)) (s := s2) (OC := f__law_door_come) (CM := comeS)
    have ht : Tells t := StepR.tells R n5 T.vs
    have c4 := de4_ok (dl := dl) (y5 := some .non) T2.A.h0 e3 e4 (cc := 1000) ht (by decide)
    have cq : q0.came = p.came := by cases R <;> rfl
    refine fin (m := (i, none)) U2 g0 g1 ((U3.trans U4).sub (by simp)) A4 (by
      have : ((stepsN (ms ++ [(i, none)]) : Nat) : Int) = (stepsN ms : Nat) + 1 := by rw [stepsN_snoc]; simp
      rw [this]
      exact O4) (by rw [List.length_set]; exact T.len) (.step hp hc R) rfl (fun y e => by cases e) (fun r mr y ey => ?_) (fun r mr => ?_) (whole rfl (by
      rw [de_chain]
      exact then_nx c1 (then_nx c2 (then_nx c3 c4))))
    · rcases mem_set mr with rfl | mr
      · rw [cq] at ey
        exact T.vs p mp y ey
      · exact T.vs r mr y ey
    · rcases mem_set mr with rfl | mr
      · cases R with
        | word j' w' y z z1 z2 z3 z4 => exact .inr ⟨y, rfl, T.vs w' (List.mem_of_getElem? z3) y z4⟩
        | one z => exact T.hs p mp
        | look z => exact T.hs p mp
        | two z => exact T.hs p mp
        | wait z z1 => exact T.hs _ mp
      · exact T.hs r mr
end
end K35

namespace K35
open PySem L2 Ev
open PyProof.Rows hiding St
section
variable {st s : Store} {w a l g n e : Nat} {ds : List Pl} {k : Int} {i : Nat} {p q : Pl} {x t : D}
/-! the own door, copied -/
abbrev cpO (ds : List Pl) (m : Nat) (k : Int) : List O := [.lst (ds.map Pl.c), .lst (ds.map Pl.lev), .lst (ds.map stg), .lst (ds.map wn), .lst (ds.map Pl.heard), .dic (ownKs m (m + 1) (m + 2) (m + 3) (m + 4) k)]
theorem copyD_own (O : OwnAt st w a l g n e ds k) (m : Nat) : copyD "steps" st (ownKs a l g n e k) m = some ([.lst (ds.map Pl.c), .lst (ds.map Pl.lev), .lst (ds.map stg), .lst (ds.map wn), .lst (ds.map Pl.heard)], ownKs m (m + 1) (m + 2) (m + 3) (m + 4) k) := by
  simp [copyD, O.ha, O.hl, O.hg, O.hn, O.he]
theorem copy_ok (O : OwnAt st w a l g n e ds k) : f__law_door_copy [.loc w] st = .ok (.loc (st.length + 5)) (st ++ cpO ds st.length k) ∧ OwnAt (st ++ cpO ds st.length k) (st.length + 5) st.length (st.length + 1) (st.length + 2) (st.length + 3) (st.length + 4) ds k := by
  refine ⟨?_, ⟨by simp, by simp, by simp, by simp, by simp, by simp, by simp, O.n5⟩⟩
  have c := copyD_own O st.length
  have e : eDCopy 1 "steps" (eVar 0) [some (.loc w), none] st = .ok (.loc (st.length + 5)) (st ++ cpO ds st.length k) := by
    unfold eDCopy
    rw [if_pos (by simp)]
    simp only [ev_eVar, List.getElem?_cons_zero, ev_okV, R.bind, O.hw, c]
    rw [if_pos ⟨by simp, by simp⟩]
    simp [putD_cons]
  simp [b__law_door_copy, e]
end
end K35

namespace K35
open PySem L2 Ev
open PyProof.Rows hiding St
abbrev rt1 (c__law_take : SemF) : Sf := (sSet 1 (eM (mBin addM (eC (.int 1)) (eCall c__law_take (aCons (eVar 0) (aCons (eC (.int 5)) aNil))))))
abbrev rt2 (c__law_door : SemF) (c_Door_init : SemF) : Sf := (sPar [2, 3, 4] (aCons (eCall (mkF 0 c_Door_init) (aCons (eVar 1) aNil)) (aCons (eCall c__law_door (aCons (eVar 1) aNil)) (aCons (eNew (nLst aNil)) aNil))))
abbrev rt3 (c_Door_many : SemF) (c__law_is_door : SemF) : Sf := (sIf (tfOr (tfB (eBin (eqF true) (eProp 0 c_Door_many (eVar 2)) (eVar 1))) (tfNot (tfB (eCall c__law_is_door (aCons (eVar 2) (aCons (eVar 3) aNil)))))) (sRet (eC (.bl false))) sNil)
abbrev lp1 (c__law_is_door : SemF) (c__law_deed : SemF) : Sf := (sIf (tfOr (tfNot (tfB (eCall c__law_deed (aCons (eVar 0) (aCons (eVar 2) (aCons (eVar 3) (aCons (eVar 4) aNil))))))) (tfNot (tfB (eCall c__law_is_door (aCons (eVar 2) (aCons (eVar 3) aNil)))))) (sRet (eC (.bl false))) sNil)
abbrev b1 (c__law_door_copy : SemF) (c_Door_copy : SemF) : Sf := (sPar [6, 7] (aCons (eMeth 0 c_Door_copy (eVar 2) aNil) (aCons (eCall c__law_door_copy (aCons (eVar 3) aNil)) aNil)))
abbrev b2 (c__law_is_door : SemF) (c__law_deed : SemF) (c_Door_eq : SemF) : Sf := (sIf (tfOr (tfB (eBin (isBF true) (eBin (eqOF 0 (fun c => decide (c = 0)) c_Door_eq) (eVar 6) (eVar 2)) (eC (.bl true)))) (tfOr (tfNot (tfB (eCall c__law_deed (aCons (eVar 0) (aCons (eVar 6) (aCons (eVar 7) (aCons (eNew (qOf (eVar 4))) aNil))))))) (tfNot (tfB (eCall c__law_is_door (aCons (eVar 2) (aCons (eVar 3) aNil))))))) (sRet (eC (.bl false))) sNil)
abbrev b3 (c__law_is_door : SemF) (c_Door_eq : SemF) : Sf := (sIf (tfOr (tfNot (tfB (eCall c__law_is_door (aCons (eVar 6) (aCons (eVar 7) aNil))))) (tfB (eBin (isBF true) (eBin (eqOF 0 (fun c => decide (c = 0)) c_Door_eq) (eVar 6) (eVar 2)) (eC (.bl false))))) (sRet (eC (.bl false))) sNil)
abbrev lp2 (c__law_take : SemF) (c__law_is_door : SemF) (c__law_deed : SemF) (c__law_door_copy : SemF) (c_Door_copy : SemF) (c_Door_eq : SemF) : Sf := (sIf (tfB (eBin (eqF false) (eCall c__law_take (aCons (eVar 0) (aCons (eC (.int 6)) aNil))) (eC (.int 0)))) (sSeq (b1 c__law_door_copy c_Door_copy) (sSeq (b2 c__law_is_door c__law_deed c_Door_eq) (b3 c__law_is_door c_Door_eq))) sNil)
abbrev rt4 (c__law_take : SemF) (c__law_is_door : SemF) (c__law_deed : SemF) (c__law_door_copy : SemF) (c_Door_copy : SemF) (c_Door_eq : SemF) : Sf := (sFor (iRange1 (eM (mBin addM (eC (.int 3)) (eCall c__law_take (aCons (eVar 0) (aCons (eC (.int 24)) aNil)))))) (gN 5) (sSeq (lp1 c__law_is_door c__law_deed) (lp2 c__law_take c__law_is_door c__law_deed c__law_door_copy c_Door_copy c_Door_eq)))
abbrev rt5  : Sf := (sSet 8 (eM (mBin addM (eM (mSl (eVar 4) oNo (oSo (eNeg (eC (.int 2)))))) (eM (mSl3 (eVar 4) oNo (oSo (eNeg (eC (.int 3)))) (oSo (eNeg (eC (.int 1)))))))))
abbrev rt6  : Sf := (sSet 9 (eOr (eBin ltF (eCall lenF (aCons (eVar 4) aNil)) (eC (.int 2))) (eBin (eqF true) (eBin ixF (eBin ixF (eVar 4) (eNeg (eC (.int 1)))) (eC (.int 0))) (eBin ixF (eBin ixF (eVar 4) (eNeg (eC (.int 2)))) (eC (.int 0))))))
abbrev rt7 (c_Door_eq : SemF) (c__law_done_again : SemF) : Sf := (sIf (tfOr (tfB (eBin (isBF true) (eBin (eqOF 0 (fun c => decide (c = 0)) c_Door_eq) (eCall c__law_done_again (aCons (eVar 1) (aCons (eVar 4) aNil))) (eVar 2)) (eC (.bl true)))) (tfB (eBin (isBF true) (eBin (eqOF 0 (fun c => decide (c = 0)) c_Door_eq) (eVar 2) (eVar 3)) (eC (.bl false))))) (sRet (eC (.bl false))) sNil)
abbrev rt8 (c_Door_eq : SemF) (c__law_done_again : SemF) : Sf := (sRet (eOr (eNot (eVar 9)) (eBin (eqF false) (eBin (eqOF 0 (fun c => decide (c = 0)) c_Door_eq) (eCall c__law_done_again (aCons (eVar 1) (aCons (eVar 8) aNil))) (eVar 2)) (eBin (eqF false) (eCall reprF (aCons (eVar 8) aNil)) (eCall reprF (aCons (eVar 4) aNil))))))
theorem rt_chain {c__law_take : SemF} {c__law_door : SemF} {c_Door_init : SemF} {c_Door_many : SemF} {c__law_is_door : SemF} {c__law_deed : SemF} {c__law_door_copy : SemF} {c_Door_copy : SemF} {c_Door_eq : SemF} {c__law_done_again : SemF} : b__law_right c__law_take c__law_door c_Door_init c_Door_many c__law_is_door c__law_deed c__law_door_copy c_Door_copy c_Door_eq c__law_done_again = (sSeq (rt1 c__law_take) (sSeq (rt2 c__law_door c_Door_init) (sSeq (rt3 c_Door_many c__law_is_door) (sSeq (rt4 c__law_take c__law_is_door c__law_deed c__law_door_copy c_Door_copy c_Door_eq) (sSeq rt5 (sSeq rt6 (sSeq (rt7 c_Door_eq c__law_done_again) (rt8 c_Door_eq c__law_done_again)))))))) := rfl
abbrev rE (N : D) (y5 y6 y7 y8 y9 : Option D) : EEnv := [some (.loc 0), some N, some (.loc 1), some (.loc 21), some (.loc 22), y5, y6, y7, y8, y9]
section
variable {s s1 s2 : Store} {N : D} {y5 y6 y7 y8 y9 : Option D} {DE IS TK CP LC EQ MN AG IN OD : SemF} {fs : List (Nat × D)} {L W x8 : Nat} {d : Int} {xs : List D} {z1 z2 : Str} {kvs : List (Key × D)}
theorem lp1_ok (e1 : DE [.loc 0, .loc 1, .loc 21, .loc 22] s = .ok (.bl true) s1) (e2 : IS [.loc 1, .loc 21] s1 = .ok (.bl true) s2) : lp1 IS DE (rE N y5 y6 y7 y8 y9) s = .nx (rE N y5 y6 y7 y8 y9) s2 := by
  simp [e1, e2]
theorem lp2_no (e : TK [.loc 0, .int 6] s = .ok (.int d) s1) (hd : d ≠ 0) : lp2 TK IS DE LC CP EQ (rE N y5 y6 y7 y8 y9) s = .nx (rE N y5 y6 y7 y8 y9) s1 := by
  have hb : (d == 0) = false := by simpa using hd
  simp [e, hb]
theorem lp2_yes {r : RS} (e : TK [.loc 0, .int 6] s = .ok (.int 0) s1) (h : sSeq (b1 LC CP) (sSeq (b2 IS DE EQ) (b3 IS EQ)) (rE N y5 y6 y7 y8 y9) s1 = r) : lp2 TK IS DE LC CP EQ (rE N y5 y6 y7 y8 y9) s = r := by
  have q : tfB (eBin (eqF false) (eCall TK (aCons (eVar 0) (aCons (eC (.int 6)) aNil))) (eC (.int 0))) (rE N y5 y6 y7 y8 y9) s = .ok true s1 := by
    simp [e]
  show sIf (tfB (eBin (eqF false) (eCall TK (aCons (eVar 0) (aCons (eC (.int 6)) aNil))) (eC (.int 0)))) _ sNil _ s = r
  rw [ev_sIf, q]
  exact h
theorem b1_ok (h0 : s[1]? = some (.ins 0 fs)) (e1 : CP [.loc 1] s = .ok (.loc L) s1) (e2 : LC [.loc 21] s1 = .ok (.loc W) s2) : b1 LC CP (rE N y5 y6 y7 y8 y9) s = .nx (rE N y5 (some (.loc L)) (some (.loc W)) y8 y9) s2 := by
  simp [h0, e1, e2]
theorem b2_ok (q1 : eqOF 0 (fun c => decide (c = 0)) EQ (.loc L) (.loc 1) s = .ok (.bl true) s) (hd : s[22]? = some (.lst xs)) (e1 : DE [.loc 0, .loc L, .loc W, .loc s.length] (s ++ [.lst xs]) = .ok (.bl true) s1) (e2 : IS [.loc 1, .loc 21] s1 = .ok (.bl true) s2) :
    b2 IS DE EQ (rE N y5 (some (.loc L)) (some (.loc W)) y8 y9) s = .nx (rE N y5 (some (.loc L)) (some (.loc W)) y8 y9) s2 := by
  simp [q1, -ev_eqO, hd, e1, e2]
theorem b3_ok (e1 : IS [.loc L, .loc W] s = .ok (.bl true) s1) (q1 : eqOF 0 (fun c => decide (c = 0)) EQ (.loc L) (.loc 1) s1 = .ok (.bl false) s1) : b3 IS EQ (rE N y5 (some (.loc L)) (some (.loc W)) y8 y9) s = .nx (rE N y5 (some (.loc L)) (some (.loc W)) y8 y9) s1 := by
  simp [q1, -ev_eqO, e1]
theorem rt1_ok {N : Int} (t1 : TK [.loc 0, .int 5] s = .ok (.int d) s1) (hn : 1 + d = N) : rt1 TK [some (.loc 0), none, none, none, none, none, none, none, none, none] s = .nx [some (.loc 0), some (.int N), none, none, none, none, none, none, none, none] s1 := by
  simp [t1, hn]
theorem rt2_ok (l1 : s.length = 1) (i1 : IN [.loc 1, N] (s ++ [.ins 0 []]) = .ok .non s1) (od : OD [N] s1 = .ok (.loc 21) s2) (l2 : s2.length = 22) : rt2 OD IN [some (.loc 0), some N, none, none, none, none, none, none, none, none] s = .nx (rE N none none none none none) (s2 ++ [.lst []]) := by
  simp [l1, i1, od, l2, szL]
theorem rt3_ok {N : Int} (h0 : s[1]? = some (.ins 0 fs)) (e1 : MN [.loc 1] s = .ok (.int N) s) (e2 : IS [.loc 1, .loc 21] s = .ok (.bl true) s1) : rt3 MN IS (rE (.int N) y5 y6 y7 y8 y9) s = .nx (rE (.int N) y5 y6 y7 y8 y9) s1 := by
  simp [h0, e1, e2]
theorem rt7_ok (e1 : AG [N, .loc 22] s = .ok (.loc L) s1) (q1 : eqOF 0 (fun c => decide (c = 0)) EQ (.loc L) (.loc 1) s1 = .ok (.bl true) s1) (q2 : eqOF 0 (fun c => decide (c = 0)) EQ (.loc 1) (.loc 21) s1 = .ok (.bl false) s1) : rt7 EQ AG (rE N y5 y6 y7 y8 y9) s = .nx (rE N y5 y6 y7 y8 y9) s1 := by
  simp [q1, q2, -ev_eqO, e1]
theorem rt8_same : rt8 EQ AG (rE N y5 y6 y7 y8 (some (.bl false))) s = .rt (.bl true) s := by
  simp
theorem rt8_diff (e1 : AG [N, .loc x8] s = .ok (.loc L) s1) (q1 : eqOF 0 (fun c => decide (c = 0)) EQ (.loc L) (.loc 1) s1 = .ok (.bl false) s1) (r1 : reprF [.loc x8] s1 = .ok (.str z1) s1) (r2 : reprF [.loc 22] s1 = .ok (.str z2) s1) (hz : z1 ≠ z2) :
    rt8 EQ AG (rE N y5 y6 y7 (some (.loc x8)) (some (.bl true))) s = .rt (.bl true) s1 := by
  simp [q1, -ev_eqO, e1, r1, r2, -ev_repr, hz]
/-! the last two -/
theorem pick_last2 {A : Type} (xs : List A) (a b : A) : pickS (xs ++ [a, b]) none (some (-3)) (some (-1)) = [b, a] := by
  have hl : (xs ++ [a, b]).length = xs.length + 2 := by simp
  have e : pickIx (xs.length + 2) none (some (-3)) (some (-1)) = [xs.length + 1, xs.length] := by
    have eb : sliceBounds none (some (-3)) (some (-1)) (xs.length + 2) = ((xs.length : Int) + 1, (xs.length : Int) - 1, -1) := by
      simp only [sliceBounds, Option.getD_some, show ¬ ((-1 : Int) > 0) by decide, if_false, show ((-3 : Int) < 0) by decide, if_true]
      refine Prod.ext ?_ (Prod.ext ?_ rfl)
      · show ((xs.length + 2 : Nat) : Int) - 1 = _
        omega
      · simp only
        omega
    unfold pickIx
    rw [eb]
    unfold sliceRange
    have c : ((xs.length : Int) + 1 - ((xs.length : Int) - 1) - -1 - 1) / - -1 = 2 := by
      rw [show (- -1 : Int) = 1 by decide, Int.ediv_one]
      omega
    simp only [show ¬ ((-1 : Int) > 0) by decide, if_false, show ((xs.length : Int) + 1 > (xs.length : Int) - 1) by omega, if_true, c]
    show [((xs.length : Int) + 1 + -1 * ((0 : Nat) : Int)).toNat, ((xs.length : Int) + 1 + -1 * ((1 : Nat) : Int)).toNat] = _
    rw [show ((xs.length : Int) + 1 + -1 * ((0 : Nat) : Int)).toNat = xs.length + 1 by omega, show ((xs.length : Int) + 1 + -1 * ((1 : Nat) : Int)).toNat = xs.length by omega]
  unfold pickS
  rw [hl, e]
  unfold sel
  simp
theorem cut_last2 {A : Type} (xs : List A) (a b : A) : Ev.cutD (xs ++ [a, b]) none (some (-2)) = xs := by
  have hl : (xs ++ [a, b]).length = xs.length + 2 := by simp
  unfold Ev.cutD
  rw [hl]
  have e1 : HT.sIx (xs.length + 2) 0 none = 0 := by simp [HT.sIx]
  have e2 : HT.sIx (xs.length + 2) (xs.length + 2) (some (-2)) = xs.length := by
    simp only [HT.sIx]
    simp only [show ((-2 : Int) < 0) by decide, if_true]
    omega
  rw [e1, e2]
  simp
theorem at_last {xs : List D} {a b : D} : atI (xs ++ [a, b]) (-1) = some b ∧ atI (xs ++ [a, b]) (-2) = some a := by
  have hl : (xs ++ [a, b]).length = xs.length + 2 := by simp
  constructor
  · unfold atI ixN
    rw [hl]
    have h1 : ¬ (0 : Int) ≤ -1 := by decide
    rw [if_neg h1]
    have h2 : -((xs.length + 2 : Nat) : Int) ≤ -1 := by omega
    rw [if_pos h2]
    have h3 : (-1 + ((xs.length + 2 : Nat) : Int)).toNat = xs.length + 1 := by omega
    show (xs ++ [a, b])[(-1 + ((xs.length + 2 : Nat) : Int)).toNat]? = _
    rw [h3]
    simp
  · unfold atI ixN
    rw [hl]
    have h1 : ¬ (0 : Int) ≤ -2 := by decide
    rw [if_neg h1]
    have h2 : -((xs.length + 2 : Nat) : Int) ≤ -2 := by omega
    rw [if_pos h2]
    have h3 : (-2 + ((xs.length + 2 : Nat) : Int)).toNat = xs.length := by omega
    show (xs ++ [a, b])[(-2 + ((xs.length + 2 : Nat) : Int)).toNat]? = _
    rw [h3]
    simp
theorem rt5_ok {ys : List D} {a b : D} (h : s[22]? = some (.lst (ys ++ [a, b]))) (hl : ys.length < 1000000) : rt5 (rE N y5 y6 y7 y8 y9) s = .nx (rE N y5 y6 y7 (some (.loc (s.length + 2))) y9) (s ++ [.lst ys, .lst [b, a], .lst (ys ++ [b, a])]) := by
  have e1 := cut_last2 ys a b
  have e2 := pick_last2 ys a b
  have l22 := lt_of_get h
  have g1 : ∀ X : O, (s ++ [X])[22]? = some (.lst (ys ++ [a, b])) := fun X => by rw [List.getElem?_append_left l22]; exact h
  have z : ys.length + 2 ≤ 16777216 := by omega
  generalize ys ++ [a, b] = xs at h e1 e2 g1
  simp [h, e1, e2, g1, szL, z]
theorem rt6_ok {ys : List D} {ia ib : Nat} {za zb : D} (h : s[22]? = some (.lst (ys ++ [.tup [.int (ia : Int), za], .tup [.int (ib : Int), zb]]))) (hl : 1 ≤ ys.length) : rt6 (rE N y5 y6 y7 y8 y9) s = .nx (rE N y5 y6 y7 y8 (some (.bl (!(ia == ib))))) s := by
  obtain ⟨a1, a2⟩ := at_last (xs := ys) (a := .tup [.int (ia : Int), za]) (b := .tup [.int (ib : Int), zb])
  have lx : (ys ++ [D.tup [.int (ia : Int), za], .tup [.int (ib : Int), zb]]).length = ys.length + 2 := by simp
  have e0 : ∀ (k : Int) (z : D), atI [.int k, z] 0 = some (.int k) := fun _ _ => rfl
  have ne : ¬ ((ys.length : Int) + 2 < 2) := by omega
  have eq : ((ib : Int) == (ia : Int)) = (ia == ib) := by
    rw [Bool.eq_iff_iff, beq_iff_eq, beq_iff_eq]
    omega
  generalize ys ++ [D.tup [.int (ia : Int), za], .tup [.int (ib : Int), zb]] = xs at h a1 a2 lx
  simp [h, a1, a2, lx, e0, -ev_atI, ne, eq]
end
end K35

namespace K35
open PySem L2 Ev
open PyProof.Rows hiding St
abbrev isS : SemF := f__law_is_door f_Door_came f_Door_heard f_Door_levels f_Door_len (f_Door_next chk) f__law_door_next
abbrev cpS : SemF := f_Door_copy doorInit doorStep comeS
abbrev agS : SemF := f__law_done_again doorInit doorStep comeS
abbrev rightF : SemF := f__law_right take f__law_door doorInit f_Door_many isS dS f__law_door_copy cpS f_Door_eq agS
abbrev rightS : SemF := frame1 rightF
abbrev TwoM (N : Nat) (st : Store) (ms : List Deed) (ds : List Pl) : Prop := Two N 1 3 5 7 9 10 21 12 14 16 18 20 st ms ds
structure Jm (N : Nat) (b k : Int) (st : Store) (ms : List Deed) (ds : List Pl) : Prop where
  T : TwoM N st ms ds
  pot : ∃ a q, st[0]? = some (.lst [.int a, .int b, .int q]) ∧ PotOk a b q k
  dl : st[22]? = some (.lst (ms.map lwOf))
section
variable {N : Nat} {b k : Int} {st : Store} {ms : List Deed} {ds : List Pl} {y5 y6 y7 y8 y9 : Option D} {NN : D}
theorem Jm.keep {st' : Store} (J : Jm N b k st ms ds) (U : Upd [] st st') : Jm N b k st' ms ds := by
  obtain ⟨a, q, h1, h2⟩ := J.pot
  exact ⟨J.T.keep U, ⟨a, q, U.get h1 (fun m => nomatch m), h2⟩, U.get J.dl (fun m => nomatch m)⟩
theorem Jm.up (J : Jm N b k st ms ds) {k' : Int} (h : k ≤ k') : Jm N b k' st ms ds := by
  obtain ⟨a, q, h1, h2⟩ := J.pot
  exact ⟨J.T, ⟨a, q, h1, h2.up h⟩, J.dl⟩
theorem txt_longer {ms : List Deed} {m : Deed} (h : m.1 ≤ 9) : txtD ((ms ++ [m]).map dnOf) ≠ txtD (ms.map dnOf) := by
  obtain ⟨r, hr⟩ := dat_dn m
  show PyData.shown (.list (D.dats ((ms ++ [m]).map dnOf))) ≠ PyData.shown (.list (D.dats (ms.map dnOf)))
  rw [List.map_append, dats_app]
  show PyData.shown (.list (_ ++ [(dnOf m).dat])) ≠ _
  rw [hr]
  exact repr_longer h
theorem txt_swap {ms : List Deed} {m n : Deed} (h1 : m.1 ≤ 9) (h2 : n.1 ≤ 9) (ne : m.1 ≠ n.1) : txtD ((ms ++ [m, n]).map dnOf) ≠ txtD ((ms ++ [n, m]).map dnOf) := by
  obtain ⟨r, hr⟩ := dat_dn m
  obtain ⟨r2, hr2⟩ := dat_dn n
  show PyData.shown (.list (D.dats ((ms ++ [m, n]).map dnOf))) ≠ PyData.shown (.list (D.dats ((ms ++ [n, m]).map dnOf)))
  rw [List.map_append, List.map_append, dats_app, dats_app]
  show PyData.shown (.list (_ ++ [(dnOf m).dat, (dnOf n).dat])) ≠ PyData.shown (.list (_ ++ [(dnOf n).dat, (dnOf m).dat]))
  rw [hr, hr2]
  exact repr_swap h1 h2 ne
theorem txt_swapL {ms : List Deed} {m n : Deed} (h1 : m.1 ≤ 9) (h2 : n.1 ≤ 9) (ne : m.1 ≠ n.1) : txtD ((ms ++ [m, n]).map lwOf) ≠ txtD ((ms ++ [n, m]).map lwOf) := by
  obtain ⟨r, hr⟩ := dat_lw m
  obtain ⟨r2, hr2⟩ := dat_lw n
  show PyData.shown (.list (D.dats ((ms ++ [m, n]).map lwOf))) ≠ PyData.shown (.list (D.dats ((ms ++ [n, m]).map lwOf)))
  rw [List.map_append, List.map_append, dats_app, dats_app]
  show PyData.shown (.list (_ ++ [(lwOf m).dat, (lwOf n).dat])) ≠ PyData.shown (.list (_ ++ [(lwOf n).dat, (lwOf m).dat]))
  rw [hr, hr2]
  exact repr_swap h1 h2 ne
theorem lap (J : Jm N b k st ms ds) (h1 : 1 ≤ N) (h5 : N ≤ 5) (hk : k + 120 < 100000) (hm : ms.length < 800) :
    ∃ y6' y7' st' m ds', sSeq (lp1 isS dS) (lp2 take isS dS f__law_door_copy cpS f_Door_eq) (rE NN y5 y6 y7 y8 y9) st = .nx (rE NN y5 y6' y7' y8 y9) st' ∧ Jm N b (k + 70) st' (ms ++ [m]) ds' := by
  obtain ⟨aa, q, hp, ok⟩ := J.pot
  obtain ⟨m, ds', a', q', s1, e1, T1, hp1, ok1, hd1, U1⟩ := deed2 (dl := 22) J.T hp ok J.dl (by decide) (by decide) (by decide) (by decide) (by decide) h1 (by omega) (by omega)
  obtain ⟨s2, e2, U2⟩ := isdoor_ok T1
  have c1 := lp1_ok (N := NN) (y5 := y5) (y6 := y6) (y7 := y7) (y8 := y8) (y9 := y9) e1 e2
  have J2 : Jm N b (k + 30) s2 (ms ++ [m]) ds' := Jm.keep ⟨T1, ⟨a', q', hp1, ok1⟩, hd1⟩ U2
  obtain ⟨a2, q2, hp2, ok2⟩ := J2.pot
  obtain ⟨d, a3, q3, d0, d1, ok3, t3⟩ := take_ok s2 0 a2 b q2 (k + 30) 6 hp2 ok2 (by omega) (by decide) (by decide)
  have U3 : Upd [0] s2 (s2.set 0 (.lst [.int a3, .int b, .int q3])) := Upd.set (by simp)
  obtain ⟨s3, hs3⟩ : ∃ s3, s3 = s2.set 0 (.lst [.int a3, .int b, .int q3]) := ⟨_, rfl⟩
  rw [← hs3] at t3 U3
  have T3 : TwoM N s3 (ms ++ [m]) ds' := J2.T.upd U3 (by decide) (by decide)
  have hp3 : s3[0]? = some (.lst [.int a3, .int b, .int q3]) := by rw [hs3]; exact List.getElem?_set_self (lt_of_get hp2)
  have hd3 : s3[22]? = some (.lst ((ms ++ [m]).map lwOf)) := U3.get J2.dl (by decide)
  by_cases z : d = 0
  · subst z
    have lms : (ms ++ [m]).length < 802 := by simp; omega
    obtain ⟨s4, e4, U4, A4, l4⟩ := copyD_ok T3.A T3.len h1 h5 (by omega) T3.run (fun r mr => (T3.mv r mr).2)
    have T4 := T3.keep U4
    obtain ⟨e5, O5⟩ := copy_ok T4.O
    have U5 : Upd [] s4 (s4 ++ cpO ds' s4.length (stepsN (ms ++ [m]) : Nat)) := Upd.push _
    obtain ⟨s5, hs5⟩ : ∃ s5, s5 = s4 ++ cpO ds' s4.length (stepsN (ms ++ [m]) : Nat) := ⟨_, rfl⟩
    rw [← hs5] at e5 O5 U5
    have l5 : s5.length = s4.length + 6 := by rw [hs5]; simp
    have T5 := T4.keep U5
    have A5 := A4.upd U5 (fun _ m => nomatch m)
    have l3 : 23 ≤ s3.length := lt_of_get hd3
    have cB := b1_ok (N := NN) (y5 := y5) (y6 := y6) (y7 := y7) (y8 := y8) (y9 := y9) T3.A.h0 e4 e5
    have mv := T3.mv
    have tdn := told_dns h5 mv
    have lmd : ((ms ++ [m]).map dnOf).length ≤ 1000 := by rw [List.length_map]; omega
    have q1 := eq_doors A5 T5.A rfl tdn tdn lmd lmd
    rw [decide_eq_true rfl] at q1
    have hd5 := (U4.trans U5).get hd3 (by simp)
    have hp5 := (U4.trans U5).get hp3 (by simp)
    -- the twin's deed
    have U6 : Upd [] s5 (s5 ++ [Ev.O.lst ((ms ++ [m]).map lwOf)]) := Upd.push _
    have Tw : Two N s3.length (s3.length + 2) (s3.length + 4) (s3.length + 6) (s3.length + 8) (s3.length + 9) (s4.length + 5) s4.length (s4.length + 1) (s4.length + 2) (s4.length + 3) (s4.length + 4) (s5 ++ [.lst ((ms ++ [m]).map lwOf)]) (ms ++ [m]) ds' :=
      ⟨A5.upd U6 (fun _ m => nomatch m), O5.upd U6 (fun _ m => nomatch m), T3.len, T3.run, T3.vs, T3.hs, T3.ml, T3.mv, fun j mj => by
        simp only [List.mem_cons, List.not_mem_nil, or_false] at mj ⊢
        omega⟩
    have T6 := T5.keep U6
    obtain ⟨m2, ds2, a7, q7, s7, e7, T7, hp7, ok7, hd7, U7⟩ := deed2 (dl := s5.length) Tw (U6.get hp5 (by simp)) ok3 (by simp) (by simp; omega) (by simp; omega) (by simp; omega) (by simp; omega) (by omega) h1 (by omega) (by omega)
    have TM7 : TwoM N s7 (ms ++ [m]) ds' := T6.upd U7 (fun j mj => by
      simp only [List.mem_cons, List.not_mem_nil, or_false] at mj ⊢
      omega) (fun j mj => by
      simp only [List.mem_cons, List.not_mem_nil, or_false] at mj ⊢
      omega)
    obtain ⟨s8, e8, U8⟩ := isdoor_ok TM7
    have cC := b2_ok (N := NN) (y5 := y5) (y8 := y8) (y9 := y9) (L := s3.length) (W := s4.length + 5) q1 hd5 e7 e8
    obtain ⟨s9, e9, U9⟩ := isdoor_ok (T7.keep U8)
    have T9 := (T7.keep U8).keep U9
    have TM9 := (TM7.keep U8).keep U9
    have q2 := eq_doors T9.A TM9.A (by rw [T9.len, TM9.len]) (told_dns h5 T9.mv) tdn (by rw [List.length_map]; have := T9.ml; omega) lmd
    rw [decide_eq_false (txt_longer (by have := (T9.mv m2 (by simp)).1; omega))] at q2
    have cD := b3_ok (N := NN) (y5 := y5) (y8 := y8) (y9 := y9) (L := s3.length) (W := s4.length + 5) e9 q2
    refine ⟨some (.loc s3.length), some (.loc (s4.length + 5)), s9, m, ds', then_nx c1 (lp2_yes t3 (then_nx cB (then_nx cC cD))), ⟨TM9, ⟨a7, q7, U9.get (U8.get hp7 (by simp)) (by simp), ok7.up (by omega)⟩, U9.get (U8.get (U7.get (U6.get hd5 (by simp)) ?_) (by simp)) (by simp)⟩⟩
    simp only [List.mem_cons, List.not_mem_nil, or_false, not_or]
    omega
  · exact ⟨y6, y7, s3, m, ds', then_nx c1 (lp2_no t3 z), ⟨T3, ⟨a3, q3, hp3, ok3.up (by omega)⟩, hd3⟩⟩
theorem laps_ok {TK : SemF} {s s1 : Store} {d L : Int} (t : TK [.loc 0, .int 24] s = .ok (.int d) s1) (hL : 3 + d = L) : eM (mBin addM (eC (.int 3)) (eCall TK (aCons (eVar 0) (aCons (eC (.int 24)) aNil)))) (rE NN none none none none none) s = .ok (.int L) s1 := by
  simp [t, hL]
theorem many_ok {o c v h s' d : Nat} {dn : List D} (A : DoorAt st o c v h s' d ds dn) : f_Door_many [.loc o] st = .ok (.int (ds.length : Int)) st := by
  simp [b_Door_many, A.h0]
/-- behind the laps -/
theorem tail_ok (J : Jm N b k st ms ds) (h1 : 1 ≤ N) (h5 : N ≤ 5) (l3 : 3 ≤ ms.length) (l9 : ms.length ≤ 900) : ∃ st' a q, sSeq rt5 (sSeq rt6 (sSeq (rt7 f_Door_eq agS) (rt8 f_Door_eq agS))) (rE (.int (N : Int)) y5 y6 y7 y8 y9) st = .rt (.bl true) st' ∧ st'[0]? = some (.lst [.int a, .int b, .int q]) := by
  obtain ⟨a, q, hp, _⟩ := J.pot
  obtain ⟨ms0, m, n, rfl⟩ : ∃ ms0 m n, ms = ms0 ++ [m, n] := by
    rcases List.eq_nil_or_concat ms with rfl | ⟨L, n, rfl⟩
    · simp at l3
    · rcases List.eq_nil_or_concat L with rfl | ⟨L2, m, rfl⟩
      · simp at l3
      · exact ⟨L2, m, n, by simp⟩
  have l0 : 1 ≤ ms0.length := by simp at l3; omega
  have l0' : ms0.length ≤ 898 := by simp at l9; omega
  have hd := J.dl
  rw [List.map_append] at hd
  have hd' : st[22]? = some (.lst (ms0.map lwOf ++ [lwOf m, lwOf n])) := hd
  have c5 := rt5_ok (N := .int (N : Int)) (y5 := y5) (y6 := y6) (y7 := y7) (y8 := y8) (y9 := y9) hd' (by rw [List.length_map]; omega)
  have U5 : Upd [] st (st ++ [Ev.O.lst (ms0.map lwOf), .lst [lwOf n, lwOf m], .lst (ms0.map lwOf ++ [lwOf n, lwOf m])]) := Upd.push _
  obtain ⟨s5, hs5⟩ : ∃ s5, s5 = st ++ [Ev.O.lst (ms0.map lwOf), .lst [lwOf n, lwOf m], .lst (ms0.map lwOf ++ [lwOf n, lwOf m])] := ⟨_, rfl⟩
  have ho : s5[st.length + 2]? = some (.lst ((ms0 ++ [n, m]).map lwOf)) := by rw [hs5]; simp
  rw [← hs5] at c5 U5
  have J5 := J.keep U5
  have hd5 : s5[22]? = some (.lst (ms0.map lwOf ++ [lwOf m, lwOf n])) := U5.get hd' (by simp)
  have lw : ∀ r : Deed, ∃ z, lwOf r = .tup [.int (r.1 : Nat), z] := fun r => by
    unfold lwOf
    split <;> exact ⟨_, rfl⟩
  obtain ⟨zm, em⟩ := lw m
  obtain ⟨zn, en⟩ := lw n
  rw [em, en] at hd5
  have c6 := rt6_ok (N := .int (N : Int)) (y5 := y5) (y6 := y6) (y7 := y7) (y8 := some (.loc (st.length + 2))) (y9 := y9) hd5 (by rw [List.length_map]; exact l0)
  have mv := J.T.mv
  have lms : (ms0 ++ [m, n]).length < 90000 := by simp; omega
  obtain ⟨s7, e7, U7, A7, _⟩ := again_ok (xs := []) J5.dl h1 h5 lms J5.T.run (fun r mr => (mv r mr).2)
  have J7 := J5.keep U7
  have tdn := told_dns h5 mv
  have lmd : ((ms0 ++ [m, n]).map dnOf).length ≤ 1000 := by simp; omega
  have q1 := eq_doors A7 J7.T.A rfl tdn tdn lmd lmd
  rw [decide_eq_true rfl] at q1
  have q2 := eq_dict J7.T.A J7.T.O.hw
  have c7 := rt7_ok (y5 := y5) (y6 := y6) (y7 := y7) (y8 := some (.loc (st.length + 2))) (y9 := some (.bl (!(m.1 == n.1)))) e7 q1 q2
  have hp7 := U7.get (U5.get hp (by simp)) (by simp)
  have mm := mv m (by simp)
  have mn := mv n (by simp)
  by_cases ne : m.1 = n.1
  · have eb : (!(m.1 == n.1)) = false := by simp [ne]
    rw [eb] at c6 c7
    exact ⟨s7, a, q, then_nx c5 (then_nx c6 (then_nx c7 rt8_same)), hp7⟩
  · have eb : (!(m.1 == n.1)) = true := by simpa using ne
    rw [eb] at c6 c7
    obtain ⟨dsO, rO⟩ := RunR.swap (good_fresh N) J.T.run ne
    have mvO : ∀ r ∈ ms0 ++ [n, m], r.1 < N ∧ okV r := fun r mr => mv r (by simpa [or_comm, or_left_comm] using mr)
    have ho7 := U7.get ho (by simp)
    obtain ⟨s8, e8, U8, A8, _⟩ := again_ok (xs := []) ho7 h1 h5 (by simp; omega) rO (fun r mr => (mvO r mr).2)
    have J8 := J7.keep U8
    have lO : dsO.length = ds.length := by
      have e1 := A8.h0
      have key : ∀ {d0 : List Pl} {rs : List Deed} {d1 : List Pl}, RunR d0 rs d1 → d1.length = d0.length := fun h => by
        induction h with
        | nil => rfl
        | cons g _ ih =>
          rw [ih]
          cases g <;> rw [List.length_set]
      rw [key rO, key J.T.run]
    have q3 := eq_doors A8 J8.T.A lO (told_dns h5 mvO) tdn (by simp; omega) lmd
    rw [decide_eq_false (fun e => txt_swap (by omega) (by omega) ne e.symm)] at q3
    have r1 := repr_dn (U8.get ho7 (by simp)) (told_lws h5 mvO) (m := 1000) (by simp; omega) (by decide)
    have r2 := repr_dn J8.dl (told_lws h5 mv) (m := 1000) (by simp; omega) (by decide)
    have c8 := rt8_diff (N := .int (N : Int)) (y5 := y5) (y6 := y6) (y7 := y7) e8 q3 r1 r2 (fun e => txt_swapL (by omega) (by omega) ne e.symm)
    exact ⟨s8, a, q, then_nx c5 (then_nx c6 (then_nx c7 c8)), U8.get hp7 (by simp)⟩
theorem right_ok (a b : Int) (st : Store) (l : Nat) (hl : st[l]? = some (.lst [.int a, .int b, .int 0])) (hp : PotOk a b 0 0) : ∃ ys, rightS [.loc l] st = .ok (.bl true) (st.set l (.lst ys)) := by
  obtain ⟨d1, a1, m1, p0, p1, ok1, t1⟩ := take_ok [.lst [.int a, .int b, .int 0]] 0 a b 0 0 5 rfl hp (by decide) (by decide) (by decide)
  obtain ⟨N, hN⟩ : ∃ N : Nat, N = 1 + d1.toNat := ⟨_, rfl⟩
  have n1 : 1 ≤ N := by omega
  have n5 : N ≤ 5 := by omega
  have hn : 1 + d1 = (N : Int) := by omega
  have t1' : take [.loc 0, .int 5] [.lst [.int a, .int b, .int 0]] = .ok (.int d1) [.lst [.int a1, .int b, .int m1]] := t1
  have c1 := rt1_ok t1' hn
  obtain ⟨S2, init, U2, l2, D2⟩ := init_ok (st := [.lst [.int a1, .int b, .int m1]]) (n := N) n1 n5
  have l2' : S2.length = 11 := l2
  obtain ⟨S3, own, U3, l3, O3⟩ := own_ok (st := S2) (N := N) n1 n5
  rw [l2'] at own O3 l3
  have D2' : DoorAt S2 1 3 5 7 9 10 (freshDs N) [] := D2
  have n0 : ∀ {i : Nat}, i ∉ ([] : List Nat) := fun m => nomatch m
  have pot3 : S3[0]? = some (.lst [.int a1, .int b, .int m1]) := U3.get (U2.get rfl n0) n0
  have T3 : TwoM N S3 [] (freshDs N) := ⟨D2'.upd U3 (fun _ m => nomatch m), O3, by simp, .nil, (fun p m x e => by rw [List.eq_of_mem_replicate m] at e; cases e), (fun p m => by rw [List.eq_of_mem_replicate m]; exact .inl rfl), by simp, (fun _ m => nomatch m), by decide⟩
  have c2 := rt2_ok (N := .int (N : Int)) (IN := doorInit) (OD := f__law_door) rfl init own l3
  have U4 : Upd [] S3 (S3 ++ [Ev.O.lst []]) := Upd.push _
  have J4 : Jm N b (0 + 1) (S3 ++ [Ev.O.lst []]) [] (freshDs N) := ⟨T3.keep U4, ⟨a1, m1, U4.get pot3 n0, ok1⟩, by rw [List.getElem?_append_right (by omega), l3]; rfl⟩
  obtain ⟨S5, e5, U5⟩ := isdoor_ok J4.T
  have J5 := J4.keep U5
  have mk := many_ok J4.T.A
  rw [J4.T.len] at mk
  have c3 := rt3_ok (y5 := none) (y6 := none) (y7 := none) (y8 := none) (y9 := none) J4.T.A.h0 mk e5
  obtain ⟨a5, q5, h5', ok5⟩ := J5.pot
  obtain ⟨d6, a6, q6, d60, d61, ok6, t6⟩ := take_ok S5 0 a5 b q5 (0 + 1) 24 h5' ok5 (by omega) (by decide) (by decide)
  have U6 : Upd [0] S5 (S5.set 0 (.lst [.int a6, .int b, .int q6])) := Upd.set (by simp)
  have J6 : Jm N b 10 (S5.set 0 (.lst [.int a6, .int b, .int q6])) [] (freshDs N) := ⟨J5.T.upd U6 (by decide) (by decide), ⟨a6, q6, List.getElem?_set_self (lt_of_get h5'), ok6.up (by decide)⟩, U6.get J5.dl (by decide)⟩
  obtain ⟨L, hL⟩ : ∃ L : Nat, 3 + d6 = (L : Int) := ⟨(3 + d6).toNat, by omega⟩
  generalize hS6 : S5.set 0 (.lst [.int a6, .int b, .int q6]) = S6 at t6 J6
  obtain ⟨e', s', lq, z5, z6, z7, ms, ds, he, lms, H8⟩ := loopF_nx (ws := []) (gf := gN 5) (bf := sSeq (lp1 isS dS) (lp2 take isS dS f__law_door_copy cpS f_Door_eq))
    (fun j ev s => ∃ z5 z6 z7 ms ds, ev = rE (.int (N : Int)) z5 z6 z7 none none ∧ ms.length = j ∧ Jm N b (10 + 70 * (j : Int)) s ms ds)
    (fun _ _ _ _ => rfl) (intD 0 L) (rE (.int (N : Int)) none none none none none) S6 ⟨none, none, none, [], _, rfl, rfl, J6.up (by omega)⟩
    (fun j d ev s hj ⟨z5, z6, z7, ms, ds, he, lms, H⟩ => by
      subst he
      obtain ⟨jl, rfl⟩ := intD_at hj
      obtain ⟨y6', y7', st', m, ds', e, H'⟩ := lap (NN := .int (N : Int)) (y5 := some (.int (j : Nat))) (y6 := z6) (y7 := z7) (y8 := none) (y9 := none) H n1 n5 (by omega) (by omega)
      exact ⟨rE (.int (N : Int)) (some (.int (j : Nat))) z6 z7 none none, _, st', by simp, .inl e, _, y6', y7', ms ++ [m], ds', rfl, by simp [lms], H'.up (by push_cast; omega)⟩)
  subst he
  rw [intD_length] at lms H8
  have it : iRange1 (eM (mBin addM (eC (.int 3)) (eCall take (aCons (eVar 0) (aCons (eC (.int 24)) aNil))))) (rE (.int (N : Int)) none none none none none) S5 = .ok ⟨intD 0 L, []⟩ S6 := by
    have e1 : eM (mBin addM (eC (.int 3)) (eCall take (aCons (eVar 0) (aCons (eC (.int 24)) aNil)))) (rE (.int (N : Int)) none none none none none) S5 = .ok (.int (L : Int)) S6 := by
      exact laps_ok t6 hL
    rw [ev_iRange1, e1, R.bind_ok]
    exact rg_nat (by omega)
  have c4 : rt4 take isS dS f__law_door_copy cpS f_Door_eq (rE (.int (N : Int)) none none none none none) S5 = .nx (rE (.int (N : Int)) z5 z6 z7 none none) s' := for_ok it lq
  obtain ⟨s9, a9, q9, c9, h9⟩ := tail_ok (y5 := z5) (y6 := z6) (y7 := z7) (y8 := none) (y9 := none) H8 n1 n5 (by omega) (by omega)
  obtain ⟨s10, hs10⟩ : ∃ s10, s9 = Ev.O.lst [.int a9, .int b, .int q9] :: s10 := by
    cases s9 with
    | nil => cases h9
    | cons y ys =>
      simp at h9
      exact ⟨ys, by rw [h9]⟩
  have whole : rightF [.loc 0] [.lst [.int a, .int b, .int 0]] = .ok (.bl true) s9 := by
    have e0 : rightF [.loc 0] [.lst [.int a, .int b, .int 0]] = outS (b__law_right take f__law_door doorInit f_Door_many isS dS f__law_door_copy cpS f_Door_eq agS [some (.loc 0), none, none, none, none, none, none, none, none, none] [.lst [.int a, .int b, .int 0]]) := rfl
    rw [e0, rt_chain, then_nx c1 (then_nx c2 (then_nx c3 (then_nx c4 c9)))]
    rfl
  rw [hs10] at whole
  exact ⟨_, frame1_ok hl rfl flat_pot whole rfl flat_pot⟩
end
end K35

namespace K35
open PySem L2 Ev
open PyProof.Rows hiding St
section
variable {P : Program} {w : World} {K : PySem.W.Frag} {mg : Str → Option Value} {base : Heap} (T : Txt K mg)
theorem near_g {k : Nat} (hi : FnG T.g P w K mg base k T.d_is_integer.a T.d_is_integer.fd ["value", "low", "high"] isIntM) (ht : FnG T.g P w K mg base k T.d_is_tuple.a T.d_is_tuple.fd ["value", "least", "most"] isTupM) :
    ∀ n, FnG T.g P w K mg base (k + n) T.d_is_near_value.a T.d_is_near_value.fd ["value", "deep"] (near n)
  | 0 => FnG.no
  | n + 1 => (ok_is_near_value (hi.mono (Nat.le_add_right _ _)) (ht.mono (Nat.le_add_right _ _)) (near_g hi ht n)).frame0
theorem drawn_g {k : Nat} (ht : FnG T.g P w K mg base k T.d__law_take.a T.d__law_take.fd ["pot", "upto"] take) (ho : FnG T.g P w K mg base k T.d__law_of.a T.d__law_of.fd ["pot", "some"] (f__law_of take)) :
    ∀ n, FnG T.g P w K mg base (k + n) T.d__law_drawn_value.a T.d__law_drawn_value.fd ["pot", "deep"] (drawn n)
  | 0 => FnG.no
  | n + 1 => (ok__law_drawn_value (ht.mono (Nat.le_add_right _ _)) (ho.mono (Nat.le_add_right _ _)) (drawn_g ht ho n)).frame1
theorem law_all : FnG T.g P w K mg base 40 T.d_law.a T.d_law.fd ["script"] (f_law f__law_cells rightS f__law_pot) := by
  have whole : FnG T.g P w K mg base 1 T.d_is_whole.a T.d_is_whole.fd ["value"] isWholeM := (ok_is_whole (k := 0)).eqOn whole_eq
  have int : FnG T.g P w K mg base 2 T.d_is_integer.a T.d_is_integer.fd ["value", "low", "high"] isIntM := (ok_is_integer whole).eqOn int_eq
  have tup : FnG T.g P w K mg base 1 T.d_is_tuple.a T.d_is_tuple.fd ["value", "least", "most"] isTupM := (ok_is_tuple (k := 0)).eqOn tup_eq
  have isvG : FnG T.g P w K mg base 16 T.d_is_value.a T.d_is_value.fd ["value"] isv := ok_is_value (near_g T int (tup.mono (by decide)) 13)
  have tk : FnG T.g P w K mg base 1 T.d__law_take.a T.d__law_take.fd ["pot", "upto"] take := (ok__law_take (k := 0)).frame1
  have of : FnG T.g P w K mg base 2 T.d__law_of.a T.d__law_of.fd ["pot", "some"] (f__law_of take) := ok__law_of tk
  have dr := (drawn_g T (tk.mono (by decide : 1 ≤ 2)) of 3 : FnG T.g P w K mg base 5 _ _ _ _)
  have init := (ok_Door_init int : FnG T.g P w K mg base _ _ _ _ _)
  have chk := ok_Door_check_player int
  have come : FnG T.g P w K mg base 17 _ _ _ comeS := ok_Door_come (chk.mono (by decide)) isvG
  have nxt := ok_Door_next chk
  have lev := ok_Door_levels (T := T) (P := P) (w := w) (base := base) (k := 0)
  have sho := ok_Door_show (T := T) (P := P) (w := w) (base := base) (k := 0)
  have ask := ok_Door_ask (T := T) (P := P) (w := w) (base := base) (k := 0)
  have step : FnG T.g P w K mg base 6 _ _ _ doorStep := ok_Door_step (k := 4) nxt (lev.mono (by decide)) (sho.mono (by decide)) (ask.mono (by decide))
  have cam := ok_Door_came (T := T) (P := P) (w := w) (base := base) (k := 0)
  have hrd := ok_Door_heard (T := T) (P := P) (w := w) (base := base) (k := 0)
  have len := ok_Door_len (T := T) (P := P) (w := w) (base := base) (k := 0)
  have mny := ok_Door_many (T := T) (P := P) (w := w) (base := base) (k := 0)
  have eqd := ok_Door_eq (T := T) (P := P) (w := w) (base := base) (k := 0)
  have od := ok__law_door (T := T) (P := P) (w := w) (base := base) (k := 0)
  have oc := ok__law_door_come (T := T) (P := P) (w := w) (base := base) (k := 0)
  have os := ok__law_door_step (T := T) (P := P) (w := w) (base := base) (k := 0)
  have on := ok__law_door_next (T := T) (P := P) (w := w) (base := base) (k := 0)
  have cp := ok__law_door_copy (T := T) (P := P) (w := w) (base := base) (k := 0)
  have dd := ok__law_drawn_deed (k := 5) (tk.mono (by decide)) (dr.mono (by decide))
  have isd := ok__law_is_door (T := T) (k := 10) (cam.mono (by decide)) (hrd.mono (by decide)) (lev.mono (by decide)) (len.mono (by decide)) (nxt.mono (by decide)) (on.mono (by decide))
  have de := ok__law_deed (T := T) (k := 20) (dd.mono (by decide)) (oc.mono (by decide)) (come.mono (by decide)) (step.mono (by decide)) (os.mono (by decide))
  have dc := ok_Door_copy (T := T) (k := 20) (init.mono (by decide)) (step.mono (by decide)) (come.mono (by decide))
  have da := ok__law_done_again (T := T) (k := 20) (init.mono (by decide)) (step.mono (by decide)) (come.mono (by decide))
  have right := (ok__law_right (k := 30) (tk.mono (by decide)) (od.mono (by decide)) (init.mono (by decide)) (mny.mono (by decide)) (isd.mono (by decide)) (de.mono (by decide)) (cp.mono (by decide)) (dc.mono (by decide)) (eqd.mono (by decide)) (da.mono (by decide))).frame1
  have cells := ok__law_cells (T := T) (P := P) (w := w) (base := base) (k := 0)
  have pot := ok__law_pot (T := T) (P := P) (w := w) (base := base) (k := 0)
  exact (ok_law (k := 35) (cells.mono (by decide)) (right.mono (by decide)) (pot.mono (by decide))).mono (by decide)
end
theorem walk {l : PySem.W.OpenLaw} {q : Program} {loose : List Str} {XP : (Str → Option Value) → Heap → Prop} {YP : World → Heap → Prop} {d : DefRec} {K : Params → PySem.W.Frag} (hn : l.most = some 63) (hdf : d.params.defaults = [])
    (hY : ∀ (w : World) (h : Heap), YP w h → (K w.params).In h)
    (F : ∀ (w : World) (mg : Str → Option Value) (fa : Addr) (h : Heap), (K w.params).In h → h.Ns mainGlobals mg → mg d.name = some (.ref fa) →
      ∃ T : Txt (K w.params) mg, T.d_law.a = fa ∧ ∀ (s : Shared) (v : Value), BindsTo s T.d_law.fd ⟨[v], []⟩ [("script", v)]) : PySem.W.WalkO q loose XP YP l.row.toRowW d [] (fun f vs => PySem.call f vs) :=
  walk_g (n := 63) (k := 40) (x := "script") hn (by decide) hdf ⟨rfl, by decide, by decide⟩ hY (fun w mg fa h X G e => by
    obtain ⟨T, rfl, hb⟩ := F w mg fa h X G e
    exact ⟨T.g, T.d_law.fd, rfl, hb, fun base _ _ => law_all T⟩) (law_run rightS right_ok)
end K35

open PySem PySem.W PyProof.Rows in
set_option maxRecDepth 100000 in
set_option maxHeartbeats 0 in
theorem PySem.Challenge.cw_fewplaymany_k35_whole_levels_step_by_ste_holds : PySem.Challenge.rw_fewplaymany_k35_whole_levels_step_by_ste.Holds := by
  w_on; o_law; k_head; (case hw => w_witness2)
  k_fill
  refine K35.walk (l := PySem.Challenge.rw_fewplaymany_k35_whole_levels_step_by_ste) rfl rfl (fun w h Y => PySem.W.kIn_of Y) ?F
  case F =>
    intro w mg fa h KX G hmg
    refine' K35.facts (l := PySem.Challenge.rw_fewplaymany_k35_whole_levels_step_by_ste) (w := w) KX G hmg ?x_Door ?x__law_cells ?l__law_cells ?c__law_cells ?k__law_cells ?x__law_take ?l__law_take ?c__law_take ?k__law_take ?x__law_door ?l__law_door ?c__law_door ?k__law_door ?x_is_whole ?l_is_whole ?c_is_whole ?k_is_whole ?x_is_integer ?l_is_integer ?c_is_integer ?k_is_integer ?x_Door_init ?i_Door_init ?l_Door_init ?c_Door_init ?k_Door_init ?y1_Door_many ?y2_Door_many ?y3_Door_many ?y4_Door_many ?l_Door_many ?c_Door_many ?k_Door_many ?y1_Door_came ?y2_Door_came ?y3_Door_came ?y4_Door_came ?l_Door_came ?c_Door_came ?k_Door_came ?y1_Door_heard ?y2_Door_heard ?y3_Door_heard ?y4_Door_heard ?l_Door_heard ?c_Door_heard ?k_Door_heard ?y1_Door_levels ?y2_Door_levels ?y3_Door_levels ?y4_Door_levels ?l_Door_levels ?c_Door_levels ?k_Door_levels ?x_Door_len ?i_Door_len ?l_Door_len ?c_Door_len ?k_Door_len ?x_Door_check_player ?i_Door_check_player ?l_Door_check_player ?c_Door_check_player ?k_Door_check_player ?x_Door_next ?i_Door_next ?l_Door_next ?c_Door_next ?k_Door_next ?x__law_door_next ?l__law_door_next ?c__law_door_next ?k__law_door_next ?x__law_is_door ?l__law_is_door ?c__law_is_door ?k__law_is_door ?x__law_of ?l__law_of ?c__law_of ?k__law_of ?x__law_drawn_value ?l__law_drawn_value ?c__law_drawn_value ?k__law_drawn_value ?x__law_drawn_deed ?l__law_drawn_deed ?c__law_drawn_deed ?k__law_drawn_deed ?x__law_door_come ?l__law_door_come ?c__law_door_come ?k__law_door_come ?x_is_tuple ?l_is_tuple ?c_is_tuple ?k_is_tuple ?x_is_near_value ?l_is_near_value ?c_is_near_value ?k_is_near_value ?x_is_value ?l_is_value ?c_is_value ?k_is_value ?x_Door_come ?i_Door_come ?l_Door_come ?c_Door_come ?k_Door_come ?x_Door_show ?i_Door_show ?l_Door_show ?c_Door_show ?k_Door_show ?x_Door_ask ?i_Door_ask ?l_Door_ask ?c_Door_ask ?k_Door_ask ?x_Door_step ?i_Door_step ?l_Door_step ?c_Door_step ?k_Door_step ?x__law_door_step ?l__law_door_step ?c__law_door_step ?k__law_door_step ?x__law_deed ?l__law_deed ?c__law_deed ?k__law_deed ?x__law_door_copy ?l__law_door_copy ?c__law_door_copy ?k__law_door_copy ?x_Door_copy ?i_Door_copy ?l_Door_copy ?c_Door_copy ?k_Door_copy ?x_Door_eq ?i_Door_eq ?l_Door_eq ?c_Door_eq ?k_Door_eq ?x__law_done_again ?l__law_done_again ?c__law_done_again ?k__law_done_again ?x__law_right ?l__law_right ?c__law_right ?k__law_right ?x__law_pot ?l__law_pot ?c__law_pot ?k__law_pot ?x_law ?l_law ?c_law ?k_law ?g_MOST_PLAYERS ?g_LEVEL ?g_IN ?g_LOOK ?g_ASK ?g_COME ?g_SETTLED ?g_MOST_DEEP ?g_OUT ?g_WAIT ?g_WORD ?g_MOST_NUMBER ?g_MOST_THINGS ?pg_Door ?hd_Door ?po_Door ?sa_Door ?ih_Door ?im_Door ?is1_Door ?is2_Door ?ib_Door_NoneType ?ib_Door_bool ?ib_Door_int ?ib_Door_str ?ib_Door_tuple ?ib_Door_list ?ib_Door_dict ?io_Door_Door ?mk_Door ?kc_Door ?na_Door_own_many ?na_Door_own_came ?na_Door_own_levels ?na_Door_own_heard ?na_Door_own_seen ?na_Door_own_done ?ihn ?iht ?z_len ?z_tuple ?z_list ?z_range ?z_max ?z_min ?z_sum ?z_all ?z_any ?z_sorted ?z_abs ?z_int ?z_repr ?z_enumerate ?z_zip ?z_isinstance ?z_set ?z_str ?z_dict ?z_bool ?z_reversed ?z_type
    (case x_Door => k_is)
    (case x__law_cells => k_is)
    (case l__law_cells => k_is)
    (case c__law_cells => k_is)
    (case k__law_cells => k_is)
    (case x__law_take => k_is)
    (case l__law_take => k_is)
    (case c__law_take => k_is)
    (case k__law_take => k_is)
    (case x__law_door => k_is)
    (case l__law_door => k_is)
    (case c__law_door => k_is)
    (case k__law_door => k_is)
    (case x_is_whole => k_is)
    (case l_is_whole => k_is)
    (case c_is_whole => k_is)
    (case k_is_whole => k_is)
    (case x_is_integer => k_is)
    (case l_is_integer => k_is)
    (case c_is_integer => k_is)
    (case k_is_integer => k_is)
    (case x_Door_init => k_is)
    (case i_Door_init => k_is)
    (case l_Door_init => k_is)
    (case c_Door_init => k_is)
    (case k_Door_init => k_is)
    (case y1_Door_many => k_is)
    (case y2_Door_many => k_is)
    (case y3_Door_many => k_is)
    (case y4_Door_many => k_is)
    (case l_Door_many => k_is)
    (case c_Door_many => k_is)
    (case k_Door_many => k_is)
    (case y1_Door_came => k_is)
    (case y2_Door_came => k_is)
    (case y3_Door_came => k_is)
    (case y4_Door_came => k_is)
    (case l_Door_came => k_is)
    (case c_Door_came => k_is)
    (case k_Door_came => k_is)
    (case y1_Door_heard => k_is)
    (case y2_Door_heard => k_is)
    (case y3_Door_heard => k_is)
    (case y4_Door_heard => k_is)
    (case l_Door_heard => k_is)
    (case c_Door_heard => k_is)
    (case k_Door_heard => k_is)
    (case y1_Door_levels => k_is)
    (case y2_Door_levels => k_is)
    (case y3_Door_levels => k_is)
    (case y4_Door_levels => k_is)
    (case l_Door_levels => k_is)
    (case c_Door_levels => k_is)
    (case k_Door_levels => k_is)
    (case x_Door_len => k_is)
    (case i_Door_len => k_is)
    (case l_Door_len => k_is)
    (case c_Door_len => k_is)
    (case k_Door_len => k_is)
    (case x_Door_check_player => k_is)
    (case i_Door_check_player => k_is)
    (case l_Door_check_player => k_is)
    (case c_Door_check_player => k_is)
    (case k_Door_check_player => k_is)
    (case x_Door_next => k_is)
    (case i_Door_next => k_is)
    (case l_Door_next => k_is)
    (case c_Door_next => k_is)
    (case k_Door_next => k_is)
    (case x__law_door_next => k_is)
    (case l__law_door_next => k_is)
    (case c__law_door_next => k_is)
    (case k__law_door_next => k_is)
    (case x__law_is_door => k_is)
    (case l__law_is_door => k_is)
    (case c__law_is_door => k_is)
    (case k__law_is_door => k_is)
    (case x__law_of => k_is)
    (case l__law_of => k_is)
    (case c__law_of => k_is)
    (case k__law_of => k_is)
    (case x__law_drawn_value => k_is)
    (case l__law_drawn_value => k_is)
    (case c__law_drawn_value => k_is)
    (case k__law_drawn_value => k_is)
    (case x__law_drawn_deed => k_is)
    (case l__law_drawn_deed => k_is)
    (case c__law_drawn_deed => k_is)
    (case k__law_drawn_deed => k_is)
    (case x__law_door_come => k_is)
    (case l__law_door_come => k_is)
    (case c__law_door_come => k_is)
    (case k__law_door_come => k_is)
    (case x_is_tuple => k_is)
    (case l_is_tuple => k_is)
    (case c_is_tuple => k_is)
    (case k_is_tuple => k_is)
    (case x_is_near_value => k_is)
    (case l_is_near_value => k_is)
    (case c_is_near_value => k_is)
    (case k_is_near_value => k_is)
    (case x_is_value => k_is)
    (case l_is_value => k_is)
    (case c_is_value => k_is)
    (case k_is_value => k_is)
    (case x_Door_come => k_is)
    (case i_Door_come => k_is)
    (case l_Door_come => k_is)
    (case c_Door_come => k_is)
    (case k_Door_come => k_is)
    (case x_Door_show => k_is)
    (case i_Door_show => k_is)
    (case l_Door_show => k_is)
    (case c_Door_show => k_is)
    (case k_Door_show => k_is)
    (case x_Door_ask => k_is)
    (case i_Door_ask => k_is)
    (case l_Door_ask => k_is)
    (case c_Door_ask => k_is)
    (case k_Door_ask => k_is)
    (case x_Door_step => k_is)
    (case i_Door_step => k_is)
    (case l_Door_step => k_is)
    (case c_Door_step => k_is)
    (case k_Door_step => k_is)
    (case x__law_door_step => k_is)
    (case l__law_door_step => k_is)
    (case c__law_door_step => k_is)
    (case k__law_door_step => k_is)
    (case x__law_deed => k_is)
    (case l__law_deed => k_is)
    (case c__law_deed => k_is)
    (case k__law_deed => k_is)
    (case x__law_door_copy => k_is)
    (case l__law_door_copy => k_is)
    (case c__law_door_copy => k_is)
    (case k__law_door_copy => k_is)
    (case x_Door_copy => k_is)
    (case i_Door_copy => k_is)
    (case l_Door_copy => k_is)
    (case c_Door_copy => k_is)
    (case k_Door_copy => k_is)
    (case x_Door_eq => k_is)
    (case i_Door_eq => k_is)
    (case l_Door_eq => k_is)
    (case c_Door_eq => k_is)
    (case k_Door_eq => k_is)
    (case x__law_done_again => k_is)
    (case l__law_done_again => k_is)
    (case c__law_done_again => k_is)
    (case k__law_done_again => k_is)
    (case x__law_right => k_is)
    (case l__law_right => k_is)
    (case c__law_right => k_is)
    (case k__law_right => k_is)
    (case x__law_pot => k_is)
    (case l__law_pot => k_is)
    (case c__law_pot => k_is)
    (case k__law_pot => k_is)
    (case x_law => k_is)
    (case l_law => k_is)
    (case c_law => k_is)
    (case k_law => k_is)
    (case g_MOST_PLAYERS => k_is)
    (case g_LEVEL => k_is)
    (case g_IN => k_is)
    (case g_LOOK => k_is)
    (case g_ASK => k_is)
    (case g_COME => k_is)
    (case g_SETTLED => k_is)
    (case g_MOST_DEEP => k_is)
    (case g_OUT => k_is)
    (case g_WAIT => k_is)
    (case g_WORD => k_is)
    (case g_MOST_NUMBER => k_is)
    (case g_MOST_THINGS => k_is)
    (case pg_Door => k_is)
    (case hd_Door => k_is)
    (case po_Door => k_is)
    (case sa_Door => k_is)
    (case ih_Door => k_is)
    (case im_Door => k_is)
    (case is1_Door => k_is)
    (case is2_Door => k_is)
    (case ib_Door_NoneType => k_is)
    (case ib_Door_bool => k_is)
    (case ib_Door_int => k_is)
    (case ib_Door_str => k_is)
    (case ib_Door_tuple => k_is)
    (case ib_Door_list => k_is)
    (case ib_Door_dict => k_is)
    (case io_Door_Door => k_is)
    (case mk_Door => k_is)
    (case kc_Door => k_is)
    (case na_Door_own_many => k_is)
    (case na_Door_own_came => k_is)
    (case na_Door_own_levels => k_is)
    (case na_Door_own_heard => k_is)
    (case na_Door_own_seen => k_is)
    (case na_Door_own_done => k_is)
    (case ihn => k_is)
    (case iht => k_is)
    (case z_len => k_is)
    (case z_tuple => k_is)
    (case z_list => k_is)
    (case z_range => k_is)
    (case z_max => k_is)
    (case z_min => k_is)
    (case z_sum => k_is)
    (case z_all => k_is)
    (case z_any => k_is)
    (case z_sorted => k_is)
    (case z_abs => k_is)
    (case z_int => k_is)
    (case z_repr => k_is)
    (case z_enumerate => k_is)
    (case z_zip => k_is)
    (case z_isinstance => k_is)
    (case z_set => k_is)
    (case z_str => k_is)
    (case z_dict => k_is)
    (case z_bool => k_is)
    (case z_reversed => k_is)
    (case z_type => k_is)

