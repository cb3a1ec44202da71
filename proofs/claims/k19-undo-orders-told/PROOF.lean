import PyProof.Rows.All
import Wide.All
import OpenK.AllK
import Wide.FinOn
import HandS.ForMost
import HandS.TupMul
import HandS.Flow
import HandS.TupAny
import HandS.Deep
import KE.SortData
import HandS.WrittenGet
import HandS.Text
import HandS.Comp
import HandS.More
import PyProof.ReprRoads
import HandS.Defaults
import HandS.DictComp
import PyProof.ReprReads
import PyProof.ReprLoop
import HandS.Dict
import HandS.Conv
import HandS.HeadHook1
import HandS.HeadHook2
import HandS.Head2
import PyProof.ZipIter
import HandS.Zip
import HandS.SortKw
import HandS.Strs
import HandS.SetFor
import HandS.TupSets
import HandS.HeadHook3
import KE.KDictCopyH
import KE.KDictSum
import HandS.Style
import KE.SortKeyHeap
import KE.DataMinMax
import HandS.Remove
import PyProof.Rows.StrInSeq3
import KE.KIndexOf
import HandS.HeadEnd
import HandS.Head0
import HandS.Head1
import PySem.Challenge.RW_maybedone_k19_undo_orders_told
set_option Elab.async false
set_option linter.all false
set_option maxRecDepth 100000
set_option maxHeartbeats 4000000
/-! ZM: a tuple times one is itself. -/
namespace ZM
open PySem PySem.Spec PyProof.Rows L2
theorem mul_one (l : Addr) (items : Array Value) (n : Nat) (dd : Option Addr) (sl : Array (Option Value)) (u : Tok) (c1 : (items.isEmpty || (1 : Int) == 1) = true) :
    Meets (Builtin.«tuple.__mul__» ⟨[.ref l, .int 1 u], []⟩) (fun _ R s => s.heap.get? l = some { cls := .type "tuple", dict := dd, data := .seq items n, slots := sl } ∧ R (.ok (.ret (.ref l))) s) :=
  .of_wp fun prog w A R s h => by
    obtain ⟨hp, g, d, tk, os⟩ := s
    obtain ⟨hl, h⟩ := h
    have f1 := AutoSeq1.idx_int
    wp_walk using wpAny_loadPart' hl
    repeat (first
      | (refine wpAny_ite_true (decide_eq_true (by rw [c1])) ?_; wp_walk using wpAny_loadPart' hl)
      | (refine wpAny_ite_false (decide_eq_false (by decide)) ?_; wp_walk using wpAny_loadPart' hl))
    exact ⟨_, rfl, h⟩
def rOne (K : PySem.W.Frag) : R2 := fun x y H Q => ∃ l xs, x = .ref l ∧ y = .int 1 ∧ SqT K H l xs ∧ Q (.ref l) H
theorem op_one {X : Cx} : OpR X (binaryOp .Mult) (rOne X.K) := by
  intro pins s σ H x y v u Q I rx ry h
  obtain ⟨l, xs, rfl, rfl, hT, q⟩ := h
  cases rx
  obtain ⟨t, rfl⟩ := ry
  obtain ⟨its, r, ⟨⟨cls, dd, data, sl⟩, ho, hc, n, hd⟩, hs⟩ := I.tuple hT
  simp only at hc hd
  subst hc hd
  refine wpAny_binaryOp_repeat_ref (T := "tuple") (U := "int") (by decide) ⟨_, ho, rfl⟩ (fun s' => typeIs_int s' 1 t) noFill_tuple_mul F.fills_int_mul F.slot_int_rmul repeat_tuple F.slot_int_index.lookup
    (call_meets F.slot_int_rmul (typeIs_int s 1 t) F.entry_int_rmul (F.args_int_rmul_2 _ _) (int_rmul_tuple 1 t l its.toArray n dd sl)
      ⟨ho, rfl, ⟨_, ho, rfl⟩, call_meets F.slot_tuple_mul ⟨_, ho, rfl⟩ F.entry_tuple_mul (F.args_tuple_mul_2 _ _) (mul_one l its.toArray n dd sl t (by simp)) ⟨ho, ?_⟩⟩)
  exact ⟨.ref l, H, I, rfl, q⟩
/-- a tuple times nought -/
theorem mul_zero (l : Addr) (items : Array Value) (n : Nat) (dd : Option Addr) (sl : Array (Option Value)) (u : Tok) (c1 : (items.isEmpty || (0 : Int) == 1) = false) (c2 : (decide ((0 : Int) ≤ 0) || items.isEmpty) = true) :
    Meets (Builtin.«tuple.__mul__» ⟨[.ref l, .int 0 u], []⟩) (fun _ R s => s.heap.get? l = some { cls := .type "tuple", dict := dd, data := .seq items n, slots := sl } ∧
      R (.ok (.ret (Value.ref s.heap.objs.size))) { s with heap := s.heap.push { cls := Value.type "tuple", data := Data.seq #[] }, toks := s.toks }) :=
  .of_wp fun prog w A R s h => by
    obtain ⟨hp, g, d, tk, os⟩ := s
    obtain ⟨hl, h⟩ := h
    have f1 := AutoSeq1.idx_int
    wp_walk using wpAny_loadPart' hl
    repeat (first
      | (refine wpAny_ite_false (decide_eq_false (by rw [c1]; exact Bool.false_ne_true)) ?_; wp_walk using wpAny_loadPart' hl)
      | (refine wpAny_ite_true (decide_eq_true (by rw [c2])) ?_; wp_walk using wpAny_loadPart' hl)
      | (refine wpAny_ite_false (decide_eq_false (by decide)) ?_; wp_walk using wpAny_loadPart' hl))
    exact ⟨_, rfl, h⟩
def rZero (K : PySem.W.Frag) : R2 := fun x y H Q => ∃ l xs, x = .ref l ∧ y = .int 0 ∧ SqT K H l xs ∧ xs ≠ [] ∧ ∀ p, H p = none → Q (.ref p) (upd H p (.tup []))
theorem op_zero {X : Cx} : OpR X (binaryOp .Mult) (rZero X.K) := by
  intro pins s σ H x y v u Q I rx ry h
  obtain ⟨l, xs, rfl, rfl, hT, hne, q⟩ := h
  cases rx
  obtain ⟨t, rfl⟩ := ry
  obtain ⟨its, r, ⟨⟨cls, dd, data, sl⟩, ho, hc, n, hd⟩, hs⟩ := I.tuple hT
  simp only at hc hd
  subst hc hd
  have hi : its.toArray.isEmpty = false := by
    cases its with
    | nil => cases r; exact absurd rfl hne
    | cons a b => rfl
  refine wpAny_binaryOp_repeat_ref (T := "tuple") (U := "int") (by decide) ⟨_, ho, rfl⟩ (fun s' => typeIs_int s' 0 t) noFill_tuple_mul F.fills_int_mul F.slot_int_rmul repeat_tuple F.slot_int_index.lookup
    (call_meets F.slot_int_rmul (typeIs_int s 0 t) F.entry_int_rmul (F.args_int_rmul_2 _ _) (int_rmul_tuple 0 t l its.toArray n dd sl)
      ⟨ho, rfl, ⟨_, ho, rfl⟩, call_meets F.slot_tuple_mul ⟨_, ho, rfl⟩ F.entry_tuple_mul (F.args_tuple_mul_2 _ _) (mul_zero l its.toArray n dd sl t (by rw [hi]; rfl) (by simp)) ⟨ho, ?_⟩⟩)
  refine ⟨.ref s.heap.objs.size, _, I.laid (t' := s.toks) (o := .tup []) (fun b ob q => Heap.get?_push_of_some _ q) (Nat.le_refl _) ?_, rfl, q _ (I.hok.fresh (Nat.le_refl _))⟩
  exact ⟨Nat.zero_le _, [], .nil, IsTup.new _ _⟩
end ZM

/-! DLa: data by value, the relation to the layer's heap, judgements with a function of data as their reading. -/
namespace DL
open PySem PySem.Spec PyProof.Rows L2

/-- data by value: tuples, lists and dicts that do not change -/
inductive P where
  | non | bl (b : Bool) | int (i : Int) | str (x : Str)
  | tup (ps : List P) | lst (ps : List P) | frz (ps : List P)
  | dic (ks : List Key) (ps : List P)
  | fn (x : Str)
/-- a name's value: data, or what changes, by its number in the store -/
inductive D where
  | v (p : P)
  | r (n : Nat)
instance : Inhabited P := ⟨.non⟩
instance : Inhabited D := ⟨.v .non⟩
inductive Ob where
  | lst (ps : List P)
  | dic (ks : List Key) (ps : List P)
abbrev Sto := List Ob
abbrev Dnv := List (Option D)
/-- an outcome -/
inductive Oc (α : Type) where
  | ok (a : α) (S : Sto)
  | bad
def Oc.bind {α β : Type} : Oc α → (α → Sto → Oc β) → Oc β
  | .ok a S, f => f a S
  | .bad, _ => .bad
@[simp] theorem Oc.bind_ok {α β : Type} (a : α) (S : Sto) (f : α → Sto → Oc β) : (Oc.ok a S).bind f = f a S := rfl
@[simp] theorem Oc.bind_bad {α β : Type} (f : α → Sto → Oc β) : (Oc.bad : Oc α).bind f = .bad := rfl
theorem Oc.bind_eq {α β : Type} {o : Oc α} {f : α → Sto → Oc β} {b : β} {S : Sto} (h : o.bind f = .ok b S) : ∃ a S1, o = .ok a S1 ∧ f a S1 = .ok b S := by
  cases o with
  | ok a S1 => exact ⟨a, S1, rfl, h⟩
  | bad => cases h
inductive Flo where
  | nx (env : Dnv) (S : Sto)
  | rt (d : D) (S : Sto)
  | bk (env : Dnv) (S : Sto)
  | ct (env : Dnv) (S : Sto)
  | bad
abbrev FE := Dnv → Sto → Oc D
abbrev FA := Dnv → Sto → Oc (List D)
abbrev FT := Dnv → Sto → Oc Bool
abbrev FS := Dnv → Sto → Flo

/-! ### the relation -/
/-- where the store's objects stand; what is hidden meanwhile -/
structure Mp where
  l : List Addr
  h : List Addr
def mask (m : Mp) (H : Hp) : Hp := fun b => if b ∈ m.l ∨ b ∈ m.h then none else H b
theorem mask_out {m : Mp} {H : Hp} {b : Addr} (h : ¬ (b ∈ m.l ∨ b ∈ m.h)) : mask m H b = H b := by unfold mask; rw [if_neg h]
theorem mask_some {m : Mp} {H : Hp} {b : Addr} {o : HO} (h : mask m H b = some o) : ¬ (b ∈ m.l ∨ b ∈ m.h) ∧ H b = some o := by
  unfold mask at h
  split at h
  · cases h
  · rename_i hb
    exact ⟨hb, h⟩
def Exh (G G' : Hp) : Prop := ∀ a o, G a = some o → G' a = some o
mutual
def Is (K : PySem.W.Frag) (G : Hp) : P → V → Prop
  | .non, v => v = .non
  | .bl b, v => v = .bl b
  | .int i, v => v = .int i
  | .str x, v => v = .str x
  | .tup ds, v => ∃ a xs, v = .ref a ∧ SqT K G a xs ∧ IsAll K G ds xs
  | .lst ds, v => ∃ a xs, v = .ref a ∧ G a = some (.lst xs) ∧ IsAll K G ds xs
  | .frz ds, v => ∃ a xs, v = .ref a ∧ SqL K G a xs ∧ IsAll K G ds xs
  | .dic ks ds, v => ∃ a xs, v = .ref a ∧ G a = some (.dK (ks.zip xs)) ∧ ks.length = xs.length ∧ ks.Nodup ∧ IsAll K G ds xs
  | .fn _, _ => False
def IsAll (K : PySem.W.Frag) (G : Hp) : List P → List V → Prop
  | [], xs => xs = []
  | d :: ds, xs => ∃ v vs, xs = v :: vs ∧ Is K G d v ∧ IsAll K G ds vs
end
def IsD (K : PySem.W.Frag) (m : Mp) (G : Hp) : D → V → Prop
  | .v p, v => Is K G p v
  | .r n, v => ∃ a, v = .ref a ∧ m.l[n]? = some a
def IsDs (K : PySem.W.Frag) (m : Mp) (G : Hp) : List D → List V → Prop
  | [], xs => xs = []
  | d :: ds, xs => ∃ v vs, xs = v :: vs ∧ IsD K m G d v ∧ IsDs K m G ds vs
section
variable {K : PySem.W.Frag} {m m' : Mp} {G G' H H' : Hp}
theorem sqT_mono {a : Addr} {xs : List V} (e : Exh G G') (h : SqT K G a xs) : SqT K G' a xs := by
  rcases h with h | h
  · rcases h with h | ⟨o, h⟩
    · exact .inl (.inl (e _ _ h))
    · exact .inl (.inr ⟨o, e _ _ h⟩)
  · exact .inr h
theorem sqL_mono {a : Addr} {xs : List V} (e : Exh G G') (h : SqL K G a xs) : SqL K G' a xs := by
  rcases h with h | h
  · rcases h with h | ⟨o, h⟩
    · exact .inl (.inl (e _ _ h))
    · exact .inl (.inr ⟨o, e _ _ h⟩)
  · exact .inr h
theorem mask_ex (m : Mp) (H : Hp) : Exh (mask m H) H := fun _ _ h => (mask_some h).2
mutual
theorem Is.mono (e : Exh G G') : ∀ (d : P) (v : V), Is K G d v → Is K G' d v
  | .non, _, h => h
  | .bl _, _, h => h
  | .int _, _, h => h
  | .str _, _, h => h
  | .tup ds, _, ⟨a, xs, h1, h2, h3⟩ => ⟨a, xs, h1, sqT_mono e h2, IsAll.mono e ds xs h3⟩
  | .lst ds, _, ⟨a, xs, h1, h2, h3⟩ => ⟨a, xs, h1, e _ _ h2, IsAll.mono e ds xs h3⟩
  | .frz ds, _, ⟨a, xs, h1, h2, h3⟩ => ⟨a, xs, h1, sqL_mono e h2, IsAll.mono e ds xs h3⟩
  | .dic ks ds, _, ⟨a, xs, h1, h2, h4, h5, h3⟩ => ⟨a, xs, h1, e _ _ h2, h4, h5, IsAll.mono e ds xs h3⟩
  | .fn _, _, h => h
theorem IsAll.mono (e : Exh G G') : ∀ (ds : List P) (vs : List V), IsAll K G ds vs → IsAll K G' ds vs
  | [], _, h => h
  | d :: ds, _, ⟨v, vs, h1, h2, h3⟩ => ⟨v, vs, h1, Is.mono e d v h2, IsAll.mono e ds vs h3⟩
end
theorem IsAll.len : ∀ {ds : List P} {vs : List V}, IsAll K G ds vs → ds.length = vs.length
  | [], _, h => by cases h; rfl
  | d :: ds, _, ⟨v, vs, h1, h2, h3⟩ => by
    subst h1
    simp [IsAll.len h3]
theorem IsAll.get : ∀ {ds : List P} {vs : List V} {i : Nat} {d : P}, IsAll K G ds vs → ds[i]? = some d → ∃ v, vs[i]? = some v ∧ Is K G d v
  | [], _, _, _, _, h => by simp at h
  | d :: ds, _, 0, _, ⟨v, vs, h1, h2, h3⟩, h => by
    subst h1
    simp at h
    subst h
    exact ⟨v, rfl, h2⟩
  | d :: ds, _, i + 1, _, ⟨v, vs, h1, h2, h3⟩, h => by
    subst h1
    obtain ⟨u, e, q⟩ := IsAll.get (i := i) h3 (by simpa using h)
    exact ⟨u, by simpa using e, q⟩
theorem IsAll.append : ∀ {ds es : List P} {vs us : List V}, IsAll K G ds vs → IsAll K G es us → IsAll K G (ds ++ es) (vs ++ us)
  | [], _, _, _, h, h' => by cases h; exact h'
  | d :: ds, _, _, _, ⟨v, vs, h1, h2, h3⟩, h' => by
    subst h1
    exact ⟨v, vs ++ _, rfl, h2, IsAll.append h3 h'⟩
theorem IsAll.set : ∀ {ds : List P} {vs : List V} {i : Nat} {d : P} {v : V}, IsAll K G ds vs → Is K G d v → IsAll K G (ds.set i d) (vs.set i v)
  | [], _, _, _, _, h, _ => by cases h; exact rfl
  | d :: ds, _, 0, _, _, ⟨v, vs, h1, h2, h3⟩, h => by
    subst h1
    exact ⟨_, vs, rfl, h, h3⟩
  | d :: ds, _, i + 1, _, _, ⟨v, vs, h1, h2, h3⟩, h => by
    subst h1
    exact ⟨v, _, rfl, h2, IsAll.set (i := i) h3 h⟩
theorem IsAll.take : ∀ {ds : List P} {vs : List V} (n : Nat), IsAll K G ds vs → IsAll K G (ds.take n) (vs.take n)
  | [], _, n, h => by cases h; simp [IsAll]
  | d :: ds, _, 0, h => by simp [IsAll]
  | d :: ds, _, n + 1, ⟨v, vs, h1, h2, h3⟩ => by
    subst h1
    exact ⟨v, _, rfl, h2, IsAll.take n h3⟩
theorem IsAll.drop : ∀ {ds : List P} {vs : List V} (n : Nat), IsAll K G ds vs → IsAll K G (ds.drop n) (vs.drop n)
  | [], _, n, h => by cases h; simp [IsAll]
  | d :: ds, _, 0, h => h
  | d :: ds, _, n + 1, ⟨v, vs, h1, h2, h3⟩ => by
    subst h1
    exact IsAll.drop n h3
theorem IsAll.one {d : P} {v : V} (h : Is K G d v) : IsAll K G [d] [v] := ⟨v, [], rfl, h, rfl⟩
theorem IsAll.eraseIdx : ∀ {ds : List P} {vs : List V} (n : Nat), IsAll K G ds vs → IsAll K G (ds.eraseIdx n) (vs.eraseIdx n)
  | [], _, n, h => by cases h; simp [IsAll]
  | d :: ds, _, 0, ⟨v, vs, h1, h2, h3⟩ => by
    subst h1
    exact h3
  | d :: ds, _, n + 1, ⟨v, vs, h1, h2, h3⟩ => by
    subst h1
    exact ⟨v, _, rfl, h2, IsAll.eraseIdx n h3⟩
theorem IsD.mono (hm : ∀ (r : Nat) (a : Addr), m.l[r]? = some a → m'.l[r]? = some a) (e : Exh G G') : ∀ {d : D} {v : V}, IsD K m G d v → IsD K m' G' d v
  | .v p, v, h => Is.mono e p v h
  | .r n, _, ⟨a, h1, h2⟩ => ⟨a, h1, hm n a h2⟩
theorem IsDs.mono (hm : ∀ (r : Nat) (a : Addr), m.l[r]? = some a → m'.l[r]? = some a) (e : Exh G G') : ∀ {ds : List D} {vs : List V}, IsDs K m G ds vs → IsDs K m' G' ds vs
  | [], _, h => h
  | d :: ds, _, ⟨v, vs, h1, h2, h3⟩ => ⟨v, vs, h1, h2.mono hm e, IsDs.mono hm e h3⟩
theorem IsDs.len : ∀ {ds : List D} {vs : List V}, IsDs K m G ds vs → ds.length = vs.length
  | [], _, h => by cases h; rfl
  | d :: ds, _, ⟨v, vs, h1, h2, h3⟩ => by
    subst h1
    simp [IsDs.len h3]
theorem IsDs.append : ∀ {ds es : List D} {vs us : List V}, IsDs K m G ds vs → IsDs K m G es us → IsDs K m G (ds ++ es) (vs ++ us)
  | [], _, _, _, h, h' => by cases h; exact h'
  | d :: ds, _, _, _, ⟨v, vs, h1, h2, h3⟩, h' => by
    subst h1
    exact ⟨v, vs ++ _, rfl, h2, IsDs.append h3 h'⟩
/-- all data -/
def vals : List D → Option (List P)
  | [] => some []
  | .v p :: ds => (vals ds).map (p :: ·)
  | .r _ :: _ => none
theorem vals_is : ∀ {ds : List D} {ps : List P} {vs : List V}, vals ds = some ps → IsDs K m G ds vs → IsAll K G ps vs
  | [], ps, _, h, q => by
    cases h
    exact q
  | .v p :: ds, ps, _, h, ⟨v, vs, h1, h2, h3⟩ => by
    unfold vals at h
    cases e : vals ds with
    | none => rw [e] at h; cases h
    | some qs =>
      rw [e] at h
      cases h
      exact ⟨v, vs, h1, h2, vals_is e h3⟩
  | .r _ :: _, _, _, h, _ => by cases h
theorem vals_len : ∀ {ds : List D} {ps : List P}, vals ds = some ps → ps.length = ds.length
  | [], ps, h => by cases h; rfl
  | .v p :: ds, ps, h => by
    unfold vals at h
    cases e : vals ds with
    | none => rw [e] at h; cases h
    | some qs =>
      rw [e] at h
      cases h
      simp [vals_len e]
  | .r _ :: _, _, h => by cases h
end

/-- an object of the store -/
def ObIs (K : PySem.W.Frag) (m : Mp) (H : Hp) (a : Addr) : Ob → Prop
  | .lst ds => ∃ xs, H a = some (.lst xs) ∧ IsAll K (mask m H) ds xs
  | .dic ks ds => ∃ xs, H a = some (.dK (ks.zip xs)) ∧ ks.length = xs.length ∧ ks.Nodup ∧ IsAll K (mask m H) ds xs
structure Rel (K : PySem.W.Frag) (m : Mp) (H : Hp) (S : Sto) : Prop where
  len : m.l.length = S.length
  nd : m.l.Nodup
  ob : ∀ (r : Nat) (a : Addr) (o : Ob), m.l[r]? = some a → S[r]? = some o → ObIs K m H a o
  hid : ∀ b, b ∈ m.h → b ∉ m.l ∧ ∃ o, H b = some o
structure Stp (m : Mp) (H : Hp) (m' : Mp) (H' : Hp) : Prop where
  ext : ∀ (r : Nat) (a : Addr), m.l[r]? = some a → m'.l[r]? = some a
  ex : Exh (mask m H) (mask m' H')
  hh : m'.h = m.h
  hk : ∀ b, b ∈ m.h → H' b = H b
section
variable {K : PySem.W.Frag} {m m' m2 : Mp} {H H' H2 : Hp} {S S' : Sto}
theorem Stp.refl (m : Mp) (H : Hp) : Stp m H m H := ⟨fun _ _ h => h, fun _ _ h => h, rfl, fun _ _ => rfl⟩
theorem Stp.trans (a : Stp m H m' H') (b : Stp m' H' m2 H2) : Stp m H m2 H2 := ⟨fun r x h => b.ext r x (a.ext r x h), fun x o h => b.ex x o (a.ex x o h), b.hh.trans a.hh, fun x h => (b.hk x (by rw [a.hh]; exact h)).trans (a.hk x h)⟩
theorem Stp.is {d : D} {v : V} (a : Stp m H m' H') (h : IsD K m (mask m H) d v) : IsD K m' (mask m' H') d v := h.mono a.ext a.ex
theorem Stp.ids {ds : List D} {vs : List V} (a : Stp m H m' H') (h : IsDs K m (mask m H) ds vs) : IsDs K m' (mask m' H') ds vs := h.mono a.ext a.ex
theorem Stp.val {p : P} {v : V} (a : Stp m H m' H') (h : Is K (mask m H) p v) : Is K (mask m' H') p v := Is.mono a.ex p v h
theorem Stp.all {ps : List P} {vs : List V} (a : Stp m H m' H') (h : IsAll K (mask m H) ps vs) : IsAll K (mask m' H') ps vs := IsAll.mono a.ex ps vs h
theorem lt_of_at {α : Type} {xs : List α} {r : Nat} {a : α} (h : xs[r]? = some a) : r < xs.length := by
  rcases Nat.lt_or_ge r xs.length with q | q
  · exact q
  · rw [List.getElem?_eq_none q] at h; cases h
theorem Rel.get {r : Nat} {o : Ob} (R : Rel K m H S) (h : S[r]? = some o) : ∃ a, m.l[r]? = some a ∧ ObIs K m H a o := by
  have hm : r < m.l.length := by rw [R.len]; exact lt_of_at h
  exact ⟨m.l[r], List.getElem?_eq_getElem hm, R.ob r _ o (List.getElem?_eq_getElem hm) h⟩
theorem mask_upd {a : Addr} {o : HO} (h : ¬ (a ∈ m.l ∨ a ∈ m.h)) : mask m (upd H a o) = upd (mask m H) a o := by
  funext b
  unfold mask upd
  by_cases e : b = a
  · subst e; rw [if_neg h, if_pos rfl, if_pos rfl]
  · rw [if_neg e, if_neg e]
theorem Rel.tracked {a : Addr} (R : Rel K m H S) (h : a ∈ m.l ∨ a ∈ m.h) : ∃ o, H a = some o := by
  rcases h with h | h
  · obtain ⟨r, hr, e⟩ := List.getElem_of_mem h
    have hs : r < S.length := by rw [← R.len]; exact hr
    have q := R.ob r a S[r] (by rw [List.getElem?_eq_getElem hr, e]) (List.getElem?_eq_getElem hs)
    cases hS : S[r] with
    | lst ds => rw [hS] at q; obtain ⟨xs, q, _⟩ := q; exact ⟨_, q⟩
    | dic ks ds => rw [hS] at q; obtain ⟨xs, q, _⟩ := q; exact ⟨_, q⟩
  · exact (R.hid a h).2
theorem Rel.out {a : Addr} (R : Rel K m H S) (h : H a = none) : ¬ (a ∈ m.l ∨ a ∈ m.h) := fun z => by
  obtain ⟨o, e⟩ := R.tracked z
  rw [h] at e; cases e
theorem ObIs.mono {a : Addr} {o : Ob} (h : ObIs K m H a o) (st : Stp m H m' H') (ha : H' a = H a) : ObIs K m' H' a o := by
  cases o with
  | lst ds =>
    obtain ⟨xs, e, q⟩ := h
    exact ⟨xs, by rw [ha]; exact e, st.all q⟩
  | dic ks ds =>
    obtain ⟨xs, e, h1, h2, q⟩ := h
    exact ⟨xs, by rw [ha]; exact e, h1, h2, st.all q⟩
/-- a new object beside the store -/
theorem Rel.fresh {a : Addr} {o : HO} (R : Rel K m H S) (h : H a = none) : Rel K m (upd H a o) S ∧ Stp m H m (upd H a o) := by
  have ho := R.out h
  have st : Stp m H m (upd H a o) := by
    refine ⟨fun _ _ z => z, fun b u z => ?_, rfl, fun b hb => upd_ne fun z => ho (.inr (z ▸ hb))⟩
    rw [mask_upd ho]
    obtain ⟨_, z2⟩ := mask_some z
    rw [upd_ne (ne_of_none z2 h)]
    exact z
  refine ⟨⟨R.len, R.nd, fun r b x h1 h2 => ?_, fun b hb => ⟨(R.hid b hb).1, ?_⟩⟩, st⟩
  · refine (R.ob r b x h1 h2).mono st ?_
    exact upd_ne fun z => ho (.inl (by rw [← z]; exact List.mem_of_getElem? h1))
  · rw [st.hk b hb]
    exact (R.hid b hb).2
/-- the heap grows elsewhere -/
theorem Rel.grow (R : Rel K m H S) (e : Exh H H') : Rel K m H' S ∧ Stp m H m H' := by
  have same : ∀ b, b ∈ m.l ∨ b ∈ m.h → H' b = H b := fun b hb => by
    obtain ⟨o, ho⟩ := R.tracked hb
    rw [e _ _ ho, ho]
  have st : Stp m H m H' := by
    refine ⟨fun _ _ z => z, fun b u z => ?_, rfl, fun b hb => same b (.inr hb)⟩
    obtain ⟨z1, z2⟩ := mask_some z
    rw [mask_out z1]
    exact e _ _ z2
  refine ⟨⟨R.len, R.nd, fun r b x h1 h2 => ?_, fun b hb => ⟨(R.hid b hb).1, ?_⟩⟩, st⟩
  · exact (R.ob r b x h1 h2).mono st (same b (.inl (List.mem_of_getElem? h1)))
  · rw [same b (.inr hb)]
    exact (R.hid b hb).2
/-- an object of the store changes -/
theorem Rel.write {r : Nat} {a : Addr} {o : HO} {x : Ob} (R : Rel K m H S) (h : m.l[r]? = some a) (hx : ∀ H', Stp m H m H' → H' a = some o → ObIs K m H' a x) : Rel K m (upd H a o) (S.set r x) ∧ Stp m H m (upd H a o) := by
  have hin : a ∈ m.l := List.mem_of_getElem? h
  have em : mask m (upd H a o) = mask m H := by
    funext b
    unfold mask
    by_cases hb : b ∈ m.l ∨ b ∈ m.h
    · rw [if_pos hb, if_pos hb]
    · rw [if_neg hb, if_neg hb, upd_ne fun z => hb (.inl (by rw [z]; exact hin))]
  have hn : ∀ b, b ∈ m.h → b ≠ a := fun b hb z => (R.hid b hb).1 (by rw [z]; exact hin)
  have st : Stp m H m (upd H a o) := ⟨fun _ _ z => z, fun b u z => by rw [em]; exact z, rfl, fun b hb => upd_ne (hn b hb)⟩
  refine ⟨⟨by rw [List.length_set]; exact R.len, R.nd, fun q b y h1 h2 => ?_, fun b hb => ⟨(R.hid b hb).1, by rw [upd_ne (hn b hb)]; exact (R.hid b hb).2⟩⟩, st⟩
  by_cases hq : q = r
  · subst hq
    rw [h] at h1; cases h1
    have hl : q < S.length := by rw [← R.len]; exact lt_of_at h
    rw [List.getElem?_set_self hl] at h2
    cases h2
    exact hx _ st upd_same
  · rw [List.getElem?_set_ne (fun z => hq z.symm)] at h2
    refine (R.ob q b y h1 h2).mono st (upd_ne fun z => hq ?_)
    subst z
    have l1 := lt_of_at h1
    have l2 := lt_of_at h
    rw [List.getElem?_eq_getElem l1] at h1
    rw [List.getElem?_eq_getElem l2] at h
    exact (List.getElem_inj R.nd).mp ((Option.some.inj h1).trans (Option.some.inj h).symm)
/-- a new object becomes one of the store -/
theorem Rel.alloc {a : Addr} {o : HO} {x : Ob} (R : Rel K m H S) (h : H a = none) (hx : ∀ H', Stp m H ⟨m.l ++ [a], m.h⟩ H' → H' a = some o → ObIs K ⟨m.l ++ [a], m.h⟩ H' a x) :
    Rel K ⟨m.l ++ [a], m.h⟩ (upd H a o) (S ++ [x]) ∧ Stp m H ⟨m.l ++ [a], m.h⟩ (upd H a o) := by
  have ho := R.out h
  have st : Stp m H ⟨m.l ++ [a], m.h⟩ (upd H a o) := by
    refine ⟨fun r b z => ?_, fun b u z => ?_, rfl, fun b hb => upd_ne fun z => ho (.inr (z ▸ hb))⟩
    · show (m.l ++ [a])[r]? = some b
      rw [List.getElem?_append_left (lt_of_at z)]
      exact z
    · obtain ⟨z1, z2⟩ := mask_some z
      have hb : b ≠ a := ne_of_none z2 h
      rw [mask_out (fun q => z1 (by
        rcases q with q | q
        · have q' : b ∈ m.l ++ [a] := q
          rcases List.mem_append.mp q' with q'' | q''
          · exact .inl q''
          · exact absurd (by simpa using q'') hb
        · exact .inr q)), upd_ne hb]
      exact z2
  refine ⟨⟨by simp [R.len], ?_, fun r b y h1 h2 => ?_, fun b hb => ⟨?_, ?_⟩⟩, st⟩
  · show (m.l ++ [a]).Nodup
    rw [List.nodup_append]
    exact ⟨R.nd, by simp, fun b hb c hc z => by
      simp at hc
      subst hc
      subst z
      exact ho (.inl hb)⟩
  · have h1' : (m.l ++ [a])[r]? = some b := h1
    rcases Nat.lt_or_ge r m.l.length with q | q
    · rw [List.getElem?_append_left q] at h1'
      rw [List.getElem?_append_left (by rw [← R.len]; exact q)] at h2
      exact (R.ob r b y h1' h2).mono st (upd_ne fun z => ho (.inl (by rw [← z]; exact List.mem_of_getElem? h1')))
    · have e1 : b = a := by
        rw [List.getElem?_append_right q] at h1'
        have := List.mem_of_getElem? h1'
        simpa using this
      subst e1
      rw [List.getElem?_append_right (by rw [← R.len]; exact q)] at h2
      have := List.mem_of_getElem? h2
      simp at this
      subst this
      exact hx _ st upd_same
  · intro z
    have z' : b ∈ m.l ++ [a] := z
    rcases List.mem_append.mp z' with q | q
    · exact (R.hid b hb).1 q
    · exact ho (.inr (by have : b = a := by simpa using q
                         exact this ▸ hb))
  · rw [st.hk b hb]
    exact (R.hid b hb).2
/-- an object is hidden, changed while it is hidden, shown again -/
abbrev Mp.hide (m : Mp) (a : Addr) : Mp := ⟨m.l, a :: m.h⟩
theorem mask_hide {a : Addr} {o : HO} (h : H a = none) : mask (m.hide a) (upd H a o) = mask m H := by
  funext b
  unfold mask
  by_cases hb : b = a
  · subst hb
    rw [if_pos (.inr (List.mem_cons_self ..)), h]
    split <;> rfl
  · have e : (b ∈ m.l ∨ b ∈ a :: m.h) ↔ (b ∈ m.l ∨ b ∈ m.h) := by simp [hb]
    by_cases hc : b ∈ m.l ∨ b ∈ m.h
    · rw [if_pos (e.mpr hc), if_pos hc]
    · rw [if_neg (fun z => hc (e.mp z)), if_neg hc, upd_ne hb]
theorem Rel.hide {a : Addr} {o : HO} (R : Rel K m H S) (h : H a = none) : Rel K (m.hide a) (upd H a o) S := by
  have ho := R.out h
  have em := mask_hide (m := m) (o := o) h
  refine ⟨R.len, R.nd, fun r b x h1 h2 => ?_, fun b hb => ?_⟩
  · have q := R.ob r b x h1 h2
    have hn : b ≠ a := fun z => ho (.inl (by rw [← z]; exact List.mem_of_getElem? h1))
    cases x with
    | lst ds =>
      obtain ⟨xs, e, q⟩ := q
      exact ⟨xs, by rw [upd_ne hn]; exact e, by rw [em]; exact q⟩
    | dic ks ds =>
      obtain ⟨xs, e, k1, k2, q⟩ := q
      exact ⟨xs, by rw [upd_ne hn]; exact e, k1, k2, by rw [em]; exact q⟩
  · by_cases hn : b = a
    · subst hn
      exact ⟨fun z => ho (.inl z), _, upd_same⟩
    · have hb' : b ∈ m.h := by simpa [hn] using hb
      exact ⟨(R.hid b hb').1, by rw [upd_ne hn]; exact (R.hid b hb').2⟩
theorem mask_hid {a : Addr} {o : HO} (h : a ∈ m.h) : mask m (upd H a o) = mask m H := by
  funext b
  unfold mask
  by_cases hb : b = a
  · subst hb
    rw [if_pos (.inr h), if_pos (.inr h)]
  · rw [upd_ne hb]
theorem Rel.hidden {a : Addr} {o : HO} (R : Rel K m H S) (h : a ∈ m.h) : Rel K m (upd H a o) S := by
  have em := mask_hid (H := H) (o := o) h
  have hn : ∀ b, b ∈ m.l → b ≠ a := fun b hb z => (R.hid a h).1 (z ▸ hb)
  refine ⟨R.len, R.nd, fun r b x h1 h2 => ?_, fun b hb => ⟨(R.hid b hb).1, ?_⟩⟩
  · have q := R.ob r b x h1 h2
    have hb := hn b (List.mem_of_getElem? h1)
    cases x with
    | lst ds =>
      obtain ⟨xs, e, q⟩ := q
      exact ⟨xs, by rw [upd_ne hb]; exact e, by rw [em]; exact q⟩
    | dic ks ds =>
      obtain ⟨xs, e, k1, k2, q⟩ := q
      exact ⟨xs, by rw [upd_ne hb]; exact e, k1, k2, by rw [em]; exact q⟩
  · by_cases hb2 : b = a
    · subst hb2; exact ⟨_, upd_same⟩
    · rw [upd_ne hb2]; exact (R.hid b hb).2
theorem Rel.show' {a : Addr} {l : List Addr} {h : List Addr} (R : Rel K ⟨l, a :: h⟩ H S) (ha : a ∉ h) : Rel K ⟨l, h⟩ H S ∧ Exh (mask ⟨l, a :: h⟩ H) (mask ⟨l, h⟩ H) := by
  have ex : Exh (mask ⟨l, a :: h⟩ H) (mask ⟨l, h⟩ H) := fun b o z => by
    obtain ⟨z1, z2⟩ := mask_some z
    rw [mask_out fun q => z1 (q.imp id fun w => List.mem_cons_of_mem _ w)]
    exact z2
  refine ⟨⟨R.len, R.nd, fun r b x h1 h2 => ?_, fun b hb => R.hid b (List.mem_cons_of_mem _ hb)⟩, ex⟩
  have q := R.ob r b x h1 h2
  cases x with
  | lst ds =>
    obtain ⟨xs, e, q⟩ := q
    exact ⟨xs, e, IsAll.mono ex _ _ q⟩
  | dic ks ds =>
    obtain ⟨xs, e, k1, k2, q⟩ := q
    exact ⟨xs, e, k1, k2, IsAll.mono ex _ _ q⟩
end

/-! ### the names' values -/
structure EnvIs (K : PySem.W.Frag) (m : Mp) (G : Hp) (σ : L2.St) (env : Dnv) : Prop where
  len : σ.length = env.length
  get : ∀ (i : Nat) (d : D), env[i]? = some (some d) → ∃ v, σ[i]? = some (some v) ∧ IsD K m G d v
section
variable {K : PySem.W.Frag} {m m' : Mp} {H H' : Hp} {σ : L2.St} {env : Dnv}
theorem EnvIs.step (h : EnvIs K m (mask m H) σ env) (st : Stp m H m' H') : EnvIs K m' (mask m' H') σ env := ⟨h.len, fun i d e => by
  obtain ⟨v, h1, h2⟩ := h.get i d e
  exact ⟨v, h1, st.is h2⟩⟩
theorem EnvIs.set {G : Hp} {i : Nat} {d : D} {v : V} (h : EnvIs K m G σ env) (hd : IsD K m G d v) : EnvIs K m G (σ.set i (some v)) (env.set i (some d)) := by
  refine ⟨by rw [List.length_set, List.length_set]; exact h.len, fun j e q => ?_⟩
  by_cases hj : i = j
  · subst hj
    by_cases hl : i < env.length
    · rw [List.getElem?_set_self hl] at q
      cases q
      exact ⟨v, List.getElem?_set_self (by rw [h.len]; exact hl), hd⟩
    · rw [List.getElem?_eq_none (by rw [List.length_set]; omega)] at q
      cases q
  · rw [List.getElem?_set_ne hj] at q
    rw [List.getElem?_set_ne hj]
    exact h.get j e q
end

/-! ### readings that are functions -/
def TD (K : PySem.W.Frag) (f : FE) : TE := fun σ H Q => ∃ m env S, Rel K m H S ∧ EnvIs K m (mask m H) σ env ∧ ∃ d S', f env S = .ok d S' ∧
  ∀ v m' H', Stp m H m' H' → Rel K m' H' S' → IsD K m' (mask m' H') d v → Q v H'
def TDt (K : PySem.W.Frag) (f : FT) : TT := fun σ H Q => ∃ m env S, Rel K m H S ∧ EnvIs K m (mask m H) σ env ∧ ∃ b S', f env S = .ok b S' ∧
  ∀ m' H', Stp m H m' H' → Rel K m' H' S' → Q b H'
def TDa (K : PySem.W.Frag) (f : FA) : TA := fun σ H Q => ∃ m env S, Rel K m H S ∧ EnvIs K m (mask m H) σ env ∧ ∃ ds S', f env S = .ok ds S' ∧
  ∀ vs m' H', Stp m H m' H' → Rel K m' H' S' → IsDs K m' (mask m' H') ds vs → Q vs H'
def FloOk (K : PySem.W.Frag) (m : Mp) (H : Hp) (E : Ends) : Flo → Prop
  | .nx env S => ∀ m' H' σ, Stp m H m' H' → Rel K m' H' S → EnvIs K m' (mask m' H') σ env → E.nx σ H'
  | .rt d S => ∀ v m' H', Stp m H m' H' → Rel K m' H' S → IsD K m' (mask m' H') d v → E.rt v H'
  | .bk env S => ∀ m' H' σ, Stp m H m' H' → Rel K m' H' S → EnvIs K m' (mask m' H') σ env → E.bk σ H'
  | .ct env S => ∀ m' H' σ, Stp m H m' H' → Rel K m' H' S → EnvIs K m' (mask m' H') σ env → E.ct σ H'
  | .bad => False
def TDs (K : PySem.W.Frag) (f : FS) : TS := fun E σ H => ∃ m env S, Rel K m H S ∧ EnvIs K m (mask m H) σ env ∧ FloOk K m H E (f env S)
theorem FloOk.step {K : PySem.W.Frag} {m m' : Mp} {H H' : Hp} {E : Ends} {f : Flo} (h : FloOk K m H E f) (st : Stp m H m' H') : FloOk K m' H' E f := by
  cases f with
  | nx env S => exact fun m2 H2 σ s2 => h m2 H2 σ (st.trans s2)
  | rt d S => exact fun v m2 H2 s2 => h v m2 H2 (st.trans s2)
  | bk env S => exact fun m2 H2 σ s2 => h m2 H2 σ (st.trans s2)
  | ct env S => exact fun m2 H2 σ s2 => h m2 H2 σ (st.trans s2)
  | bad => exact h
section
variable {X : Cx} {e : Expr} {es : List Expr} {st : Stmt} {sts : List Stmt}
theorem pe_weak {t t' : TE} (h : PE X e t) (q : ∀ σ H Q, t' σ H Q → t σ H Q) : PE X e t' := ⟨fun pins s σ H Q I w => h.run pins s σ H Q I (q σ H Q w)⟩
theorem pt_weak {t t' : TT} (h : PT X e t) (q : ∀ σ H Q, t' σ H Q → t σ H Q) : PT X e t' := ⟨fun pins s σ H Q I w => h.run pins s σ H Q I (q σ H Q w)⟩
theorem pw_weak {t t' : TT} (h : PW X e t) (q : ∀ σ H Q, t' σ H Q → t σ H Q) : PW X e t' := ⟨fun wh pins s σ H Q I w => h.run wh pins s σ H Q I (q σ H Q w)⟩
theorem pa_weak {t t' : TA} (h : PA X es t) (q : ∀ σ H Q, t' σ H Q → t σ H Q) : PA X es t' := ⟨fun pos pins s σ H Q I w => h.run pos pins s σ H Q I (q σ H Q w)⟩
theorem ps_weak {t t' : TS} (h : PS X st t) (q : ∀ E σ H, t' E σ H → t E σ H) : PS X st t' := ⟨fun pins s σ H E I w => h.run pins s σ H E I (q E σ H w)⟩
theorem pss_weak {t t' : TS} (h : PSs X sts t) (q : ∀ E σ H, t' E σ H → t E σ H) : PSs X sts t' := ⟨fun pins s σ H E I w => h.run pins s σ H E I (q E σ H w)⟩
abbrev PEd (X : Cx) (e : Expr) (f : FE) : Prop := PE X e (TD X.K f)
abbrev PTd (X : Cx) (e : Expr) (f : FT) : Prop := PT X e (TDt X.K f)
abbrev PWd (X : Cx) (e : Expr) (f : FT) : Prop := PW X e (TDt X.K f)
abbrev PAd (X : Cx) (es : List Expr) (f : FA) : Prop := PA X es (TDa X.K f)
abbrev PSd (X : Cx) (st : Stmt) (f : FS) : Prop := PS X st (TDs X.K f)
abbrev PSsd (X : Cx) (sts : List Stmt) (f : FS) : Prop := PSs X sts (TDs X.K f)
end

/-! ### the plainest rules -/
def fVar (i : Nat) : FE := fun env S => match env[i]? with
  | some (some d) => .ok d S
  | _ => .bad
def fC (d : D) : FE := fun _ S => .ok d S
def fNil : FA := fun _ S => .ok [] S
def fCons (f : FE) (g : FA) : FA := fun env S => (f env S).bind fun d S1 => (g env S1).bind fun ds S2 => .ok (d :: ds) S2
def onVals (k : List P → Sto → Oc D) (ds : List D) (S : Sto) : Oc D := match vals ds with
  | some ps => if ps.length ≤ 100000 then k ps S else .bad
  | none => .bad
theorem onVals_of {k : List P → Sto → Oc D} {ds : List D} {S S' : Sto} {d : D} (h : onVals k ds S = .ok d S') : ∃ ps, vals ds = some ps ∧ ps.length ≤ 100000 ∧ k ps S = .ok d S' := by
  unfold onVals at h
  split at h
  · rename_i ps e
    split at h
    · rename_i hl
      exact ⟨ps, e, hl, h⟩
    · cases h
  · cases h
def fTup (g : FA) : FE := fun env S => (g env S).bind (onVals fun ps S1 => .ok (.v (.tup ps)) S1)
def fLst (g : FA) : FE := fun env S => (g env S).bind (onVals fun ps S1 => .ok (.v (.lst ps)) S1)
/-- a list that will be changed -/
def fLstB (g : FA) : FE := fun env S => (g env S).bind (onVals fun ps S1 => .ok (.r S1.length) (S1 ++ [.lst ps]))
theorem size_of {n : Nat} (h : n ≤ 100000) : n ≤ sizeLine := Nat.le_trans h (by decide)
theorem size_lt {n : Nat} (h : n < 100000) : n < sizeLine := Nat.lt_of_lt_of_le h (by decide)
section
variable {X : Cx} {e : Expr} {es : List Expr} {pos : Pos} {f : FE} {g : FA}
theorem d_var {i : Nat} (h : PE X e (tVar i)) : PEd X e (fVar i) := pe_weak h fun σ H Q ⟨m, env, S, R, E, d, S', e1, q⟩ => by
  unfold fVar at e1
  split at e1
  · rename_i d' h1
    cases e1
    obtain ⟨v, h2, h3⟩ := E.get _ _ h1
    exact ⟨v, h2, q v m H (Stp.refl m H) R h3⟩
  · cases e1
theorem d_const {v : V} {p : P} (h : PE X e (tC v)) (hd : ∀ G, Is X.K G p v) : PEd X e (fC (.v p)) := pe_weak h fun σ H Q ⟨m, env, S, R, E, d', S', e1, q⟩ => by
  cases e1
  exact q v m H (Stp.refl m H) R (hd _)
theorem d_int {i j} : PEd X (.Constant (.int i) j pos) (fC (.v (.int i))) := d_const pe_int fun _ => rfl
theorem d_bl {b j} : PEd X (.Constant (.bool b) j pos) (fC (.v (.bl b))) := d_const pe_bl fun _ => rfl
theorem d_non {j} : PEd X (.Constant .none j pos) (fC (.v .non)) := d_const pe_non fun _ => rfl
theorem d_str {x j} : PEd X (.Constant (.str x) j pos) (fC (.v (.str x))) := d_const pe_str fun _ => rfl
theorem d_nil : PAd X [] fNil := pa_weak pa_nil fun σ H Q ⟨m, env, S, R, E, d', S', e1, q⟩ => by
  cases e1
  exact q [] m H (Stp.refl m H) R rfl
theorem d_cons (he : PEd X e f) (hr : PAd X es g) (hs : starEach (e :: es) X.env = (false, eval e X.env) :: starEach es X.env := by rfl) : PAd X (e :: es) (fCons f g) := pa_weak (pa_cons he hr hs) fun σ H Q ⟨m, env, S, R, E, d', S', e1, q⟩ => by
  obtain ⟨d, S1, k1, e2⟩ := Oc.bind_eq e1
  obtain ⟨ds, S2, k2, e3⟩ := Oc.bind_eq e2
  cases e3
  exact ⟨m, env, S, R, E, d, S1, k1, fun v m1 H1 st1 R1 i1 => ⟨m1, env, S1, R1, E.step st1, ds, _, k2, fun vs m2 H2 st2 R2 i2 =>
    q (v :: vs) m2 H2 (st1.trans st2) R2 ⟨v, vs, rfl, st2.is i1, i2⟩⟩⟩
/-- a display's items -/
theorem disp {K : PySem.W.Frag} {g : FA} {k : List P → Sto → Oc D} {σ : L2.St} {H : Hp} {m : Mp} {env : Dnv} {S S' : Sto} {d : D} {Q : List V → Hp → Prop} (R : Rel K m H S) (E : EnvIs K m (mask m H) σ env)
    (e : ((g env S).bind (onVals k)) = .ok d S')
    (q : ∀ ps S1 vs m1 H1, k ps S1 = .ok d S' → ps.length ≤ 100000 → Stp m H m1 H1 → Rel K m1 H1 S1 → IsAll K (mask m1 H1) ps vs → Q vs H1) : TDa K g σ H Q := by
  obtain ⟨ds, S1, k1, e2⟩ := Oc.bind_eq e
  obtain ⟨ps, hv, hl, e3⟩ := onVals_of e2
  exact ⟨m, env, S, R, E, ds, S1, k1, fun vs m1 H1 st1 R1 i1 => q ps S1 vs m1 H1 e3 hl st1 R1 (vals_is hv i1)⟩
theorem d_tup {k} (h : PAd X es g) : PEd X (.Tuple es k pos) (fTup g) := pe_weak (pe_tup h) fun σ H Q ⟨m, env, S, R, E, d', S', e1, q⟩ =>
  disp R E e1 fun ps S1 vs m1 H1 ek hl st1 R1 i1 => by
    cases ek
    refine ⟨size_of (by rw [← i1.len]; exact hl), fun p hp => ?_⟩
    obtain ⟨R2, st2⟩ := R1.fresh (o := .tup vs) hp
    refine q (.ref p) m1 _ (st1.trans st2) R2 ⟨p, vs, rfl, .inl (.inl ?_), st2.all i1⟩
    rw [mask_upd (R1.out hp)]
    exact upd_same
theorem d_lst (h : PAd X es g) : PEd X (.List es pos) (fLst g) := pe_weak (pe_lst h) fun σ H Q ⟨m, env, S, R, E, d', S', e1, q⟩ =>
  disp R E e1 fun ps S1 vs m1 H1 ek hl st1 R1 i1 => by
    cases ek
    refine ⟨size_of (by rw [← i1.len]; exact hl), fun p hp => ?_⟩
    obtain ⟨R2, st2⟩ := R1.fresh (o := .lst vs) hp
    refine q (.ref p) m1 _ (st1.trans st2) R2 ⟨p, vs, rfl, ?_, st2.all i1⟩
    rw [mask_upd (R1.out hp)]
    exact upd_same
theorem d_lstB (h : PAd X es g) : PEd X (.List es pos) (fLstB g) := pe_weak (pe_lst h) fun σ H Q ⟨m, env, S, R, E, d', S', e1, q⟩ =>
  disp R E e1 fun ps S1 vs m1 H1 ek hl st1 R1 i1 => by
    cases ek
    refine ⟨size_of (by rw [← i1.len]; exact hl), fun p hp => ?_⟩
    obtain ⟨R2, st2⟩ := R1.alloc (o := .lst vs) (x := .lst ps) hp fun H' st e => ⟨vs, e, st.all i1⟩
    refine q (.ref p) _ _ (st1.trans st2) R2 ⟨p, rfl, ?_⟩
    show (_ ++ [p])[S1.length]? = some p
    rw [List.getElem?_append_right (by rw [R1.len]; exact Nat.le_refl _), R1.len, Nat.sub_self]
    rfl
end
end DL

/-! DLb: operators, comparisons, subscripts. -/
namespace DL
open PySem PySem.Spec PyProof.Rows L2

/-! ### reading at the heap as it stands -/
def IsR (K : PySem.W.Frag) (m : Mp) (H : Hp) : P → V → Prop
  | .lst ps, v => ∃ a xs, v = .ref a ∧ H a = some (.lst xs) ∧ IsAll K (mask m H) ps xs
  | .dic ks ps, v => ∃ a xs, v = .ref a ∧ H a = some (.dK (ks.zip xs)) ∧ ks.length = xs.length ∧ ks.Nodup ∧ IsAll K (mask m H) ps xs
  | .non, v => v = .non
  | .bl b, v => v = .bl b
  | .int i, v => v = .int i
  | .str x, v => v = .str x
  | .tup ds, v => ∃ a xs, v = .ref a ∧ SqT K (mask m H) a xs ∧ IsAll K (mask m H) ds xs
  | .frz ds, v => ∃ a xs, v = .ref a ∧ SqL K (mask m H) a xs ∧ IsAll K (mask m H) ds xs
  | .fn _, _ => False
def deP (S : Sto) : D → Option P
  | .v p => some p
  | .r n => match S[n]? with
    | some (.lst ps) => some (.lst ps)
    | some (.dic ks ps) => some (.dic ks ps)
    | none => none
@[simp] theorem deP_v (S : Sto) (p : P) : deP S (.v p) = some p := rfl
section
variable {K : PySem.W.Frag} {m : Mp} {H : Hp} {S : Sto}
theorem isR_val {p : P} {v : V} (h : Is K (mask m H) p v) : IsR K m H p v := by
  cases p with
  | lst ps =>
    obtain ⟨a, xs, h1, h2, h3⟩ := h
    exact ⟨a, xs, h1, (mask_some h2).2, h3⟩
  | dic ks ps =>
    obtain ⟨a, xs, h1, h2, h4, h5, h3⟩ := h
    exact ⟨a, xs, h1, (mask_some h2).2, h4, h5, h3⟩
  | _ => exact h
theorem isR_of {d : D} {p : P} {v : V} (R : Rel K m H S) (h : IsD K m (mask m H) d v) (e : deP S d = some p) : IsR K m H p v := by
  cases d with
  | v q =>
    cases e
    exact isR_val h
  | r n =>
    obtain ⟨a, h1, h2⟩ := h
    unfold deP at e
    cases hS : S[n]? with
    | none => simp [hS] at e
    | some o =>
      have q := R.ob n a o h2 hS
      cases o with
      | lst ps =>
        simp [hS] at e
        subst e
        obtain ⟨xs, q1, q2⟩ := q
        exact ⟨a, xs, h1, q1, q2⟩
      | dic ks ps =>
        simp [hS] at e
        subst e
        obtain ⟨xs, q1, q2, q3, q4⟩ := q
        exact ⟨a, xs, h1, q1, q2, q3, q4⟩
theorem IsR.is {p : P} {v : V} (h : IsR K m H p v) : Is K H p v := by
  cases p with
  | lst ps =>
    obtain ⟨a, xs, h1, h2, h3⟩ := h
    exact ⟨a, xs, h1, h2, IsAll.mono (mask_ex m H) _ _ h3⟩
  | dic ks ps =>
    obtain ⟨a, xs, h1, h2, h4, h5, h3⟩ := h
    exact ⟨a, xs, h1, h2, h4, h5, IsAll.mono (mask_ex m H) _ _ h3⟩
  | tup ps =>
    obtain ⟨a, xs, h1, h2, h3⟩ := h
    exact ⟨a, xs, h1, sqT_mono (mask_ex m H) h2, IsAll.mono (mask_ex m H) _ _ h3⟩
  | frz ps =>
    obtain ⟨a, xs, h1, h2, h3⟩ := h
    exact ⟨a, xs, h1, sqL_mono (mask_ex m H) h2, IsAll.mono (mask_ex m H) _ _ h3⟩
  | non => exact h
  | bl b => exact h
  | int i => exact h
  | str x => exact h
  | fn x => exact h
end

section
variable {K : PySem.W.Frag} {m : Mp} {H : Hp} {S : Sto} {ps : List P} {xs : List V} {Q : VK}
theorem newTup (R : Rel K m H S) (i : IsAll K (mask m H) ps xs) (q : ∀ v m' H', Stp m H m' H' → Rel K m' H' S → Is K (mask m' H') (.tup ps) v → Q v H') : ∀ p, H p = none → Q (.ref p) (upd H p (.tup xs)) := fun p hp => by
  obtain ⟨R2, st2⟩ := R.fresh (o := .tup xs) hp
  refine q (.ref p) m _ st2 R2 ⟨p, xs, rfl, .inl (.inl ?_), st2.all i⟩
  rw [mask_upd (R.out hp)]
  exact upd_same
theorem newLst (R : Rel K m H S) (i : IsAll K (mask m H) ps xs) (q : ∀ v m' H', Stp m H m' H' → Rel K m' H' S → Is K (mask m' H') (.lst ps) v → Q v H') : ∀ p, H p = none → Q (.ref p) (upd H p (.lst xs)) := fun p hp => by
  obtain ⟨R2, st2⟩ := R.fresh (o := .lst xs) hp
  refine q (.ref p) m _ st2 R2 ⟨p, xs, rfl, ?_, st2.all i⟩
  rw [mask_upd (R.out hp)]
  exact upd_same
theorem boxLst (R : Rel K m H S) (i : IsAll K (mask m H) ps xs) (q : ∀ v m' H', Stp m H m' H' → Rel K m' H' (S ++ [.lst ps]) → IsD K m' (mask m' H') (.r S.length) v → Q v H') : ∀ p, H p = none → Q (.ref p) (upd H p (.lst xs)) := fun p hp => by
  obtain ⟨R2, st2⟩ := R.alloc (o := .lst xs) (x := .lst ps) hp fun H' st e => ⟨xs, e, st.all i⟩
  refine q (.ref p) _ _ st2 R2 ⟨p, rfl, ?_⟩
  show (_ ++ [p])[S.length]? = some p
  rw [List.getElem?_append_right (by rw [R.len]; exact Nat.le_refl _), R.len, Nat.sub_self]
  rfl
end

/-! ### data as the library's data -/
mutual
def toPy : P → Option PyData
  | .non => some .none
  | .bl b => some (.bool b)
  | .int i => some (.int i)
  | .str x => some (.str x)
  | .tup ps => (toPys ps).map .tuple
  | .lst ps => (toPys ps).map .list
  | .frz ps => (toPys ps).map .list
  | .dic _ _ => none
  | .fn _ => none
def toPys : List P → Option (List PyData)
  | [] => some []
  | p :: ps => match toPy p, toPys ps with
    | some d, some ds => some (d :: ds)
    | _, _ => none
end
section
variable {K : PySem.W.Frag} {H : Hp}
mutual
theorem Is.dp : ∀ (p : P) (v : V) (d : PyData), Is K H p v → toPy p = some d → Dp K H v d
  | .non, _, _, h, e => by cases e; cases h; exact .non
  | .bl b, _, _, h, e => by cases e; cases h; exact .bl b
  | .int i, _, _, h, e => by cases e; cases h; exact .int i
  | .str x, _, _, h, e => by cases e; cases h; exact .str x
  | .tup ps, _, _, ⟨a, xs, h1, h2, h3⟩, e => by
    subst h1
    unfold toPy at e
    cases hp : toPys ps with
    | none => rw [hp] at e; cases e
    | some ds => rw [hp] at e; cases e; exact .tup h2 (IsAll.dp ps xs ds h3 hp)
  | .lst ps, _, _, ⟨a, xs, h1, h2, h3⟩, e => by
    subst h1
    unfold toPy at e
    cases hp : toPys ps with
    | none => rw [hp] at e; cases e
    | some ds => rw [hp] at e; cases e; exact .lst (.of h2) (IsAll.dp ps xs ds h3 hp)
  | .frz ps, _, _, ⟨a, xs, h1, h2, h3⟩, e => by
    subst h1
    unfold toPy at e
    cases hp : toPys ps with
    | none => rw [hp] at e; cases e
    | some ds => rw [hp] at e; cases e; exact .lst h2 (IsAll.dp ps xs ds h3 hp)
  | .dic _ _, _, _, _, e => by cases e
  | .fn _, _, _, _, e => by cases e
theorem IsAll.dp : ∀ (ps : List P) (vs : List V) (ds : List PyData), IsAll K H ps vs → toPys ps = some ds → DpAll K H vs ds
  | [], _, _, h, e => by cases e; cases h; exact .nil
  | p :: ps, _, _, ⟨v, vs, h1, h2, h3⟩, e => by
    subst h1
    unfold toPys at e
    split at e
    · rename_i d ds hd hds
      cases e
      exact .cons (Is.dp p v d h2 hd) (IsAll.dp ps vs ds h3 hds)
    · cases e
end
end

/-! ### one and two places -/
def oP : Option P → Sto → Oc D
  | some q, S => .ok (.v q) S
  | none, _ => .bad
@[simp] theorem oP_some (q : P) (S : Sto) : oP (some q) S = .ok (.v q) S := rfl
@[simp] theorem oP_none (S : Sto) : oP none S = .bad := rfl
def lift1 (op : P → Option P) (d : D) (S : Sto) : Oc D := match deP S d with
  | some p => oP (op p) S
  | none => .bad
def lift2 (op : P → P → Option P) (d e : D) (S : Sto) : Oc D := match deP S d with
  | some p => match deP S e with
    | some q => oP (op p q) S
    | none => .bad
  | none => .bad
@[simp] theorem lift1_v (op : P → Option P) (p : P) (S : Sto) : lift1 op (.v p) S = oP (op p) S := rfl
@[simp] theorem lift2_v (op : P → P → Option P) (p q : P) (S : Sto) : lift2 op (.v p) (.v q) S = oP (op p q) S := rfl
def f1 (op : P → Option P) (f : FE) : FE := fun env S => (f env S).bind fun d S1 => lift1 op d S1
def f2 (op : P → P → Option P) (f g : FE) : FE := fun env S => (f env S).bind fun d S1 => (g env S1).bind fun e S2 => lift2 op d e S2
/-- what continues with a value -/
abbrev Kont (K : PySem.W.Frag) (m : Mp) (H : Hp) (S : Sto) (u : P) (Q : VK) : Prop := ∀ v m' H', Stp m H m' H' → Rel K m' H' S → Is K (mask m' H') u v → Q v H'
def Op1 (K : PySem.W.Frag) (r : V → Hp → VK → Prop) (op : P → Option P) : Prop :=
  ∀ m H S p u x Q, Rel K m H S → IsR K m H p x → op p = some u → Kont K m H S u Q → r x H Q
def Op2 (K : PySem.W.Frag) (r : R2) (op : P → P → Option P) : Prop :=
  ∀ m H S p q u x y Q, Rel K m H S → IsR K m H p x → IsR K m H q y → op p q = some u → Kont K m H S u Q → r x y H Q
theorem lift1_of {op : P → Option P} {d d' : D} {S S' : Sto} (h : lift1 op d S = .ok d' S') : ∃ p u, deP S d = some p ∧ op p = some u ∧ d' = .v u ∧ S' = S := by
  unfold lift1 at h
  cases e : deP S d with
  | none => rw [e] at h; cases h
  | some p =>
    rw [e] at h
    cases e2 : op p with
    | none => simp [e2] at h
    | some u => simp [e2] at h; exact ⟨p, u, rfl, e2, h.1.symm, h.2.symm⟩
theorem lift2_of {op : P → P → Option P} {d e d' : D} {S S' : Sto} (h : lift2 op d e S = .ok d' S') : ∃ p q u, deP S d = some p ∧ deP S e = some q ∧ op p q = some u ∧ d' = .v u ∧ S' = S := by
  unfold lift2 at h
  cases e1 : deP S d with
  | none => rw [e1] at h; cases h
  | some p =>
    rw [e1] at h
    cases e2 : deP S e with
    | none => rw [e2] at h; cases h
    | some q =>
      rw [e2] at h
      cases e3 : op p q with
      | none => simp [e3] at h
      | some u => simp [e3] at h; exact ⟨p, q, u, rfl, rfl, e3, h.1.symm, h.2.symm⟩
section
variable {K : PySem.W.Frag} {f g : FE} {σ : L2.St} {H : Hp} {Q : VK}
theorem td_op {r : R2} {op : P → P → Option P} (ho : Op2 K r op) (h : TD K (f2 op f g) σ H Q) : tOp r (TD K f) (TD K g) σ H Q := by
  obtain ⟨m, env, S, R, E, d', S', e1, q⟩ := h
  obtain ⟨d, S1, k1, e2⟩ := Oc.bind_eq e1
  obtain ⟨e, S2, k2, e3⟩ := Oc.bind_eq e2
  obtain ⟨p, p2, u, h1, h2, h3, rfl, rfl⟩ := lift2_of e3
  exact ⟨m, env, S, R, E, d, S1, k1, fun v m1 H1 st1 R1 i1 => ⟨m1, env, S1, R1, E.step st1, e, _, k2, fun w m2 H2 st2 R2 i2 =>
    ho m2 H2 _ p p2 u v w Q R2 (isR_of R2 (st2.is i1) h1) (isR_of R2 i2 h2) h3 fun x m3 H3 st3 R3 i3 => q x m3 H3 ((st1.trans st2).trans st3) R3 i3⟩⟩
theorem td_un {r : V → Hp → VK → Prop} {op : P → Option P} (ho : Op1 K r op) (h : TD K (f1 op f) σ H Q) : (TD K f) σ H fun x H1 => r x H1 Q := by
  obtain ⟨m, env, S, R, E, d', S', e1, q⟩ := h
  obtain ⟨d, S1, k1, e2⟩ := Oc.bind_eq e1
  obtain ⟨p, u, h1, h3, rfl, rfl⟩ := lift1_of e2
  exact ⟨m, env, S, R, E, d, _, k1, fun v m1 H1 st1 R1 i1 => ho m1 H1 _ p u v Q R1 (isR_of R1 i1 h1) h3 fun x m3 H3 st3 R3 i3 => q x m3 H3 (st1.trans st3) R3 i3⟩
end
theorem opr_or {X : Cx} {f : Value → Value → Sem Value} {r r' : R2} (h : OpR X f r) (h' : OpR X f r') : OpR X f (fun x y H Q => r x y H Q ∨ r' x y H Q) := by
  intro pins s σ H x y v u Q I rx ry q
  rcases q with q | q
  · exact h pins s σ H x y v u Q I rx ry q
  · exact h' pins s σ H x y v u Q I rx ry q

/-! ### arithmetic -/
def pAdd : P → P → Option P
  | .int i, .int j => some (.int (i + j))
  | .str x, .str y => if x.length + y.length ≤ 100000 then some (.str (x ++ y)) else none
  | .tup a, .tup b => if a.length + b.length ≤ 100000 then some (.tup (a ++ b)) else none
  | .lst a, .lst b => if a.length + b.length ≤ 100000 then some (.lst (a ++ b)) else none
  | _, _ => none
def pSub : P → P → Option P
  | .int i, .int j => some (.int (i - j))
  | _, _ => none
def pMul : P → P → Option P
  | .int i, .int j => if -(2 ^ 64) < j ∧ j < 2 ^ 64 then some (.int (i * j)) else if -(2 ^ 64) < i ∧ i < 2 ^ 64 then some (.int (i * j)) else none
  | .lst a, .int k => if 0 ≤ k ∧ k ≤ 1000 ∧ a.length ≤ 100 then some (.lst (List.replicate k.toNat a).flatten) else none
  | .tup a, .int k => if a.length ≤ 1000 ∧ a ≠ [] ∧ 2 ≤ k ∧ k ≤ 1000 then some (.tup (List.replicate k.toNat a).flatten) else if k = 1 then some (.tup a) else if k = 0 ∧ a ≠ [] then some (.tup []) else none
  | _, _ => none
def pFdiv : P → P → Option P
  | .int i, .int j => if 0 < j ∧ j < 1073741824 then some (.int (i / j)) else none
  | _, _ => none
def pMod : P → P → Option P
  | .int i, .int j => if 0 < j then some (.int (i % j)) else none
  | _, _ => none
def pPow : P → P → Option P
  | .int i, .int j => if 0 ≤ j ∧ j ≤ 1000000 ∧ i.natAbs < 2 ^ 64 then some (.int (i ^ j.toNat)) else none
  | _, _ => none
def pShl : P → P → Option P
  | .int i, .int j => if 0 ≤ j ∧ j ≤ 1000000 ∧ i.natAbs < 2 ^ 64 then some (.int (i * 2 ^ j.toNat)) else none
  | _, _ => none
def pShr : P → P → Option P
  | .int i, .int j => if 0 ≤ j then some (.int (i / 2 ^ j.toNat)) else none
  | _, _ => none
def pAnd : P → P → Option P
  | .int i, .int j => some (.int (Builtin.bitAnd i j))
  | _, _ => none
def pOr : P → P → Option P
  | .int i, .int j => some (.int (Builtin.bitOr i j))
  | _, _ => none
def pNeg : P → Option P
  | .int i => some (.int (-i))
  | _ => none
def pInv : P → Option P
  | .int i => some (.int (Builtin.bitNot i))
  | _ => none
theorem Kont.here {K : PySem.W.Frag} {m : Mp} {H : Hp} {S : Sto} {u : P} {Q : VK} {v : V} (k : Kont K m H S u Q) (R : Rel K m H S) (h : Is K (mask m H) u v) : Q v H := k v m H (Stp.refl m H) R h
section
variable {K : PySem.W.Frag}
/-- two ints in, one out -/
theorem op2_int {C : Int → Int → Prop} {g : Int → Int → Int} {op : P → P → Option P} (h : ∀ p q u, op p q = some u → ∃ i j, p = .int i ∧ q = .int j ∧ C i j ∧ u = .int (g i j)) : Op2 K (rI C fun i j => .int (g i j)) op := by
  intro m H S p q u x y Q R hx hy e k
  obtain ⟨i, j, rfl, rfl, hc, rfl⟩ := h p q u e
  exact ⟨i, j, hx, hy, hc, k.here R rfl⟩
theorem op2_int0 {g : Int → Int → Int} {op : P → P → Option P} (h : ∀ p q u, op p q = some u → ∃ i j, p = .int i ∧ q = .int j ∧ u = .int (g i j)) : Op2 K (rI0 fun i j => .int (g i j)) op := by
  intro m H S p q u x y Q R hx hy e k
  obtain ⟨i, j, rfl, rfl, rfl⟩ := h p q u e
  exact ⟨i, j, hx, hy, k.here R rfl⟩
end
section
variable {X : Cx} {a b : Expr} {f g : FE} {pos : Pos}
abbrev rAddAll (K : PySem.W.Frag) : R2 := fun x y H Q => ((rI0 fun i j => .int (i + j)) x y H Q ∨ (∃ i j, x = .str i ∧ y = .str j ∧ i.length + j.length ≤ sizeLine ∧ Q (.str (i ++ j)) H)) ∨ (rCatA K x y H Q ∨ rCat x y H Q)
theorem opr_add : OpR X (binaryOp .Add) (rAddAll X.K) := opr_or (opr_or op_add op_add_str) (opr_or op_catA op_cat)
theorem op2_add {K : PySem.W.Frag} : Op2 K (rAddAll K) pAdd := by
  intro m H S p q u x y Q R hx hy e k
  unfold pAdd at e
  split at e
  · cases e
    exact .inl (.inl ⟨_, _, hx, hy, k.here R rfl⟩)
  · split at e
    · rename_i hl
      cases e
      exact .inl (.inr ⟨_, _, hx, hy, size_of hl, k.here R rfl⟩)
    · cases e
  · rename_i A B
    split at e
    · rename_i hl
      cases e
      obtain ⟨a, xs, rfl, hsx, hax⟩ := hx
      obtain ⟨b, ys, rfl, hsy, hay⟩ := hy
      refine .inr (.inl ⟨a, b, xs, ys, rfl, rfl, sqT_mono (mask_ex m H) hsx, sqT_mono (mask_ex m H) hsy, ?_, ?_, ?_, ?_⟩)
      · rw [← hax.len, ← hay.len]; exact size_of hl
      · intro hz
        subst hz
        have : A = [] := by have := hax.len; simpa using this
        subst this
        exact k.here R ⟨b, ys, rfl, hsy, hay⟩
      · intro _ hz
        subst hz
        have : B = [] := by have := hay.len; simpa using this
        subst this
        rw [List.append_nil] at k
        exact k.here R ⟨a, xs, rfl, hsx, hax⟩
      · exact fun _ _ => newTup R (hax.append hay) k
    · cases e
  · split at e
    · rename_i hl
      cases e
      obtain ⟨a, xs, rfl, hsx, hax⟩ := hx
      obtain ⟨b, ys, rfl, hsy, hay⟩ := hy
      exact .inr (.inr ⟨a, b, xs, ys, rfl, rfl, hsx, hsy, by rw [← hax.len, ← hay.len]; exact size_of hl, newLst R (hax.append hay) k⟩)
    · cases e
  · cases e
theorem d_add (ha : PEd X a f) (hb : PEd X b g) : PEd X (.BinOp a .Add b pos) (f2 pAdd f g) := pe_weak (pe_op opr_add ha hb) fun _ _ _ => td_op op2_add
theorem d_sub (ha : PEd X a f) (hb : PEd X b g) : PEd X (.BinOp a .Sub b pos) (f2 pSub f g) := pe_weak (pe_op op_sub ha hb) fun _ _ _ => td_op (op2_int0 (g := fun i j => i - j) fun p q u e => by
  unfold pSub at e
  split at e
  · cases e; exact ⟨_, _, rfl, rfl, rfl⟩
  · cases e)
abbrev rMulAll (K : PySem.W.Frag) : R2 := fun x y H Q => (rI CMul fun i j => .int (i * j)) x y H Q ∨ (rRep x y H Q ∨ (rRepT K x y H Q ∨ (ZM.rOne K x y H Q ∨ ZM.rZero K x y H Q)))
theorem all_flat {K : PySem.W.Frag} {G : Hp} {ps : List P} {xs : List V} (h : IsAll K G ps xs) : ∀ n : Nat, IsAll K G (List.replicate n ps).flatten (List.replicate n xs).flatten
  | 0 => rfl
  | n + 1 => by
    rw [List.replicate_succ, List.replicate_succ, List.flatten_cons, List.flatten_cons]
    exact h.append (all_flat h n)
theorem op2_mul {K : PySem.W.Frag} : Op2 K (rMulAll K) pMul := by
  intro m H S p q u x y Q R hx hy e k
  unfold pMul at e
  split at e
  · split at e
    · rename_i hc
      cases e
      exact .inl ⟨_, _, hx, hy, .inr hc, k.here R rfl⟩
    · split at e
      · rename_i hc
        cases e
        exact .inl ⟨_, _, hx, hy, .inl hc, k.here R rfl⟩
      · cases e
  · rename_i A n
    split at e
    · rename_i hc
      cases e
      obtain ⟨a, xs, rfl, hsx, hax⟩ := hx
      have hl := hax.len
      refine .inr (.inl ⟨a, n, xs, rfl, hy, hsx, by omega, by omega, ?_, ?_⟩)
      · refine Nat.le_trans (Nat.mul_le_mul (show xs.length ≤ 100 by omega) (show n.toNat ≤ 1000 by omega)) (by decide)
      · exact newLst R (all_flat hax n.toNat) k
    · cases e
  · rename_i A n
    split at e
    · rename_i hc
      cases e
      obtain ⟨a, xs, rfl, hsx, hax⟩ := hx
      have hl := hax.len
      refine .inr (.inr (.inl ⟨a, n, xs, rfl, hy, sqT_mono (mask_ex m H) hsx, ?_, by omega, by omega, by omega, newTup R (all_flat hax n.toNat) k⟩))
      intro hz
      subst hz
      exact hc.2.1 (by simpa using hl)
    · split at e
      · rename_i hn
        subst hn
        cases e
        obtain ⟨a, xs, rfl, hsx, hax⟩ := hx
        exact .inr (.inr (.inr (.inl ⟨a, xs, rfl, hy, sqT_mono (mask_ex m H) hsx, k.here R ⟨a, xs, rfl, hsx, hax⟩⟩)))
      · split at e
        · rename_i hn0 hc0
          obtain ⟨rfl, hne⟩ := hc0
          cases e
          obtain ⟨a, xs, rfl, hsx, hax⟩ := hx
          have hl := hax.len
          refine .inr (.inr (.inr (.inr ⟨a, xs, rfl, hy, sqT_mono (mask_ex m H) hsx, fun hz => ?_, newTup (ps := []) R rfl k⟩)))
          subst hz
          exact hne (by simpa using hl)
        · cases e
  · cases e
end
end DL

/-! DLc: more operators, comparisons, tests, subscripts, slices. -/
namespace DL
open PySem PySem.Spec PyProof.Rows L2

/-- what a body's rules lean on -/
structure SX (X : Cx) : Prop where
  calm : X.calm = true
  nd : X.N.Nodup
  units : X.A.units + 200 < cLine
  guards : X.A.guards = some []

section
variable {X : Cx} {a b : Expr} {f g : FE} {pos : Pos}
theorem d_mul (ha : PEd X a f) (hb : PEd X b g) : PEd X (.BinOp a .Mult b pos) (f2 pMul f g) := pe_weak (pe_op (opr_or op_mul (opr_or op_rep (opr_or op_repT (opr_or ZM.op_one ZM.op_zero)))) ha hb) fun _ _ _ => td_op op2_mul
theorem d_fdiv (ha : PEd X a f) (hb : PEd X b g) : PEd X (.BinOp a .FloorDiv b pos) (f2 pFdiv f g) := pe_weak (pe_op op_fdiv ha hb) fun _ _ _ => td_op (op2_int (C := CDiv) (g := fun i j => i / j) fun p q u e => by
  unfold pFdiv at e
  split at e
  · split at e
    · rename_i h; cases e; exact ⟨_, _, rfl, rfl, h, rfl⟩
    · cases e
  · cases e)
theorem d_mod (ha : PEd X a f) (hb : PEd X b g) : PEd X (.BinOp a .Mod b pos) (f2 pMod f g) := pe_weak (pe_op op_mod ha hb) fun _ _ _ => td_op (op2_int (g := fun i j => i % j) fun p q u e => by
  unfold pMod at e
  split at e
  · split at e
    · rename_i h; cases e; exact ⟨_, _, rfl, rfl, h, rfl⟩
    · cases e
  · cases e)
theorem d_pow (ha : PEd X a f) (hb : PEd X b g) : PEd X (.BinOp a .Pow b pos) (f2 pPow f g) := pe_weak (pe_op op_pow ha hb) fun _ _ _ => td_op (op2_int (C := CPow) (g := fun i j => i ^ j.toNat) fun p q u e => by
  unfold pPow at e
  split at e
  · split at e
    · rename_i h; cases e; exact ⟨_, _, rfl, rfl, h, rfl⟩
    · cases e
  · cases e)
theorem d_shl (ha : PEd X a f) (hb : PEd X b g) : PEd X (.BinOp a .LShift b pos) (f2 pShl f g) := pe_weak (pe_op op_shl ha hb) fun _ _ _ => td_op (op2_int (C := CPow) (g := fun i j => i * 2 ^ j.toNat) fun p q u e => by
  unfold pShl at e
  split at e
  · split at e
    · rename_i h; cases e; exact ⟨_, _, rfl, rfl, h, rfl⟩
    · cases e
  · cases e)
theorem d_shr (ha : PEd X a f) (hb : PEd X b g) : PEd X (.BinOp a .RShift b pos) (f2 pShr f g) := pe_weak (pe_op op_shr ha hb) fun _ _ _ => td_op (op2_int (g := fun i j => i / 2 ^ j.toNat) fun p q u e => by
  unfold pShr at e
  split at e
  · split at e
    · rename_i h; cases e; exact ⟨_, _, rfl, rfl, h, rfl⟩
    · cases e
  · cases e)
theorem d_band (ha : PEd X a f) (hb : PEd X b g) : PEd X (.BinOp a .BitAnd b pos) (f2 pAnd f g) := pe_weak (pe_op op_and ha hb) fun _ _ _ => td_op (op2_int0 (g := fun i j => Builtin.bitAnd i j) fun p q u e => by
  unfold pAnd at e
  split at e
  · cases e; exact ⟨_, _, rfl, rfl, rfl⟩
  · cases e)
theorem d_bor (ha : PEd X a f) (hb : PEd X b g) : PEd X (.BinOp a .BitOr b pos) (f2 pOr f g) := pe_weak (pe_op op_or ha hb) fun _ _ _ => td_op (op2_int0 (g := fun i j => Builtin.bitOr i j) fun p q u e => by
  unfold pOr at e
  split at e
  · cases e; exact ⟨_, _, rfl, rfl, rfl⟩
  · cases e)
theorem d_neg (ha : PEd X a f) : PEd X (.UnaryOp .USub a pos) (f1 pNeg f) := pe_weak (pe_un un_neg ha) fun _ _ _ => td_un (r := rU fun i => .int (-i)) fun m H S p u x Q R hx e k => by
  unfold pNeg at e
  split at e
  · cases e; exact ⟨_, hx, k.here R rfl⟩
  · cases e
theorem d_inv (ha : PEd X a f) : PEd X (.UnaryOp .Invert a pos) (f1 pInv f) := pe_weak (pe_un un_inv ha) fun _ _ _ => td_un (r := rU fun i => .int (Builtin.bitNot i)) fun m H S p u x Q R hx e k => by
  unfold pInv at e
  split at e
  · cases e; exact ⟨_, hx, k.here R rfl⟩
  · cases e
end

/-! ### comparisons -/
def pEq (p q : P) : Option P := match toPy p with
  | some d => match toPy q with
    | some e => if SeqAt.shaped d = true ∧ SeqAt.shaped e = true then some (.bl (PyData.eqv d e)) else none
    | none => none
  | none => none
def pNe (p q : P) : Option P := match toPy p with
  | some d => match toPy q with
    | some e => if SeqAt.shaped d = true ∧ SeqAt.shaped e = true then some (.bl (!PyData.eqv d e)) else none
    | none => none
  | none => none
def pIsN : P → P → Option P
  | .non, .non => some (.bl true)
  | _, .non => some (.bl false)
  | _, _ => none
def pNotN : P → P → Option P
  | .non, .non => some (.bl false)
  | _, .non => some (.bl true)
  | _, _ => none
def pLt : P → P → Option P
  | .int i, .int j => some (.bl (decide (i < j)))
  | .str x, .str y => some (.bl (decide (x.cps.toList < y.cps.toList)))
  | _, _ => none
def pLe : P → P → Option P
  | .int i, .int j => some (.bl (decide (i ≤ j)))
  | _, _ => none
def pGt : P → P → Option P
  | .int i, .int j => some (.bl (decide (j < i)))
  | _, _ => none
def pGe : P → P → Option P
  | .int i, .int j => some (.bl (decide (j ≤ i)))
  | _, _ => none
/-- a key of a dict -/
def pKey : P → Option Key
  | .int i => some (.inl i)
  | .str x => some (.inr x)
  | _ => none
def look (ks : List Key) (ps : List P) (k : Key) : Option P := ((ks.zip ps).find? fun kv => decide (kv.1 = k)).map (·.2)
def canD (d : PyData) : Bool := d.canLay0 && decide (d.depth ≤ 64)
def pInB (x : P) : P → Option Bool
  | .dic ks ps => match pKey x with
    | some k => some (look ks ps k).isSome
    | none => none
  | .str y => match x with
    | .str z => some (!(Builtin.Str.occurrences y z 0 y.length 1).isEmpty)
    | _ => none
  | c => match toPy c with
    | some (.list xs) => match toPy x with
      | some d => if PyData.canLayAll0 xs = true ∧ canD d = true then some (xs.any fun y => PyData.eqv y d) else none
      | none => none
    | some (.tuple xs) => match toPy x with
      | some d => if PyData.canLayAll0 xs = true ∧ canD d = true then some (xs.any fun y => PyData.eqv y d) else none
      | none => none
    | _ => none
def pIn (x c : P) : Option P := (pInB x c).map .bl
def pNotIn (x c : P) : Option P := (pInB x c).map fun b => .bl (!b)
section
variable {K : PySem.W.Frag} {X : Cx}
theorem op2_eq : Op2 K (rEqD K) pEq := by
  intro m H S p q u x y Q R hx hy e k
  unfold pEq at e
  split at e
  · rename_i d hd
    split at e
    · rename_i d2 hd2
      split at e
      · rename_i hs
        cases e
        exact ⟨d, d2, Is.dp p x d hx.is hd, Is.dp q y d2 hy.is hd2, hs.1, hs.2, k.here R rfl⟩
      · cases e
    · cases e
  · cases e
theorem op2_ne : Op2 K (rNeD K) pNe := by
  intro m H S p q u x y Q R hx hy e k
  unfold pNe at e
  split at e
  · rename_i d hd
    split at e
    · rename_i d2 hd2
      split at e
      · rename_i hs
        cases e
        exact ⟨d, d2, Is.dp p x d hx.is hd, Is.dp q y d2 hy.is hd2, hs.1, hs.2, k.here R rfl⟩
      · cases e
    · cases e
  · cases e
theorem isR_non {m : Mp} {H : Hp} {p : P} {x : V} (h : IsR K m H p x) : decide (x = .non) = (match p with | .non => true | _ => false) := by
  cases p with
  | non => have h' : x = .non := h; subst h'; rfl
  | bl b => have h' : x = .bl b := h; subst h'; rfl
  | int i => have h' : x = .int i := h; subst h'; rfl
  | str y => have h' : x = .str y := h; subst h'; rfl
  | tup ps => obtain ⟨a, xs, h1, _⟩ := h; subst h1; rfl
  | lst ps => obtain ⟨a, xs, h1, _⟩ := h; subst h1; rfl
  | frz ps => obtain ⟨a, xs, h1, _⟩ := h; subst h1; rfl
  | dic ks ps => obtain ⟨a, xs, h1, _⟩ := h; subst h1; rfl
  | fn y => exact h.elim
theorem op2_isN : Op2 K (fun x y H Q => y = .non ∧ Q (.bl (decide (x = .non))) H) pIsN := by
  intro m H S p q u x y Q R hx hy e k
  unfold pIsN at e
  split at e
  · cases e
    refine ⟨hy, k.here R ?_⟩
    rw [isR_non hx]
    rfl
  · rename_i hp
    cases e
    refine ⟨hy, k.here R ?_⟩
    rw [isR_non hx]
    cases p with
    | non => exact (hp rfl).elim
    | _ => rfl
  · cases e
theorem op2_notN : Op2 K (fun x y H Q => y = .non ∧ Q (.bl (!decide (x = .non))) H) pNotN := by
  intro m H S p q u x y Q R hx hy e k
  unfold pNotN at e
  split at e
  · cases e
    refine ⟨hy, k.here R ?_⟩
    rw [isR_non hx]
    rfl
  · rename_i hp
    cases e
    refine ⟨hy, k.here R ?_⟩
    rw [isR_non hx]
    cases p with
    | non => exact (hp rfl).elim
    | _ => rfl
  · cases e
/-- the keys of a dict -/
theorem pKey_is {m : Mp} {H : Hp} {p : P} {x : V} {k : Key} (h : IsR K m H p x) (e : pKey p = some k) : x = kV k := by
  unfold pKey at e
  split at e
  · cases e; exact h
  · cases e; exact h
  · cases e
theorem look_is {G : Hp} : ∀ {ks : List Key} {ps : List P} {xs : List V} {k : Key}, IsAll K G ps xs → (∀ p, look ks ps k = some p → ∃ v, valV (ks.zip xs) k = some v ∧ Is K G p v) ∧ ((look ks ps k).isSome = (valV (ks.zip xs) k).isSome)
  | [], ps, xs, k, h => ⟨fun p e => by simp [look] at e, by simp [look, valV]⟩
  | j :: ks, [], xs, k, h => by
    have h' : xs = [] := h
    subst h'
    exact ⟨fun p e => by simp [look] at e, by simp [look, valV]⟩
  | j :: ks, p :: ps, xs, k, ⟨v, vs, h1, h2, h3⟩ => by
    subst h1
    by_cases hj : j = k
    · have e1 : look (j :: ks) (p :: ps) k = some p := by simp [look, hj]
      have e2 : valV ((j :: ks).zip (v :: vs)) k = some v := by simp [valV, hj]
      rw [e1, e2]
      exact ⟨fun q e => by cases e; exact ⟨v, rfl, h2⟩, rfl⟩
    · have e1 : look (j :: ks) (p :: ps) k = look ks ps k := by simp [look, hj]
      have e2 : valV ((j :: ks).zip (v :: vs)) k = valV (ks.zip vs) k := by simp [valV, hj]
      rw [e1, e2]
      exact look_is h3
/-- x in d, over anything that may be asked -/
theorem opr_in (hX : SX X) : OpR X (compareOp .In) (fun x y H Q => (∃ a o, y = .ref a ∧ DGet H a x o ∧ Q (.bl o.isSome) H) ∨ (∃ i j, x = .str i ∧ y = .str j ∧ Q (.bl (!(Builtin.Str.occurrences j i 0 j.length 1).isEmpty)) H) ∨
    (∃ xs d, (Dp X.K H y (.list xs) ∨ Dp X.K H y (.tuple xs)) ∧ Dp X.K H x d ∧ PyData.canLayAll0 xs = true ∧ canD d = true ∧ Q (.bl (xs.any fun z => PyData.eqv z d)) H)) := by
  intro pins s σ H x y v u Q I rx ry h
  have hu := hX.units
  rcases h with ⟨a, o, rfl, hg, q⟩ | ⟨i, j, rfl, rfl, q⟩ | ⟨xs, d, hc, hd, h1, h2, q⟩
  · obtain rfl : u = Value.ref a := ry
    exact d_in (by omega) I hg rx fun s' I' => ⟨.bl o.isSome, H, I', rfl, q⟩
  · exact op_in_str pins s σ H _ _ v u Q I rx ry ⟨i, j, rfl, rfl, q⟩
  · obtain ⟨h3, h4⟩ := Bool.and_eq_true_iff.mp h2
    have h5 : d.depth ≤ 64 := of_decide_eq_true h4
    obtain ⟨bs, rd⟩ := Dp.reads I d x v hd rx
    rcases hc with hc | hc
    · obtain ⟨as, rc⟩ := Dp.reads I _ y u hc ry
      exact SeqAt.in_list_reads rc rd h1 h3 (by omega) ⟨.bl _, H, I, rfl, q⟩
    · obtain ⟨as, rc⟩ := Dp.reads I _ y u hc ry
      exact SeqAt.in_tuple_reads rc rd h1 h3 (by omega) ⟨.bl _, H, I, rfl, q⟩
theorem opr_notIn (hX : SX X) : OpR X (compareOp .NotIn) (fun x y H Q => (∃ a o, y = .ref a ∧ DGet H a x o ∧ Q (.bl (!o.isSome)) H) ∨ (∃ i j, x = .str i ∧ y = .str j ∧ Q (.bl (!(!(Builtin.Str.occurrences j i 0 j.length 1).isEmpty))) H) ∨
    (∃ xs d, (Dp X.K H y (.list xs) ∨ Dp X.K H y (.tuple xs)) ∧ Dp X.K H x d ∧ PyData.canLayAll0 xs = true ∧ canD d = true ∧ Q (.bl (!xs.any fun z => PyData.eqv z d)) H)) := by
  intro pins s σ H x y v u Q I rx ry h
  have hu := hX.units
  rcases h with ⟨a, o, rfl, hg, q⟩ | ⟨i, j, rfl, rfl, q⟩ | ⟨xs, d, hc, hd, h1, h2, q⟩
  · obtain rfl : u = Value.ref a := ry
    exact d_notIn (by omega) I hg rx fun s' I' => ⟨.bl (!o.isSome), H, I', rfl, q⟩
  · exact op_notIn_str pins s σ H _ _ v u Q I rx ry ⟨i, j, rfl, rfl, q⟩
  · obtain ⟨h3, h4⟩ := Bool.and_eq_true_iff.mp h2
    have h5 : d.depth ≤ 64 := of_decide_eq_true h4
    obtain ⟨bs, rd⟩ := Dp.reads I d x v hd rx
    rcases hc with hc | hc
    · obtain ⟨as, rc⟩ := Dp.reads I _ y u hc ry
      exact SeqAt.notIn_list_reads rc rd h1 h3 (by omega) ⟨.bl _, H, I, rfl, q⟩
    · obtain ⟨as, rc⟩ := Dp.reads I _ y u hc ry
      exact SeqAt.notIn_tuple_reads rc rd h1 h3 (by omega) ⟨.bl _, H, I, rfl, q⟩
theorem inB_is {m : Mp} {H : Hp} {p c : P} {x y : V} {b : Bool} (hx : IsR K m H p x) (hy : IsR K m H c y) (e : pInB p c = some b) :
    (∃ a o, y = .ref a ∧ DGet H a x o ∧ o.isSome = b) ∨ (∃ i j, x = .str i ∧ y = .str j ∧ (!(Builtin.Str.occurrences j i 0 j.length 1).isEmpty) = b) ∨
    (∃ xs d, (Dp K H y (.list xs) ∨ Dp K H y (.tuple xs)) ∧ Dp K H x d ∧ PyData.canLayAll0 xs = true ∧ canD d = true ∧ (xs.any fun z => PyData.eqv z d) = b) := by
  unfold pInB at e
  split at e
  · rename_i ks ps
    split at e
    · rename_i k hk
      cases e
      obtain ⟨a, xs, rfl, h1, h2, h3, h4⟩ := hy
      have ex := pKey_is hx hk
      subst ex
      refine .inl ⟨a, valV (ks.zip xs) k, rfl, DGet.k h1, ?_⟩
      exact (look_is h4).2.symm
    · cases e
  · rename_i z
    split at e
    · rename_i w
      cases e
      exact .inr (.inl ⟨w, z, hx, hy, rfl⟩)
    · cases e
  · split at e
    · rename_i xs hc
      split at e
      · rename_i d hd
        split at e
        · rename_i hs
          cases e
          exact .inr (.inr ⟨xs, d, .inl (Is.dp c y _ hy.is hc), Is.dp p x d hx.is hd, hs.1, hs.2, rfl⟩)
        · cases e
      · cases e
    · rename_i xs hc
      split at e
      · rename_i d hd
        split at e
        · rename_i hs
          cases e
          exact .inr (.inr ⟨xs, d, .inr (Is.dp c y _ hy.is hc), Is.dp p x d hx.is hd, hs.1, hs.2, rfl⟩)
        · cases e
      · cases e
    · cases e
end
section
variable {X : Cx} {a b : Expr} {f g : FE} {pos : Pos}
theorem d_eq (hX : SX X) (ha : PEd X a f) (hb : PEd X b g) : PEd X (.Compare a [.Eq] [b] pos) (f2 pEq f g) := pe_weak (pe_cmpR (op_eqD (by have := hX.units; omega)) ha hb (nobehind _ (by decide) (by decide))) fun _ _ _ => td_op op2_eq
theorem d_ne (hX : SX X) (ha : PEd X a f) (hb : PEd X b g) : PEd X (.Compare a [.NotEq] [b] pos) (f2 pNe f g) := pe_weak (pe_cmpR (op_neD (by have := hX.units; omega)) ha hb (nobehind _ (by decide) (by decide))) fun _ _ _ => td_op op2_ne
theorem d_isN (ha : PEd X a f) (hb : PEd X b g) : PEd X (.Compare a [.Is] [b] pos) (f2 pIsN f g) := pe_weak (pe_cmpR op_isN ha hb (nobehind _ (by decide) (by decide))) fun _ _ _ => td_op op2_isN
theorem d_notN (ha : PEd X a f) (hb : PEd X b g) : PEd X (.Compare a [.IsNot] [b] pos) (f2 pNotN f g) := pe_weak (pe_cmpR op_notN ha hb (nobehind _ (by decide) (by decide))) fun _ _ _ => td_op op2_notN
theorem d_lt (ha : PEd X a f) (hb : PEd X b g) : PEd X (.Compare a [.Lt] [b] pos) (f2 pLt f g) := pe_weak (pe_cmpR (opr_or op_lt op_lt_str) ha hb (nobehind _ (by decide) (by decide))) fun _ _ _ => td_op fun m H S p q u x y Q R hx hy e k => by
  unfold pLt at e
  split at e
  · cases e; exact .inl ⟨_, _, hx, hy, k.here R rfl⟩
  · cases e; exact .inr ⟨_, _, hx, hy, k.here R rfl⟩
  · cases e
theorem d_le (ha : PEd X a f) (hb : PEd X b g) : PEd X (.Compare a [.LtE] [b] pos) (f2 pLe f g) := pe_weak (pe_cmpR op_le ha hb (nobehind _ (by decide) (by decide))) fun _ _ _ => td_op fun m H S p q u x y Q R hx hy e k => by
  unfold pLe at e
  split at e
  · cases e; exact ⟨_, _, hx, hy, k.here R rfl⟩
  · cases e
theorem d_gt (ha : PEd X a f) (hb : PEd X b g) : PEd X (.Compare a [.Gt] [b] pos) (f2 pGt f g) := pe_weak (pe_cmpR op_gt ha hb (nobehind _ (by decide) (by decide))) fun _ _ _ => td_op fun m H S p q u x y Q R hx hy e k => by
  unfold pGt at e
  split at e
  · cases e; exact ⟨_, _, hx, hy, k.here R rfl⟩
  · cases e
theorem d_ge (ha : PEd X a f) (hb : PEd X b g) : PEd X (.Compare a [.GtE] [b] pos) (f2 pGe f g) := pe_weak (pe_cmpR op_ge ha hb (nobehind _ (by decide) (by decide))) fun _ _ _ => td_op fun m H S p q u x y Q R hx hy e k => by
  unfold pGe at e
  split at e
  · cases e; exact ⟨_, _, hx, hy, k.here R rfl⟩
  · cases e
theorem d_in (hX : SX X) (ha : PEd X a f) (hb : PEd X b g) (hm : behindInMarks .In b = false := by rfl) : PEd X (.Compare a [.In] [b] pos) (f2 pIn f g) := pe_weak (pe_cmpR (opr_in hX) ha hb hm) fun _ _ _ => td_op fun m H S p q u x y Q R hx hy e k => by
  unfold pIn at e
  cases hb : pInB p q with
  | none => rw [hb] at e; cases e
  | some b =>
    rw [hb] at e
    cases e
    rcases inB_is hx hy hb with ⟨a, o, h1, h2, rfl⟩ | ⟨i, j, h1, h2, rfl⟩ | ⟨xs, d, h1, h2, h3, h4, rfl⟩
    · exact .inl ⟨a, o, h1, h2, k.here R rfl⟩
    · exact .inr (.inl ⟨i, j, h1, h2, k.here R rfl⟩)
    · exact .inr (.inr ⟨xs, d, h1, h2, h3, h4, k.here R rfl⟩)
theorem d_notIn (hX : SX X) (ha : PEd X a f) (hb : PEd X b g) (hm : behindInMarks .NotIn b = false := by rfl) : PEd X (.Compare a [.NotIn] [b] pos) (f2 pNotIn f g) := pe_weak (pe_cmpR (opr_notIn hX) ha hb hm) fun _ _ _ => td_op fun m H S p q u x y Q R hx hy e k => by
  unfold pNotIn at e
  cases hb : pInB p q with
  | none => rw [hb] at e; cases e
  | some b =>
    rw [hb] at e
    cases e
    rcases inB_is hx hy hb with ⟨a, o, h1, h2, rfl⟩ | ⟨i, j, h1, h2, rfl⟩ | ⟨xs, d, h1, h2, h3, h4, rfl⟩
    · exact .inl ⟨a, o, h1, h2, k.here R rfl⟩
    · exact .inr (.inl ⟨i, j, h1, h2, k.here R rfl⟩)
    · exact .inr (.inr ⟨xs, d, h1, h2, h3, h4, k.here R rfl⟩)
end

/-! ### tests -/
def truP : P → Option Bool
  | .non => some false
  | .bl b => some b
  | .int i => some (i != 0)
  | .str x => if x.length ≤ 100000 then some ((x.length : Int) != 0) else none
  | .tup ps => some (!ps.isEmpty)
  | .lst ps => some (!ps.isEmpty)
  | .frz ps => some (!ps.isEmpty)
  | .dic ks _ => some (!ks.isEmpty)
  | .fn _ => none
def fTru (f : FE) : FT := fun env S => (f env S).bind fun d S1 => match deP S1 d with
  | some p => match truP p with
    | some b => .ok b S1
    | none => .bad
  | none => .bad
def fAnd (f g : FT) : FT := fun env S => (f env S).bind fun b S1 => if b = true then g env S1 else .ok false S1
def fOr (f g : FT) : FT := fun env S => (f env S).bind fun b S1 => if b = true then .ok true S1 else g env S1
def fNot (f : FT) : FT := fun env S => (f env S).bind fun b S1 => .ok (!b) S1
/-- a test as a value -/
def fB (f : FT) : FE := fun env S => (f env S).bind fun b S1 => .ok (.v (.bl b)) S1
def fIte (t : FT) (f g : FE) : FE := fun env S => (t env S).bind fun b S1 => if b = true then f env S1 else g env S1
theorem isEmpty_len {α β : Type} {xs : List α} {ys : List β} (h : xs.length = ys.length) : xs.isEmpty = ys.isEmpty := by
  cases xs <;> cases ys <;> simp at h ⊢
theorem truP_is {K : PySem.W.Frag} {m : Mp} {H : Hp} {p : P} {x : V} {b : Bool} (h : IsR K m H p x) (e : truP p = some b) : TruV K x H b := by
  cases p with
  | non => have h' : x = .non := h; subst h'; cases e; rfl
  | bl c => have h' : x = .bl c := h; subst h'; cases e; rfl
  | int i => have h' : x = .int i := h; subst h'; cases e; rfl
  | str y =>
    have h' : x = .str y := h
    subst h'
    have e : (if y.length ≤ 100000 then some ((y.length : Int) != 0) else none) = some b := e
    split at e
    · rename_i hl
      cases e
      exact ⟨size_of hl, rfl⟩
    · cases e
  | tup ps =>
    obtain ⟨a, xs, rfl, h1, h2⟩ := h
    cases e
    exact .inr (.inl ⟨xs, sqT_mono (mask_ex m H) h1, by rw [isEmpty_len h2.len]⟩)
  | lst ps =>
    obtain ⟨a, xs, rfl, h1, h2⟩ := h
    cases e
    exact .inl ⟨xs, .of h1, by rw [isEmpty_len h2.len]⟩
  | frz ps =>
    obtain ⟨a, xs, rfl, h1, h2⟩ := h
    cases e
    exact .inl ⟨xs, sqL_mono (mask_ex m H) h1, by rw [isEmpty_len h2.len]⟩
  | dic ks ps =>
    obtain ⟨a, xs, rfl, h1, h2, _, h4⟩ := h
    cases e
    refine .inr (.inr ⟨_, h1, ?_⟩)
    have : ks.length = (ks.zip xs).length := by rw [List.length_zip, h2, Nat.min_self]
    rw [isEmpty_len this]
  | fn y => exact h.elim
section
variable {X : Cx} {a b c : Expr} {rest : List Expr} {f g : FE} {t u : FT} {pos : Pos}
/-- an expression's truth as a test (a name, a call, a subscript, a comparison) -/
theorem d_tru (ha : PEd X a f) (he : ∀ whole, isTrue a X.env whole = (do let v ← whole; standAt a.pos; holding [v] (truthy v)) := by intro _; rfl) : PTd X a (fTru f) := pt_weak (pt_truth ha he) fun σ H Q ⟨m, env, S, R, E, b, S', e1, q⟩ => by
  obtain ⟨d, S1, k1, e2⟩ := Oc.bind_eq e1
  cases h1 : deP S1 d with
  | none => simp [h1] at e2
  | some p =>
    cases h2 : truP p with
    | none => simp [h1, h2] at e2
    | some b2 =>
      simp [h1, h2] at e2
      obtain ⟨rfl, rfl⟩ := e2
      exact ⟨m, env, S, R, E, d, S1, k1, fun v m1 H1 st1 R1 i1 => ⟨b2, truP_is (isR_of R1 i1 h1) h2, q m1 H1 st1 R1⟩⟩
/-- a comparison as a test -/
theorem d_cmpT {op : CmpOp} {r : R2} {o : P → P → Option P} (ho : OpR X (compareOp op) r) (h2 : Op2 X.K r o) (hbl : ∀ p q u, o p q = some u → ∃ b, u = .bl b) (ha : PEd X a f) (hb : PEd X b g) (hm : behindInMarks op b = false) :
    PTd X (.Compare a [op] [b] pos) (fTru (f2 o f g)) := pt_weak (pt_cmpR ho ha hb hm) fun σ H Q ⟨m, env, S, R, E, b, S', e1, q⟩ => by
  obtain ⟨d, S1, k1, e2⟩ := Oc.bind_eq e1
  refine td_op (Q := fun x H' => ∃ k, x = .bl k ∧ Q k H') h2 ⟨m, env, S, R, E, d, S1, k1, fun v m1 H1 st1 R1 i1 => ?_⟩
  have k2 := k1
  unfold f2 at k2
  obtain ⟨d1, S2, _, k2⟩ := Oc.bind_eq k2
  obtain ⟨d2, S3, _, k2⟩ := Oc.bind_eq k2
  obtain ⟨p, p2, u, _, _, h3, rfl, rfl⟩ := lift2_of k2
  obtain ⟨b', rfl⟩ := hbl p p2 u h3
  have hv : v = .bl b' := i1
  have e3 : Oc.ok b' S1 = Oc.ok b S' := e2
  cases e3
  exact ⟨_, hv, q m1 H1 st1 R1⟩
theorem w_and1 (ha : PTd X a t) : PWd X (.BoolOp .And [a] pos) t := pw_and1 ha
theorem w_or1 (ha : PTd X a t) : PWd X (.BoolOp .Or [a] pos) t := pw_or1 ha
theorem w_and (ha : PTd X a t) (hb : PWd X (.BoolOp .And (b :: rest) pos) u) : PWd X (.BoolOp .And (a :: b :: rest) pos) (fAnd t u) := pw_weak (pw_and ha hb) fun σ H Q ⟨m, env, S, R, E, b, S', e1, q⟩ => by
  obtain ⟨c, S1, k1, e2⟩ := Oc.bind_eq e1
  refine ⟨m, env, S, R, E, c, S1, k1, fun m1 H1 st1 R1 => ?_⟩
  cases c with
  | true =>
    rw [if_pos rfl]
    exact ⟨m1, env, S1, R1, E.step st1, b, S', by simpa using e2, fun m2 H2 st2 R2 => q m2 H2 (st1.trans st2) R2⟩
  | false =>
    have e3 : Oc.ok false S1 = Oc.ok b S' := by simpa using e2
    cases e3
    rw [if_neg (by decide)]
    exact q m1 H1 st1 R1
theorem w_or (ha : PTd X a t) (hb : PWd X (.BoolOp .Or (b :: rest) pos) u) : PWd X (.BoolOp .Or (a :: b :: rest) pos) (fOr t u) := pw_weak (pw_or ha hb) fun σ H Q ⟨m, env, S, R, E, b, S', e1, q⟩ => by
  obtain ⟨c, S1, k1, e2⟩ := Oc.bind_eq e1
  refine ⟨m, env, S, R, E, c, S1, k1, fun m1 H1 st1 R1 => ?_⟩
  cases c with
  | false =>
    rw [if_neg (by decide)]
    exact ⟨m1, env, S1, R1, E.step st1, b, S', by simpa using e2, fun m2 H2 st2 R2 => q m2 H2 (st1.trans st2) R2⟩
  | true =>
    have e3 : Oc.ok true S1 = Oc.ok b S' := by simpa using e2
    cases e3
    rw [if_pos rfl]
    exact q m1 H1 st1 R1
theorem d_pt (h : PWd X a t) : PTd X a t := h.pt
theorem d_not (ha : PTd X a t) : PTd X (.UnaryOp .Not a pos) (fNot t) := pt_weak (pt_not ha) fun σ H Q ⟨m, env, S, R, E, b, S', e1, q⟩ => by
  obtain ⟨c, S1, k1, e2⟩ := Oc.bind_eq e1
  cases e2
  exact ⟨m, env, S, R, E, c, _, k1, fun m1 H1 st1 R1 => q m1 H1 st1 R1⟩
theorem d_ite (hc : PTd X c t) (ha : PEd X a f) (hb : PEd X b g) : PEd X (.IfExp c a b pos) (fIte t f g) := pe_weak (pe_ifExp hc ha hb) fun σ H Q ⟨m, env, S, R, E, d, S', e1, q⟩ => by
  obtain ⟨k, S1, k1, e2⟩ := Oc.bind_eq e1
  refine ⟨m, env, S, R, E, k, S1, k1, fun m1 H1 st1 R1 => ?_⟩
  cases k with
  | true =>
    rw [if_pos rfl]
    exact ⟨m1, env, S1, R1, E.step st1, d, S', by simpa using e2, fun v m2 H2 st2 R2 i2 => q v m2 H2 (st1.trans st2) R2 i2⟩
  | false =>
    rw [if_neg (by decide)]
    exact ⟨m1, env, S1, R1, E.step st1, d, S', by simpa using e2, fun v m2 H2 st2 R2 i2 => q v m2 H2 (st1.trans st2) R2 i2⟩
/-- and, or, not as values, all parts True or False -/
def asB (d : D) : Option Bool := match d with
  | .v (.bl b) => some b
  | _ => none
def fAndV (f g : FE) : FE := fun env S => (f env S).bind fun d S1 => match asB d with
  | some true => g env S1
  | some false => .ok (.v (.bl false)) S1
  | none => .bad
def fOrV (f g : FE) : FE := fun env S => (f env S).bind fun d S1 => match asB d with
  | some false => g env S1
  | some true => .ok (.v (.bl true)) S1
  | none => .bad
def fNotV (f : FE) : FE := fun env S => (f env S).bind fun d S1 => match asB d with
  | some b => .ok (.v (.bl (!b))) S1
  | none => .bad
theorem asB_is {d : D} {b : Bool} (h : asB d = some b) : d = .v (.bl b) := by
  unfold asB at h
  split at h
  · cases h; rfl
  · cases h
theorem d_one {op} (h : PEd X a f) : PEd X (.BoolOp op [a] pos) f := pe_one h
theorem d_andV (ha : PEd X a f) (hb : PEd X (.BoolOp .And (b :: rest) pos) g) : PEd X (.BoolOp .And (a :: b :: rest) pos) (fAndV f g) := pe_weak (pe_and ha hb) fun σ H Q ⟨m, env, S, R, E, d, S', e1, q⟩ => by
  obtain ⟨c, S1, k1, e2⟩ := Oc.bind_eq e1
  refine ⟨m, env, S, R, E, c, S1, k1, fun v m1 H1 st1 R1 i1 => ?_⟩
  cases hc : asB c with
  | none => simp [hc] at e2
  | some k =>
    have ec := asB_is hc
    subst ec
    have hv : v = .bl k := i1
    refine ⟨k, hv, ?_⟩
    cases k with
    | true =>
      rw [if_pos rfl]
      exact ⟨m1, env, S1, R1, E.step st1, d, S', by simpa [asB] using e2, fun v m2 H2 st2 R2 i2 => q v m2 H2 (st1.trans st2) R2 i2⟩
    | false =>
      have e3 : Oc.ok (D.v (.bl false)) S1 = Oc.ok d S' := by simpa [asB] using e2
      cases e3
      rw [if_neg (by decide)]
      exact q _ m1 H1 st1 R1 rfl
theorem d_orV (ha : PEd X a f) (hb : PEd X (.BoolOp .Or (b :: rest) pos) g) : PEd X (.BoolOp .Or (a :: b :: rest) pos) (fOrV f g) := pe_weak (pe_or ha hb) fun σ H Q ⟨m, env, S, R, E, d, S', e1, q⟩ => by
  obtain ⟨c, S1, k1, e2⟩ := Oc.bind_eq e1
  refine ⟨m, env, S, R, E, c, S1, k1, fun v m1 H1 st1 R1 i1 => ?_⟩
  cases hc : asB c with
  | none => simp [hc] at e2
  | some k =>
    have ec := asB_is hc
    subst ec
    have hv : v = .bl k := i1
    refine ⟨k, hv, ?_⟩
    cases k with
    | false =>
      rw [if_neg (by decide)]
      exact ⟨m1, env, S1, R1, E.step st1, d, S', by simpa [asB] using e2, fun v m2 H2 st2 R2 i2 => q v m2 H2 (st1.trans st2) R2 i2⟩
    | true =>
      have e3 : Oc.ok (D.v (.bl true)) S1 = Oc.ok d S' := by simpa [asB] using e2
      cases e3
      rw [if_pos rfl]
      exact q _ m1 H1 st1 R1 rfl
theorem d_notV (ha : PEd X a f) : PEd X (.UnaryOp .Not a pos) (fNotV f) := pe_weak (pe_not ha) fun σ H Q ⟨m, env, S, R, E, d, S', e1, q⟩ => by
  obtain ⟨c, S1, k1, e2⟩ := Oc.bind_eq e1
  refine ⟨m, env, S, R, E, c, S1, k1, fun v m1 H1 st1 R1 i1 => ?_⟩
  cases hc : asB c with
  | none => simp [hc] at e2
  | some k =>
    have ec := asB_is hc
    subst ec
    have hv : v = .bl k := i1
    have e3 : Oc.ok (D.v (.bl (!k))) S1 = Oc.ok d S' := by simpa [asB] using e2
    cases e3
    exact ⟨k, hv, q _ m1 H1 st1 R1 rfl⟩
end
end DL

/-! DLd: subscripts, slices, targets, statements. -/
namespace DL
open PySem PySem.Spec PyProof.Rows L2

/-! ### subscripts and slices -/
def pIx : P → P → Option P
  | .lst ps, .int i => atI ps i
  | .frz ps, .int i => atI ps i
  | .tup ps, .int i => atI ps i
  | .str z, .int i => if z.length ≤ 100000 then (atI z.cps.toList i).map fun c => .str ⟨#[c]⟩ else none
  | .dic ks ps, p => match pKey p with
    | some k => look ks ps k
    | none => none
  | _, _ => none
def cutL {α : Type} (xs : List α) (lo hi : Option Int) : List α := (xs.drop (HT.sIx xs.length 0 lo)).take (HT.sIx xs.length xs.length hi - HT.sIx xs.length 0 lo)
def pSl (p : P) (lo hi : Option Int) : Option P := match p with
  | .lst ps => some (.lst (cutL ps lo hi))
  | .frz ps => some (.lst (cutL ps lo hi))
  | .tup ps => some (.tup (cutL ps lo hi))
  | .str z => if z.length ≤ 100000 then some (.str (cutS z lo hi)) else none
  | _ => none
theorem atI_is {K : PySem.W.Frag} {G : Hp} {ps : List P} {xs : List V} {i : Int} {p : P} (h : IsAll K G ps xs) (e : atI ps i = some p) : ∃ v, atI xs i = some v ∧ Is K G p v := by
  unfold atI at e ⊢
  rw [← h.len]
  cases hx : ixN ps.length i with
  | none => rw [hx] at e; cases e
  | some j =>
    rw [hx] at e
    exact h.get (i := j) e
theorem ix_dict {X : Cx} (hu : X.A.units + 1 < cLine) : IxR X (fun x y H Q => ∃ a v, x = .ref a ∧ DGet H a y (some v) ∧ Q v H) := by
  intro value slice pins s σ H x y v u Q I rx ry h hs
  obtain ⟨a, z, rfl, hg, q⟩ := h
  obtain rfl : v = Value.ref a := rx
  exact tail_any (dict_typeIs I hg) PySem.F.slot_dict_getitem.lookup (d_getItem hu I hg ry fun w' s3 I3 rw' => ⟨z, H, I3, rw', q⟩) hs
abbrev rIxAll (K : PySem.W.Frag) : R2 := fun x y H Q => rIx K x y H Q ∨ ∃ a v, x = .ref a ∧ DGet H a y (some v) ∧ Q v H
theorem op2_ix {K : PySem.W.Frag} : Op2 K (rIxAll K) pIx := by
  intro m H S p q u x y Q R hx hy e k
  unfold pIx at e
  split at e
  · obtain ⟨a, xs, rfl, h1, h2⟩ := hx
    obtain ⟨v, h3, h4⟩ := atI_is h2 e
    exact .inl (.inl ⟨a, xs, _, v, rfl, hy, .of h1, h3, k.here R h4⟩)
  · obtain ⟨a, xs, rfl, h1, h2⟩ := hx
    obtain ⟨v, h3, h4⟩ := atI_is h2 e
    exact .inl (.inl ⟨a, xs, _, v, rfl, hy, sqL_mono (mask_ex m H) h1, h3, k.here R h4⟩)
  · obtain ⟨a, xs, rfl, h1, h2⟩ := hx
    obtain ⟨v, h3, h4⟩ := atI_is h2 e
    exact .inl (.inr (.inl ⟨a, xs, _, v, rfl, hy, sqT_mono (mask_ex m H) h1, h3, k.here R h4⟩))
  · rename_i z i
    split at e
    · rename_i hl
      cases hc : atI z.cps.toList i with
      | none => rw [hc] at e; cases e
      | some c =>
        rw [hc] at e
        cases e
        exact .inl (.inr (.inr ⟨z, i, c, hx, hy, size_of hl, hc, k.here R rfl⟩))
    · cases e
  · rename_i ks ps p2
    split at e
    · rename_i kk hk
      obtain ⟨a, xs, rfl, h1, h2, h3, h4⟩ := hx
      have ex := pKey_is hy hk
      subst ex
      obtain ⟨v, h5, h6⟩ := (look_is h4).1 u e
      exact .inr ⟨a, v, rfl, by rw [← h5]; exact DGet.k h1, k.here R h6⟩
    · cases e
  · cases e
theorem cut_is {K : PySem.W.Frag} {G : Hp} {ps : List P} {xs : List V} (h : IsAll K G ps xs) (lo hi : Option Int) : IsAll K G (cutL ps lo hi) (cutV xs lo hi) := by
  unfold cutL cutV
  rw [← h.len]
  exact (h.drop _).take _
abbrev FO := Dnv → Sto → Oc (Option Int)
def oNo : FO := fun _ S => .ok none S
def oAt (f : FE) : FO := fun env S => (f env S).bind fun d S1 => match d with
  | .v (.int i) => .ok (some i) S1
  | _ => .bad
def TDo (K : PySem.W.Frag) (f : FO) : TO := fun σ H Q => ∃ m env S, Rel K m H S ∧ EnvIs K m (mask m H) σ env ∧ ∃ o S', f env S = .ok o S' ∧ ∀ m' H', Stp m H m' H' → Rel K m' H' S' → Q o H'
theorem po_weak {X : Cx} {e : Option Expr} {t t' : TO} (h : PO X e t) (q : ∀ σ H Q, t' σ H Q → t σ H Q) : PO X e t' := ⟨fun pins s σ H Q I w => h.run pins s σ H Q I (q σ H Q w)⟩
def fSl (f : FE) (lo hi : FO) : FE := fun env S => (f env S).bind fun d S1 => (lo env S1).bind fun l S2 => (hi env S2).bind fun u S3 => match deP S3 d with
  | some p => oP (pSl p l u) S3
  | none => .bad
abbrev rSlAll (K : PySem.W.Frag) : V → Option Int → Option Int → Hp → VK → Prop := fun x lo hi H Q => rSlL K x lo hi H Q ∨ (rSlA K x lo hi H Q ∨ rSlS x lo hi H Q)
section
variable {X : Cx} {a b : Expr} {f g : FE} {pos p2 : Pos}
theorem d_ix (hX : SX X) (ha : PEd X a f) (hb : PEd X b g) (hs : PlainIx b := by intro _ _; rfl) : PEd X (.Subscript a b pos) (f2 pIx f g) := pe_weak (pe_ix (IxR.or ix_seq (ix_dict (by have := hX.units; omega))) ha hb hs) fun _ _ _ => td_op op2_ix
theorem o_no : PO X none (TDo X.K oNo) := po_weak po_none fun σ H Q ⟨m, env, S, R, E, o, S', e1, q⟩ => by
  cases e1
  exact q m H (Stp.refl m H) R
theorem o_at (h : PEd X a f) : PO X (some a) (TDo X.K (oAt f)) := po_weak (po_some h) fun σ H Q ⟨m, env, S, R, E, o, S', e1, q⟩ => by
  obtain ⟨d, S1, k1, e2⟩ := Oc.bind_eq e1
  refine ⟨m, env, S, R, E, d, S1, k1, fun v m1 H1 st1 R1 i1 => ?_⟩
  split at e2
  · cases e2
    exact ⟨_, i1, q m1 H1 st1 R1⟩
  · cases e2
theorem d_sl {lo hi : Option Expr} {l u : FO} (ha : PEd X a f) (hl : PO X lo (TDo X.K l)) (hu : PO X hi (TDo X.K u)) : PEd X (.Subscript a (.Slice lo hi none p2) pos) (fSl f l u) :=
  pe_weak (pe_slice (SlR.or sl_list (SlR.or sl_tupA sl_str)) ha hl hu) fun σ H Q ⟨m, env, S, R, E, d', S', e1, q⟩ => by
  obtain ⟨d, S1, k1, e2⟩ := Oc.bind_eq e1
  obtain ⟨lo, S2, k2, e3⟩ := Oc.bind_eq e2
  obtain ⟨hi, S3, k3, e4⟩ := Oc.bind_eq e3
  refine ⟨m, env, S, R, E, d, S1, k1, fun v m1 H1 st1 R1 i1 => ⟨m1, env, S1, R1, E.step st1, lo, S2, k2, fun m2 H2 st2 R2 => ⟨m2, env, S2, R2, (E.step st1).step st2, hi, S3, k3, fun m3 H3 st3 R3 => ?_⟩⟩⟩
  cases h1 : deP S3 d with
  | none => simp [h1] at e4
  | some p =>
    cases h2 : pSl p lo hi with
    | none => simp [h1, h2] at e4
    | some r =>
      simp [h1, h2] at e4
      obtain ⟨rfl, rfl⟩ := e4
      have st := (st1.trans st2).trans st3
      have hx := isR_of R3 (st3.is (st2.is i1)) h1
      have k : Kont X.K m3 H3 S3 r Q := fun w m4 H4 s4 R4 i4 => q w m4 H4 (st.trans s4) R4 i4
      unfold pSl at h2
      split at h2
      · cases h2
        obtain ⟨a, xs, rfl, h3, h4⟩ := hx
        exact .inl ⟨a, xs, rfl, .of h3, newLst R3 (cut_is h4 lo hi) k⟩
      · cases h2
        obtain ⟨a, xs, rfl, h3, h4⟩ := hx
        exact .inl ⟨a, xs, rfl, sqL_mono (mask_ex m3 H3) h3, newLst R3 (cut_is h4 lo hi) k⟩
      · cases h2
        obtain ⟨a, xs, rfl, h3, h4⟩ := hx
        refine .inr (.inl ⟨a, xs, rfl, sqT_mono (mask_ex m3 H3) h3, fun hw => ?_, fun _ => newTup R3 (cut_is h4 lo hi) k⟩)
        refine k.here R3 ⟨a, xs, rfl, h3, ?_⟩
        have : cutV xs lo hi = xs := by
          unfold cutV
          rw [hw.1, hw.2]
          simp
        rw [← this]
        exact cut_is h4 lo hi
      · split at h2
        · rename_i z hl
          cases h2
          exact .inr (.inr ⟨z, hx, size_of hl, k.here R3 rfl⟩)
        · cases h2
      · cases h2
end

/-! ### targets -/
abbrev FG := D → Dnv → Sto → Oc Dnv
abbrev FGs := List P → Dnv → Sto → Oc Dnv
def TDg (K : PySem.W.Frag) (g : FG) : TG := fun v σ H Q => ∃ m env S d, Rel K m H S ∧ EnvIs K m (mask m H) σ env ∧ IsD K m (mask m H) d v ∧ ∃ env' S', g d env S = .ok env' S' ∧ ∀ m' H' σ', Stp m H m' H' → Rel K m' H' S' → EnvIs K m' (mask m' H') σ' env' → Q σ' H'
def TDgs (K : PySem.W.Frag) (g : FGs) : TGs := fun vs σ H Q => ∃ m env S ps, Rel K m H S ∧ EnvIs K m (mask m H) σ env ∧ IsAll K (mask m H) ps vs ∧ ∃ env' S', g ps env S = .ok env' S' ∧ ∀ m' H' σ', Stp m H m' H' → Rel K m' H' S' → EnvIs K m' (mask m' H') σ' env' → Q σ' H'
abbrev PGd (X : Cx) (e : Expr) (g : FG) : Prop := PG X e (TDg X.K g)
abbrev PGsd (X : Cx) (es : List Expr) (g : FGs) : Prop := PGs X es (TDgs X.K g)
theorem pg_weak {X : Cx} {e : Expr} {t t' : TG} (h : PG X e t) (q : ∀ v σ H Q, t' v σ H Q → t v σ H Q) : PG X e t' := ⟨fun pins s σ H v u Q I r w => h.run pins s σ H v u Q I r (q v σ H Q w)⟩
theorem pgs_weak {X : Cx} {es : List Expr} {t t' : TGs} (h : PGs X es t) (q : ∀ v σ H Q, t' v σ H Q → t v σ H Q) : PGs X es t' := ⟨fun pins s σ H v u Q I r w => h.run pins s σ H v u Q I r (q v σ H Q w)⟩
def gNm (i : Nat) : FG := fun d env S => .ok (env.set i (some d)) S
def gNl : FGs := fun ps env S => match ps with
  | [] => .ok env S
  | _ :: _ => .bad
def gCn (g : FG) (k : FGs) : FGs := fun ps env S => match ps with
  | [] => .bad
  | p :: r => (g (.v p) env S).bind fun env1 S1 => k r env1 S1
def gTp (n : Nat) (k : FGs) : FG := fun d env S => match d with
  | .v (.tup ps) => if ps.length = n then k ps env S else .bad
  | _ => .bad
def putP (ks : List Key) (ps : List P) (k : Key) (p : P) : List Key × List P :=
  match ks, ps with
  | j :: ks, q :: ps => if j = k then (j :: ks, p :: ps) else ((j :: (putP ks ps k p).1), (q :: (putP ks ps k p).2))
  | _, _ => ([k], [p])
def setD (o i d : D) (S : Sto) : Option Sto := match o, i, d with
  | .r n, .v q, .v p => match S[n]? with
    | some (.lst ps) => match q with
      | .int k => (ixN ps.length k).map fun j => S.set n (.lst (ps.set j p))
      | _ => none
    | some (.dic ks ps) => match pKey q with
      | some k => if ks.length < 10000 then some (S.set n (.dic (putP ks ps k p).1 (putP ks ps k p).2)) else none
      | none => none
    | none => none
  | _, _, _ => none
def gSb (fo fi : FE) : FG := fun d env S => (fo env S).bind fun o S1 => (fi env S1).bind fun i S2 => match setD o i d S2 with
  | some S3 => .ok env S3
  | none => .bad
theorem put_is {K : PySem.W.Frag} {G : Hp} {p : P} {v : V} {k : Key} (hp : Is K G p v) : ∀ {ks : List Key} {ps : List P} {xs : List V}, ks.length = xs.length → ks.Nodup → IsAll K G ps xs →
    ∃ ys, putK (ks.zip xs) k v = (putP ks ps k p).1.zip ys ∧ (putP ks ps k p).1.length = ys.length ∧ (putP ks ps k p).1.Nodup ∧ IsAll K G (putP ks ps k p).2 ys ∧ (∀ j, j ∈ (putP ks ps k p).1 ↔ (j ∈ ks ∨ j = k))
  | [], ps, xs, hl, hn, h => by
    have : xs = [] := by simpa using hl.symm
    subst this
    have : ps = [] := by have := h.len; simpa using this
    subst this
    exact ⟨[v], by simp [putK, putP], by simp [putP], by simp [putP], by simpa [putP] using IsAll.one hp, by simp [putP]⟩
  | j :: ks, [], xs, hl, hn, h => by
    have h' : xs = [] := h
    subst h'
    simp at hl
  | j :: ks, q :: ps, xs, hl, hn, ⟨w, ws, h1, h2, h3⟩ => by
    subst h1
    obtain ⟨hn1, hn2⟩ := List.nodup_cons.mp hn
    by_cases hj : j = k
    · subst hj
      have e0 : ∀ {ls : List Key} {zs : List V}, j ∉ ls → (ls.zip zs).map (fun kv => if kv.1 = j then (kv.1, v) else kv) = ls.zip zs := fun {ls zs} hx => by
        conv => rhs; rw [← List.map_id (ls.zip zs)]
        refine List.map_congr_left fun kv hkv => ?_
        rw [if_neg]
        · rfl
        · intro e
          exact hx (e ▸ (List.of_mem_zip (a := kv.1) (b := kv.2) hkv).1)
      refine ⟨v :: ws, ?_, by simpa [putP] using hl, by simpa [putP] using hn, ?_, fun i => by simp only [putP, if_pos, List.mem_cons]; constructor <;> (intro h; rcases h with h | h) <;> simp_all⟩
      · simp [putK, putP]
        exact e0 hn1
      · simp only [putP, if_pos]
        exact ⟨v, ws, rfl, hp, h3⟩
    · obtain ⟨ys, a1, a2, a3, a4, a5⟩ := put_is (k := k) hp (ks := ks) (ps := ps) (xs := ws) (by simpa using hl) hn2 h3
      refine ⟨w :: ys, ?_, by simp [putP, hj, a2], ?_, ?_, ?_⟩
      · simp only [putP, if_neg hj, List.zip_cons_cons]
        rw [← a1]
        simp only [putK, List.any_cons, List.map_cons, hj, decide_false, Bool.false_or, if_false]
        split <;> simp
      · simp only [putP, if_neg hj]
        refine List.nodup_cons.mpr ⟨fun hm => ?_, a3⟩
        rcases (a5 j).mp hm with z | z
        · exact hn1 z
        · exact hj z
      · simp only [putP, if_neg hj]
        exact ⟨w, ys, rfl, h2, a4⟩
      · intro i
        simp only [putP, if_neg hj, List.mem_cons, a5]
        constructor
        · rintro (h | h | h)
          · exact .inl (.inl h)
          · exact .inl (.inr h)
          · exact .inr h
        · rintro ((h | h) | h)
          · exact .inl h
          · exact .inr (.inl h)
          · exact .inr (.inr h)
section
variable {X : Cx} {pos : Pos}
theorem set_dict (hu : X.A.units + 1 < cLine) : PSet X (fun o i v H Q => ∃ a H', o = .ref a ∧ DPut H a i v H' ∧ Q H') := by
  intro pins s σ H o i v ov iv u Q I ro ri rv h
  obtain ⟨a, H', rfl, hp, q⟩ := h
  obtain rfl : ov = Value.ref a := ro
  exact d_setItem hu I hp ri rv fun s' I' => ⟨H', I', q⟩
theorem pset_or {t t' : TSet} (h : PSet X t) (h' : PSet X t') : PSet X (fun o i v H Q => t o i v H Q ∨ t' o i v H Q) := by
  intro pins s σ H o i v ov iv u Q I ro ri rv q
  rcases q with q | q
  · exact h pins s σ H o i v ov iv u Q I ro ri rv q
  · exact h' pins s σ H o i v ov iv u Q I ro ri rv q
theorem g_nm (hX : SX X) {i : Nat} {x : Str} (hi : X.N[i]? = some x := by rfl) (hx : Loc X.env.scope x := by first | exact .inl rfl | exact .inr rfl) (hf : X.fn x = true ∨ X.env.scope.names.lookup x = some .local := by first | exact .inl rfl | exact .inr rfl | assumption) : PGd X (.Name x pos) (gNm i) :=
  pg_weak (pg_name hX.nd hi hx hf) fun v σ H Q ⟨m, env, S, d, R, E, i1, env', S', e1, q⟩ => by
  cases e1
  exact q m H _ (Stp.refl m H) R (E.set i1)
theorem g_nl : PGsd X [] gNl := pgs_weak pgs_nil fun vs σ H Q ⟨m, env, S, ps, R, E, i1, env', S', e1, q⟩ => by
  cases ps with
  | nil =>
    cases e1
    exact ⟨i1, q m H σ (Stp.refl m H) R E⟩
  | cons p r => cases e1
theorem g_cn {e : Expr} {es : List Expr} {g : FG} {k : FGs} (h1 : PGd X e g) (h2 : PGsd X es k) (hs : (assignEach (e :: es) X.env).map (·.2) = assign e X.env :: (assignEach es X.env).map (·.2) := by rfl) : PGsd X (e :: es) (gCn g k) :=
  pgs_weak (pgs_cons h1 h2 hs) fun vs σ H Q ⟨m, env, S, ps, R, E, i1, env', S', e1, q⟩ => by
  cases ps with
  | nil => cases e1
  | cons p r =>
    obtain ⟨v, ws, rfl, h3, h4⟩ := i1
    obtain ⟨env1, S1, k1, e2⟩ := Oc.bind_eq e1
    exact ⟨v, ws, rfl, m, env, S, .v p, R, E, h3, env1, S1, k1, fun m1 H1 σ1 st1 R1 E1 => ⟨m1, env1, S1, r, R1, E1, st1.all h4, env', S', e2, fun m2 H2 σ2 st2 R2 E2 => q m2 H2 σ2 (st1.trans st2) R2 E2⟩⟩
theorem g_tp (hX : SX X) {es : List Expr} {k : Nat} {t : FGs} {n : Nat} (h : PGsd X es t) (hn : (assignEach es X.env).length = n := by rfl) (hst : (assignEach es X.env).findIdx? (·.1) = none := by rfl) : PGd X (.Tuple es k pos) (gTp n t) :=
  pg_weak (pg_tup hX.calm h hn hst) fun v σ H Q ⟨m, env, S, d, R, E, i1, env', S', e1, q⟩ => by
  unfold gTp at e1
  split at e1
  · rename_i ps
    split at e1
    · rename_i hl
      obtain ⟨a, xs, rfl, h1, h2⟩ := i1
      exact ⟨a, xs, rfl, sqT_mono (mask_ex m H) h1, by rw [← h2.len]; exact hl, m, env, S, ps, R, E, h2, env', S', e1, q⟩
    · cases e1
  · cases e1
theorem g_sb (hX : SX X) {o i : Expr} {fo fi : FE} (ho : PEd X o fo) (hi : PEd X i fi)
    (ha : ∀ v, assign (.Subscript o i pos) X.env v = (do
      let ov ← holding [v] (eval o X.env)
      let iv ← holding [v, ov] (eval i X.env)
      standAt pos
      holding [v, ov, iv] (setItem ov iv v)
      release [v, ov, iv] []) := by intro _; rfl) : PGd X (.Subscript o i pos) (gSb fo fi) :=
  pg_weak (pg_sub ho hi (pset_or set_list (set_dict (by have := hX.units; omega))) ha) fun v σ H Q ⟨m, env, S, d, R, E, i1, env', S', e1, q⟩ => by
  obtain ⟨od, S1, k1, e2⟩ := Oc.bind_eq e1
  obtain ⟨ind, S2, k2, e3⟩ := Oc.bind_eq e2
  refine ⟨m, env, S, R, E, od, S1, k1, fun ov m1 H1 st1 R1 j1 => ⟨m1, env, S1, R1, E.step st1, ind, S2, k2, fun iv m2 H2 st2 R2 j2 => ?_⟩⟩
  cases hs : setD od ind d S2 with
  | none => rw [hs] at e3; cases e3
  | some S3 =>
    rw [hs] at e3
    cases e3
    have st := st1.trans st2
    have i2 := st.is i1
    have o2 := st2.is j1
    unfold setD at hs
    split at hs
    · rename_i n qi p
      obtain ⟨a, rfl, h3⟩ := o2
      have hp : Is X.K (mask m2 H2) p v := i2
      have hq : Is X.K (mask m2 H2) qi iv := j2
      split at hs
      · rename_i ps hS
        split at hs
        · rename_i k
          have hk : iv = .int k := hq
          cases hj : ixN ps.length k with
          | none => rw [hj] at hs; cases hs
          | some j =>
            rw [hj] at hs
            cases hs
            obtain ⟨xs, h4, h5⟩ := R2.ob n a _ h3 hS
            obtain ⟨R3, st3⟩ := R2.write (o := .lst (xs.set j v)) (x := .lst (ps.set j p)) h3 fun H' s' e' => ⟨_, e', (by exact (s'.all h5).set (s'.val hp))⟩
            exact .inl ⟨a, xs, k, j, rfl, hk, h4, by rw [← h5.len]; exact hj, q _ _ _ (st.trans st3) R3 (E.step (st.trans st3))⟩
        · cases hs
      · rename_i ks ps hS
        split at hs
        · rename_i kk hkk
          split at hs
          · rename_i hlen
            cases hs
            obtain ⟨xs, h4, h5, h6, h7⟩ := R2.ob n a _ h3 hS
            have ek : iv = kV kk := pKey_is (isR_val hq) hkk
            obtain ⟨ys, b1, b2, b3, b4, _⟩ := put_is (k := kk) hp h5 h6 h7
            obtain ⟨R3, st3⟩ := R2.write (o := .dK (putK (ks.zip xs) kk v)) (x := .dic (putP ks ps kk p).1 (putP ks ps kk p).2) h3 fun H' s' e' => ⟨ys, by rw [e', b1], b2, b3, s'.all b4⟩
            refine .inr ⟨a, _, rfl, ?_, q _ _ _ (st.trans st3) R3 (E.step (st.trans st3))⟩
            rw [ek]
            exact DPut.k h4 (by rw [List.length_zip, h5, Nat.min_self, ← h5]; exact Nat.lt_of_lt_of_le hlen (by decide))
          · cases hs
        · cases hs
      · cases hs
    · cases hs
end
end DL

/-! DLe: statements, loops, comprehensions. -/
namespace DL
open PySem PySem.Spec PyProof.Rows L2

/-! ### statements -/
def Oc.fl {α : Type} : Oc α → (α → Sto → Flo) → Flo
  | .ok a S, f => f a S
  | .bad, _ => .bad
@[simp] theorem Oc.fl_ok {α : Type} (a : α) (S : Sto) (f : α → Sto → Flo) : (Oc.ok a S).fl f = f a S := rfl
@[simp] theorem Oc.fl_bad {α : Type} (f : α → Sto → Flo) : (Oc.bad : Oc α).fl f = .bad := rfl
def fNext : FS := fun env S => .nx env S
def fBreak : FS := fun env S => .bk env S
def fCont : FS := fun env S => .ct env S
def Flo.seq : Flo → FS → Flo
  | .nx env S, g => g env S
  | f, _ => f
@[simp] theorem Flo.seq_nx (env : Dnv) (S : Sto) (g : FS) : (Flo.nx env S).seq g = g env S := rfl
@[simp] theorem Flo.seq_rt (d : D) (S : Sto) (g : FS) : (Flo.rt d S).seq g = .rt d S := rfl
@[simp] theorem Flo.seq_bad (g : FS) : Flo.bad.seq g = .bad := rfl
@[simp] theorem Flo.seq_bk (env : Dnv) (S : Sto) (g : FS) : (Flo.bk env S).seq g = .bk env S := rfl
@[simp] theorem Flo.seq_ct (env : Dnv) (S : Sto) (g : FS) : (Flo.ct env S).seq g = .ct env S := rfl
def fSeq (f g : FS) : FS := fun env S => (f env S).seq g
def fSet (f : FE) (g : FG) : FS := fun env S => (f env S).fl fun d S1 => (g d env S1).fl fun env2 S2 => .nx env2 S2
def fDrop (f : FE) : FS := fun env S => (f env S).fl fun _ S1 => .nx env S1
def fRet (f : FE) : FS := fun env S => (f env S).fl fun d S1 => .rt d S1
def fRetN : FS := fun _ S => .rt (.v .non) S
def fIf (t : FT) (f g : FS) : FS := fun env S => (t env S).fl fun b S1 => if b = true then f env S1 else g env S1
def fNever : FS := fun _ _ => .bad
def fAug (i : Nat) (op : P → P → Option P) (f : FE) : FS := fun env S => match env[i]? with
  | some (some d) => (f env S).fl fun e S1 => (lift2 op d e S1).fl fun r S2 => .nx (env.set i (some r)) S2
  | _ => .bad
theorem Oc.fl_ne {α : Type} {K : PySem.W.Frag} {m : Mp} {H : Hp} {E : Ends} {o : Oc α} {f : α → Sto → Flo} (h : FloOk K m H E (o.fl f)) : ∃ a S, o = .ok a S ∧ FloOk K m H E (f a S) := by
  cases o with
  | ok a S => exact ⟨a, S, rfl, h⟩
  | bad => exact h.elim
section
variable {X : Cx} {e : Expr} {st : Stmt} {rest : List Stmt} {f : FE} {g : FG} {a b : FS} {t : FT} {pos : Pos}
theorem s_nil : PSsd X [] fNext := pss_weak pss_nil fun D σ H ⟨m, env, S, R, E, q⟩ => q m H σ (Stp.refl m H) R E
theorem seq_ok {K : PySem.W.Frag} {m : Mp} {H : Hp} {D : Ends} {r : Flo} {g : FS} (h : FloOk K m H D (r.seq g)) : FloOk K m H { D with nx := TDs K g D } r := by
  cases r with
  | nx env S => exact fun m' H' σ st R E => ⟨m', env, S, R, E, h.step st⟩
  | rt d S => exact h
  | bk env S => exact h
  | ct env S => exact h
  | bad => exact h
theorem s_cons (h1 : PSd X st a) (h2 : PSsd X rest b) : PSsd X (st :: rest) (fSeq a b) := pss_weak (pss_cons h1 h2) fun D σ H ⟨m, env, S, R, E, q⟩ => ⟨m, env, S, R, E, seq_ok q⟩
theorem s_one (h1 : PSd X st a) : PSsd X [st] a := pss_one h1
theorem s_pass : PSd X (.Pass pos) fNext := ps_weak ps_pass fun D σ H ⟨m, env, S, R, E, q⟩ => q m H σ (Stp.refl m H) R E
theorem s_break : PSd X (.Break pos) fBreak := ps_weak ps_break fun D σ H ⟨m, env, S, R, E, q⟩ => q m H σ (Stp.refl m H) R E
theorem s_cont : PSd X (.Continue pos) fCont := ps_weak ps_continue fun D σ H ⟨m, env, S, R, E, q⟩ => q m H σ (Stp.refl m H) R E
theorem s_never : PSd X st fNever := ps_weak (ps_never (st := st)) fun D σ H ⟨m, env, S, R, E, q⟩ => q
theorem s_drop (he : PEd X e f) (hs : swapsWith e none pos.line X.env = pure false := by rfl) : PSd X (.Expr e pos) (fDrop f) := ps_weak (ps_expr he hs) fun D σ H ⟨m, env, S, R, E, q⟩ => by
  obtain ⟨d, S1, k1, q⟩ := Oc.fl_ne q
  exact ⟨m, env, S, R, E, d, S1, k1, fun v m1 H1 st1 R1 i1 => q m1 H1 σ st1 R1 (E.step st1)⟩
theorem s_ret (he : PEd X e f) : PSd X (.Return (some e) pos) (fRet f) := ps_weak (ps_ret he) fun D σ H ⟨m, env, S, R, E, q⟩ => by
  obtain ⟨d, S1, k1, q⟩ := Oc.fl_ne q
  exact ⟨m, env, S, R, E, d, S1, k1, fun v m1 H1 st1 R1 i1 => q v m1 H1 st1 R1 i1⟩
theorem s_retN : PSd X (.Return none pos) fRetN := ps_weak ps_retN fun D σ H ⟨m, env, S, R, E, q⟩ => q _ m H (Stp.refl m H) R rfl
theorem s_if {c : Expr} {s1 s2 : List Stmt} (hc : PTd X c t) (ha : PSsd X s1 a) (hb : PSsd X s2 b) : PSd X (.If c s1 s2 pos) (fIf t a b) := ps_weak (ps_if hc ha hb) fun D σ H ⟨m, env, S, R, E, q⟩ => by
  obtain ⟨k, S1, k1, q⟩ := Oc.fl_ne q
  refine ⟨m, env, S, R, E, k, S1, k1, fun m1 H1 st1 R1 => ?_⟩
  cases k with
  | true =>
    rw [if_pos rfl] at q ⊢
    exact ⟨m1, env, S1, R1, E.step st1, q.step st1⟩
  | false =>
    rw [if_neg (by decide)] at q ⊢
    exact ⟨m1, env, S1, R1, E.step st1, q.step st1⟩
theorem asg_ok {K : PySem.W.Frag} {D : Ends} {σ : L2.St} {H : Hp} (h : TDs K (fSet f g) D σ H) : tAsg (TD K f) (TDg K g) D σ H := by
  obtain ⟨m, env, S, R, E, q⟩ := h
  obtain ⟨d, S1, k1, q⟩ := Oc.fl_ne q
  obtain ⟨env2, S2, k2, q⟩ := Oc.fl_ne q
  exact ⟨m, env, S, R, E, d, S1, k1, fun v m1 H1 st1 R1 i1 => ⟨m1, env, S1, d, R1, E.step st1, i1, env2, S2, k2, fun m2 H2 σ2 st2 R2 E2 => q m2 H2 σ2 (st1.trans st2) R2 E2⟩⟩
theorem s_asg {tg : Expr} (he : PEd X e f) (hg : PGd X tg g) (hs : swapsWithSole [tg] e pos.line X.env = pure false := by rfl) (hw : swappedStores [tg] e X.env = pure none := by rfl)
    (h1 : (assignEach [tg] X.env).map (·.2) = [assign tg X.env] := by rfl) : PSd X (.Assign [tg] e pos) (fSet f g) := ps_weak (ps_asg he hg hs hw h1) fun D σ H h => asg_ok h
/-- a, b = x, y with plain local names -/
def fPar (i j : Nat) (g : FA) : FS := fun env S => (g env S).fl fun ds S1 => match ds with
  | [d, e] => .nx ((env.set i (some d)).set j (some e)) S1
  | _ => .bad
theorem s_par (hX : SX X) {i j : Nat} {x y : Str} {a b : Expr} {g : FA} {px py pt : Pos} {kt k2 pt2} (ha : PAd X [a, b] g)
    (hw : swappedStores [.Tuple [.Name x px, .Name y py] kt pt] (.Tuple [a, b] k2 pt2) X.env = pure (some [x, y]) := by rfl)
    (hi : X.N[i]? = some x := by rfl) (hj : X.N[j]? = some y := by rfl) (hij : i ≠ j := by decide)
    (hx : X.env.scope.names.lookup x = some .local := by rfl) (hy : X.env.scope.names.lookup y = some .local := by rfl)
    (hs : swapsWithSole [.Tuple [.Name x px, .Name y py] kt pt] (.Tuple [a, b] k2 pt2) pos.line X.env = pure false := by rfl) :
    PSd X (.Assign [.Tuple [.Name x px, .Name y py] kt pt] (.Tuple [a, b] k2 pt2) pos) (fPar i j g) := ps_weak (ps_par hX.calm hX.nd hi hj hij hx hy ha hw hs) fun D σ H ⟨m, env, S, R, E, q⟩ => by
  obtain ⟨ds, S1, k1, q⟩ := Oc.fl_ne q
  refine ⟨m, env, S, R, E, ds, S1, k1, fun vs m1 H1 st1 R1 i1 => ?_⟩
  split at q
  · obtain ⟨v, ws, rfl, h2, h3⟩ := i1
    obtain ⟨w, ws, rfl, h4, h5⟩ := h3
    have h5' : ws = [] := h5
    subst h5'
    exact ⟨v, w, rfl, q m1 H1 _ st1 R1 (((E.step st1).set h2).set h4)⟩
  · exact q.elim
theorem s_aug (hX : SX X) {i : Nat} {x : Str} {op : Operator} {r : R2} {o : P → P → Option P} {pos' : Pos} (he : PEd X e f) (ho : OpR X (inplaceOp op) r) (h2 : Op2 X.K r o) (hi : X.N[i]? = some x := by rfl) (hx : Loc X.env.scope x := by first | exact .inl rfl | exact .inr rfl)
    (hf : X.fn x = true ∨ X.env.scope.names.lookup x = some .local := by first | exact .inl rfl | exact .inr rfl | assumption) : PSd X (.AugAssign (.Name x pos') op e pos) (fAug i o f) :=
  ps_weak (ps_aug (ti := r) hX.nd hi hx he (fun pins s σ H x y v u Q I rx ry q => ho pins s σ H x y v u Q I rx ry q) hf) fun D σ H ⟨m, env, S, R, E, q⟩ => by
  unfold fAug at q
  split at q
  · rename_i d hd
    obtain ⟨v, h1, h3⟩ := E.get i d hd
    obtain ⟨e, S1, k1, q1⟩ := Oc.fl_ne q
    obtain ⟨r, S2, k2, q2⟩ := Oc.fl_ne q1
    obtain ⟨p, p2, u, a1, a2, a3, rfl, rfl⟩ := lift2_of k2
    exact ⟨v, h1, m, env, S, R, E, e, _, k1, fun w m1 H1 st1 R1 i1 => h2 m1 H1 _ p p2 u v w _ R1 (isR_of R1 (st1.is h3) a1) (isR_of R1 i1 a2) a3
      fun z m3 H3 st3 R3 i3 => q2 m3 H3 _ (st1.trans st3) R3 ((E.step (st1.trans st3)).set (d := .v u) i3)⟩
  · exact q.elim
end
def pAddI : P → P → Option P
  | .int i, .int j => some (.int (i + j))
  | .str x, .str y => if x.length + y.length ≤ 100000 then some (.str (x ++ y)) else none
  | _, _ => none
theorem op2_addI {K : PySem.W.Frag} : Op2 K (fun x y H Q => (rI0 fun i j => .int (i + j)) x y H Q ∨ (∃ i j, x = .str i ∧ y = .str j ∧ i.length + j.length ≤ sizeLine ∧ Q (.str (i ++ j)) H)) pAddI := by
  intro m H S p q u x y Q R hx hy e k
  unfold pAddI at e
  split at e
  · cases e; exact .inl ⟨_, _, hx, hy, k.here R rfl⟩
  · split at e
    · rename_i hl
      cases e; exact .inr ⟨_, _, hx, hy, size_of hl, k.here R rfl⟩
    · cases e
  · cases e
section
variable {X : Cx} {e : Expr} {f : FE} {pos : Pos}
theorem s_augAdd (hX : SX X) {i : Nat} {x : Str} {pos' : Pos} (he : PEd X e f) (hi : X.N[i]? = some x := by rfl) (hx : Loc X.env.scope x := by first | exact .inl rfl | exact .inr rfl)
    (hf : X.fn x = true ∨ X.env.scope.names.lookup x = some .local := by first | exact .inl rfl | exact .inr rfl | assumption) : PSd X (.AugAssign (.Name x pos') .Add e pos) (fAug i pAddI f) := s_aug hX he (opr_or iop_add iop_add_str) op2_addI hi hx hf
theorem s_augSub (hX : SX X) {i : Nat} {x : Str} {pos' : Pos} (he : PEd X e f) (hi : X.N[i]? = some x := by rfl) (hx : Loc X.env.scope x := by first | exact .inl rfl | exact .inr rfl)
    (hf : X.fn x = true ∨ X.env.scope.names.lookup x = some .local := by first | exact .inl rfl | exact .inr rfl | assumption) : PSd X (.AugAssign (.Name x pos') .Sub e pos) (fAug i pSub f) := s_aug hX he iop_sub (op2_int0 (g := fun i j => i - j) fun p q u e => by
  unfold pSub at e
  split at e
  · cases e; exact ⟨_, _, rfl, rfl, rfl⟩
  · cases e) hi hx hf
theorem s_augOr (hX : SX X) {i : Nat} {x : Str} {pos' : Pos} (he : PEd X e f) (hi : X.N[i]? = some x := by rfl) (hx : Loc X.env.scope x := by first | exact .inl rfl | exact .inr rfl)
    (hf : X.fn x = true ∨ X.env.scope.names.lookup x = some .local := by first | exact .inl rfl | exact .inr rfl | assumption) : PSd X (.AugAssign (.Name x pos') .BitOr e pos) (fAug i pOr f) := s_aug hX he iop_or (op2_int0 (g := fun i j => Builtin.bitOr i j) fun p q u e => by
  unfold pOr at e
  split at e
  · cases e; exact ⟨_, _, rfl, rfl, rfl⟩
  · cases e) hi hx hf
theorem s_augAnd (hX : SX X) {i : Nat} {x : Str} {pos' : Pos} (he : PEd X e f) (hi : X.N[i]? = some x := by rfl) (hx : Loc X.env.scope x := by first | exact .inl rfl | exact .inr rfl)
    (hf : X.fn x = true ∨ X.env.scope.names.lookup x = some .local := by first | exact .inl rfl | exact .inr rfl | assumption) : PSd X (.AugAssign (.Name x pos') .BitAnd e pos) (fAug i pAnd f) := s_aug hX he iop_and (op2_int0 (g := fun i j => Builtin.bitAnd i j) fun p q u e => by
  unfold pAnd at e
  split at e
  · cases e; exact ⟨_, _, rfl, rfl, rfl⟩
  · cases e) hi hx hf
end

/-! ### what is walked -/
structure Wk (m : Mp) (H : Hp) (m' : Mp) (H' : Hp) : Prop where
  ext : ∀ (r : Nat) (a : Addr), m.l[r]? = some a → m'.l[r]? = some a
  ex : Exh (mask m H) (mask m' H')
theorem Stp.wk {m m' : Mp} {H H' : Hp} (s : Stp m H m' H') : Wk m H m' H' := ⟨s.ext, s.ex⟩
theorem Wk.trans {m m' m2 : Mp} {H H' H2 : Hp} (a : Wk m H m' H') (b : Wk m' H' m2 H2) : Wk m H m2 H2 := ⟨fun r x h => b.ext r x (a.ext r x h), fun x o h => b.ex x o (a.ex x o h)⟩
theorem Wk.refl (m : Mp) (H : Hp) : Wk m H m H := (Stp.refl m H).wk
/-- the list that is walked stands as it stood -/
def OwnOk (own : Option Nat) (all : List P) (S : Sto) : Prop := ∀ r, own = some r → S[r]? = some (.lst all)
@[simp] theorem ownOk_none (all : List P) (S : Sto) : OwnOk none all S := fun _ h => nomatch h
@[simp] theorem ownOk_some (r : Nat) (all : List P) (S : Sto) : OwnOk (some r) all S ↔ S[r]? = some (.lst all) := ⟨fun h => h r rfl, fun h _ e => by cases e; exact h⟩
structure ItD (K : PySem.W.Frag) (m : Mp) (H : Hp) (J : It) (ps : List P) (own : Option Nat) : Prop where
  go : ∀ (i : Nat) (p : P) (m2 : Mp) (H2 : Hp) (S2 : Sto), ps[i]? = some p → Wk m H m2 H2 → Rel K m2 H2 S2 → OwnOk own ps S2 → J.go i H2 ∧ ∀ x H3, J.yld i H2 x H3 → Rel K m2 H3 S2 ∧ Stp m2 H2 m2 H3 ∧ Is K (mask m2 H3) p x ∧ ∀ b o, H2 b = some o → H3 b = some o
  stop : ∀ (i : Nat) (m2 : Mp) (H2 : Hp) (S2 : Sto), ps.length ≤ i → Wk m H m2 H2 → Rel K m2 H2 S2 → OwnOk own ps S2 → J.stop i H2
abbrev FI := Dnv → Sto → Oc (List P × Option Nat)
def TDi (K : PySem.W.Frag) (f : FI) : TI := fun σ H W => ∃ m env S, Rel K m H S ∧ EnvIs K m (mask m H) σ env ∧ ∃ ps own S', f env S = .ok (ps, own) S' ∧
  ∀ m' H' J, Stp m H m' H' → Rel K m' H' S' → ItD K m' H' J ps own → W J H'
abbrev PId (X : Cx) (tg e : Expr) (f : FI) : Prop := PI X tg e (TDi X.K f)
theorem pi_weak {X : Cx} {tg e : Expr} {t t' : TI} (h : PI X tg e t) (q : ∀ σ H W, t' σ H W → t σ H W) : PI X tg e t' := ⟨fun pins s σ H W I w => h.run pins s σ H W I (q σ H W w)⟩
section
variable {K : PySem.W.Frag} {m : Mp} {H : Hp} {S : Sto}
theorem itd_seq {a : Addr} {ps : List P} {own : Option Nat} (h : ∀ (m2 : Mp) (H2 : Hp) (S2 : Sto), Wk m H m2 H2 → Rel K m2 H2 S2 → OwnOk own ps S2 → ∃ xs, SqL K H2 a xs ∧ IsAll K (mask m2 H2) ps xs) : ItD K m H (Itl K a) ps own where
  go := fun i p m2 H2 S2 hp w R o => by
    obtain ⟨xs, h1, h2⟩ := h m2 H2 S2 w R o
    obtain ⟨v, h3, h4⟩ := h2.get hp
    refine ⟨⟨xs, v, h1, h3⟩, fun x H3 y => ?_⟩
    obtain ⟨rfl, y⟩ := y
    have e := y xs h1
    rw [h3] at e
    cases e
    exact ⟨R, Stp.refl _ _, h4, fun _ _ z => z⟩
  stop := fun i m2 H2 S2 hl w R o => by
    obtain ⟨xs, h1, h2⟩ := h m2 H2 S2 w R o
    exact ⟨xs, h1, by rw [← h2.len]; exact hl⟩
theorem itd_tup {a : Addr} {ps : List P} (h : ∀ (m2 : Mp) (H2 : Hp), Wk m H m2 H2 → ∃ xs, SqT K H2 a xs ∧ IsAll K (mask m2 H2) ps xs) : ItD K m H (Itt K a) ps none where
  go := fun i p m2 H2 S2 hp w R o => by
    obtain ⟨xs, h1, h2⟩ := h m2 H2 w
    obtain ⟨v, h3, h4⟩ := h2.get hp
    refine ⟨⟨xs, v, h1, h3⟩, fun x H3 y => ?_⟩
    obtain ⟨rfl, y⟩ := y
    have e := y xs h1
    rw [h3] at e
    cases e
    exact ⟨R, Stp.refl _ _, h4, fun _ _ z => z⟩
  stop := fun i m2 H2 S2 hl w R o => by
    obtain ⟨xs, h1, h2⟩ := h m2 H2 w
    exact ⟨xs, h1, by rw [← h2.len]; exact hl⟩
theorem itd_rng {lo : Int} {n : Nat} : ItD K m H (Itr lo n) ((List.range n).map fun i : Nat => .int (lo + i)) none where
  go := fun i p m2 H2 S2 hp w R o => by
    rw [List.getElem?_map] at hp
    obtain ⟨j, h1, h2⟩ := Option.map_eq_some_iff.mp hp
    have hl := lt_of_at h1
    rw [List.length_range] at hl
    rw [List.getElem?_range hl] at h1
    cases h1
    refine ⟨hl, fun x H3 y => ?_⟩
    obtain ⟨rfl, rfl⟩ := y
    rw [← h2]
    exact ⟨R, Stp.refl _ _, rfl, fun _ _ z => z⟩
  stop := fun i m2 H2 S2 hl w R o => by
    rw [List.length_map, List.length_range] at hl
    exact hl
/-- the signs of a text -/
def signs (x : Str) : List P := x.cps.toList.map fun c => .str ⟨#[c]⟩
theorem itd_str {x : Str} : ItD K m H (Its x) (signs x) none where
  go := fun i p m2 H2 S2 hp w R o => by
    unfold signs at hp
    rw [List.getElem?_map] at hp
    obtain ⟨c, h1, h2⟩ := Option.map_eq_some_iff.mp hp
    have hl := lt_of_at h1
    refine ⟨show i < x.cps.size by simpa using hl, fun z H3 y => ?_⟩
    obtain ⟨rfl, c2, h3, rfl⟩ := y
    have : c2 = c := by
      have e : x.cps.toList[i]? = some c2 := by simpa using h3
      rw [h1] at e
      exact (Option.some.inj e).symm
    rw [← h2, this]
    exact ⟨R, Stp.refl _ _, rfl, fun _ _ z => z⟩
  stop := fun i m2 H2 S2 hl w R o => by
    unfold signs at hl
    rw [List.length_map] at hl
    exact (show x.cps.size ≤ i by simpa using hl)
end
/-- any value that is walked: a list, a tuple, a text -/
def iAny (K : PySem.W.Frag) (tl : TE) : TI := fun σ H R => tl σ H fun x H1 => (∃ a, x = .ref a ∧ (∃ xs, SqL K H1 a xs) ∧ R (Itl K a) H1) ∨ (∃ a, x = .ref a ∧ (∃ xs, SqT K H1 a xs) ∧ R (Itt K a) H1) ∨ (∃ z, x = .str z ∧ R (Its z) H1)
theorem pi_any {X : Cx} {tg e : Expr} {tl : TE} (hl : PE X e tl) : PI X tg e (iAny X.K tl) := by
  refine ⟨fun pins s σ H R I h => ?_⟩
  refine thn (hl.run pins s σ H _ I h) fun v s1 ⟨x, H1, I1, r1, q1⟩ => ?_
  have mine : ∀ {Ts : Heap → Nat → Addr → Prop} {o : Obj}, Inv X pins σ H1 { s1 with heap := s1.heap.push o } := fun {Ts o} => I1.kept (t' := s1.toks) fun b o e => Heap.get?_push_of_some _ e
  have fpo : ∀ b ∈ [s1.heap.objs.size], FpOk X pins H1 b := fun b hb => by
    have e : b = s1.heap.objs.size := by simpa using hb
    subst e
    exact I1.fpOk (Nat.le_refl _) (I1.hok.fresh (Nat.le_refl _))
  rcases q1 with ⟨a, rfl, ⟨xs, hq⟩, q⟩ | ⟨a, rfl, ⟨xs, hq⟩, q⟩ | ⟨z, rfl, q⟩
  · obtain rfl : v = Value.ref a := r1
    obtain ⟨its, rv, p, hz⟩ := I1.list hq
    refine wpAny_pyIter_list p.isList ?_
    exact ⟨s1.heap.objs.size, [s1.heap.objs.size], _, _, H1, rfl, I1.kept (t' := s1.toks) fun b o e => Heap.get?_push_of_some _ e, turn_list a _, ⟨_, Heap.get?_push_size _ rfl, rfl, rfl⟩, fpo, q⟩
  · obtain rfl : v = Value.ref a := r1
    obtain ⟨its, rv, p, hz⟩ := I1.tuple hq
    refine wpAny_pyIter_tuple (show s1.heap.IsTuple a its.toArray from p) ?_
    exact ⟨s1.heap.objs.size, [s1.heap.objs.size], _, _, H1, rfl, I1.kept (t' := s1.toks) fun b o e => Heap.get?_push_of_some _ e, turn_tuple a _, ⟨_, Heap.get?_push_size _ rfl, rfl, rfl⟩, fpo, q⟩
  · obtain ⟨t, rfl⟩ := r1
    cases ha : z.cps.all (· < 128)
    · exact wpAny_pyIter_wide ha (pi_one (tk := s1.toks) I1 _ (turn_str _ z t "str_iterator" (.inr rfl)) ⟨_, Heap.get?_push_size _ rfl, rfl, rfl⟩ q)
    · exact wpAny_pyIter_ascii ha (pi_one (tk := s1.toks) I1 _ (turn_str _ z t "str_ascii_iterator" (.inl rfl)) ⟨_, Heap.get?_push_size _ rfl, rfl, rfl⟩ q)
def seqOf (d : D) (S : Sto) : Option (List P × Option Nat) := match d with
  | .v (.lst ps) => some (ps, none)
  | .v (.frz ps) => some (ps, none)
  | .v (.tup ps) => some (ps, none)
  | .v (.str x) => some (signs x, none)
  | .r n => match S[n]? with
    | some (.lst ps) => some (ps, some n)
    | _ => none
  | _ => none
def iVal (f : FE) : FI := fun env S => (f env S).bind fun d S1 => match seqOf d S1 with
  | some r => .ok r S1
  | none => .bad
theorem i_val {X : Cx} {tg e : Expr} {f : FE} (h : PEd X e f) : PId X tg e (iVal f) := pi_weak (pi_any h) fun σ H W ⟨m, env, S, R, E, ps, own, S', e1, q⟩ => by
  obtain ⟨d, S1, k1, e2⟩ := Oc.bind_eq e1
  refine ⟨m, env, S, R, E, d, S1, k1, fun v m1 H1 st1 R1 i1 => ?_⟩
  cases h1 : seqOf d S1 with
  | none => rw [h1] at e2; cases e2
  | some r =>
    rw [h1] at e2
    cases e2
    unfold seqOf at h1
    split at h1
    · cases h1
      obtain ⟨a, xs, rfl, h2, h3⟩ := i1
      exact .inl ⟨a, rfl, ⟨xs, .of (mask_some h2).2⟩, q m1 H1 _ st1 R1 (itd_seq fun m2 H2 S2 w R2 o => ⟨xs, .of (mask_some (w.ex _ _ h2)).2, IsAll.mono w.ex _ _ h3⟩)⟩
    · cases h1
      obtain ⟨a, xs, rfl, h2, h3⟩ := i1
      exact .inl ⟨a, rfl, ⟨xs, sqL_mono (mask_ex _ _) h2⟩, q m1 H1 _ st1 R1 (itd_seq fun m2 H2 S2 w R2 o => ⟨xs, sqL_mono (mask_ex _ _) (sqL_mono w.ex h2), IsAll.mono w.ex _ _ h3⟩)⟩
    · cases h1
      obtain ⟨a, xs, rfl, h2, h3⟩ := i1
      exact .inr (.inl ⟨a, rfl, ⟨xs, sqT_mono (mask_ex _ _) h2⟩, q m1 H1 _ st1 R1 (itd_tup fun m2 H2 w => ⟨xs, sqT_mono (mask_ex _ _) (sqT_mono w.ex h2), IsAll.mono w.ex _ _ h3⟩)⟩)
    · cases h1
      exact .inr (.inr ⟨_, i1, q m1 H1 _ st1 R1 itd_str⟩)
    · rename_i n
      split at h1
      · rename_i ps' hS
        cases h1
        obtain ⟨a, rfl, h2⟩ := i1
        obtain ⟨xs, h3, h4⟩ := R1.ob n a _ h2 hS
        exact .inl ⟨a, rfl, ⟨xs, .of h3⟩, q m1 H1 _ st1 R1 (itd_seq fun m2 H2 S2 w R2 o => by
          obtain ⟨ys, h5, h6⟩ := R2.ob n a _ (w.ext _ _ h2) (o n rfl)
          exact ⟨ys, .of h5, h6⟩)⟩
      · cases h1
    · cases h1
def intsD : List D → Option (List Int)
  | [] => some []
  | .v (.int i) :: ds => (intsD ds).map (i :: ·)
  | _ :: _ => none
def iR1 (g : FA) : FI := fun env S => (g env S).bind fun ds S1 => match intsD ds with
  | some [n] => if -1000000 ≤ n ∧ n ≤ 1000000 then .ok ((List.range n.toNat).map fun i : Nat => .int ((0 : Int) + i), none) S1 else .bad
  | _ => .bad
def iR2 (g : FA) : FI := fun env S => (g env S).bind fun ds S1 => match intsD ds with
  | some [a, b] => if (-1000000 ≤ a ∧ a ≤ 1000000) ∧ (-1000000 ≤ b ∧ b ≤ 1000000) then .ok ((List.range (b - a).toNat).map fun i : Nat => .int (a + i), none) S1 else .bad
  | _ => .bad
theorem ints_is {K : PySem.W.Frag} {m : Mp} {G : Hp} : ∀ {ds : List D} {ns : List Int} {vs : List V}, intsD ds = some ns → IsDs K m G ds vs → vs = ns.map V.int
  | [], ns, vs, h, i => by
    cases h
    exact i
  | .v (.int i) :: ds, ns, vs, h, ⟨v, ws, h1, h2, h3⟩ => by
    unfold intsD at h
    obtain ⟨ms, h4, h5⟩ := Option.map_eq_some_iff.mp h
    subst h5
    have e := ints_is h4 h3
    subst e
    subst h1
    have h2' : v = .int i := h2
    rw [h2']
    rfl
  | .r _ :: _, _, _, h, _ => by cases h
  | .v .non :: _, _, _, h, _ => by cases h
  | .v (.bl _) :: _, _, _, h, _ => by cases h
  | .v (.str _) :: _, _, _, h, _ => by cases h
  | .v (.tup _) :: _, _, _, h, _ => by cases h
  | .v (.lst _) :: _, _, _, h, _ => by cases h
  | .v (.frz _) :: _, _, _, h, _ => by cases h
  | .v (.dic _ _) :: _, _, _, h, _ => by cases h
  | .v (.fn _) :: _, _, _, h, _ => by cases h
theorem i_rng1 {X : Cx} {tg a : Expr} {g : FA} {p pos : Pos} (hm : X.mg "range" = none) (ha : PAd X [a] g) (hg : Gl X "range" := by rfl) (hs : starEach [a] X.env = [(false, eval a X.env)] := by rfl) : PId X tg (.Call (.Name "range" p) [a] [] pos) (iR1 g) :=
  pi_weak (pi_range1 hg hm ha hs) fun σ H W ⟨m, env, S, R, E, ps, own, S', e1, q⟩ => by
  obtain ⟨ds, S1, k1, e2⟩ := Oc.bind_eq e1
  refine ⟨m, env, S, R, E, ds, S1, k1, fun vs m1 H1 st1 R1 i1 => ?_⟩
  split at e2
  · rename_i n hn
    split at e2
    · rename_i hb
      cases e2
      have ev := ints_is hn i1
      exact ⟨n, ev, by omega, by omega, q m1 H1 _ st1 R1 itd_rng⟩
    · cases e2
  · cases e2
theorem i_rng2 {X : Cx} {tg a b : Expr} {g : FA} {p pos : Pos} (hm : X.mg "range" = none) (ha : PAd X [a, b] g) (hg : Gl X "range" := by rfl) (hs : starEach [a, b] X.env = [(false, eval a X.env), (false, eval b X.env)] := by rfl) (hs2 : starEach [b] X.env = [(false, eval b X.env)] := by rfl) : PId X tg (.Call (.Name "range" p) [a, b] [] pos) (iR2 g) :=
  pi_weak (pi_range2 hg hm ha hs hs2) fun σ H W ⟨m, env, S, R, E, ps, own, S', e1, q⟩ => by
  obtain ⟨ds, S1, k1, e2⟩ := Oc.bind_eq e1
  refine ⟨m, env, S, R, E, ds, S1, k1, fun vs m1 H1 st1 R1 i1 => ?_⟩
  split at e2
  · rename_i x y hn
    split at e2
    · rename_i hb
      cases e2
      have ev := ints_is hn i1
      exact ⟨x, y, ev, by omega, q m1 H1 _ st1 R1 itd_rng⟩
    · cases e2
  · cases e2

/-! ### for, while -/
open Classical in
noncomputable def loopF (own : Option Nat) (all : List P) (g : FG) (b : FS) : List P → Dnv → Sto → Flo
  | [], env, S => if OwnOk own all S then .nx env S else .bad
  | p :: ps, env, S => if OwnOk own all S then (g (.v p) env S).fl fun env1 S1 => match b env1 S1 with
    | .nx e s => loopF own all g b ps e s
    | .ct e s => loopF own all g b ps e s
    | .bk e s => .nx e s
    | .rt d s => .rt d s
    | .bad => .bad else .bad
noncomputable def fFor (it : FI) (g : FG) (b : FS) : FS := fun env S => (it env S).fl fun r S1 => loopF r.2 r.1 g b r.1 env S1
def whileF (t : FT) (b : FS) : Nat → Dnv → Sto → Flo
  | 0, _, _ => .bad
  | n + 1, env, S => (t env S).fl fun k S1 => if k = true then match b env S1 with
    | .nx e s => whileF t b n e s
    | .ct e s => whileF t b n e s
    | .bk e s => .nx e s
    | .rt d s => .rt d s
    | .bad => .bad else .nx env S1
def fWhile (t : FT) (b : FS) : FS := fun env S => whileF t b 100000 env S
section
variable {X : Cx} {pos : Pos} {it : FI} {g : FG} {b : FS} {t : FT}
theorem s_for (hX : SX X) (hp : PassesOwn (model X.prog X.w) X.A X.env X.xe) {tg iter : Expr} {body : List Stmt} (hi : PId X tg iter it) (hg : PGd X tg g) (hb : PSsd X body b) (hs : ∀ x, foldedSetIterable iter X.env x = pure x := by intro _; rfl) :
    PSd X (.For tg iter body [] pos) (fFor it g b) := ps_weak (ps_for hp hX.calm hi hg hb hs) fun D σ H ⟨m, env, S, R, E, q⟩ => by
  obtain ⟨⟨ps, own⟩, S1, k1, q⟩ := Oc.fl_ne q
  refine ⟨m, env, S, R, E, ps, own, S1, k1, fun m1 H1 J st1 R1 T => ?_⟩
  have q : FloOk X.K m1 H1 D (loopF own ps g b ps env S1) := q.step st1
  refine ⟨fun i k σ2 H2 => k + i = ps.length ∧ ∃ m2 env2 S2, Stp m1 H1 m2 H2 ∧ Rel X.K m2 H2 S2 ∧ EnvIs X.K m2 (mask m2 H2) σ2 env2 ∧ FloOk X.K m2 H2 D (loopF own ps g b (ps.drop i) env2 S2), ⟨ps.length, by omega, m1, env, S1, Stp.refl _ _, R1, E.step st1, by simpa using q⟩, ?_⟩
  rintro i k σ2 H2 ⟨hk, m2, env2, S2, st2, R2, E2, q2⟩
  by_cases hi : i < ps.length
  · right
    rw [List.drop_eq_getElem_cons hi] at q2
    unfold loopF at q2
    split at q2
    · rename_i ho
      obtain ⟨env3, S3, k3, q3⟩ := Oc.fl_ne q2
      obtain ⟨hgo, hy⟩ := T.go i _ m2 H2 S2 (List.getElem?_eq_getElem hi) st2.wk R2 ho
      refine ⟨hgo, fun σ' H' => ∃ k', k' < k ∧ (k' + (i + 1) = ps.length ∧ ∃ m2 env2 S2, Stp m1 H1 m2 H' ∧ Rel X.K m2 H' S2 ∧ EnvIs X.K m2 (mask m2 H') σ' env2 ∧ FloOk X.K m2 H' D (loopF own ps g b (ps.drop (i + 1)) env2 S2)), fun σ' H' z => z, fun x H3 y => ?_⟩
      obtain ⟨R3, st3, i3, _⟩ := hy x H3 y
      refine ⟨m2, env2, S2, .v ps[i], R3, E2.step st3, i3, env3, S3, k3, fun m4 H4 σ4 st4 R4 E4 => ⟨m4, env3, S3, R4, E4, ?_⟩⟩
      have stA := (st2.trans st3).trans st4
      have q4 := q3.step (st3.trans st4)
      cases hb : b env3 S3 with
      | nx e s =>
        rw [hb] at q4
        exact fun m5 H5 σ5 st5 R5 E5 => ⟨k - 1, by omega, by omega, m5, e, s, stA.trans st5, R5, E5, q4.step st5⟩
      | ct e s =>
        rw [hb] at q4
        exact fun m5 H5 σ5 st5 R5 E5 => ⟨k - 1, by omega, by omega, m5, e, s, stA.trans st5, R5, E5, q4.step st5⟩
      | bk e s =>
        rw [hb] at q4
        exact q4
      | rt d s =>
        rw [hb] at q4
        exact q4
      | bad =>
        rw [hb] at q4
        exact q4
    · exact q2.elim
  · left
    have e : ps.drop i = [] := List.drop_eq_nil_of_le (by omega)
    rw [e] at q2
    unfold loopF at q2
    split at q2
    · rename_i ho
      exact ⟨T.stop i m2 H2 S2 (by omega) st2.wk R2 ho, q2 m2 H2 σ2 (Stp.refl _ _) R2 E2⟩
    · exact q2.elim
theorem s_while (hp : PassesOwn (model X.prog X.w) X.A X.env X.xe) {c : Expr} {body : List Stmt} (hc : PTd X c t) (hb : PSsd X body b) : PSd X (.While c body [] pos) (fWhile t b) := ps_weak (ps_while hp hc hb) fun D σ H ⟨m, env, S, R, E, q⟩ => by
  refine ⟨fun n σ2 H2 => ∃ m2 env2 S2, Stp m H m2 H2 ∧ Rel X.K m2 H2 S2 ∧ EnvIs X.K m2 (mask m2 H2) σ2 env2 ∧ FloOk X.K m2 H2 D (whileF t b n env2 S2), ⟨_, m, env, S, Stp.refl _ _, R, E, q⟩, ?_⟩
  rintro n σ2 H2 ⟨m2, env2, S2, st2, R2, E2, q2⟩
  cases n with
  | zero => exact q2.elim
  | succ n =>
    unfold whileF at q2
    obtain ⟨k, S3, k3, q3⟩ := Oc.fl_ne q2
    refine ⟨m2, env2, S2, R2, E2, k, S3, k3, fun m3 H3 st3 R3 => ?_⟩
    cases k with
    | false =>
      rw [if_neg (by decide)] at q3 ⊢
      exact q3 m3 H3 σ2 st3 R3 (E2.step st3)
    | true =>
      rw [if_pos rfl] at q3 ⊢
      refine ⟨fun σ' H' => ∃ m', m' < n + 1 ∧ ∃ m2 env2 S2, Stp m H m2 H' ∧ Rel X.K m2 H' S2 ∧ EnvIs X.K m2 (mask m2 H') σ' env2 ∧ FloOk X.K m2 H' D (whileF t b m' env2 S2), fun σ' H' z => z, m3, env2, S3, R3, E2.step st3, ?_⟩
      have q4 := q3.step st3
      have stA := st2.trans st3
      cases hb : b env2 S3 with
      | nx e s =>
        rw [hb] at q4
        exact fun m5 H5 σ5 st5 R5 E5 => ⟨n, by omega, m5, e, s, stA.trans st5, R5, E5, q4.step st5⟩
      | ct e s =>
        rw [hb] at q4
        exact fun m5 H5 σ5 st5 R5 E5 => ⟨n, by omega, m5, e, s, stA.trans st5, R5, E5, q4.step st5⟩
      | bk e s =>
        rw [hb] at q4
        exact q4
      | rt d s =>
        rw [hb] at q4
        exact q4
      | bad =>
        rw [hb] at q4
        exact q4
end

/-! ### comprehensions -/
def wipeE (env : Dnv) : List Nat → Dnv
  | [] => env
  | v :: vs => (wipeE env vs).set v none
theorem wipe_at {σ : L2.St} {i : Nat} : ∀ {vs : List Nat}, i ∉ vs → (wipe σ vs)[i]? = σ[i]?
  | [], _ => rfl
  | v :: vs, h => by
    unfold wipe
    rw [List.getElem?_set_ne (fun e => h (by simp [e]))]
    exact wipe_at (fun z => h (List.mem_cons_of_mem _ z))
theorem wipeE_some {env : Dnv} {i : Nat} {d : D} : ∀ {vs : List Nat}, (wipeE env vs)[i]? = some (some d) → env[i]? = some (some d) ∧ i ∉ vs
  | [], h => ⟨h, by simp⟩
  | v :: vs, h => by
    unfold wipeE at h
    by_cases hi : v = i
    · subst hi
      by_cases hl : v < (wipeE env vs).length
      · rw [List.getElem?_set_self hl] at h; cases h
      · rw [List.getElem?_eq_none (by simpa using hl)] at h; cases h
    · rw [List.getElem?_set_ne hi] at h
      obtain ⟨h1, h2⟩ := wipeE_some h
      exact ⟨h1, by simp only [List.mem_cons, not_or]; exact ⟨fun e => hi e.symm, h2⟩⟩
theorem wipeE_len (env : Dnv) : ∀ vs : List Nat, (wipeE env vs).length = env.length
  | [] => rfl
  | v :: vs => by unfold wipeE; rw [List.length_set, wipeE_len env vs]
theorem EnvIs.wipe {K : PySem.W.Frag} {m : Mp} {G : Hp} {σ : L2.St} {env : Dnv} (h : EnvIs K m G σ env) (vs : List Nat) : EnvIs K m G (L2.wipe σ vs) (wipeE env vs) := by
  refine ⟨by rw [wipe_length, wipeE_len]; exact h.len, fun i d e => ?_⟩
  obtain ⟨e1, e2⟩ := wipeE_some e
  obtain ⟨v, h1, h2⟩ := h.get i d e1
  exact ⟨v, by rw [wipe_at e2]; exact h1, h2⟩
theorem wipe_set {σ : L2.St} {i : Nat} {x : Option V} : ∀ {vs : List Nat}, i ∈ vs → L2.wipe (σ.set i x) vs = L2.wipe σ vs
  | [], h => by cases h
  | v :: vs, h => by
    by_cases hi : i ∈ vs
    · unfold L2.wipe
      rw [wipe_set hi]
    · have e : i = v := by simpa [hi] using h
      subst e
      unfold L2.wipe
      refine List.ext_getElem? fun j => ?_
      by_cases hj : i = j
      · subst hj
        by_cases hl : i < σ.length
        · rw [List.getElem?_set_self (by rw [wipe_length, List.length_set]; exact hl), List.getElem?_set_self (by rw [wipe_length]; exact hl)]
        · rw [List.getElem?_eq_none (by rw [List.length_set, wipe_length, List.length_set]; omega), List.getElem?_eq_none (by rw [List.length_set, wipe_length]; omega)]
      · rw [List.getElem?_set_ne hj, List.getElem?_set_ne hj]
        have : ∀ {vs : List Nat}, (L2.wipe (σ.set i x) vs)[j]? = (L2.wipe σ vs)[j]? := by
          intro vs
          induction vs with
          | nil => exact List.getElem?_set_ne hj
          | cons w ws ih =>
            unfold L2.wipe
            by_cases hw : w = j
            · subst hw
              by_cases hl : w < σ.length
              · rw [List.getElem?_set_self (by rw [wipe_length, List.length_set]; exact hl), List.getElem?_set_self (by rw [wipe_length]; exact hl)]
              · rw [List.getElem?_eq_none (by rw [List.length_set, wipe_length, List.length_set]; omega), List.getElem?_eq_none (by rw [List.length_set, wipe_length]; omega)]
            · rw [List.getElem?_set_ne hw, List.getElem?_set_ne hw]
              exact ih
        exact this
theorem wipe_idem (σ : L2.St) (vs : List Nat) : L2.wipe (L2.wipe σ vs) vs = L2.wipe σ vs := by
  have step : ∀ (us ws : List Nat), (∀ u ∈ us, u ∈ ws) → ∀ τ : L2.St, L2.wipe (L2.wipe τ us) ws = L2.wipe τ ws := by
    intro us
    induction us with
    | nil => exact fun ws _ τ => rfl
    | cons u us ih =>
      intro ws h τ
      show L2.wipe ((L2.wipe τ us).set u none) ws = _
      rw [wipe_set (h u (List.mem_cons_self ..))]
      exact ih ws (fun x hx => h x (List.mem_cons_of_mem _ hx)) τ
  exact step vs vs (fun _ h => h) σ
/-- a comprehension's target: it stores its own names -/
def TDw (K : PySem.W.Frag) (vs : List Nat) (g : FG) : TG := fun v σ H Q => ∃ m env S d, Rel K m H S ∧ EnvIs K m (mask m H) σ env ∧ IsD K m (mask m H) d v ∧ ∃ env' S', g d env S = .ok env' S' ∧ ∀ m' H' σ', Stp m H m' H' → Rel K m' H' S' → EnvIs K m' (mask m' H') σ' env' → (∀ b o, H b = some o → H' b = some o) → L2.wipe σ' vs = L2.wipe σ vs → Q σ' H'
def TDws (K : PySem.W.Frag) (vs : List Nat) (g : FGs) : TGs := fun ws σ H Q => ∃ m env S ps, Rel K m H S ∧ EnvIs K m (mask m H) σ env ∧ IsAll K (mask m H) ps ws ∧ ∃ env' S', g ps env S = .ok env' S' ∧ ∀ m' H' σ', Stp m H m' H' → Rel K m' H' S' → EnvIs K m' (mask m' H') σ' env' → (∀ b o, H b = some o → H' b = some o) → L2.wipe σ' vs = L2.wipe σ vs → Q σ' H'
theorem w_nm {X : Cx} {i : Nat} {x : Str} {pos : Pos} {vs : List Nat} (hN : X.N.Nodup) (hi : X.N[i]? = some x) (hx : Loc X.env.scope x) (hv : i ∈ vs) (hf : X.fn x = true ∨ X.env.scope.names.lookup x = some .local) : PG X (.Name x pos) (TDw X.K vs (gNm i)) :=
  pg_weak (pg_name hN hi hx hf) fun v σ H Q ⟨m, env, S, d, R, E, i1, env', S', e1, q⟩ => by
  cases e1
  exact q m H _ (Stp.refl m H) R (E.set i1) (fun _ _ z => z) (wipe_set hv)
theorem w_nl {X : Cx} {vs : List Nat} : PGs X [] (TDws X.K vs gNl) := pgs_weak pgs_nil fun ws σ H Q ⟨m, env, S, ps, R, E, i1, env', S', e1, q⟩ => by
  cases ps with
  | nil =>
    cases e1
    exact ⟨i1, q m H σ (Stp.refl m H) R E (fun _ _ z => z) rfl⟩
  | cons p r => cases e1
theorem w_cn {X : Cx} {vs : List Nat} {e : Expr} {es : List Expr} {g : FG} {k : FGs} (h1 : PG X e (TDw X.K vs g)) (h2 : PGs X es (TDws X.K vs k)) (hs : (assignEach (e :: es) X.env).map (·.2) = assign e X.env :: (assignEach es X.env).map (·.2) := by rfl) : PGs X (e :: es) (TDws X.K vs (gCn g k)) :=
  pgs_weak (pgs_cons h1 h2 hs) fun ws σ H Q ⟨m, env, S, ps, R, E, i1, env', S', e1, q⟩ => by
  cases ps with
  | nil => cases e1
  | cons p r =>
    obtain ⟨v, us, rfl, h3, h4⟩ := i1
    obtain ⟨env1, S1, k1, e2⟩ := Oc.bind_eq e1
    exact ⟨v, us, rfl, m, env, S, .v p, R, E, h3, env1, S1, k1, fun m1 H1 σ1 st1 R1 E1 x1 w1 => ⟨m1, env1, S1, r, R1, E1, st1.all h4, env', S', e2, fun m2 H2 σ2 st2 R2 E2 x2 w2 => q m2 H2 σ2 (st1.trans st2) R2 E2 (fun b o z => x2 b o (x1 b o z)) (w2.trans w1)⟩⟩
theorem w_tp {X : Cx} {vs : List Nat} {es : List Expr} {k : Nat} {pos : Pos} {t : FGs} {n : Nat} (hc : X.calm = true) (h : PGs X es (TDws X.K vs t)) (hn : (assignEach es X.env).length = n := by rfl) (hst : (assignEach es X.env).findIdx? (·.1) = none := by rfl) : PG X (.Tuple es k pos) (TDw X.K vs (gTp n t)) :=
  pg_weak (pg_tup hc h hn hst) fun v σ H Q ⟨m, env, S, d, R, E, i1, env', S', e1, q⟩ => by
  unfold gTp at e1
  split at e1
  · rename_i ps
    split at e1
    · rename_i hl
      obtain ⟨a, xs, rfl, h1, h2⟩ := i1
      exact ⟨a, xs, rfl, sqT_mono (mask_ex m H) h1, by rw [← h2.len]; exact hl, m, env, S, ps, R, E, h2, env', S', e1, q⟩
    · cases e1
  · cases e1
def fYes : FT := fun _ S => .ok true S
open Classical in
noncomputable def lcF (own : Option Nat) (all : List P) (g : FG) (t : FT) (e : FE) (env : Dnv) : List P → Sto → List P → Oc (List P)
  | [], S, acc => if OwnOk own all S then .ok acc S else .bad
  | p :: ps, S, acc => if OwnOk own all S then (g (.v p) env S).bind fun env1 S1 => (t env1 S1).bind fun b S2 => if b = true then (e env1 S2).bind fun d S3 => match d with
      | .v q => if acc.length < 100000 then lcF own all g t e env ps S3 (acc ++ [q]) else .bad
      | .r _ => .bad else lcF own all g t e env ps S2 acc else .bad
noncomputable def fLc (it : FI) (g : FG) (t : FT) (e : FE) (vs : List Nat) : FE := fun env S => (it env S).bind fun r S1 => (lcF r.2 r.1 g t e (wipeE env vs) r.1 S1 []).bind fun acc S2 => .ok (.v (.lst acc)) S2
noncomputable def fLcB (it : FI) (g : FG) (t : FT) (e : FE) (vs : List Nat) : FE := fun env S => (it env S).bind fun r S1 => (lcF r.2 r.1 g t e (wipeE env vs) r.1 S1 []).bind fun acc S2 => .ok (.r S2.length) (S2 ++ [.lst acc])
section
variable {K : PySem.W.Frag}
/-- the walk of a comprehension, whatever is done with the list -/
theorem lc_walk {it : FI} {g : FG} {t : FT} {e : FE} {vs : List Nat} {σ : L2.St} {H : Hp} {Q : VK} {m : Mp} {env : Dnv} {S : Sto} (R : Rel K m H S) (E : EnvIs K m (mask m H) σ env) {ps : List P} {own : Option Nat} {S1 S2 : Sto} {acc : List P} (k1 : it env S = .ok (ps, own) S1)
    (k2 : lcF own ps g t e (wipeE env vs) ps S1 [] = .ok acc S2)
    (q : ∀ p xs l2 H2, p ∉ m.h → Wk m H ⟨l2, p :: m.h⟩ H2 → (∀ b, b ∈ m.h → H2 b = H b) → Rel K ⟨l2, p :: m.h⟩ H2 S2 → H2 p = some (.lst xs) → IsAll K (mask ⟨l2, p :: m.h⟩ H2) acc xs → Q (.ref p) H2) : tLc (TDi K it) (TDw K vs g) (TDt K t) (TD K e) vs σ H Q := by
  refine ⟨m, env, S, R, E, ps, own, S1, k1, fun m1 H1 J st1 R1 T Dl hD => ?_⟩
  have R1h := R1.hide (o := .lst []) hD
  have emk := mask_hide (m := m1) (o := .lst []) hD
  have hDm := R1.out hD
  refine ⟨fun i k H2 => k + i = ps.length ∧ ∃ m2 S3 ac xs, m2.h = Dl :: m1.h ∧ Wk m1 H1 m2 H2 ∧ (∀ b, b ∈ m1.h → H2 b = H1 b) ∧ Rel K m2 H2 S3 ∧ H2 Dl = some (.lst xs) ∧ IsAll K (mask m2 H2) ac xs ∧ lcF own ps g t e (wipeE env vs) (ps.drop i) S3 ac = .ok acc S2,
    ⟨ps.length, by omega, m1.hide Dl, S1, [], [], rfl, ⟨fun _ _ h => h, by rw [emk]; exact fun _ _ h => h⟩, fun b hb => upd_ne fun z => hDm (.inr (z ▸ hb)), R1h, upd_same, rfl, by simpa using k2⟩, ?_⟩
  rintro i k H2 ⟨hk, m2, S3, ac, xs, hh, w2, hk2, R2, eD, iac, k3⟩
  by_cases hi : i < ps.length
  · right
    rw [List.drop_eq_getElem_cons hi] at k3
    unfold lcF at k3
    split at k3
    · rename_i ho
      obtain ⟨env3, S4, k4, k5⟩ := Oc.bind_eq k3
      obtain ⟨b, S5, k6, k7⟩ := Oc.bind_eq k5
      obtain ⟨hgo, hy⟩ := T.go i _ m2 H2 S3 (List.getElem?_eq_getElem hi) w2 R2 ho
      refine ⟨hgo, fun H' => ∃ k', k' < k ∧ (k' + (i + 1) = ps.length ∧ ∃ m2 S3 ac xs, m2.h = Dl :: m1.h ∧ Wk m1 H1 m2 H' ∧ (∀ b, b ∈ m1.h → H' b = H1 b) ∧ Rel K m2 H' S3 ∧ H' Dl = some (.lst xs) ∧ IsAll K (mask m2 H') ac xs ∧ lcF own ps g t e (wipeE env vs) (ps.drop (i + 1)) S3 ac = .ok acc S2), fun H' z => z, fun x H3 y => ?_⟩
      obtain ⟨R3, st3, i3, _⟩ := hy x H3 y
      have hDh : Dl ∈ m2.h := by rw [hh]; exact List.mem_cons_self ..
      -- everything from (m2, H2) on
      have E2 : EnvIs K m2 (mask m2 H3) (L2.wipe σ vs) (wipeE env vs) := by
        have E1 := (E.step st1).wipe vs
        refine ⟨E1.len, fun j d z => ?_⟩
        obtain ⟨v, h1, h2⟩ := E1.get j d z
        exact ⟨v, h1, (h2.mono (w2.trans st3.wk).ext (w2.trans st3.wk).ex)⟩
      refine ⟨m2, wipeE env vs, S3, .v ps[i], R3, E2, i3, env3, S4, k4, fun m4 H4 σ4 st4 R4 E4 _ hw => ⟨by rw [hw, wipe_idem], m4, env3, S4, R4, E4, b, S5, k6, fun m5 H5 st5 R5 => ?_⟩⟩
      have stA := (st3.trans st4).trans st5
      have next : ∀ {m6 : Mp} {H6 : Hp} {S6 : Sto} {ac' : List P} {xs' : List V}, Stp m2 H2 m6 H6 → Rel K m6 H6 S6 → H6 Dl = some (.lst xs') → IsAll K (mask m6 H6) ac' xs' → lcF own ps g t e (wipeE env vs) (ps.drop (i + 1)) S6 ac' = .ok acc S2 →
          ∃ k', k' < k ∧ (k' + (i + 1) = ps.length ∧ ∃ m2 S3 ac xs, m2.h = Dl :: m1.h ∧ Wk m1 H1 m2 H6 ∧ (∀ b, b ∈ m1.h → H6 b = H1 b) ∧ Rel K m2 H6 S3 ∧ H6 Dl = some (.lst xs) ∧ IsAll K (mask m2 H6) ac xs ∧ lcF own ps g t e (wipeE env vs) (ps.drop (i + 1)) S3 ac = .ok acc S2) :=
        fun {m6 H6 S6 ac' xs'} st6 R6 e6 i6 k8 => ⟨k - 1, by omega, by omega, m6, S6, ac', xs', by rw [st6.hh, hh], w2.trans st6.wk, fun b hb => (st6.hk b (by rw [hh]; exact List.mem_cons_of_mem _ hb)).trans (hk2 b hb), R6, e6, i6, k8⟩
      have eD5 : H5 Dl = some (.lst xs) := by rw [stA.hk Dl hDh]; exact eD
      cases b with
      | false =>
        rw [if_neg (by decide)] at k7
        refine iteF ?_
        exact next stA R5 eD5 (stA.all iac) k7
      | true =>
        rw [if_pos rfl] at k7
        refine iteT ?_
        obtain ⟨d, S6, k8, k9⟩ := Oc.bind_eq k7
        refine ⟨m5, env3, S5, R5, E4.step st5, d, S6, k8, fun v m6 H6 st6 R6 i6 => ?_⟩
        have stB := stA.trans st6
        split at k9
        · rename_i q'
          split at k9
          · rename_i hl
            have eD6 : H6 Dl = some (.lst xs) := by rw [stB.hk Dl hDh]; exact eD
            have hDh6 : Dl ∈ m6.h := by rw [stB.hh]; exact hDh
            have em6 := mask_hid (m := m6) (H := H6) (o := .lst (xs ++ [v])) hDh6
            refine ⟨xs, eD6, size_lt (by rw [← iac.len]; exact hl), ?_⟩
            have R7 := R6.hidden (o := .lst (xs ++ [v])) hDh6
            refine ⟨k - 1, by omega, by omega, m6, S6, ac ++ [q'], xs ++ [v], by rw [stB.hh, hh], ⟨(w2.trans stB.wk).ext, by rw [em6]; exact (w2.trans stB.wk).ex⟩, fun b hb => ?_, R7, upd_same, by rw [em6]; exact (stB.all iac).append (IsAll.one i6), k9⟩
            have hne : b ≠ Dl := fun z => by
              subst z
              exact hDm (.inr hb)
            rw [upd_ne hne]
            exact (stB.hk b (by rw [hh]; exact List.mem_cons_of_mem _ hb)).trans (hk2 b hb)
          · cases k9
        · cases k9
    · cases k3
  · left
    have ed : ps.drop i = [] := List.drop_eq_nil_of_le (by omega)
    rw [ed] at k3
    unfold lcF at k3
    split at k3
    · rename_i ho
      cases k3
      refine ⟨T.stop i m2 H2 _ (by omega) w2 R2 ho, ?_⟩
      obtain ⟨l2, h2⟩ := m2
      have hh' : h2 = Dl :: m1.h := hh
      subst hh'
      have hDn : Dl ∉ m1.h := fun z => hDm (.inr z)
      have e1 : m1.h = m.h := st1.hh
      rw [e1] at hDn w2 R2 iac
      exact q Dl xs l2 H2 hDn ⟨(st1.wk.trans w2).ext, (st1.wk.trans w2).ex⟩ (fun b hb => (hk2 b (by rw [e1]; exact hb)).trans (st1.hk b hb)) R2 eD iac
    · cases k3
end
end DL

/-! DLf: comprehensions as values and in statements; calls of built-ins and methods. -/
namespace DL
open PySem PySem.Spec PyProof.Rows L2

section
variable {K : PySem.W.Frag}
/-- the hidden list is the store's now -/
theorem Rel.boxed {l h : List Addr} {a : Addr} {H : Hp} {S : Sto} {ps : List P} {xs : List V} (R : Rel K ⟨l, a :: h⟩ H S) (ha : a ∉ h) (e : H a = some (.lst xs)) (i : IsAll K (mask ⟨l, a :: h⟩ H) ps xs) :
    Rel K ⟨l ++ [a], h⟩ H (S ++ [.lst ps]) ∧ mask ⟨l ++ [a], h⟩ H = mask ⟨l, a :: h⟩ H := by
  have em : mask ⟨l ++ [a], h⟩ H = mask ⟨l, a :: h⟩ H := by
    funext b
    unfold mask
    have q : (b ∈ l ++ [a] ∨ b ∈ h) ↔ (b ∈ l ∨ b ∈ a :: h) := by
      simp only [List.mem_append, List.mem_cons, List.not_mem_nil, or_false]
      constructor
      · rintro ((z | z) | z)
        · exact .inl z
        · exact .inr (.inl z)
        · exact .inr (.inr z)
      · rintro (z | z | z)
        · exact .inl (.inl z)
        · exact .inl (.inr z)
        · exact .inr z
    by_cases hb : b ∈ l ∨ b ∈ a :: h
    · rw [if_pos (q.mpr hb), if_pos hb]
    · rw [if_neg (fun z => hb (q.mp z)), if_neg hb]
  have hal : a ∉ l := (R.hid a (List.mem_cons_self ..)).1
  have hlen : l.length = S.length := R.len
  refine ⟨⟨by simp [hlen], ?_, fun r b y h1 h2 => ?_, fun b hb => ⟨?_, (R.hid b (List.mem_cons_of_mem _ hb)).2⟩⟩, em⟩
  · show (l ++ [a]).Nodup
    rw [List.nodup_append]
    exact ⟨R.nd, by simp, fun b hb c hc z => by
      simp at hc
      subst hc
      subst z
      exact hal hb⟩
  · have h1' : (l ++ [a])[r]? = some b := h1
    rcases Nat.lt_or_ge r l.length with q | q
    · rw [List.getElem?_append_left q] at h1'
      rw [List.getElem?_append_left (by rw [← hlen]; exact q)] at h2
      have q2 := R.ob r b y h1' h2
      cases y with
      | lst ds =>
        obtain ⟨ys, e, q2⟩ := q2
        exact ⟨ys, e, by rw [em]; exact q2⟩
      | dic ks ds =>
        obtain ⟨ys, e, k1, k2, q2⟩ := q2
        exact ⟨ys, e, k1, k2, by rw [em]; exact q2⟩
    · have e1 : b = a := by
        rw [List.getElem?_append_right q] at h1'
        have := List.mem_of_getElem? h1'
        simpa using this
      subst e1
      rw [List.getElem?_append_right (by rw [← hlen]; exact q)] at h2
      have := List.mem_of_getElem? h2
      simp at this
      subst this
      exact ⟨xs, e, by rw [em]; exact i⟩
  · intro z
    have z' : b ∈ l ++ [a] := z
    rcases List.mem_append.mp z' with q | q
    · exact (R.hid b (List.mem_cons_of_mem _ hb)).1 q
    · have : b = a := by simpa using q
      exact ha (this ▸ hb)
theorem lc_val {it : FI} {g : FG} {t : FT} {e : FE} {vs : List Nat} {σ : L2.St} {H : Hp} {Q : VK} (h : TD K (fLc it g t e vs) σ H Q) : tLc (TDi K it) (TDw K vs g) (TDt K t) (TD K e) vs σ H Q := by
  obtain ⟨m, env, S, R, E, d, S', e1, q⟩ := h
  obtain ⟨⟨ps, own⟩, S1, k1, e2⟩ := Oc.bind_eq e1
  obtain ⟨acc, S2, k2, e3⟩ := Oc.bind_eq e2
  cases e3
  refine lc_walk R E k1 k2 fun p xs l2 H2 hp w hk R2 e2 i2 => ?_
  obtain ⟨R3, ex3⟩ := R2.show' hp
  have hpl := (R2.hid p (List.mem_cons_self ..)).1
  refine q (.ref p) ⟨l2, m.h⟩ H2 ⟨w.ext, fun b o z => ex3 b o (w.ex b o z), rfl, hk⟩ R3 ⟨p, xs, rfl, ?_, IsAll.mono ex3 _ _ i2⟩
  exact (mask_out (m := ⟨l2, m.h⟩) (fun z => z.elim (fun q => hpl q) (fun q => hp q))).trans e2
theorem lc_box {it : FI} {g : FG} {t : FT} {e : FE} {vs : List Nat} {σ : L2.St} {H : Hp} {Q : VK} (h : TD K (fLcB it g t e vs) σ H Q) : tLc (TDi K it) (TDw K vs g) (TDt K t) (TD K e) vs σ H Q := by
  obtain ⟨m, env, S, R, E, d, S', e1, q⟩ := h
  obtain ⟨⟨ps, own⟩, S1, k1, e2⟩ := Oc.bind_eq e1
  obtain ⟨acc, S2, k2, e3⟩ := Oc.bind_eq e2
  cases e3
  refine lc_walk R E k1 k2 fun p xs l2 H2 hp w hk R2 e2 i2 => ?_
  obtain ⟨R3, em⟩ := R2.boxed hp e2 i2
  have hl : l2.length = S2.length := R2.len
  refine q (.ref p) ⟨l2 ++ [p], m.h⟩ H2 ⟨fun r a z => ?_, by rw [em]; exact w.ex, rfl, hk⟩ R3 ⟨p, rfl, ?_⟩
  · show (l2 ++ [p])[r]? = some a
    have z' := w.ext r a z
    have z2 : l2[r]? = some a := z'
    rw [List.getElem?_append_left (lt_of_at z2)]
    exact z2
  · show (l2 ++ [p])[S2.length]? = some p
    rw [List.getElem?_append_right (by rw [hl]; exact Nat.le_refl _), hl, Nat.sub_self]
    rfl
end
theorem pts_weak {X : Cx} {ifs : List Expr} {t t' : TT} (h : PTs X ifs t) (q : ∀ σ H Q, t' σ H Q → t σ H Q) : PTs X ifs t' := ⟨fun pins s σ H Q I w => h.run pins s σ H Q I (q σ H Q w)⟩
theorem t_yes {X : Cx} : PTs X [] (TDt X.K fYes) := pts_weak pts_nil fun σ H Q ⟨m, env, S, R, E, b, S', e1, q⟩ => by
  cases e1
  exact q m H (Stp.refl m H) R
theorem t_one {X : Cx} {c : Expr} {t : FT} (h : PTd X c t) : PTs X [c] (TDt X.K t) := pts_one h
section
variable {X : Cx} {elt tg iter : Expr} {ifs : List Expr} {scope : Scope} {pos spos py : Pos} {it : FI} {g : FG} {t : FT} {e : FE} {i : Nat} {y : Str}
theorem d_lc (hX : SX X) (own : List (Str × Nat)) (hi : PId X tg iter it) (ok : BlkOk X.N X.env.scope scope own) (hg : ∀ (s : Shared) (H : Hp) (C : Addr) (cl : List (Str × Addr)) (fp : List Addr), PG (X.blk s H scope (compEnvC scope cl C X.env) fp) tg (TDw X.K (own.map (·.2)) g))
    (ht : ∀ (s : Shared) (H : Hp) (C : Addr) (cl : List (Str × Addr)) (fp : List Addr), PTs (X.blk s H scope (compEnvC scope cl C X.env) fp) ifs (TDt X.K t)) (he : ∀ (s : Shared) (H : Hp) (C : Addr) (cl : List (Str × Addr)) (fp : List Addr), PE (X.blk s H scope (compEnvC scope cl C X.env) fp) elt (TD X.K e))
    (hs : ∀ x, foldedSetIterable iter X.env x = pure x := by intro _; rfl) : PEd X (.ListComp elt [⟨tg, iter, ifs, 0⟩] scope pos) (fLc it g t e (own.map (·.2))) := pe_weak (pe_lc hX.calm hX.nd hi ok hg ht he hs) fun _ _ _ => lc_val
theorem d_lcB (hX : SX X) (own : List (Str × Nat)) (hi : PId X tg iter it) (ok : BlkOk X.N X.env.scope scope own) (hg : ∀ (s : Shared) (H : Hp) (C : Addr) (cl : List (Str × Addr)) (fp : List Addr), PG (X.blk s H scope (compEnvC scope cl C X.env) fp) tg (TDw X.K (own.map (·.2)) g))
    (ht : ∀ (s : Shared) (H : Hp) (C : Addr) (cl : List (Str × Addr)) (fp : List Addr), PTs (X.blk s H scope (compEnvC scope cl C X.env) fp) ifs (TDt X.K t)) (he : ∀ (s : Shared) (H : Hp) (C : Addr) (cl : List (Str × Addr)) (fp : List Addr), PE (X.blk s H scope (compEnvC scope cl C X.env) fp) elt (TD X.K e))
    (hs : ∀ x, foldedSetIterable iter X.env x = pure x := by intro _; rfl) : PEd X (.ListComp elt [⟨tg, iter, ifs, 0⟩] scope pos) (fLcB it g t e (own.map (·.2))) := pe_weak (pe_lc hX.calm hX.nd hi ok hg ht he hs) fun _ _ _ => lc_box
theorem setnm_ok {K : PySem.W.Frag} {D : Ends} {σ : L2.St} {H : Hp} {f : FE} {te : TE} (hte : ∀ σ H Q, TD K f σ H Q → te σ H Q) (h : TDs K (fSet f (gNm i)) D σ H) : tAsg te (gName i) D σ H := by
  obtain ⟨m, env, S, R, E, q⟩ := h
  obtain ⟨d, S1, k1, q⟩ := Oc.fl_ne q
  exact hte _ _ _ ⟨m, env, S, R, E, d, S1, k1, fun v m1 H1 st1 R1 i1 => q m1 H1 _ st1 R1 ((E.step st1).set i1)⟩
theorem s_setLc (hX : SX X) (own : List (Str × Nat)) (hsw : swapsWith (.ListComp elt [⟨tg, iter, ifs, 0⟩] scope pos) (some (.Name y py)) spos.line X.env = pure true) (hi : PId X tg iter it) (ok : BlkOk X.N X.env.scope scope own) (hg : ∀ (s : Shared) (H : Hp) (C : Addr) (cl : List (Str × Addr)) (fp : List Addr), PG (X.blk s H scope (compEnvC scope cl C X.env) fp) tg (TDw X.K (own.map (·.2)) g))
    (ht : ∀ (s : Shared) (H : Hp) (C : Addr) (cl : List (Str × Addr)) (fp : List Addr), PTs (X.blk s H scope (compEnvC scope cl C X.env) fp) ifs (TDt X.K t)) (he : ∀ (s : Shared) (H : Hp) (C : Addr) (cl : List (Str × Addr)) (fp : List Addr), PE (X.blk s H scope (compEnvC scope cl C X.env) fp) elt (TD X.K e))
    (hy : X.N[i]? = some y := by rfl) (hyl : X.env.scope.names.lookup y = some .local := by rfl) (hs : ∀ x, foldedSetIterable iter X.env x = pure x := by intro _; rfl) :
    PSd X (.Assign [.Name y py] (.ListComp elt [⟨tg, iter, ifs, 0⟩] scope pos) spos) (fSet (fLc it g t e (own.map (·.2))) (gNm i)) := ps_weak (ps_setLc hX.calm hX.nd hy hyl hsw hi ok hg ht he hs) fun _ _ _ => setnm_ok fun _ _ _ => lc_val
theorem s_setLcB (hX : SX X) (own : List (Str × Nat)) (hsw : swapsWith (.ListComp elt [⟨tg, iter, ifs, 0⟩] scope pos) (some (.Name y py)) spos.line X.env = pure true) (hi : PId X tg iter it) (ok : BlkOk X.N X.env.scope scope own) (hg : ∀ (s : Shared) (H : Hp) (C : Addr) (cl : List (Str × Addr)) (fp : List Addr), PG (X.blk s H scope (compEnvC scope cl C X.env) fp) tg (TDw X.K (own.map (·.2)) g))
    (ht : ∀ (s : Shared) (H : Hp) (C : Addr) (cl : List (Str × Addr)) (fp : List Addr), PTs (X.blk s H scope (compEnvC scope cl C X.env) fp) ifs (TDt X.K t)) (he : ∀ (s : Shared) (H : Hp) (C : Addr) (cl : List (Str × Addr)) (fp : List Addr), PE (X.blk s H scope (compEnvC scope cl C X.env) fp) elt (TD X.K e))
    (hy : X.N[i]? = some y := by rfl) (hyl : X.env.scope.names.lookup y = some .local := by rfl) (hs : ∀ x, foldedSetIterable iter X.env x = pure x := by intro _; rfl) :
    PSd X (.Assign [.Name y py] (.ListComp elt [⟨tg, iter, ifs, 0⟩] scope pos) spos) (fSet (fLcB it g t e (own.map (·.2))) (gNm i)) := ps_weak (ps_setLc hX.calm hX.nd hy hyl hsw hi ok hg ht he hs) fun _ _ _ => setnm_ok fun _ _ _ => lc_box
end
theorem SX.blk {X : Cx} (h : SX X) (s : Shared) (H : Hp) (scope : Scope) (cenv : PySem.Env) (fp : List Addr) : SX (X.blk s H scope cenv fp) := ⟨h.calm, h.nd, h.units, h.guards⟩
end DL

/-! SE: sorting of tuples among which the empty one stands. -/
namespace SE
open PySem PySem.Calls PyProof.Rows PySem.W PySem.SeqAt
section
variable {A : Around} {s : Shared}
theorem call_tuple_lt {prog : Program} {w : World} {E : Value → Shared → Prop} {Q : Value → Shared → Prop} {l b : Addr} {items items2 : Array Value} {e r : Nat → Bool} (hl : s.heap.IsTuple l items) (hb : s.heap.IsTuple b items2)
    (he : ∀ j (h1 : j < items.size) (h2 : j < items2.size), EqAt A.in1 s items[j] items2[j] (e j)) (hr : ∀ j (h1 : j < items.size) (h2 : j < items2.size), e j = false → RcLt A.in1 s items[j] items2[j] (r j))
    (h : Q (.bool (firstLt e r (decide (items.size < items2.size)) (List.range (min items.size items2.size)))) s) : wpAny (model prog w) A (call (.builtin "tuple.__lt__") [.ref l, .ref b]) Q E s := by
  obtain ⟨⟨cls, dd, data, sl⟩, ho, hc, n, hd⟩ := id hl
  obtain ⟨⟨cls2, dd2, data2, sl2⟩, ho2, hc2, n2, hd2⟩ := id hb
  simp only at hc hd hc2 hd2
  subst hc hd hc2 hd2
  exact call_meets F.slot_tuple_lt ⟨_, ho, rfl⟩ F.entry_tuple_lt (F.args_tuple_lt_2 _ _) (tuple_ltAt l b items items2 n n2 dd dd2 sl sl2 e r) ⟨ho, ho2, he, hr, h⟩
end
section
variable {prog : Program} {w : World} {A : Around} {E : Value → Shared → Prop} {s : Shared}
/-- one tuple against another, of any lengths, by either way of asking -/
theorem oneLt_tup {f : Bool} {xs ys : List PyData} {a b : Value} {as bs : List Addr} {Q : Bool → Shared → Prop} (ra : Reads s.heap a (.tuple xs) as) (rb : Reads s.heap b (.tuple ys) bs) (hal : alikeAll xs ys = true)
    (hu : A.units + min (PyData.tuple xs).depth (PyData.tuple ys).depth < cLine) (hq : Q (dataLt (.tuple xs) (.tuple ys)) s) : wpAny (model prog w) A (oneLt' f a b) Q E s := by
  cases f with
  | false => exact oneLt_alike (fun h => nomatch h) ra rb (by simpa [alike] using hal) (fun h => nomatch h) hu hq
  | true =>
    cases ra with
    | @tuple l o vs n _ as₁ h1 h2 h3 h4 =>
      cases rb with
      | @tuple l' o' vs' n' _ bs₁ k1 k2 k3 k4 =>
        have n1 : vs.size = xs.length := by simpa using ReadsAll.length _ _ _ h4
        have n2 : vs'.size = ys.length := by simpa using ReadsAll.length _ _ _ k4
        rw [dataLt_tuple, ← firstLt_toks xs ys hal, ← n1, ← n2] at hq
        rw [oneLt'_eq]
        simp only [if_true]
        refine wpAny_bind (wpAny_cRoomFor (room_here hu) ?_)
        refine wpAny_bind (wpAny_callSpecialIfBound?_slot (T := "tuple") ⟨_, h1, h2⟩ F.slot_tuple_lt (call_tuple_lt (e := pairEq xs ys) (r := fun j => dataLt (xs.getD j .none) (ys.getD j .none)) ⟨_, h1, h2, _, h3⟩ ⟨_, k1, k2, _, k3⟩ (fun j j1 j2 => ?_) (fun j j1 j2 hj => ?_) ?_))
        · have := eqAt_alikeAll xs ys A.in1 s vs.toList vs'.toList _ _ h4 k4 hal (room_in hu) j (by simpa using j1) (by simpa using j2)
          simpa using this
        · have := rcLt_alikeAll xs ys A.in1 s vs.toList vs'.toList _ _ h4 k4 hal (room_in hu) j (by simpa using j1) (by simpa using j2) hj
          simpa using this
        · exact wpAny_truthy_bool hq
/-- the first item, if there is one -/
def fstOf : PyData → Bool
  | .tuple (_ :: _) => true
  | _ => false
theorem firsts : ∀ {vs : List Value} {ds : List PyData} {Q : List (Option Value) → Shared → Prop}, EachIs (fun v d => ∃ as, Reads s.heap v d as) vs ds → (∀ d, d ∈ ds → ∃ xs, d = .tuple xs) →
    (∀ fs : List (Option Value), fs.map (·.isSome) = ds.map fstOf → Q fs s) → wpAny (model prog w) A (vs.mapM firstOfTuple') Q E s
  | _, _, Q, .nil, _, h => by
    rw [List.mapM_nil]
    exact wpAny_pure (h [] rfl)
  | _, _, Q, .cons (b := d) ⟨as, r⟩ t, hd, h => by
    rw [List.mapM_cons]
    refine wpAny_bind ?_
    rw [kas_first_eq]
    obtain ⟨xs, rfl⟩ := hd d (List.mem_cons_self ..)
    cases r with
    | @tuple a o vs n _ _ ho hc hdat hr =>
      refine wpAny_bind (Looks.here (show Looks _ s.heap (typeOf (.ref a)) o.cls from (Looks.ld ho).andThen .now) ?_)
      rw [hc, if_neg (by first | decide | simp)]
      refine wpAny_bind (listItems_at ho hdat (wpAny_pure ?_))
      refine wpAny_bind (firsts t (fun d hd' => hd d (List.mem_cons_of_mem _ hd')) fun fs hf => wpAny_pure (h _ ?_))
      rw [List.map_cons, List.map_cons, hf]
      congr 1
      have hn : vs.size = xs.length := by simpa using ReadsAll.length _ _ _ hr
      cases xs with
      | nil =>
        have : vs.size = 0 := hn
        simp [fstOf, this]
      | cons x r =>
        have : 0 < vs.size := by rw [hn]; exact Nat.succ_pos _
        simp [fstOf, this]
theorem SortsAt.tups {vs : List Value} {ds : List PyData} (e : EachIs (fun v d => ∃ as, Reads s.heap v d as) vs ds) (hal : AllAlike ds) (ht : ∀ d, d ∈ ds → ∃ xs, d = .tuple xs) (hu : ∀ d, d ∈ ds → A.units + d.depth < cLine) : SortsAt prog w A s (dataKind s.heap ds) vs := by
  by_cases hne : ∀ d, d ∈ ds → ∃ x r, d = .tuple (x :: r)
  · exact SortsAt.data e hal (.inl hne) hu
  have hlt : ∀ kd : SortKind, (kd = general' ∨ kd = oneType') → H.LtAt prog w A s (dataKind s.heap ds) kd := by
    intro kd hk E x y a b Q ha hb hq
    obtain ⟨d, as, hd, ra, rfl⟩ := dataKind_inv ha
    obtain ⟨d', as', hd', rb, rfl⟩ := dataKind_inv hb
    have hdd := hal d hd d' hd'
    have hroom : A.units + min d.depth d'.depth < cLine := Nat.lt_of_le_of_lt (Nat.add_le_add_left (Nat.min_le_left _ _) _) (hu d hd)
    obtain ⟨xs, rfl⟩ := ht d hd
    obtain ⟨ys, rfl⟩ := ht d' hd'
    rcases hk with rfl | rfl
    · exact oneLt_tup (f := false) ra rb (by simpa [alike] using hdd) hroom hq
    · exact oneLt_tup (f := true) ra rb (by simpa [alike] using hdd) hroom hq
  refine ⟨fun v hv => ?_, ?_⟩
  · obtain ⟨d, hd, as, r⟩ := e.left v hv
    exact ⟨_, dataKind_some hal hd r⟩
  have hno : ds.all fstOf = false := by
    cases h : ds.all fstOf with
    | false => rfl
    | true =>
      refine absurd (fun d hd => ?_) hne
      have := List.all_eq_true.mp h d hd
      obtain ⟨xs, rfl⟩ := ht d hd
      cases xs with
      | nil => cases this
      | cons x r => exact ⟨x, r, rfl⟩
  refine ⟨if (ds.head?.map fstOf).getD false = true then general' else oneType', hlt _ (by split; exact .inl rfl; exact .inr rfl), fun h2 E Q hq => ?_⟩
  rw [keyKind'_eq, List.mapM_toArray, map_eq_pure_bind]
  refine wpAny_bind (wpAny_bind (firsts e ht fun fs hf => wpAny_pure ?_))
  have hall : (fs.toArray.all fun x => x.isSome) = false := by
    rw [List.all_toArray]
    have h1 : (fs.map (·.isSome)).all id = (ds.map fstOf).all id := by rw [hf]
    rw [List.all_map, List.all_map] at h1
    exact h1.trans hno
  rw [if_neg (by rw [hall]; decide)]
  have hl := e.length
  obtain ⟨d0, ds', rfl⟩ : ∃ d0 ds', ds = d0 :: ds' := by
    cases ds with
    | nil => rw [hl] at h2; simp at h2
    | cons d ds => exact ⟨d, ds, rfl⟩
  obtain ⟨f0, fr, rfl⟩ : ∃ f0 fr, fs = f0 :: fr := by
    cases fs with
    | nil => cases hf
    | cons f fs => exact ⟨f, fs, rfl⟩
  have hf0 : f0.isSome = fstOf d0 := by
    have := congrArg List.head? hf
    simpa using this
  have hq' : Q (if fstOf d0 = true then general' else oneType') s := hq
  have hb : (((f0 :: fr).toArray[0]?).bind id).isSome = fstOf d0 := by
    rw [← hf0]
    simp
  rw [hb]
  cases hd0 : fstOf d0 with
  | true =>
    rw [hd0] at hq'
    rw [if_pos rfl]
    exact wpAny_pure hq'
  | false =>
    rw [hd0] at hq'
    rw [if_neg (by decide)]
    have hT : ∀ v ∈ vs, Looks (model prog w) s.heap (typeOf v) (Value.type "tuple") := fun v hv => by
      obtain ⟨d, hd, as, r⟩ := e.left v hv
      obtain ⟨xs, rfl⟩ := ht d hd
      exact looks_reads r
    obtain ⟨v₁, vr, rfl⟩ : ∃ v₁ vr, vs = v₁ :: vr := by
      cases vs with
      | nil => simp at h2
      | cons v vs => exact ⟨v, vs, rfl⟩
    rw [oneTypeOnly'_eq, List.mapM_toArray, map_eq_pure_bind]
    refine wpAny_bind (wpAny_bind (wpAny_bind (kas_mapM (r := Value.type "tuple") _ (fun v hv Q' hq => (hT v hv).here hq) (wpAny_pure ?_))))
    have hall2 : ((List.map (fun _ => Value.type "tuple") (v₁ :: vr)).toArray.all fun x => x == Value.type "tuple") = true := by
      rw [List.all_toArray, List.all_map]
      exact List.all_eq_true.mpr fun _ _ => rfl
    have h0 : (List.map (fun _ => Value.type "tuple") (v₁ :: vr)).toArray[0]? = some (Value.type "tuple") := by simp
    rw [h0]
    simp only [hall2, if_true]
    exact wpAny_pure (wpAny_pure hq')
end
section
variable {prog : Program} {w : World} {A : Around} {E : Value → Shared → Prop} {s : Shared} {β : Type} {vs : List Value} {bs : List β} {enc : β → PyData} {R : Value → β → Prop}
/-- sorted(xs), xs tuples of any lengths -/
theorem sorted_tups {l : Addr} {Q : Value → Shared → Prop} (hl : s.heap.IsList l vs.toArray) (e : EachIs R vs bs) (er : EachIs (fun v b => ∃ as, Reads s.heap v (enc b) as) vs bs) (hal : AllAlike (bs.map enc)) (ht : ∀ d, d ∈ bs.map enc → ∃ xs, d = .tuple xs) (hL : bs.length ≤ sizeLine)
    (hu : ∀ b, b ∈ bs → A.units + 2 + (enc b).depth < cLine) (h : ∀ out, out.length = bs.length → EachIs R out (bs.mergeSort (dataLe false enc)) → Q (.ref (s.heap.objs.size + 1)) { s with heap := sortedAll s.heap vs (List.toArray out) }) :
    wpAny (model prog w) A (call (.builtin "sorted") [.ref l]) Q E s := by
  have er' : EachIs (fun v b => ∃ as, Reads (sortingHeap (copyHeap s.heap vs) (s.heap.objs.size + 1) vs) v (enc b) as) vs bs := er.mono fun _ _ ⟨as, r⟩ => ⟨as, PyProof.Rows.Reads.keeps (fun _ _ => sorting_copy_old) r⟩
  exact sorted_vals hl (SortsAt.tups (s := { s with heap := sortingHeap (copyHeap s.heap vs) (s.heap.objs.size + 1) vs }) (each_map (R := fun v d => ∃ as, Reads (sortingHeap (copyHeap s.heap vs) (s.heap.objs.size + 1) vs) v d as) enc er') hal ht (bound_map hu)) (by rw [e.length]; exact hL)
    (h _ (by rw [sortVals_length false rfl]; exact e.length) (sortVals_data false e er' hal))
end
section
variable {prog : Program} {w : World} {A : Around} {E : Value → Shared → Prop} {s : Shared}
/-- the items of a tuple, gathered -/
theorem collect_tup {l : Addr} {vs : List Value} {Q : List Value → Shared → Prop} (hl : s.heap.IsTuple l vs.toArray)
    (h : Q vs { s with heap := (s.heap.push (seqObj "list" #[] 0)).update s.heap.objs.size (Obj.mapSeq (· ++ vs.toArray)) }) (hsz : vs.length ≤ sizeLine) :
    wpAny (model prog w) A (collect (.ref l)) Q E s := by
  obtain ⟨o, ho, hc, n, hd⟩ := id hl
  unfold collect
  refine wpAny_bind (wpAny_runValue (codeAny_builtin entry_proto_collect' ?_))
  show wpAny _ _ (do again (.builtin "list.__iadd__" ⟨[← newList [], .ref l], []⟩)) _ _ s
  refine wpAny_bind (wpAny_newList (wpAny_pure ⟨Code.quiet_builtin _ (by decide +kernel), codeAny_builtin entry_list_iadd' ?_⟩))
  show wpAny _ _ (Builtin.List.listExtendWith (.ref s.heap.objs.size) (.ref l) (.ref s.heap.objs.size)) _ _ { s with heap := s.heap.push (seqObj "list" #[] 0) }
  unfold Builtin.List.listExtendWith
  have ho' : (s.heap.push (seqObj "list" #[] 0)).get? l = some o := Heap.get?_push_of_some _ ho
  refine wpAny_bind (wpAny_typeOf (T := "tuple") ⟨o, ho', hc⟩ ?_)
  have ht : (Value.type "tuple" == Value.type "tuple") = true := by rfl
  rw [if_pos (by rw [ht]; simp)]
  refine wpAny_bind (listItems_at ho' hd ?_)
  refine wpAny_bind (listItems_at (xs := #[]) (n := 0) (Heap.get?_push_size _ rfl) rfl ?_)
  rw [if_neg (by simp)]
  refine wpAny_bind (listUpdate_at (xs := #[]) (n := 0) (Heap.get?_push_size _ rfl) rfl ?_ (Nat.zero_le _) (by show (#[] ++ vs.toArray).size ≤ sizeLine + 1; simp only [Array.size_append, List.size_toArray, List.length_nil]; omega))
  refine wpAny_pure ?_
  show wpAny (model prog w) A (do
      let o ← load s.heap.objs.size
      match o.data with
      | .seq xs _ => pure xs.toList
      | _ => unsupported "internal:collect") Q E { s with heap := (s.heap.push (seqObj "list" #[] 0)).update s.heap.objs.size (Obj.mapSeq (· ++ vs.toArray)) }
  refine wpAny_bind (wpAny_load (get?_update_seq (Heap.get?_push_size _ rfl) _) ?_)
  show wpAny _ _ (pure ((#[] : Array Value) ++ vs.toArray).toList) Q E _
  rw [show ((#[] : Array Value) ++ vs.toArray).toList = vs by simp]
  exact wpAny_pure h
theorem sorted_of_sortT {l : Addr} {vs : List Value} {Q : Value → Shared → Prop} (hl : s.heap.IsTuple l vs.toArray) (hL : vs.length ≤ sizeLine)
    (body : ∀ E' : Value → Shared → Prop, wpAny (model prog w) A.in1.in1 (Builtin.«list.sort» ⟨[.ref (s.heap.objs.size + 1)], []⟩) (fun f s' => f = .done (.ret .none) ∧ Q (.ref (s.heap.objs.size + 1)) s') E' { s with heap := copyHeap s.heap vs }) :
    wpAny (model prog w) A (call (.builtin "sorted") [.ref l] []) Q E s := by
  refine call_function_entry_kw kind_sorted plain_sorted entry_sorted (args_sorted1 _) ?_
  unfold Builtin.«sorted»
  refine wpAny_bind (m := checkCount "sorted" 1 1 _) (wpAny_pure ?_)
  refine wpAny_bind (collect_tup hl ?_ hL)
  refine wpAny_bind (wpAny_newList ?_ hL)
  have hsz : ((s.heap.push (seqObj "list" #[] 0)).update s.heap.objs.size (Obj.mapSeq (· ++ vs.toArray))).objs.size = s.heap.objs.size + 1 := by
    rw [Heap.size_update, size_push']
  show wpAny _ _ _ _ _ { s with heap := copyHeap s.heap vs }
  rw [hsz]
  refine wpAny_bind (wpAny_holding (wpAny_call_entry_kw slot_list_sort ⟨_, copyHeap_at s.heap vs, rfl⟩ entry_list_sort ?body (args_list_sort _)))
  case body =>
    show wpAny (model prog w) A.in1.in1 (Builtin.«list.sort» ⟨[.ref (s.heap.objs.size + 1)], []⟩) _ _ _
    refine wpAny_mono (body _) (fun f s' hf => ?_) fun _ _ e => e
    obtain ⟨rfl, hq⟩ := hf
    exact ⟨_, rfl, wpAny_pure ⟨_, rfl, hq⟩⟩
end
section
variable {prog : Program} {w : World} {A : Around} {E : Value → Shared → Prop} {s : Shared} {β : Type} {vs : List Value} {bs : List β} {enc : β → PyData} {R : Value → β → Prop}
/-- sorted(xs), xs a tuple -/
theorem sorted_T {l : Addr} {Q : Value → Shared → Prop} (hl : s.heap.IsTuple l vs.toArray) (e : EachIs R vs bs) (er : EachIs (fun v b => ∃ as, Reads s.heap v (enc b) as) vs bs) (hal : AllAlike (bs.map enc)) (hk : (∀ d, d ∈ bs.map enc → ∃ xs, d = .tuple xs) ∨ Sortable (bs.map enc)) (hL : bs.length ≤ sizeLine)
    (hu : ∀ b, b ∈ bs → A.units + 2 + (enc b).depth < cLine) (h : ∀ out, out.length = bs.length → EachIs R out (bs.mergeSort (dataLe false enc)) → Q (.ref (s.heap.objs.size + 1)) { s with heap := sortedAll s.heap vs (List.toArray out) }) :
    wpAny (model prog w) A (call (.builtin "sorted") [.ref l]) Q E s := by
  have er' : EachIs (fun v b => ∃ as, Reads (sortingHeap (copyHeap s.heap vs) (s.heap.objs.size + 1) vs) v (enc b) as) vs bs := er.mono fun _ _ ⟨as, r⟩ => ⟨as, PyProof.Rows.Reads.keeps (fun _ _ => sorting_copy_old) r⟩
  have hLv : vs.length ≤ sizeLine := by rw [e.length]; exact hL
  have er2 := each_map (R := fun v d => ∃ as, Reads (sortingHeap (copyHeap s.heap vs) (s.heap.objs.size + 1) vs) v d as) enc er'
  refine sorted_of_sortT hl hLv fun E' => ?_
  refine list_sort_vals (κ := dataKind (sortingHeap (copyHeap s.heap vs) (s.heap.objs.size + 1) vs) (bs.map enc)) (s := { s with heap := copyHeap s.heap vs }) (copyHeap_at s.heap vs) ?_ hLv ⟨rfl, h _ (by rw [sortVals_length false rfl]; exact e.length) (sortVals_data false e er' hal)⟩
  rcases hk with ht | hk
  · exact SortsAt.tups (s := { s with heap := sortingHeap (copyHeap s.heap vs) (s.heap.objs.size + 1) vs }) er2 hal ht (bound_map hu)
  · exact SortsAt.data (s := { s with heap := sortingHeap (copyHeap s.heap vs) (s.heap.objs.size + 1) vs }) er2 hal hk (bound_map hu)
end
end SE

/-! DLg: calls of built-ins and of built-in methods. -/
namespace DL
open PySem PySem.Spec PyProof.Rows L2

/-! ### built-in functions -/
def deAll (S : Sto) : List D → Option (List P)
  | [] => some []
  | d :: ds => match deP S d with
    | some p => (deAll S ds).map (p :: ·)
    | none => none
@[simp] theorem deAll_nil (S : Sto) : deAll S [] = some [] := rfl
@[simp] theorem deAll_v (S : Sto) (p : P) (ds : List D) : deAll S (.v p :: ds) = (deAll S ds).map (p :: ·) := rfl
def IsRs (K : PySem.W.Frag) (m : Mp) (H : Hp) : List P → List V → Prop
  | [], xs => xs = []
  | p :: ps, xs => ∃ v vs, xs = v :: vs ∧ IsR K m H p v ∧ IsRs K m H ps vs
theorem deAll_is {K : PySem.W.Frag} {m : Mp} {H : Hp} {S : Sto} (R : Rel K m H S) : ∀ {ds : List D} {ps : List P} {vs : List V}, deAll S ds = some ps → IsDs K m (mask m H) ds vs → IsRs K m H ps vs
  | [], ps, vs, h, i => by
    cases h
    exact i
  | d :: ds, ps, vs, h, ⟨v, ws, h1, h2, h3⟩ => by
    unfold deAll at h
    cases e : deP S d with
    | none => rw [e] at h; cases h
    | some p =>
      rw [e] at h
      obtain ⟨qs, h4, h5⟩ := Option.map_eq_some_iff.mp h
      subst h5
      exact ⟨v, ws, h1, isR_of R h2 e, deAll_is R h4 h3⟩
def fCb (op : List P → Option P) (g : FA) : FE := fun env S => (g env S).bind fun ds S1 => match deAll S1 ds with
  | some ps => oP (op ps) S1
  | none => .bad
/-- a list made, to be changed -/
def oB (o : Option P) (S : Sto) : Oc D := match o with
  | some (.lst qs) => .ok (.r S.length) (S ++ [.lst qs])
  | _ => .bad
@[simp] theorem oB_some (qs : List P) (S : Sto) : oB (some (.lst qs)) S = .ok (.r S.length) (S ++ [.lst qs]) := rfl
theorem oB_of {o : Option P} {S S' : Sto} {d : D} (h : oB o S = .ok d S') : ∃ qs, o = some (.lst qs) ∧ d = .r S.length ∧ S' = S ++ [.lst qs] := by
  unfold oB at h
  split at h
  · rename_i qs
    cases h
    exact ⟨qs, rfl, rfl, rfl⟩
  · cases h
def fCbB (op : List P → Option P) (g : FA) : FE := fun env S => (g env S).bind fun ds S1 => match deAll S1 ds with
  | some ps => oB (op ps) S1
  | none => .bad
def OpN (K : PySem.W.Frag) (r : List V → Hp → VK → Prop) (op : List P → Option P) : Prop :=
  ∀ m H S ps u xs Q, Rel K m H S → IsRs K m H ps xs → op ps = some u → Kont K m H S u Q → r xs H Q
/-- the new list at a free place -/
def OpL (K : PySem.W.Frag) (r : List V → Hp → VK → Prop) (op : List P → Option P) : Prop :=
  ∀ m H S ps qs xs Q, Rel K m H S → IsRs K m H ps xs → op ps = some (.lst qs) → (∀ ys, IsAll K (mask m H) qs ys → ∀ p, H p = none → Q (.ref p) (upd H p (.lst ys))) → r xs H Q
section
variable {K : PySem.W.Frag} {g : FA} {σ : L2.St} {H : Hp} {Q : VK}
theorem td_cb {r : List V → Hp → VK → Prop} {op : List P → Option P} (ho : OpN K r op) (h : TD K (fCb op g) σ H Q) : tCB r (TDa K g) σ H Q := by
  obtain ⟨m, env, S, R, E, d', S', e1, q⟩ := h
  obtain ⟨ds, S1, k1, e2⟩ := Oc.bind_eq e1
  refine ⟨m, env, S, R, E, ds, S1, k1, fun vs m1 H1 st1 R1 i1 => ?_⟩
  cases h1 : deAll S1 ds with
  | none => simp [h1] at e2
  | some ps =>
    cases h2 : op ps with
    | none => simp [h1, h2] at e2
    | some u =>
      simp [h1, h2] at e2
      obtain ⟨rfl, rfl⟩ := e2
      exact ho m1 H1 S1 ps u vs Q R1 (deAll_is R1 h1 i1) h2 fun v m3 H3 st3 R3 i3 => q v m3 H3 (st1.trans st3) R3 i3
theorem td_cbB {r : List V → Hp → VK → Prop} {op : List P → Option P} (ho : OpL K r op) (h : TD K (fCbB op g) σ H Q) : tCB r (TDa K g) σ H Q := by
  obtain ⟨m, env, S, R, E, d', S', e1, q⟩ := h
  obtain ⟨ds, S1, k1, e2⟩ := Oc.bind_eq e1
  refine ⟨m, env, S, R, E, ds, S1, k1, fun vs m1 H1 st1 R1 i1 => ?_⟩
  cases h1 : deAll S1 ds with
  | none => simp [h1] at e2
  | some ps =>
    rw [h1] at e2
    obtain ⟨qs, h2, rfl, rfl⟩ := oB_of e2
    exact ho m1 H1 S1 ps _ vs Q R1 (deAll_is R1 h1 i1) h2 fun ys iy => boxLst R1 iy fun v m3 H3 st3 R3 i3 => q v m3 H3 (st1.trans st3) R3 i3
end
theorem cr_or {X : Cx} {f : Value} {r r' : List V → Hp → VK → Prop} (h : CallR X f r) (h' : CallR X f r') : CallR X f (fun xs H Q => r xs H Q ∨ r' xs H Q) := by
  intro pins s σ H xs us Q I rv q
  rcases q with q | q
  · exact h pins s σ H xs us Q I rv q
  · exact h' pins s σ H xs us Q I rv q
theorem IsRs.one {K : PySem.W.Frag} {m : Mp} {H : Hp} {p : P} {xs : List V} (h : IsRs K m H [p] xs) : ∃ x, xs = [x] ∧ IsR K m H p x := by
  obtain ⟨v, vs, rfl, h1, h2⟩ := h
  have h2' : vs = [] := h2
  subst h2'
  exact ⟨v, rfl, h1⟩
theorem IsRs.two {K : PySem.W.Frag} {m : Mp} {H : Hp} {p q : P} {xs : List V} (h : IsRs K m H [p, q] xs) : ∃ x y, xs = [x, y] ∧ IsR K m H p x ∧ IsR K m H q y := by
  obtain ⟨v, vs, rfl, h1, h2⟩ := h
  obtain ⟨y, rfl, h3⟩ := h2.one
  exact ⟨v, y, rfl, h1, h3⟩

def bLen : List P → Option P
  | [.lst ps] => some (.int ps.length)
  | [.frz ps] => some (.int ps.length)
  | [.tup ps] => some (.int ps.length)
  | [.str x] => if x.length ≤ 100000 then some (.int x.length) else none
  | [.dic ks _] => some (.int ks.length)
  | _ => none
def bList : List P → Option P
  | [.lst ps] => some (.lst ps)
  | [.frz ps] => some (.lst ps)
  | [.tup ps] => some (.lst ps)
  | _ => none
def bTuple : List P → Option P
  | [.lst ps] => some (.tup ps)
  | [.frz ps] => some (.tup ps)
  | [.tup ps] => some (.tup ps)
  | _ => none
def bMin : List P → Option P
  | [.int i, .int j] => some (.int (if j < i then j else i))
  | _ => none
def bMax : List P → Option P
  | [.int i, .int j] => some (.int (if j > i then j else i))
  | _ => none
def bInt : List P → Option P
  | [.int i] => some (.int i)
  | [.bl b] => some (.int (if b then 1 else 0))
  | _ => none
def bools : List P → Option (List Bool)
  | [] => some []
  | .bl b :: ps => (bools ps).map (b :: ·)
  | _ :: _ => none
def bAll : List P → Option P
  | [.lst ps] => (bools ps).map fun bs => .bl (bs.all id)
  | _ => none
def bAny : List P → Option P
  | [.lst ps] => (bools ps).map fun bs => .bl (bs.any id)
  | _ => none
def intsP : List P → Option (List Int)
  | [] => some []
  | .int i :: ps => (intsP ps).map (i :: ·)
  | _ :: _ => none
def bSum : List P → Option P
  | [.lst ps] => (intsP ps).map fun ns => .int ns.sum
  | _ => none
theorem bools_is {K : PySem.W.Frag} {G : Hp} : ∀ {ps : List P} {bs : List Bool} {vs : List V}, bools ps = some bs → IsAll K G ps vs → vs = bs.map V.bl
  | [], bs, vs, h, i => by cases h; exact i
  | .bl b :: ps, bs, vs, h, ⟨v, ws, h1, h2, h3⟩ => by
    unfold bools at h
    obtain ⟨cs, h4, h5⟩ := Option.map_eq_some_iff.mp h
    subst h5 h1
    have h2' : v = .bl b := h2
    rw [h2', bools_is h4 h3]
    rfl
  | .non :: _, _, _, h, _ => by cases h
  | .int _ :: _, _, _, h, _ => by cases h
  | .str _ :: _, _, _, h, _ => by cases h
  | .tup _ :: _, _, _, h, _ => by cases h
  | .lst _ :: _, _, _, h, _ => by cases h
  | .frz _ :: _, _, _, h, _ => by cases h
  | .dic _ _ :: _, _, _, h, _ => by cases h
  | .fn _ :: _, _, _, h, _ => by cases h
theorem intsP_is {K : PySem.W.Frag} {G : Hp} : ∀ {ps : List P} {bs : List Int} {vs : List V}, intsP ps = some bs → IsAll K G ps vs → vs = bs.map V.int
  | [], bs, vs, h, i => by cases h; exact i
  | .int b :: ps, bs, vs, h, ⟨v, ws, h1, h2, h3⟩ => by
    unfold intsP at h
    obtain ⟨cs, h4, h5⟩ := Option.map_eq_some_iff.mp h
    subst h5 h1
    have h2' : v = .int b := h2
    rw [h2', intsP_is h4 h3]
    rfl
  | .non :: _, _, _, h, _ => by cases h
  | .bl _ :: _, _, _, h, _ => by cases h
  | .str _ :: _, _, _, h, _ => by cases h
  | .tup _ :: _, _, _, h, _ => by cases h
  | .lst _ :: _, _, _, h, _ => by cases h
  | .frz _ :: _, _, _, h, _ => by cases h
  | .dic _ _ :: _, _, _, h, _ => by cases h
  | .fn _ :: _, _, _, h, _ => by cases h
section
variable {K : PySem.W.Frag}
theorem sq_r {m : Mp} {H : Hp} {ps : List P} {x : V} (h : IsR K m H (.lst ps) x) : ∃ a xs, x = .ref a ∧ SqL K H a xs ∧ IsAll K (mask m H) ps xs := by
  obtain ⟨a, xs, h1, h2, h3⟩ := h
  exact ⟨a, xs, h1, .of h2, h3⟩
theorem sq_f {m : Mp} {H : Hp} {ps : List P} {x : V} (h : IsR K m H (.frz ps) x) : ∃ a xs, x = .ref a ∧ SqL K H a xs ∧ IsAll K (mask m H) ps xs := by
  obtain ⟨a, xs, h1, h2, h3⟩ := h
  exact ⟨a, xs, h1, sqL_mono (mask_ex m H) h2, h3⟩
theorem sq_t {m : Mp} {H : Hp} {ps : List P} {x : V} (h : IsR K m H (.tup ps) x) : ∃ a xs, x = .ref a ∧ SqT K H a xs ∧ IsAll K (mask m H) ps xs := by
  obtain ⟨a, xs, h1, h2, h3⟩ := h
  exact ⟨a, xs, h1, sqT_mono (mask_ex m H) h2, h3⟩
abbrev rLenAll (K : PySem.W.Frag) : List V → Hp → VK → Prop := fun xs H Q => (∃ x n, xs = [x] ∧ LenV K x H n ∧ Q (.int n) H) ∨ ∃ a kvs, xs = [V.ref a] ∧ H a = some (.dK kvs) ∧ Q (.int kvs.length) H
theorem on_len : OpN K (rLenAll K) bLen := by
  intro m H S ps u xs Q R h e k
  unfold bLen at e
  split at e
  · cases e
    obtain ⟨x, rfl, h0⟩ := h.one
    obtain ⟨a, ys, rfl, h1, h2⟩ := sq_r h0
    exact .inl ⟨_, ys.length, rfl, .inl ⟨ys, h1, rfl⟩, k.here R (by rw [h2.len]; rfl)⟩
  · cases e
    obtain ⟨x, rfl, h0⟩ := h.one
    obtain ⟨a, ys, rfl, h1, h2⟩ := sq_f h0
    exact .inl ⟨_, ys.length, rfl, .inl ⟨ys, h1, rfl⟩, k.here R (by rw [h2.len]; rfl)⟩
  · cases e
    obtain ⟨x, rfl, h0⟩ := h.one
    obtain ⟨a, ys, rfl, h1, h2⟩ := sq_t h0
    exact .inl ⟨_, ys.length, rfl, .inr ⟨ys, h1, rfl⟩, k.here R (by rw [h2.len]; rfl)⟩
  · split at e
    · rename_i z hl
      cases e
      obtain ⟨x, rfl, h0⟩ := h.one
      have h' : x = .str z := h0
      subst h'
      exact .inl ⟨_, z.length, rfl, ⟨size_of hl, rfl⟩, k.here R rfl⟩
    · cases e
  · cases e
    obtain ⟨x, rfl, h0⟩ := h.one
    obtain ⟨a, ys, rfl, h1, h2, h3, h4⟩ := h0
    refine .inr ⟨a, _, rfl, h1, k.here R ?_⟩
    show V.int _ = V.int _
    rw [List.length_zip, h2, Nat.min_self]
  · cases e
theorem ol_list : OpL K (fun xs H Q => ∃ p ys, xs = [.ref p] ∧ (SqL K H p ys ∨ SqT K H p ys) ∧ ∀ l, H l = none → Q (.ref l) (upd H l (.lst ys))) bList := by
  intro m H S ps qs xs Q R h e k
  unfold bList at e
  split at e
  · cases e
    obtain ⟨x, rfl, h0⟩ := h.one
    obtain ⟨a, ys, rfl, h1, h2⟩ := sq_r h0
    exact ⟨a, ys, rfl, .inl h1, k ys h2⟩
  · cases e
    obtain ⟨x, rfl, h0⟩ := h.one
    obtain ⟨a, ys, rfl, h1, h2⟩ := sq_f h0
    exact ⟨a, ys, rfl, .inl h1, k ys h2⟩
  · cases e
    obtain ⟨x, rfl, h0⟩ := h.one
    obtain ⟨a, ys, rfl, h1, h2⟩ := sq_t h0
    exact ⟨a, ys, rfl, .inr h1, k ys h2⟩
  · cases e
/-- a made list as a value -/
theorem on_of_ol {r : List V → Hp → VK → Prop} {op : List P → Option P} (h : OpL K r op) (hl : ∀ ps u, op ps = some u → ∃ qs, u = .lst qs) : OpN K r op := by
  intro m H S ps u xs Q R hx e k
  obtain ⟨qs, rfl⟩ := hl ps u e
  exact h m H S ps qs xs Q R hx e fun ys iy => newLst R iy k
theorem bList_lst (ps : List P) (u : P) (e : bList ps = some u) : ∃ qs, u = .lst qs := by
  unfold bList at e
  split at e
  · cases e; exact ⟨_, rfl⟩
  · cases e; exact ⟨_, rfl⟩
  · cases e; exact ⟨_, rfl⟩
  · cases e
theorem on_tuple : OpN K (fun xs H Q => ∃ p ys, xs = [.ref p] ∧ ((SqL K H p ys ∧ ∀ l, H l = none → Q (.ref l) (upd H l (.tup ys))) ∨ (SqT K H p ys ∧ Q (.ref p) H))) bTuple := by
  intro m H S ps u xs Q R h e k
  unfold bTuple at e
  split at e
  · cases e
    obtain ⟨x, rfl, h0⟩ := h.one
    obtain ⟨a, ys, rfl, h1, h2⟩ := sq_r h0
    exact ⟨a, ys, rfl, .inl ⟨h1, newTup R h2 k⟩⟩
  · cases e
    obtain ⟨x, rfl, h0⟩ := h.one
    obtain ⟨a, ys, rfl, h1, h2⟩ := sq_f h0
    exact ⟨a, ys, rfl, .inl ⟨h1, newTup R h2 k⟩⟩
  · cases e
    obtain ⟨x, rfl, h0⟩ := h.one
    obtain ⟨a, ys, rfl, h1, h2⟩ := h0
    exact ⟨a, ys, rfl, .inr ⟨sqT_mono (mask_ex m H) h1, k.here R ⟨a, ys, rfl, h1, h2⟩⟩⟩
  · cases e
theorem on_min : OpN K (fun xs H Q => ∃ i j, xs = [.int i, .int j] ∧ Q (.int (if j < i then j else i)) H) bMin := by
  intro m H S ps u xs Q R h e k
  unfold bMin at e
  split at e
  · cases e
    obtain ⟨x, y, rfl, h1, h2⟩ := h.two
    have h1' : x = .int _ := h1
    have h2' : y = .int _ := h2
    subst h1' h2'
    exact ⟨_, _, rfl, k.here R rfl⟩
  · cases e
theorem on_max : OpN K (fun xs H Q => ∃ i j, xs = [.int i, .int j] ∧ Q (.int (if j > i then j else i)) H) bMax := by
  intro m H S ps u xs Q R h e k
  unfold bMax at e
  split at e
  · cases e
    obtain ⟨x, y, rfl, h1, h2⟩ := h.two
    have h1' : x = .int _ := h1
    have h2' : y = .int _ := h2
    subst h1' h2'
    exact ⟨_, _, rfl, k.here R rfl⟩
  · cases e
theorem on_int : OpN K (fun xs H Q => (∃ i, xs = [.int i] ∧ Q (.int i) H) ∨ ∃ k, xs = [.bl k] ∧ Q (.int (if k then 1 else 0)) H) bInt := by
  intro m H S ps u xs Q R h e k
  unfold bInt at e
  split at e
  · cases e
    obtain ⟨x, rfl, h1⟩ := h.one
    have h1' : x = .int _ := h1
    subst h1'
    exact .inl ⟨_, rfl, k.here R rfl⟩
  · cases e
    obtain ⟨x, rfl, h1⟩ := h.one
    have h1' : x = .bl _ := h1
    subst h1'
    exact .inr ⟨_, rfl, k.here R rfl⟩
  · cases e
theorem on_all : OpN K (rAll K) bAll := by
  intro m H S ps u xs Q R h e k
  unfold bAll at e
  split at e
  · obtain ⟨bs, h4, h5⟩ := Option.map_eq_some_iff.mp e
    subst h5
    obtain ⟨x, rfl, h0⟩ := h.one
    obtain ⟨a, ys, rfl, h1, h2⟩ := sq_r h0
    exact ⟨a, bs, rfl, by rw [← bools_is h4 h2]; exact h1, k.here R rfl⟩
  · cases e
theorem on_any : OpN K (rAny K) bAny := by
  intro m H S ps u xs Q R h e k
  unfold bAny at e
  split at e
  · obtain ⟨bs, h4, h5⟩ := Option.map_eq_some_iff.mp e
    subst h5
    obtain ⟨x, rfl, h0⟩ := h.one
    obtain ⟨a, ys, rfl, h1, h2⟩ := sq_r h0
    exact ⟨a, bs, rfl, by rw [← bools_is h4 h2]; exact h1, k.here R rfl⟩
  · cases e
theorem on_sum : OpN K (rSum K) bSum := by
  intro m H S ps u xs Q R h e k
  unfold bSum at e
  split at e
  · obtain ⟨bs, h4, h5⟩ := Option.map_eq_some_iff.mp e
    subst h5
    obtain ⟨x, rfl, h0⟩ := h.one
    obtain ⟨a, ys, rfl, h1, h2⟩ := sq_r h0
    exact ⟨a, bs, rfl, by rw [← intsP_is h4 h2]; exact h1, k.here R rfl⟩
  · cases e
end

/-! ### sorted, of any data of one kind; repr -/
def alikeB (ds : List PyData) : Bool := ds.all fun d => ds.all fun e => PySem.W.alike d e
def sortableB (ds : List PyData) : Bool := (ds.all fun d => match d with | .tuple _ => true | _ => false) || (ds.all fun d => match d with | .none => false | .tuple _ => false | _ => true)
def pyOf (p : P) : PyData := (toPy p).getD .none
def bSorted : List P → Option P
  | [.lst ps] => match toPys ps with
    | some ds => if alikeB ds = true ∧ sortableB ds = true ∧ ps.length ≤ 100000 ∧ (ds.all fun d => decide (d.depth ≤ 64)) = true then some (.lst (ps.mergeSort (PySem.W.dataLe false pyOf))) else none
    | none => none
  | [.tup ps] => match toPys ps with
    | some ds => if alikeB ds = true ∧ sortableB ds = true ∧ ps.length ≤ 100000 ∧ (ds.all fun d => decide (d.depth ≤ 64)) = true then some (.lst (ps.mergeSort (PySem.W.dataLe false pyOf))) else none
    | none => none
  | _ => none
theorem bSorted_tup (ps : List P) : bSorted [.tup ps] = bSorted [.lst ps] := rfl
theorem toPys_map : ∀ {ps : List P} {ds : List PyData}, toPys ps = some ds → ds = ps.map pyOf ∧ ∀ p ∈ ps, toPy p = some (pyOf p)
  | [], ds, h => by cases h; exact ⟨rfl, fun _ h => nomatch h⟩
  | p :: ps, ds, h => by
    unfold toPys at h
    split at h
    · rename_i d es h1 h2
      cases h
      obtain ⟨a, b⟩ := toPys_map h2
      have e : pyOf p = d := by unfold pyOf; rw [h1]; rfl
      refine ⟨by rw [a, List.map_cons, e], fun q hq => ?_⟩
      rcases List.mem_cons.mp hq with rfl | hq
      · rw [e]; exact h1
      · exact b q hq
    · cases h
section
variable {X : Cx}
/-- the items of a list and what they stand for -/
def SortR (K : PySem.W.Frag) (m : Mp) (H : Hp) (v : Value) (p : P) : Prop := ∃ x, RelV x v ∧ Is K (mask m H) p x
theorem each_of {K : PySem.W.Frag} {m : Mp} {H : Hp} : ∀ {ps : List P} {xs : List V} {us : List Value}, IsAll K (mask m H) ps xs → Vals xs us → PySem.W.EachIs (SortR K m H) us ps
  | [], _, _, h, r => by
    have h' : _ = [] := h
    subst h'
    cases r
    exact .nil
  | p :: ps, _, _, ⟨v, vs, h1, h2, h3⟩, r => by
    subst h1
    cases r with
    | cons r1 r2 => exact .cons ⟨v, r1, h2⟩ (each_of h3 r2)
theorem all_of_each {K : PySem.W.Frag} {m : Mp} {H : Hp} : ∀ {ps : List P} {us : List Value}, PySem.W.EachIs (SortR K m H) us ps → ∃ xs, IsAll K (mask m H) ps xs ∧ Vals xs us
  | _, _, .nil => ⟨[], rfl, .nil⟩
  | _, _, .cons ⟨v, r1, h2⟩ t => by
    obtain ⟨xs, h3, r2⟩ := all_of_each t
    exact ⟨v :: xs, ⟨v, xs, rfl, h2, h3⟩, .cons r1 r2⟩
theorem each_reads {m : Mp} {pins : List (Addr × Obj)} {σ : L2.St} {H : Hp} {s : Shared} (I : Inv X pins σ H s) : ∀ {us : List Value} {ps : List P}, (∀ p ∈ ps, toPy p = some (pyOf p)) → PySem.W.EachIs (SortR X.K m H) us ps → PySem.W.EachIs (fun v b => ∃ as, Reads s.heap v (pyOf b) as) us ps
  | _, _, _, .nil => .nil
  | _, _, hp, .cons ⟨x, r1, h2⟩ t => .cons (Dp.reads I _ x _ (Is.dp _ x _ (Is.mono (mask_ex m H) _ _ h2) (hp _ (List.mem_cons_self ..))) r1) (each_reads I (fun q hq => hp q (List.mem_cons_of_mem _ hq)) t)
theorem sortable_of {ds : List PyData} (h : sortableB ds = true) : (∀ d, d ∈ ds → ∃ xs, d = .tuple xs) ∨ PySem.W.Sortable ds := by
  unfold sortableB at h
  rcases Bool.or_eq_true_iff.mp h with h | h
  · refine .inl fun d hd => ?_
    have q := List.all_eq_true.mp h d hd
    split at q
    · exact ⟨_, rfl⟩
    · cases q
  · refine .inr (.inr fun d hd => ?_)
    have q := List.all_eq_true.mp h d hd
    refine ⟨fun e => ?_, fun xs e => ?_⟩
    · subst e; cases q
    · subst e; cases q
theorem alike_of {ds : List PyData} (h : alikeB ds = true) : PySem.W.AllAlike ds := fun d hd d' hd' => List.all_eq_true.mp (List.all_eq_true.mp h d hd) d' hd'
def rSortD (K : PySem.W.Frag) : List V → Hp → VK → Prop := fun xs H Q => ∃ a ys m ps qs, xs = [.ref a] ∧ (SqL K H a ys ∨ SqT K H a ys) ∧ IsAll K (mask m H) ps ys ∧ bSorted [.lst ps] = some (.lst qs) ∧ ∀ zs, IsAll K (mask m H) qs zs → ∀ p, H p = none → Q (.ref p) (upd H p (.lst zs))
theorem cr_sortD (hX : SX X) : CallR X (.builtin "sorted") (rSortD X.K) := by
  intro pins s σ H vs us Q I r h
  obtain ⟨a, ys, m, ps, qs, rfl, hs, hi, hb, q⟩ := h
  obtain ⟨its, rv, hl, hz⟩ : ∃ its : List Value, Vals ys its ∧ (PlainL s.heap a its.toArray ∨ IsTup s.heap a its.toArray) ∧ ys.length ≤ sizeLine := by
    rcases hs with hs | hs
    · obtain ⟨its, rv, hl, hz⟩ := I.list hs
      exact ⟨its, rv, .inl hl, hz⟩
    · obtain ⟨its, rv, hl, hz⟩ := I.tuple hs
      exact ⟨its, rv, .inr hl, hz⟩
  rw [Vals.ref1 r]
  unfold bSorted at hb
  cases hp : toPys ps with
  | none => simp [hp] at hb
  | some ds =>
    simp only [hp] at hb
    split at hb
    · rename_i hc
      obtain ⟨c1, c2, c3, c4⟩ := hc
      cases hb
      obtain ⟨e1, e2⟩ := toPys_map hp
      subst e1
      have hu := hX.units
      have he := each_of hi rv
      have fin : ∀ out : List Value, out.length = ps.length → PySem.W.EachIs (SortR X.K m H) out (ps.mergeSort (PySem.W.dataLe false pyOf)) → EP X pins σ Q (.ref (s.heap.objs.size + 1)) { s with heap := PyProof.Rows.sortedAll s.heap its (List.toArray out) } := fun out h1 h2 => by
        obtain ⟨zs, iz, rz⟩ := all_of_each h2
        obtain ⟨ep, he'⟩ := PyProof.Rows.sortedAll_at s.heap its out.toArray
        have hlen : zs.length ≤ sizeLine := by
          rw [← iz.len, List.length_mergeSort]
          exact size_of c3
        exact ⟨.ref _, upd H (s.heap.objs.size + 1) (.lst zs), I.laid (t' := s.toks) (fun _ _ => PyProof.Rows.sortedAll_old) (Nat.le_succ _) ⟨hlen, out, ep, rz, he'⟩, rfl, q zs iz _ (I.hok.fresh (Nat.le_succ _))⟩
      have hdep : ∀ b ∈ ps, X.A.units + 2 + (pyOf b).depth < cLine := fun b hb => by
        have q := of_decide_eq_true (List.all_eq_true.mp c4 (pyOf b) (List.mem_map_of_mem hb))
        omega
      rcases hl with hl | hl
      · rcases sortable_of c2 with ht | hk
        · exact SE.sorted_tups hl.isList he (each_reads I e2 he) (alike_of c1) ht (size_of c3) hdep fin
        · exact PySem.W.sorted_data hl.isList he (each_reads I e2 he) (alike_of c1) hk (size_of c3) hdep fin
      · exact SE.sorted_T hl he (each_reads I e2 he) (alike_of c1) (sortable_of c2) (size_of c3) hdep fin
    · cases hb
theorem ol_sorted {K : PySem.W.Frag} : OpL K (rSortD K) bSorted := by
  intro m H S ps qs xs Q R h e k
  have e0 := e
  unfold bSorted at e
  split at e
  · obtain ⟨x, rfl, h0⟩ := h.one
    obtain ⟨a, ys, rfl, h1, h2⟩ := sq_r h0
    exact ⟨a, ys, m, _, qs, rfl, .inl h1, h2, e0, k⟩
  · obtain ⟨x, rfl, h0⟩ := h.one
    obtain ⟨a, ys, rfl, h1, h2⟩ := sq_t h0
    exact ⟨a, ys, m, _, qs, rfl, .inr h1, h2, e0, k⟩
  · cases e
theorem bSorted_lst (ps : List P) (u : P) (e : bSorted ps = some u) : ∃ qs, u = .lst qs := by
  unfold bSorted at e
  split at e
  · split at e
    · split at e
      · cases e; exact ⟨_, rfl⟩
      · cases e
    · cases e
  · split at e
    · split at e
      · cases e; exact ⟨_, rfl⟩
      · cases e
    · cases e
  · cases e
/-- repr of data -/
def bRepr : List P → Option P
  | [p] => match toPy p with
    | some d => if d.showable = true ∧ d.hasDict = false ∧ d.shown.length ≤ 100000 ∧ d.depth ≤ 64 then some (.str d.shown) else none
    | none => none
  | _ => none
def rRepr (K : PySem.W.Frag) : List V → Hp → VK → Prop := fun xs H Q => ∃ x p, xs = [x] ∧ Is K H p x ∧ ∃ u, bRepr [p] = some (.str u) ∧ Q (.str u) H
theorem cr_repr (hX : SX X) : CallR X (.builtin "repr") (rRepr X.K) := by
  intro pins s σ H vs us Q I r h
  obtain ⟨x, p, rfl, hx, u, hb, q⟩ := h
  obtain ⟨v, rfl, rx⟩ := vals1 r
  unfold bRepr at hb
  cases hp : toPy p with
  | none => simp [hp] at hb
  | some d =>
    simp only [hp] at hb
    split at hb
    · rename_i hc
      obtain ⟨c1, c2, c3, c4⟩ := hc
      cases hb
      have hd := Is.dp p x d hx hp
      have hu := hX.units
      obtain ⟨as, rd⟩ := Dp.reads I d x v hd rx
      cases hd with
      | non =>
        cases rx
        exact PySem.P.repr_of_none ⟨.str _, H, I.tok _, ⟨_, rfl⟩, q⟩
      | bl b =>
        cases rx
        exact PySem.P.repr_of_bool ⟨.str _, H, I.tok _, ⟨_, rfl⟩, q⟩
      | int i =>
        obtain ⟨t, rfl⟩ := rx
        exact PySem.P.repr_of_int (by simpa [PyData.showable] using c1) ⟨.str _, H, I.tok _, ⟨_, rfl⟩, q⟩
      | str y =>
        obtain ⟨t, rfl⟩ := rx
        exact PySem.P.repr_of_str ⟨.str _, H, I.tok _, ⟨_, rfl⟩, q⟩ (size_of c3)
      | lst hs ha =>
        cases rx
        exact repr_of_reads' rd c1 (PyData.noDict_hsm c2) hX.guards (by omega) (fun _ _ e => e) (fun h' t' tk hk => ⟨.str _, H, I.kept (t' := tk) hk, ⟨_, rfl⟩, q⟩) (size_of c3)
      | tup hs ha =>
        cases rx
        exact repr_of_reads' rd c1 (PyData.noDict_hsm c2) hX.guards (by omega) (fun _ _ e => e) (fun h' t' tk hk => ⟨.str _, H, I.kept (t' := tk) hk, ⟨_, rfl⟩, q⟩) (size_of c3)
    · cases hb
theorem on_repr {K : PySem.W.Frag} : OpN K (rRepr K) bRepr := by
  intro m H S ps u xs Q R h e k
  have e0 := e
  unfold bRepr at e
  split at e
  · rename_i p
    obtain ⟨x, rfl, h0⟩ := h.one
    split at e
    · split at e
      · cases e
        exact ⟨x, p, rfl, h0.is, _, e0, k.here R rfl⟩
      · cases e
    · cases e
  · cases e
end

section
variable {X : Cx} {e : Expr} {es : List Expr} {x : Str} {p pos : Pos} {g : FA} {id T : String} {r : List V → Hp → VK → Prop} {op : List P → Option P}
/-- a built-in function called by its name -/
theorem d_cb (hc : CallR X (.builtin id) r) (ho : OpN X.K r op) (hm : X.mg x = none) (hv : bootBuiltins x = some (.builtin id)) (ha : PAd X (e :: es) g) (hg : Gl X x := by rfl) (hn : x ≠ "__name__" := by decide) (hdb : (x == ("__debug__" : Str)) = false := by decide)
    (he : starEach (e :: es) X.env = (false, eval e X.env) :: starEach es X.env := by rfl) (hpl : (backTo pos (starEach es X.env)).any (·.1) = false := by rfl) : PEd X (.Call (.Name x p) (e :: es) [] pos) (fCb op g) :=
  pe_weak (pe_callB hc hg hm hv ha hn hdb he hpl) fun _ _ _ => td_cb ho
theorem d_cbB (hc : CallR X (.builtin id) r) (ho : OpL X.K r op) (hm : X.mg x = none) (hv : bootBuiltins x = some (.builtin id)) (ha : PAd X (e :: es) g) (hg : Gl X x := by rfl) (hn : x ≠ "__name__" := by decide) (hdb : (x == ("__debug__" : Str)) = false := by decide)
    (he : starEach (e :: es) X.env = (false, eval e X.env) :: starEach es X.env := by rfl) (hpl : (backTo pos (starEach es X.env)).any (·.1) = false := by rfl) : PEd X (.Call (.Name x p) (e :: es) [] pos) (fCbB op g) :=
  pe_weak (pe_callB hc hg hm hv ha hn hdb he hpl) fun _ _ _ => td_cbB ho
theorem d_ct (hc : CallR X (.type T) r) (ho : OpN X.K r op) (hm : X.mg x = none) (hv : bootBuiltins x = some (.type T)) (ha : PAd X (e :: es) g) (hg : Gl X x := by rfl) (hn : x ≠ "__name__" := by decide) (hdb : (x == ("__debug__" : Str)) = false := by decide)
    (he : starEach (e :: es) X.env = (false, eval e X.env) :: starEach es X.env := by rfl) (hpl : (backTo pos (starEach es X.env)).any (·.1) = false := by rfl) : PEd X (.Call (.Name x p) (e :: es) [] pos) (fCb op g) :=
  pe_weak (pe_callTy hc hg hm hv ha hn hdb he hpl) fun _ _ _ => td_cb ho
theorem d_ctB (hc : CallR X (.type T) r) (ho : OpL X.K r op) (hm : X.mg x = none) (hv : bootBuiltins x = some (.type T)) (ha : PAd X (e :: es) g) (hg : Gl X x := by rfl) (hn : x ≠ "__name__" := by decide) (hdb : (x == ("__debug__" : Str)) = false := by decide)
    (he : starEach (e :: es) X.env = (false, eval e X.env) :: starEach es X.env := by rfl) (hpl : (backTo pos (starEach es X.env)).any (·.1) = false := by rfl) : PEd X (.Call (.Name x p) (e :: es) [] pos) (fCbB op g) :=
  pe_weak (pe_callTy hc hg hm hv ha hn hdb he hpl) fun _ _ _ => td_cbB ho
end

/-! ### methods of lists that change -/
/-- the contents, the arguments, the store: the answer and the new contents -/
abbrev MOp := List P → List D → Sto → Option (P × List P)
def fMt (op : MOp) (fo : FE) (ga : FA) : FE := fun env S => (fo env S).bind fun o S1 => match o with
  | .r n => match S1[n]? with
    | some (.lst _) => (ga env S1).bind fun ds S2 => match S2[n]? with
      | some (.lst ps) => match op ps ds S2 with
        | some (u, qs) => .ok (.v u) (S2.set n (.lst qs))
        | none => .bad
      | _ => .bad
    | _ => .bad
  | _ => .bad
def OpM (K : PySem.W.Frag) (r : V → List V → Hp → VK → Prop) (op : MOp) : Prop :=
  ∀ m H S n a ps ds u qs xs Q, Rel K m H S → m.l[n]? = some a → S[n]? = some (.lst ps) → IsDs K m (mask m H) ds xs → op ps ds S = some (u, qs) →
    (∀ v m' H', Stp m H m' H' → Rel K m' H' (S.set n (.lst qs)) → Is K (mask m' H') u v → Q v H') → r (.ref a) xs H Q
section
variable {K : PySem.W.Frag}
theorem td_mt {r : V → List V → Hp → VK → Prop} {op : MOp} {fo : FE} {ga : FA} {σ : L2.St} {H : Hp} {Q : VK} (ho : OpM K r op) (h : TD K (fMt op fo ga) σ H Q) : tBM K "list" r (TD K fo) (TDa K ga) σ H Q := by
  obtain ⟨m, env, S, R, E, d', S', e1, q⟩ := h
  obtain ⟨o, S1, k1, e2⟩ := Oc.bind_eq e1
  refine ⟨m, env, S, R, E, o, S1, k1, fun v m1 H1 st1 R1 i1 => ?_⟩
  split at e2
  · rename_i n
    split at e2
    · rename_i ps0 hS0
      obtain ⟨a, rfl, h1⟩ := i1
      obtain ⟨xs0, h2, _⟩ := R1.ob n a _ h1 hS0
      obtain ⟨ds, S2, k2, e3⟩ := Oc.bind_eq e2
      refine ⟨.inl ⟨rfl, xs0, .of h2⟩, m1, env, S1, R1, E.step st1, ds, S2, k2, fun vs m2 H2 st2 R2 i2 => ?_⟩
      split at e3
      · rename_i ps hS
        split at e3
        · rename_i u qs hop
          cases e3
          exact ho m2 H2 S2 n a ps ds u qs vs Q R2 (st2.ext _ _ h1) hS i2 hop fun v m3 H3 st3 R3 i3 => q v m3 H3 ((st1.trans st2).trans st3) R3 i3
        · cases e3
      · cases e3
    · cases e2
  · cases e2
theorem td_mt0 {r : V → List V → Hp → VK → Prop} {op : MOp} {fo : FE} {σ : L2.St} {H : Hp} {Q : VK} (ho : OpM K r op) (h : TD K (fMt op fo fNil) σ H Q) : tBM0 K "list" r (TD K fo) σ H Q := by
  obtain ⟨m, env, S, R, E, d', S', e1, q⟩ := h
  obtain ⟨o, S1, k1, e2⟩ := Oc.bind_eq e1
  refine ⟨m, env, S, R, E, o, S1, k1, fun v m1 H1 st1 R1 i1 => ?_⟩
  split at e2
  · rename_i n
    split at e2
    · rename_i ps0 hS0
      obtain ⟨a, rfl, h1⟩ := i1
      obtain ⟨xs0, h2, _⟩ := R1.ob n a _ h1 hS0
      refine ⟨.inl ⟨rfl, xs0, .of h2⟩, ?_⟩
      have e3 : (match S1[n]? with
        | some (.lst ps) => match op ps [] S1 with
          | some (u, qs) => Oc.ok (D.v u) (S1.set n (.lst qs))
          | none => .bad
        | _ => .bad) = .ok d' S' := e2
      rw [hS0] at e3
      dsimp only at e3
      split at e3
      · rename_i u qs hop
        cases e3
        exact ho m1 H1 S1 n a ps0 [] u qs [] Q R1 h1 hS0 rfl hop fun v m3 H3 st3 R3 i3 => q v m3 H3 (st1.trans st3) R3 i3
      · cases e3
    · cases e2
  · cases e2
def mAppend : MOp := fun ps ds _ => match ds with
  | [.v p] => if ps.length < 100000 then some (.non, ps ++ [p]) else none
  | _ => none
def mInsert : MOp := fun ps ds _ => match ds with
  | [.v (.int i), .v p] => if ps.length < 100000 ∧ 0 ≤ i ∧ i < 1000000 then some (.non, ps.take i.toNat ++ [p] ++ ps.drop i.toNat) else none
  | _ => none
def mPop : MOp := fun ps ds _ => match ds with
  | [] => match ps[ps.length - 1]? with
    | some p => some (p, ps.dropLast)
    | none => none
  | _ => none
def mPopAt : MOp := fun ps ds _ => match ds with
  | [.v (.int i)] => if -1000000 ≤ i ∧ i ≤ 1000000 then match ixN ps.length i with
    | some k => match ps[k]? with
      | some p => some (p, ps.eraseIdx k)
      | none => none
    | none => none else none
  | _ => none
def mExtend : MOp := fun ps ds S => match ds with
  | [d] => match deP S d with
    | some (.lst qs) => if ps.length + qs.length ≤ 100000 then some (.non, ps ++ qs) else none
    | _ => none
  | _ => none
theorem is_dropLast {G : Hp} : ∀ {ps : List P} {xs : List V}, IsAll K G ps xs → IsAll K G ps.dropLast xs.dropLast
  | ps, xs, h => by
    rw [List.dropLast_eq_take, List.dropLast_eq_take, ← h.len]
    exact h.take _
theorem one_v {m : Mp} {G : Hp} {p : P} {xs : List V} (h : IsDs K m G [.v p] xs) : ∃ x, xs = [x] ∧ Is K G p x := by
  obtain ⟨v, vs, rfl, h1, h2⟩ := h
  have h2' : vs = [] := h2
  subst h2'
  exact ⟨v, rfl, h1⟩
theorem om_append : OpM K rAppend mAppend := by
  intro m H S n a ps ds u qs xs Q R hm hS hd e k
  unfold mAppend at e
  split at e
  · split at e
    · rename_i p hl
      cases e
      obtain ⟨x, rfl, hx⟩ := one_v hd
      obtain ⟨ys, h1, h2⟩ := R.ob n a _ hm hS
      obtain ⟨R3, st3⟩ := R.write (o := .lst (ys ++ [x])) (x := .lst (ps ++ [p])) hm fun H' s' e' => ⟨_, e', (s'.all h2).append (IsAll.one (s'.val hx))⟩
      exact ⟨a, ys, x, rfl, rfl, h1, size_lt (by rw [← h2.len]; exact hl), k _ _ _ st3 R3 rfl⟩
    · cases e
  · cases e
theorem om_insert : OpM K (fun x vs H Q => ∃ (l : Addr) (xs : List V) (i : Int) (y : V), x = .ref l ∧ vs = [.int i, y] ∧ H l = some (.lst xs) ∧ xs.length < sizeLine ∧ 0 ≤ i ∧ i < 2 ^ 63 ∧ Q .non (upd H l (.lst (xs.take i.toNat ++ [y] ++ xs.drop i.toNat)))) mInsert := by
  intro m H S n a ps ds u qs xs Q R hm hS hd e k
  unfold mInsert at e
  split at e
  · split at e
    · rename_i i p hl
      cases e
      obtain ⟨v, vs, rfl, hv, hd2⟩ := hd
      have hv' : v = .int i := hv
      subst hv'
      obtain ⟨x, rfl, hx⟩ := one_v hd2
      obtain ⟨ys, h1, h2⟩ := R.ob n a _ hm hS
      obtain ⟨R3, st3⟩ := R.write (o := .lst (ys.take i.toNat ++ [x] ++ ys.drop i.toNat)) (x := .lst (ps.take i.toNat ++ [p] ++ ps.drop i.toNat)) hm fun H' s' e' => ⟨_, e', (((s'.all h2).take _).append (IsAll.one (s'.val hx))).append ((s'.all h2).drop _)⟩
      exact ⟨a, ys, i, x, rfl, rfl, h1, size_lt (by rw [← h2.len]; exact hl.1), hl.2.1, by omega, k _ _ _ st3 R3 rfl⟩
    · cases e
  · cases e
theorem om_pop : OpM K rPop mPop := by
  intro m H S n a ps ds u qs xs Q R hm hS hd e k
  unfold mPop at e
  split at e
  · split at e
    · rename_i p hp
      cases e
      have hd' : xs = [] := hd
      subst hd'
      obtain ⟨ys, h1, h2⟩ := R.ob n a _ hm hS
      obtain ⟨x, hx, ix⟩ := h2.get hp
      obtain ⟨R3, st3⟩ := R.write (o := .lst ys.dropLast) (x := .lst ps.dropLast) hm fun H' s' e' => ⟨_, e', is_dropLast (s'.all h2)⟩
      exact ⟨a, ys, x, rfl, rfl, h1, by rw [← h2.len]; exact hx, k _ _ _ st3 R3 (st3.val ix)⟩
    · cases e
  · cases e
theorem om_popAt : OpM K rPopAt mPopAt := by
  intro m H S n a ps ds u qs xs Q R hm hS hd e k
  unfold mPopAt at e
  split at e
  · rename_i i
    split at e
    · rename_i hb
      split at e
      · rename_i j hj
        split at e
        · rename_i p hp
          cases e
          obtain ⟨x0, rfl, hx0⟩ := one_v hd
          have hx0' : x0 = .int i := hx0
          subst hx0'
          obtain ⟨ys, h1, h2⟩ := R.ob n a _ hm hS
          obtain ⟨x, hx, ix⟩ := h2.get hp
          have hlen := h2.len
          rw [hlen] at hj
          obtain ⟨b1, b2, b3, b4⟩ := ixN_seq hj
          obtain ⟨R3, st3⟩ := R.write (o := .lst (ys.eraseIdx j)) (x := .lst (ps.eraseIdx j)) hm fun H' s' e' => ⟨_, e', (s'.all h2).eraseIdx j⟩
          exact ⟨a, ys, i, j, x, rfl, rfl, h1, by omega, by omega, b1, hx, k _ _ _ st3 R3 (st3.val ix)⟩
        · cases e
      · cases e
    · cases e
  · cases e
theorem om_extend : OpM K rExtend mExtend := by
  intro m H S n a ps ds u qs xs Q R hm hS hd e k
  unfold mExtend at e
  split at e
  · rename_i d
    split at e
    · rename_i zs hz
      split at e
      · rename_i hl
        cases e
        obtain ⟨v, vs, rfl, hv, hvs⟩ := hd
        have hvs' : vs = [] := hvs
        subst hvs'
        obtain ⟨b, ws, rfl, h3, h4⟩ := isR_of R hv hz
        obtain ⟨ys, h1, h2⟩ := R.ob n a _ hm hS
        obtain ⟨R3, st3⟩ := R.write (o := .lst (ys ++ ws)) (x := .lst (ps ++ zs)) hm fun H' s' e' => ⟨_, e', (s'.all h2).append (s'.all h4)⟩
        exact ⟨a, b, ys, ws, rfl, rfl, h1, h3, size_of (by rw [← h2.len, ← h4.len]; exact hl), k _ _ _ st3 R3 rfl⟩
      · cases e
    · cases e
  · cases e
end
end DL

/-! DLh: defs, their calls, the law's end. -/
namespace DL
open PySem PySem.Spec PyProof.Rows L2

abbrev FF := List D → Sto → Oc D
/-- a def's promise: what it computes of data -/
def SpD (K : PySem.W.Frag) (n : Nat) (F : FF) (vs : List V) (H : Hp) (Q : VK) : Prop := ∃ m S ds d S', Rel K m H S ∧ IsDs K m (mask m H) ds vs ∧ ds.length = n ∧ F ds S = .ok d S' ∧
  ∀ v m' H', Stp m H m' H' → Rel K m' H' S' → IsD K m' (mask m' H') d v → Q v H'
structure FnG (P : Program) (w : World) (K : PySem.W.Frag) (mg : Str → Option Value) (base : Heap) (k : Nat) (f : Addr) (fd : FuncData) (ps : List Str) (F : FF) : Prop where
  run : ∀ (A : Around) (outer : List PySem.Env) (s : Shared) (H : Hp) (args : Args) (us : List Value) (vs : List V) (Q : VK), Room k A → A.guards = some [] → Env0 P w K mg base A outer s H → BindsTo s fd args (ps.zip us) → Vals vs us → SpD K ps.length F vs H Q →
    codeAny (model P w) A (.call (.ref f) args) (CR CX0 outer P w H s Q E0) s
theorem FnG.mono {P : Program} {w : World} {K : PySem.W.Frag} {mg : Str → Option Value} {base : Heap} {j k : Nat} {f : Addr} {fd : FuncData} {ps : List Str} {F : FF} (h : FnG P w K mg base j f fd ps F) (hk : j ≤ k) : FnG P w K mg base k f fd ps F :=
  ⟨fun A outer s H args us vs Q hr => h.run A outer s H args us vs Q (hr.mono hk)⟩

/-! ### a call's end: what the callee made is data now -/
def closeD (keep : Bool) (n : Nat) (d : D) (S : Sto) : Oc D := if keep = true then .ok d S else match d with
  | .v p => .ok (.v p) (S.take n)
  | .r r => if r < n then .ok (.r r) (S.take n) else match S[r]? with
    | some (.lst ps) => .ok (.v (.lst ps)) (S.take n)
    | some (.dic ks ps) => .ok (.v (.dic ks ps)) (S.take n)
    | none => .bad
def startD (n : Nat) (ds : List D) : Dnv := ds.map some ++ List.replicate (n - ds.length) none
def runF (n : Nat) (keep : Bool) (b : FS) : FF := fun ds S => match b (startD n ds) S with
  | .nx _ S1 => closeD keep S.length (.v .non) S1
  | .rt d S1 => closeD keep S.length d S1
  | _ => .bad
section
variable {K : PySem.W.Frag} {m m' : Mp} {H H' : Hp} {S S' : Sto}
theorem Rel.trunc (R : Rel K m' H' S') (st : Stp m H m' H') (n : Nat) (hn : m.l.length = n) : Rel K m H' (S'.take n) ∧ Stp m H m H' ∧ Exh (mask m' H') (mask m H') := by
  have sub : ∀ b, b ∈ m.l → b ∈ m'.l := fun b hb => by
    obtain ⟨r, hr, e⟩ := List.getElem_of_mem hb
    exact List.mem_of_getElem? (st.ext r b (by rw [List.getElem?_eq_getElem hr, e]))
  have ex : Exh (mask m' H') (mask m H') := fun b o z => by
    obtain ⟨z1, z2⟩ := mask_some z
    rw [mask_out fun q => z1 (q.imp (sub b) fun w => by rw [st.hh]; exact w)]
    exact z2
  have hle : n ≤ S'.length := by
    rw [← R.len, ← hn]
    rcases Nat.lt_or_ge m'.l.length m.l.length with q | q
    · exfalso
      have := st.ext m'.l.length m.l[m'.l.length] (List.getElem?_eq_getElem q)
      rw [List.getElem?_eq_none (Nat.le_refl _)] at this
      cases this
    · exact q
  refine ⟨⟨by rw [List.length_take, hn]; omega, ?_, fun r a x h1 h2 => ?_, fun b hb => ?_⟩, ⟨fun _ _ h => h, fun b o z => ex b o (st.ex b o z), rfl, st.hk⟩, ex⟩
  · have : m.l = m'.l.take n := List.ext_getElem? fun i => by
      by_cases hi : i < n
      · rw [List.getElem?_take_of_lt hi, List.getElem?_eq_getElem (by omega)]
        exact (st.ext i _ (List.getElem?_eq_getElem (by omega))).symm
      · rw [List.getElem?_eq_none (by omega), List.getElem?_eq_none (by rw [List.length_take]; omega)]
    rw [this]
    exact R.nd.sublist (List.take_sublist _ _)
  · have hr : r < n := by rw [← hn]; exact lt_of_at h1
    rw [List.getElem?_take_of_lt hr] at h2
    have q := R.ob r a x (st.ext r a h1) h2
    cases x with
    | lst ds =>
      obtain ⟨xs, e, q⟩ := q
      exact ⟨xs, e, IsAll.mono ex _ _ q⟩
    | dic ks ds =>
      obtain ⟨xs, e, k1, k2, q⟩ := q
      exact ⟨xs, e, k1, k2, IsAll.mono ex _ _ q⟩
  · obtain ⟨q1, q2⟩ := R.hid b (by rw [st.hh]; exact hb)
    exact ⟨fun z => q1 (sub b z), q2⟩
theorem close_ok {keep : Bool} {d d2 : D} {S1 : Sto} {v : V} {Q : VK} (R : Rel K m H S) (st : Stp m H m' H') (R1 : Rel K m' H' S1) (i1 : IsD K m' (mask m' H') d v) (e : closeD keep S.length d S1 = .ok d2 S')
    (q : ∀ v m' H', Stp m H m' H' → Rel K m' H' S' → IsD K m' (mask m' H') d2 v → Q v H') : Q v H' := by
  unfold closeD at e
  by_cases hk : keep = true
  · rw [if_pos hk] at e
    cases e
    exact q v m' H' st R1 i1
  · rw [if_neg hk] at e
    obtain ⟨R2, st2, ex⟩ := R1.trunc st S.length R.len
    split at e
    · cases e
      exact q v m H' st2 R2 (Is.mono ex _ _ i1)
    · rename_i r
      obtain ⟨a, rfl, ha⟩ := i1
      split at e
      · rename_i hr
        cases e
        refine q _ m H' st2 R2 ⟨a, rfl, ?_⟩
        rw [← R.len] at hr
        rw [List.getElem?_eq_getElem hr]
        have := st.ext r _ (List.getElem?_eq_getElem hr)
        rw [ha] at this
        exact this.symm
      · rename_i hr
        have hout : ¬ (a ∈ m.l ∨ a ∈ m.h) := by
          rintro (z | z)
          · obtain ⟨j, hj, ej⟩ := List.getElem_of_mem z
            have e1 := st.ext j a (by rw [List.getElem?_eq_getElem hj, ej])
            have l1 := lt_of_at e1
            have l2 := lt_of_at ha
            rw [List.getElem?_eq_getElem l1] at e1
            rw [List.getElem?_eq_getElem l2] at ha
            have : j = r := (List.getElem_inj R1.nd).mp ((Option.some.inj e1).trans (Option.some.inj ha).symm)
            rw [R.len] at hj
            omega
          · exact (R1.hid a (by rw [st.hh]; exact z)).1 (List.mem_of_getElem? ha)
        split at e
        · rename_i ps hS
          cases e
          obtain ⟨xs, h1, h2⟩ := R1.ob r a _ ha hS
          exact q _ m H' st2 R2 ⟨a, xs, rfl, by rw [mask_out hout]; exact h1, IsAll.mono ex _ _ h2⟩
        · rename_i ks ps hS
          cases e
          obtain ⟨xs, h1, h2, h3, h4⟩ := R1.ob r a _ ha hS
          exact q _ m H' st2 R2 ⟨a, xs, rfl, by rw [mask_out hout]; exact h1, h2, h3, IsAll.mono ex _ _ h4⟩
        · cases e
theorem isDs_get : ∀ {ds : List D} {vs : List V} {i : Nat} {d : D} {G : Hp}, IsDs K m G ds vs → ds[i]? = some d → ∃ v, vs[i]? = some v ∧ IsD K m G d v
  | [], _, _, _, _, _, h => by simp at h
  | d :: ds, _, 0, _, _, ⟨v, vs, h1, h2, h3⟩, h => by
    subst h1
    simp at h
    subst h
    exact ⟨v, rfl, h2⟩
  | d :: ds, _, i + 1, _, _, ⟨v, vs, h1, h2, h3⟩, h => by
    subst h1
    obtain ⟨u, e, q⟩ := isDs_get (i := i) h3 (by simpa using h)
    exact ⟨u, by simpa using e, q⟩
theorem start_is {N : List Str} {ds : List D} {vs : List V} {G : Hp} (h : IsDs K m G ds vs) : EnvIs K m G (start N vs) (startD N.length ds) := by
  have hl := h.len
  refine ⟨by simp [L2.start, startD, hl], fun i d e => ?_⟩
  unfold startD at e
  rcases Nat.lt_or_ge i ds.length with q | q
  · rw [List.getElem?_append_left (by simpa using q), List.getElem?_map] at e
    obtain ⟨d', h1, h2⟩ := Option.map_eq_some_iff.mp e
    cases h2
    obtain ⟨v, h3, h4⟩ := isDs_get h h1
    refine ⟨v, ?_, h4⟩
    unfold L2.start
    rw [List.getElem?_append_left (by rw [List.length_map, ← hl]; exact q), List.getElem?_map, h3]
    rfl
  · rw [List.getElem?_append_right (by simpa using q)] at e
    have := List.mem_of_getElem? e
    have := List.eq_of_mem_replicate this
    cases this
end

theorem guards_deeper {A : Around} {env : PySem.Env} (h : A.guards = some []) : (A.deeper env).guards = some [] := h
/-- a def of the text: its body is read once, at any place where it is called -/
theorem fn_g {P : Program} {w : World} {K : PySem.W.Frag} {mg : Str → Option Value} {base : Heap} {k : Nat} {f : Addr} {name qual : Str} {params : Arguments} {body : List Stmt} {scope : Scope} {dV kV doc pm cdv ct oc : Value} {an od : Option Addr}
    {osl : Array (Option Value)} {N ps : List Str} {b : FS} {keep : Bool} (lk : K.lookup f = some ⟨oc, od, .func (PySem.W.fnOf name qual params body scope dV kV doc pm an cdv ct), osl⟩) (hcd : PySem.W.codeIn K cdv qual = true) (S : FnScope N ps scope)
    (hbody : ∀ (A : Around) (outer : List PySem.Env) (s : Shared) (H : Hp), Room k (A.deeper (envOfC qual scope s.heap.objs.size f cdv)) → A.guards = some [] → PSsd (cxOf CX0 P w K mg base N qual scope f cdv A outer s H E0).nox body b) :
    FnG P w K mg base (k + 1) f (PySem.W.fnOf name qual params body scope dV kV doc pm an cdv ct) ps (runF N.length keep b) := by
  refine ⟨fun A outer s H args us vs Q hr hgd e0 hb r hsp => ?_⟩
  obtain ⟨m, S0, ds, d, S', R, iD, hlen, hF, q⟩ := hsp
  have hl : vs.length = ps.length := by rw [← iD.len]; exact hlen
  have KX : K.In s.heap := e0.mod.kin.keeps fun b o e => (e0.bs b o e).1
  have lim : s.heap.NoLimit := e0.mod.nolimit.keeps fun b o e => (e0.bs b o e).1
  refine codeAny_call_function hr.depth (KX _ _ lk) rfl S.co S.gen rfl (PySem.W.codeRec_of KX hcd) (hb _ _ _ _ ?_)
  refine wpAny_newFunctionEnv_cells S.kind (fun ⟨n, v⟩ hy => ?_) fun env he s1 x => ?_
  · rcases S.par n (List.of_mem_zip hy).1 with z | z
    · exact .inl z
    · exact .inr ⟨z, PySem.W.cellsFrom_some _ _ _ (.inl z)⟩
  subst he
  refine ⟨lim.keeps x.toInCall.keep, codeAny_func ?_⟩
  have I : Inv (cxOf CX0 P w K mg base N qual scope f cdv A outer s H E0) [] (start N vs) H s1 := inv_start S hr.hd e0 hl r x
  have hB := (hbody A outer s H (hr.deeper _) hgd).nox
  have reading : TDs K b { nx := fun _ H' => Q .non H', rt := Q } (start N vs) H := by
    refine ⟨m, startD N.length ds, S0, R, start_is iD, ?_⟩
    unfold runF at hF
    cases hb : b (startD N.length ds) S0 with
    | nx env1 S1 =>
      rw [hb] at hF
      exact fun m1 H1 σ1 st1 R1 E1 => close_ok (d := .v .non) (v := .non) R st1 R1 (show V.non = V.non from rfl) hF q
    | rt d1 S1 =>
      rw [hb] at hF
      exact fun v m1 H1 st1 R1 i1 => close_ok R st1 R1 i1 hF q
    | bk env1 S1 => rw [hb] at hF; cases hF
    | ct env1 S1 => rw [hb] at hF; cases hF
    | bad => rw [hb] at hF; cases hF
  refine wpAny_mono (hB.run [] s1 (start N vs) H _ I reading) (fun fl s' hs => ?_) fun e s' hs => hs
  cases fl with
  | ret u =>
    obtain ⟨v, σ', H', J, rv, q⟩ := hs
    exact ⟨v, H', J.os, J.bare, J.base, J.hok, rv, q⟩
  | next =>
    obtain ⟨σ', H', J, q⟩ := hs
    exact ⟨.non, H', J.os, J.bare, J.base, J.hok, rfl, q⟩
  | brk =>
    obtain ⟨_, _, _, q⟩ := hs
    exact False.elim q
  | cont =>
    obtain ⟨_, _, _, q⟩ := hs
    exact False.elim q

/-! ### calls -/
/-- the written arguments, then the defaults -/
def fCall (F : FF) (dv : List D) (g : FA) : FE := fun env S => (g env S).bind fun ds S1 => F (ds ++ dv) S1
def fCallN (F : FF) (n k : Nat) (gd : List D → List D → List D) (g gk : FA) : FE := fun env S => (g env S).bind fun ds S1 => (gk env S1).bind fun es S2 => if ds.length = n ∧ es.length = k then F (gd ds es) S2 else .bad
section
variable {X : Cx} {k n : Nat} {f : Addr} {fd : FuncData} {ps ks : List Str} {F : FF} {x : Str} {p pos : Pos} {e : Expr} {es : List Expr} {kws : List Keyword} {g gk : FA}
theorem run_g {pins : List (Addr × Obj)} {σ : L2.St} {H : Hp} {s : Shared} {Q : VK} {args : Args} {us : List Value} {vs : List V} (G : FnG X.prog X.w X.K X.mg X.base k f fd ps F) (hr : Room k X.A) (hX : SX X) (I : Inv X pins σ H s) (hb : BindsTo s fd args (ps.zip us)) (r : Vals vs us)
    (h : SpD X.K ps.length F vs H Q) : codeAny (model X.prog X.w) X.A (.call (.ref f) args) (fun r s' => match r with | .ok (.ret v) => EP X pins σ Q v s' | .ok _ => False | .error e => X.xe e s') s := by
  refine codeAny_mono (G.run X.A X.stack s H args us vs Q hr hX.guards I.env0 hb r h) fun r s' hq => ?_
  cases r with
  | error e => exact False.elim hq
  | ok fl =>
    cases fl with
    | ret u => exact I.after hq
    | next => exact False.elim hq
    | brk => exact False.elim hq
    | cont => exact False.elim hq
theorem run_gW {pins : List (Addr × Obj)} {σ : L2.St} {H : Hp} {s : Shared} {Q : VK} {us0 : List Value} {kw : List (Str × Value)} {us : List Value} {vs : List V} (G : FnG X.prog X.w X.K X.mg X.base k f fd ps F) (hr : Room k X.A) (hX : SX X) (I : Inv X pins σ H s) (hb : BindsTo s fd ⟨us0, kw⟩ (ps.zip us)) (r : Vals vs us)
    (h : SpD X.K ps.length F vs H Q) : wpAny (model X.prog X.w) X.A (call (.ref f) us0 kw) (EP X pins σ Q) X.xe s := by
  refine wpAny_call (codeAny_mono (run_g G hr hX I hb r h) fun r s' hq => ?_)
  cases r with
  | error e => exact hq
  | ok fl =>
    cases fl with
    | ret u => exact hq
    | next => exact False.elim hq
    | brk => exact False.elim hq
    | cont => exact False.elim hq
/-- what the defaults are: data that stand for good -/
def DvIs (K : PySem.W.Frag) (dv : List D) (ds : List Value) : Prop := ∃ dvs : List V, Vals dvs ds ∧ ∀ m G, IsDs K m G dv dvs
theorem DvIs.nil {K : PySem.W.Frag} : DvIs K [] [] := ⟨[], .nil, fun _ _ => rfl⟩
theorem d_call {dv : List D} {ds : List Value} (G : FnG X.prog X.w X.K X.mg X.base k f fd ps F) (hr : Room k X.A) (hX : SX X) (hm : X.mg x = some (.ref f)) (hk : PySem.W.keepIn X.K (.ref f) = true) (hb : Binds X.K fd ps ds) (hd : DvIs X.K dv ds) (ha : PAd X (e :: es) g) (hlen : (e :: es).length + dv.length = ps.length := by rfl)
    (hl : ∀ env S qs S', g env S = .ok qs S' → qs.length = (e :: es).length) (hg : Gl X x := by rfl) (hdb : (x == ("__debug__" : Str)) = false := by decide) (he : starEach (e :: es) X.env = (false, eval e X.env) :: starEach es X.env := by rfl) (hpl : (backTo pos (starEach es X.env)).any (·.1) = false := by rfl) :
    PEd X (.Call (.Name x p) (e :: es) [] pos) (fCall F dv g) := by
  refine ⟨fun pins s σ H Q I h => ?_⟩
  obtain ⟨m, env, S, R, E, d, S', e1, q⟩ := h
  obtain ⟨qs, S1, k1, e2⟩ := Oc.bind_eq e1
  obtain ⟨dvs, hd1, hd2⟩ := hd
  refine wpAny_Call_Name_kw (ld_glob I hg hm ?_ hdb)
  refine PySem.W.callWith_K (h₀ := X.base) I.ok.mod.kin hk (thn (ha.run pos pins s σ H (fun vs H1 => SpD X.K ps.length F (vs ++ dvs) H1 Q ∧ (vs ++ dvs).length = ps.length) I ⟨m, env, S, R, E, qs, S1, k1, fun vs m1 H1 st1 R1 i1 => ?_⟩) fun us s1 ⟨vs, H1, I1, r, q1, q2⟩ => ⟨I1.kIn, ?_⟩) he hpl
  · have hlq := hl _ _ _ _ k1
    refine ⟨⟨m1, S1, qs ++ dv, d, S', R1, i1.append (hd2 m1 _), by rw [List.length_append, hlq]; exact hlen, e2, fun v m2 H2 st2 R2 i2 => q v m2 H2 (st1.trans st2) R2 i2⟩, ?_⟩
    have h1 := i1.len
    have h2 := (hd2 m1 (mask m1 H1)).len
    rw [List.length_append, ← h1, ← h2, hlq]
    exact hlen
  · have r2 : Vals (vs ++ dvs) (us ++ ds) := r.append hd1
    exact run_gW G hr hX I1 (hb s1 us I1.kIn (by rw [← r2.length]; exact q2)) r2 q1
theorem d_call0 {dv : List D} {ds : List Value} (G : FnG X.prog X.w X.K X.mg X.base k f fd ps F) (hr : Room k X.A) (hX : SX X) (hm : X.mg x = some (.ref f)) (hk : PySem.W.keepIn X.K (.ref f) = true) (hb : Binds X.K fd ps ds) (hd : DvIs X.K dv ds) (hlen : dv.length = ps.length := by rfl)
    (hg : Gl X x := by rfl) (hdb : (x == ("__debug__" : Str)) = false := by decide) : PEd X (.Call (.Name x p) [] [] pos) (fCall F dv fNil) := by
  refine ⟨fun pins s σ H Q I h => ?_⟩
  obtain ⟨m, env, S, R, E, d, S', e1, q⟩ := h
  obtain ⟨qs, S1, k1, e2⟩ := Oc.bind_eq e1
  cases k1
  obtain ⟨dvs, hd1, hd2⟩ := hd
  refine wpAny_Call_Name_kw (ld_glob I hg hm ?_ hdb)
  have h2 := (hd2 m (mask m H)).len
  exact PySem.W.callWith_K0 I.kIn hk (run_gW G hr hX I (hb s [] I.kIn (by rw [List.nil_append, ← hd1.length, ← h2]; exact hlen)) hd1 ⟨m, S, dv, d, S', R, hd2 m _, hlen, e2, q⟩)
/-- keywords -/
abbrev PKd (X : Cx) (kws : List Keyword) (g : FA) : Prop := PK X kws (TDa X.K g)
theorem pk_weak {t t' : TA} (h : PK X kws t) (q : ∀ σ H Q, t' σ H Q → t σ H Q) : PK X kws t' := ⟨fun pos pins s σ H Q I w => h.run pos pins s σ H Q I (q σ H Q w)⟩
theorem k_nil : PKd X [] fNil := pk_weak pk_nil fun σ H Q ⟨m, env, S, R, E, d', S', e1, q⟩ => by
  cases e1
  exact q [] m H (Stp.refl m H) R rfl
theorem k_cons {fe : FE} {nm : Option Str} {kpos : Pos} (he : PEd X e fe) (hr : PKd X kws g) : PKd X (⟨nm, e, kpos⟩ :: kws) (fCons fe g) := pk_weak (pk_cons he hr) fun σ H Q ⟨m, env, S, R, E, d', S', e1, q⟩ => by
  obtain ⟨d, S1, k1, e2⟩ := Oc.bind_eq e1
  obtain ⟨ds, S2, k2, e3⟩ := Oc.bind_eq e2
  cases e3
  exact ⟨m, env, S, R, E, d, S1, k1, fun v m1 H1 st1 R1 i1 => ⟨m1, env, S1, R1, E.step st1, ds, _, k2, fun vs m2 H2 st2 R2 i2 =>
    q (v :: vs) m2 H2 (st1.trans st2) R2 ⟨v, vs, rfl, st2.is i1, i2⟩⟩⟩
/-- how the data go to the parameters -/
def GdIs (K : PySem.W.Frag) (n j l : Nat) (gd : List D → List D → List D) (gV : List V → List V → List V) : Prop := ∀ m G ds es vs zs, IsDs K m G ds vs → IsDs K m G es zs → ds.length = n → es.length = j → IsDs K m G (gd ds es) (gV vs zs) ∧ (gd ds es).length = l
theorem d_callN {gv : List Value → List Value → List Value} {gV : List V → List V → List V} {gd : List D → List D → List D} (G : FnG X.prog X.w X.K X.mg X.base k f fd ps F) (hr : Room k X.A) (hX : SX X) (hm : X.mg x = some (.ref f)) (hk : PySem.W.keepIn X.K (.ref f) = true) (hb : KBn X.K fd ps n ks gv gV)
    (hd : GdIs X.K n ks.length ps.length gd gV) (ha : PAd X (e :: es) g) (hkw : PKd X kws gk) (hall : (backToKw pos (keywordEach kws X.env)).all (·.1.isSome) = true := by rfl) (hks : (backToKw pos (keywordEach kws X.env)).filterMap (·.1) = ks := by rfl) (hg : Gl X x := by rfl)
    (hdb : (x == ("__debug__" : Str)) = false := by decide) (he : starEach (e :: es) X.env = (false, eval e X.env) :: starEach es X.env := by rfl)
    (hpl : ((backTo pos (starEach (e :: es) X.env)).any (·.1) || (backToKw pos (keywordEach kws X.env)).any (·.1.isNone)) = false := by rfl) : PEd X (.Call (.Name x p) (e :: es) kws pos) (fCallN F n ks.length gd g gk) := by
  refine ⟨fun pins s σ H Q I h => ?_⟩
  obtain ⟨m, env, S, R, E, d, S', e1, q⟩ := h
  obtain ⟨qs, S1, k1, e2⟩ := Oc.bind_eq e1
  obtain ⟨zs, S2, k2, e3⟩ := Oc.bind_eq e2
  split at e3
  · rename_i hl
    refine wpAny_Call_Name_kw (ld_glob I hg hm ?_ hdb)
    refine PySem.W.callWith_KW (h₀ := X.base) I.ok.mod.kin hk hall (thn (ha.run pos pins s σ H (fun vs H1 => TDa X.K gk σ H1 fun ws H2 => vs.length = n ∧ ws.length = ks.length ∧ SpD X.K ps.length F (gV vs ws) H2 Q) I ⟨m, env, S, R, E, qs, S1, k1, fun vs m1 H1 st1 R1 i1 => ?_⟩) fun us s1 ⟨vs, H1, I1, r, q1⟩ => ?_) hpl he
    · refine ⟨m1, env, S1, R1, E.step st1, zs, S2, k2, fun ws m2 H2 st2 R2 i2 => ⟨by rw [← i1.len]; exact hl.1, by rw [← i2.len]; exact hl.2, ?_⟩⟩
      obtain ⟨a1, a2⟩ := hd m2 _ _ _ _ _ (st2.ids i1) i2 hl.1 hl.2
      exact ⟨m2, S2, _, d, S', R2, a1, a2, e3, fun v m3 H3 st3 R3 i3 => q v m3 H3 ((st1.trans st2).trans st3) R3 i3⟩
    · refine thn (hkw.run pos pins s1 σ H1 _ I1 q1) fun ws s2 ⟨vz, H2, I2, rz, l1, l2, q2⟩ => ⟨I2.kIn, ?_⟩
      rw [hks]
      exact run_gW G hr hX I2 (hb.to s2 us ws I2.kIn (r.length.symm.trans l1) (rz.length.symm.trans l2)) (hb.rel r rz) q2
  · cases e3
theorem d_callN0 {gv : List Value → List Value → List Value} {gV : List V → List V → List V} {gd : List D → List D → List D} (G : FnG X.prog X.w X.K X.mg X.base k f fd ps F) (hr : Room k X.A) (hX : SX X) (hm : X.mg x = some (.ref f)) (hk : PySem.W.keepIn X.K (.ref f) = true) (hb : KBn X.K fd ps 0 ks gv gV)
    (hd : GdIs X.K 0 ks.length ps.length gd gV) (hkw : PKd X kws gk) (hall : (backToKw pos (keywordEach kws X.env)).all (·.1.isSome) = true := by rfl) (hks : (backToKw pos (keywordEach kws X.env)).filterMap (·.1) = ks := by rfl) (hg : Gl X x := by rfl)
    (hdb : (x == ("__debug__" : Str)) = false := by decide) (hpl : ((backTo pos (starEach [] X.env)).any (·.1) || (backToKw pos (keywordEach kws X.env)).any (·.1.isNone)) = false := by rfl) : PEd X (.Call (.Name x p) [] kws pos) (fCallN F 0 ks.length gd fNil gk) := by
  refine ⟨fun pins s σ H Q I h => ?_⟩
  obtain ⟨m, env, S, R, E, d, S', e1, q⟩ := h
  obtain ⟨qs, S1, k1, e2⟩ := Oc.bind_eq e1
  obtain ⟨zs, S2, k2, e3⟩ := Oc.bind_eq e2
  cases k1
  split at e3
  · rename_i hl
    refine wpAny_Call_Name_kw (ld_glob I hg hm ?_ hdb)
    refine PySem.W.callWith_KW0 (h₀ := X.base) I.ok.mod.kin hk hall (thn (hkw.run pos pins s σ H (fun ws H2 => ws.length = ks.length ∧ SpD X.K ps.length F (gV [] ws) H2 Q) I ⟨m, env, S, R, E, zs, S2, k2, fun ws m2 H2 st2 R2 i2 => ⟨by rw [← i2.len]; exact hl.2, ?_⟩⟩) fun ws s2 ⟨vz, H2, I2, rz, l2, q2⟩ => ⟨I2.kIn, ?_⟩) hpl
    · obtain ⟨a1, a2⟩ := hd m2 _ [] zs [] ws (show ([] : List V) = [] from rfl) i2 rfl hl.2
      exact ⟨m2, S2, _, d, S', R2, a1, a2, e3, fun v m3 H3 st3 R3 i3 => q v m3 H3 (st2.trans st3) R3 i3⟩
    · rw [hks]
      exact run_gW G hr hX I2 (hb.to s2 [] ws I2.kIn rfl (rz.length.symm.trans l2)) (hb.rel .nil rz) q2
  · cases e3
theorem len_nil {env : Dnv} {S S' : Sto} {qs : List D} (h : fNil env S = .ok qs S') : qs.length = 0 := by cases h; rfl
theorem len_cons {fe : FE} {g : FA} {n : Nat} (hg : ∀ env S qs S', g env S = .ok qs S' → qs.length = n) : ∀ env S qs S', fCons fe g env S = .ok qs S' → qs.length = n + 1 := fun env S qs S' h => by
  obtain ⟨d, S1, k1, e2⟩ := Oc.bind_eq h
  obtain ⟨ds, S2, k2, e3⟩ := Oc.bind_eq e2
  cases e3
  simp [hg _ _ _ _ k2]
end
end DL

/-! DLi: the end of a law. -/
namespace DL
open PySem PySem.Spec PyProof.Rows L2

/-- the law's function is true of every list of so many numbers -/
def LawOk (F : FF) (n : Nat) : Prop := ∀ ns : List Int, ns.length ≤ n → ∃ S', F [.v (.frz (ns.map P.int))] [] = .ok (.v (.bl true)) S'
theorem ints_all {K : PySem.W.Frag} {G : Hp} : ∀ ns : List Int, IsAll K G (ns.map P.int) (ns.map V.int)
  | [] => rfl
  | n :: ns => ⟨.int n, ns.map V.int, rfl, rfl, ints_all ns⟩
theorem mask_nil (H : Hp) : mask ⟨[], []⟩ H = H := by
  funext b
  unfold mask
  rw [if_neg (by simp)]
theorem law_callG {P : Program} {w : World} {K : PySem.W.Frag} {mg mb : Str → Option Value} {k n : Nat} {fa a : Addr} {fd : FuncData} {x : Str} {F : FF} {s1 : Shared} {vs : List Value} {ns : List Int}
    (KX : K.In s1.heap) (hns : s1.heap.Ns mainGlobals mg) (hb : s1.heap.Ns builtinsNs mb) (hbb : ∀ x : Str, x ≠ "__name__" → mb x = bootBuiltins x) (hlim : s1.heap.NoLimit) (hg : s1.gens = #[])
    (ha : s1.heap.get? a = some { cls := .type "list", data := .seq vs.toArray }) (hi : IntsAre vs ns) (hn : ns.length ≤ n) (hl : ns.length ≤ sizeLine) (hr : Room k callerA)
    (G : ∀ base : Heap, K.In base → base.Ns mainGlobals mg → FnG P w K mg base k fa fd [x] F) (hbind : ∀ (s : Shared) (u : Value), BindsTo s fd ⟨[u], []⟩ [(x, u)]) (hF : LawOk F n) :
    codeAny (model P w) callerA (.call (.ref fa) ⟨[.ref a], []⟩) (fun r s' => r = .ok (.ret (.bool true)) ∧ OldK s1.heap s'.heap ∧ s'.os = s1.os ∧ AllBare s'.gens) s1 := by
  have rv := vals_ints hi
  have lenV := hi.length
  have core : ∀ H : Hp, Only H → SqL K H a (ns.map V.int) → HOk P w H s1.heap → (∀ b, H b ≠ none → b = a) → (H a ≠ none → K.lookup a = none) →
      codeAny (model P w) callerA (.call (.ref fa) ⟨[.ref a], []⟩) (fun r s' => r = .ok (.ret (.bool true)) ∧ OldK s1.heap s'.heap ∧ s'.os = s1.os ∧ AllBare s'.gens) s1 := by
    intro H hO hS hok hA hK
    have lift : ∀ {b : Addr} {o : Obj}, s1.heap.get? b = some o → H b = none → (hidT s1.heap H).get? b = some o := fun e z => hidT_get e z
    have notdict : ∀ {b : Addr} {o : Obj} {es : Array DictEntry} {ep : Nat}, s1.heap.get? b = some o → o.data = .dict es ep → H b = none := fun {b o es ep} e d => by
      cases z : H b with
      | none => rfl
      | some u =>
        obtain rfl : b = a := hA b (by rw [z]; simp)
        rw [ha] at e
        cases e
        exact nomatch (show Data.seq vs.toArray _ = Data.dict es ep from d)
    have nsH : ∀ {b : Addr} {m : Str → Option Value}, s1.heap.Ns b m → (hidT s1.heap H).Ns b m := fun {b m} ⟨o, es, ep, e, d, r⟩ => ⟨o, es, ep, lift e (notdict e d), d, r⟩
    have inH : K.In (hidT s1.heap H) := fun b o e => lift (KX b o e) (by
      cases z : H b with
      | none => rfl
      | some u =>
        obtain rfl : b = a := hA b (by rw [z]; simp)
        rw [hK (by rw [z]; simp)] at e
        cases e)
    obtain ⟨mc, lim1, lim2⟩ := hlim
    have hM : Mod K mg (hidT s1.heap H) := ⟨inH, nsH hns, ⟨mb, nsH hb, hbb⟩, ⟨mc, nsH lim1, lim2⟩⟩
    have e0 : Env0 P w K mg (hidT s1.heap H) callerA [] s1 H := ⟨rfl, hM, fun b o e => of_hidT e, Nat.le_of_eq (hidT_size _ _), trivial, fun b z => absurd (show b ∈ ([] : List Addr) from z) (by simp), hok, .of_eq hg⟩
    obtain ⟨S', hS'⟩ := hF ns hn
    have sp : SpD K ([x] : List Str).length F [.ref a] H (fun v _ => v = .bl true) := by
      refine ⟨⟨[], []⟩, [], [.v (.frz (ns.map DL.P.int))], .v (.bl true), S', ⟨rfl, List.nodup_nil, fun r b o h => by simp at h, fun b z => absurd (show b ∈ ([] : List Addr) from z) (by simp)⟩, ⟨.ref a, [], rfl, ⟨a, ns.map V.int, rfl, by rw [mask_nil]; exact hS, ints_all ns⟩, rfl⟩, rfl, hS', fun v m' H' _ _ i => i⟩
    refine codeAny_mono ((G _ inH (nsH hns)).run callerA [] s1 H ⟨[.ref a], []⟩ [.ref a] [.ref a] _ hr rfl e0 (hbind s1 (.ref a)) (.cons rfl .nil) sp) fun r s' h => ?_
    cases r with
    | error e => exact False.elim h
    | ok fl =>
      cases fl with
      | next => exact False.elim h
      | brk => exact False.elim h
      | cont => exact False.elim h
      | ret u =>
        obtain ⟨v, H', os, bare, un, hok', r', q⟩ := h
        have q' : v = .bl true := q
        subst q'
        obtain rfl : u = Value.bool true := r'
        refine ⟨rfl, OldK.of_keep fun b o e => ?_, os, bare⟩
        cases z : H b with
        | none => exact un.keep b o e z (fun y => absurd (show b ∈ ([] : List Addr) from y) (by simp)) (by simp)
        | some u =>
          rcases hO b with y | ⟨ob, xs, y⟩
          · rw [z] at y; cases y
          · obtain ⟨e1, _⟩ := hok b _ y
            obtain ⟨e2, _⟩ := hok' b _ (un.frzs b ob _ y)
            rw [e] at e1
            cases e1
            exact e2
  cases hk : K.lookup a with
  | some o =>
    have e := KX a o hk
    rw [ha] at e
    cases e
    exact core (fun _ => none) (fun _ => .inl rfl) (.inr ⟨_, vs.toArray, _, hk, rfl, rfl, rfl, by rw [List.size_toArray, lenV]; exact hl, by simpa using rv⟩) (fun b u z => nomatch (show (none : Option HO) = some u from z)) (fun b z => absurd rfl z) fun z => absurd rfl z
  | none =>
    refine core (fun b => if b = a then some (.frz { cls := .type "list", data := .seq vs.toArray } (.lst (ns.map V.int))) else none) (fun b => ?_) (.inl (.inr ⟨{ cls := .type "list", data := .seq vs.toArray }, if_pos rfl⟩)) (fun b u z => ?_) (fun b z => ?_) fun _ => hk
    · by_cases hb : b = a
      · exact .inr ⟨_, _, if_pos hb⟩
      · exact .inl (if_neg hb)
    · by_cases hb : b = a
      · cases (if_pos hb).symm.trans z
        subst hb
        exact ⟨ha, by rw [List.length_map]; exact hl, vs, _, rv, ha⟩
      · cases (if_neg hb).symm.trans z
    · by_cases hb : b = a
      · exact hb
      · exact absurd (if_neg hb) z
/-- the goal that the head leaves, from the law's function -/
theorem walk_g {l : PySem.W.OpenLaw} {n k : Nat} {q : Program} {loose : List Str} {XP : (Str → Option Value) → Heap → Prop} {YP : World → Heap → Prop} {d : DefRec} {K : Params → PySem.W.Frag} {F : FF} {x : Str}
    (hn : l.most = some n) (hn2 : n ≤ sizeLine) (hdf : d.params.defaults = []) (hr : Room k callerA) (hY : ∀ (w : World) (h : Heap), YP w h → (K w.params).In h)
    (G : ∀ (w : World) (mg : Str → Option Value) (fa : Addr) (h : Heap), (K w.params).In h → h.Ns mainGlobals mg → mg d.name = some (.ref fa) →
      ∃ fd : FuncData, (∀ (s : Shared) (u : Value), BindsTo s fd ⟨[u], []⟩ [(x, u)]) ∧ ∀ base : Heap, (K w.params).In base → base.Ns mainGlobals mg → FnG l.prog w (K w.params) mg base k fa fd [x] F)
    (hF : LawOk F n) : PySem.W.WalkO q loose XP YP l.row.toRowW d [] (fun f vs => PySem.call f vs) := by
  refine Att.attach_call hn hdf fun w s₀ s₁ mg mb fa o pm cd doc a vs ns Gh Y ho hd hcd hmg hobj hints hlen hg => ?_
  have KX := hY w _ Y
  obtain ⟨fd, hb, hG⟩ := G w mg fa _ KX Gh.T.g hmg
  exact law_callG KX Gh.T.g Gh.T.b Gh.T.builtins Gh.T.nolimit hg hobj hints hlen (Nat.le_trans hlen hn2) hr hG hb hF
/-- the same over a head by facts -/
theorem walk_gE {l : PySem.W.OpenLaw} {n k : Nat} {q : Program} {loose : List Str} {XP : (Str → Option Value) → Heap → Prop} {YP : World → Heap → Prop} {d : DefRec} {F : FF} {x : Str}
    (hn : l.most = some n) (hn2 : n ≤ sizeLine) (hdf : d.params.defaults = []) (hr : Room k callerA)
    (G : ∀ (w : World) (mg : Str → Option Value) (fa : Addr) (h : Heap), YP w h → h.Ns mainGlobals mg → mg d.name = some (.ref fa) →
      ∃ (K : PySem.W.Frag) (fd : FuncData), K.In h ∧ (∀ (s : Shared) (u : Value), BindsTo s fd ⟨[u], []⟩ [(x, u)]) ∧ ∀ base : Heap, K.In base → base.Ns mainGlobals mg → FnG l.prog w K mg base k fa fd [x] F)
    (hF : LawOk F n) : PySem.W.WalkO q loose XP YP l.row.toRowW d [] (fun f vs => PySem.call f vs) := by
  refine Att.attach_call hn hdf fun w s₀ s₁ mg mb fa o pm cd doc a vs ns Gh Y ho hd hcd hmg hobj hints hlen hg => ?_
  obtain ⟨K, fd, KX, hb, hG⟩ := G w mg fa _ Y Gh.T.g hmg
  exact law_callG KX Gh.T.g Gh.T.b Gh.T.builtins Gh.T.nolimit hg hobj hints hlen (Nat.le_trans hlen hn2) hr hG hb hF
end DL

/-! DLj: dict comprehensions, methods of lists, defs behind the head's facts. -/
namespace DL
open PySem PySem.Spec PyProof.Rows L2

open Classical in
noncomputable def dcF (own : Option Nat) (all : List P) (g : FG) (t : FT) (fk e : FE) (env : Dnv) : List P → Sto → List Key → List P → Oc (List Key × List P)
  | [], S, ks, acc => if OwnOk own all S then .ok (ks, acc) S else .bad
  | p :: ps, S, ks, acc => if OwnOk own all S then (g (.v p) env S).bind fun env1 S1 => (t env1 S1).bind fun b S2 => if b = true then (fk env1 S2).bind fun dk S3 => (e env1 S3).bind fun d S4 => match dk, d with
      | .v qk, .v q => match pKey qk with
        | some k => if ks.length < 10000 then dcF own all g t fk e env ps S4 (putP ks acc k q).1 (putP ks acc k q).2 else .bad
        | none => .bad
      | _, _ => .bad else dcF own all g t fk e env ps S2 ks acc else .bad
noncomputable def fDc (it : FI) (g : FG) (t : FT) (fk e : FE) (vs : List Nat) : FE := fun env S => (it env S).bind fun r S1 => (dcF r.2 r.1 g t fk e (wipeE env vs) r.1 S1 [] []).bind fun acc S2 => .ok (.v (.dic acc.1 acc.2)) S2
section
variable {K : PySem.W.Frag}
theorem dc_val {it : FI} {g : FG} {t : FT} {fk e : FE} {vs : List Nat} {σ : L2.St} {H : Hp} {Q : VK} (h : TD K (fDc it g t fk e vs) σ H Q) : tDc (TDi K it) (TDw K vs g) (TDt K t) (TD K fk) (TD K e) vs σ H Q := by
  obtain ⟨m, env, S, R, E, d, S', e1, q0⟩ := h
  obtain ⟨⟨ps, own⟩, S1, k1, e2⟩ := Oc.bind_eq e1
  obtain ⟨⟨akk, acc⟩, S2, k2, e3⟩ := Oc.bind_eq e2
  cases e3
  have q : ∀ p xs l2 H2, p ∉ m.h → Wk m H ⟨l2, p :: m.h⟩ H2 → (∀ b, b ∈ m.h → H2 b = H b) → Rel K ⟨l2, p :: m.h⟩ H2 S' → H2 p = some (.dK (akk.zip xs)) → akk.length = xs.length → akk.Nodup → IsAll K (mask ⟨l2, p :: m.h⟩ H2) acc xs → Q (.ref p) H2 := by
    intro p xs l2 H2 hp w hk R2 e2 hl2 hn2 i2
    obtain ⟨R3, ex3⟩ := R2.show' hp
    have hpl := (R2.hid p (List.mem_cons_self ..)).1
    refine q0 (.ref p) ⟨l2, m.h⟩ H2 ⟨w.ext, fun b o z => ex3 b o (w.ex b o z), rfl, hk⟩ R3 ⟨p, xs, rfl, ?_, hl2, hn2, IsAll.mono ex3 _ _ i2⟩
    exact (mask_out (m := ⟨l2, m.h⟩) (fun z => z.elim (fun q => hpl q) (fun q => hp q))).trans e2
  refine ⟨m, env, S, R, E, ps, own, S1, k1, fun m1 H1 J st1 R1 T Dl hD => ?_⟩
  have R1h := R1.hide (o := .dK []) hD
  have emk := mask_hide (m := m1) (o := .dK []) hD
  have hDm := R1.out hD
  refine ⟨fun i k H2 => k + i = ps.length ∧ ∃ m2 S3 kk ac xs, m2.h = Dl :: m1.h ∧ Wk m1 H1 m2 H2 ∧ (∀ b, b ∈ m1.h → H2 b = H1 b) ∧ Rel K m2 H2 S3 ∧ H2 Dl = some (.dK (kk.zip xs)) ∧ kk.length = xs.length ∧ kk.Nodup ∧ IsAll K (mask m2 H2) ac xs ∧ dcF own ps g t fk e (wipeE env vs) (ps.drop i) S3 kk ac = .ok (akk, acc) S',
    ⟨ps.length, by omega, m1.hide Dl, S1, [], [], [], rfl, ⟨fun _ _ h => h, by rw [emk]; exact fun _ _ h => h⟩, fun b hb => upd_ne fun z => hDm (.inr (z ▸ hb)), R1h, upd_same, rfl, List.nodup_nil, rfl, by simpa using k2⟩, ?_⟩
  rintro i k H2 ⟨hk, m2, S3, kk, ac, xs, hh, w2, hk2, R2, eD, hkl, hkn, iac, k3⟩
  by_cases hi : i < ps.length
  · right
    rw [List.drop_eq_getElem_cons hi] at k3
    unfold dcF at k3
    split at k3
    · rename_i ho
      obtain ⟨env3, S4, k4, k5⟩ := Oc.bind_eq k3
      obtain ⟨b, S5, k6, k7⟩ := Oc.bind_eq k5
      obtain ⟨hgo, hy⟩ := T.go i _ m2 H2 S3 (List.getElem?_eq_getElem hi) w2 R2 ho
      refine ⟨hgo, fun H' => ∃ k', k' < k ∧ (k' + (i + 1) = ps.length ∧ ∃ m2 S3 kk ac xs, m2.h = Dl :: m1.h ∧ Wk m1 H1 m2 H' ∧ (∀ b, b ∈ m1.h → H' b = H1 b) ∧ Rel K m2 H' S3 ∧ H' Dl = some (.dK (kk.zip xs)) ∧ kk.length = xs.length ∧ kk.Nodup ∧ IsAll K (mask m2 H') ac xs ∧ dcF own ps g t fk e (wipeE env vs) (ps.drop (i + 1)) S3 kk ac = .ok (akk, acc) S'), fun H' z => z, fun x H3 y => ?_⟩
      obtain ⟨R3, st3, i3, _⟩ := hy x H3 y
      have hDh : Dl ∈ m2.h := by rw [hh]; exact List.mem_cons_self ..
      have E2 : EnvIs K m2 (mask m2 H3) (L2.wipe σ vs) (wipeE env vs) := by
        have E1 := (E.step st1).wipe vs
        refine ⟨E1.len, fun j d z => ?_⟩
        obtain ⟨v, h1, h2⟩ := E1.get j d z
        exact ⟨v, h1, (h2.mono (w2.trans st3.wk).ext (w2.trans st3.wk).ex)⟩
      refine ⟨m2, wipeE env vs, S3, .v ps[i], R3, E2, i3, env3, S4, k4, fun m4 H4 σ4 st4 R4 E4 _ hw => ⟨by rw [hw, wipe_idem], m4, env3, S4, R4, E4, b, S5, k6, fun m5 H5 st5 R5 => ?_⟩⟩
      have stA := (st3.trans st4).trans st5
      cases b with
      | false =>
        rw [if_neg (by decide)] at k7
        refine iteF ?_
        have eD5 : H5 Dl = some (.dK (kk.zip xs)) := by rw [stA.hk Dl hDh]; exact eD
        exact ⟨k - 1, by omega, by omega, m5, S5, kk, ac, xs, by rw [stA.hh, hh], w2.trans stA.wk, fun b hb => (stA.hk b (by rw [hh]; exact List.mem_cons_of_mem _ hb)).trans (hk2 b hb), R5, eD5, hkl, hkn, stA.all iac, k7⟩
      | true =>
        rw [if_pos rfl] at k7
        refine iteT ?_
        obtain ⟨dk, S6, k8, k9⟩ := Oc.bind_eq k7
        refine ⟨m5, env3, S5, R5, E4.step st5, dk, S6, k8, fun vk m6 H6 st6 R6 i6 => ?_⟩
        obtain ⟨d, S7, k10, k11⟩ := Oc.bind_eq k9
        refine ⟨m6, env3, S6, R6, (E4.step st5).step st6, d, S7, k10, fun v m7 H7 st7 R7 i7 => ?_⟩
        have stB := (stA.trans st6).trans st7
        split at k11
        · rename_i qk q'
          split at k11
          · rename_i ky hky
            split at k11
            · rename_i hl
              have eD7 : H7 Dl = some (.dK (kk.zip xs)) := by rw [stB.hk Dl hDh]; exact eD
              have hDh7 : Dl ∈ m7.h := by rw [stB.hh]; exact hDh
              obtain ⟨ys, b1, b2, b3, b4, _⟩ := put_is (k := ky) (show Is K (mask m7 H7) q' v from i7) hkl hkn (stB.all iac)
              have em7 := mask_hid (m := m7) (H := H7) (o := .dK ((putP kk ac ky q').1.zip ys)) hDh7
              refine ⟨kk.zip xs, ky, pKey_is (isR_val (show Is K (mask m6 H6) qk vk from i6)) hky, eD7, by rw [List.length_zip, hkl, Nat.min_self, ← hkl]; exact Nat.lt_of_lt_of_le hl (by decide), ?_⟩
              rw [b1]
              have R8 := R7.hidden (o := .dK ((putP kk ac ky q').1.zip ys)) hDh7
              refine ⟨k - 1, by omega, by omega, m7, S7, _, _, ys, by rw [stB.hh, hh], ⟨(w2.trans stB.wk).ext, by rw [em7]; exact (w2.trans stB.wk).ex⟩, fun b hb => ?_, R8, upd_same, b2, b3, by rw [em7]; exact b4, k11⟩
              have hne : b ≠ Dl := fun z => by
                subst z
                exact hDm (.inr hb)
              rw [upd_ne hne]
              exact (stB.hk b (by rw [hh]; exact List.mem_cons_of_mem _ hb)).trans (hk2 b hb)
            · cases k11
          · cases k11
        · cases k11
    · cases k3
  · left
    have ed : ps.drop i = [] := List.drop_eq_nil_of_le (by omega)
    rw [ed] at k3
    unfold dcF at k3
    split at k3
    · rename_i ho
      cases k3
      refine ⟨T.stop i m2 H2 _ (by omega) w2 R2 ho, ?_⟩
      obtain ⟨l2, h2⟩ := m2
      have hh' : h2 = Dl :: m1.h := hh
      subst hh'
      have hDn : Dl ∉ m1.h := fun z => hDm (.inr z)
      have e1 : m1.h = m.h := st1.hh
      rw [e1] at hDn w2 R2 iac
      exact q Dl xs l2 H2 hDn ⟨(st1.wk.trans w2).ext, (st1.wk.trans w2).ex⟩ (fun b hb => (hk2 b (by rw [e1]; exact hb)).trans (st1.hk b hb)) R2 eD hkl hkn iac
    · cases k3
end
section
variable {X : Cx} {kx vx tg iter : Expr} {ifs : List Expr} {scope : Scope} {pos : Pos} {it : FI} {g : FG} {t : FT} {fk e : FE}
theorem d_dc (hX : SX X) (own : List (Str × Nat)) (hi : PId X tg iter it) (ok : BlkOk X.N X.env.scope scope own) (hg : ∀ (s : Shared) (H : Hp) (C : Addr) (cl : List (Str × Addr)) (fp : List Addr), PG (X.blk s H scope (compEnvC scope cl C X.env) fp) tg (TDw X.K (own.map (·.2)) g))
    (ht : ∀ (s : Shared) (H : Hp) (C : Addr) (cl : List (Str × Addr)) (fp : List Addr), PTs (X.blk s H scope (compEnvC scope cl C X.env) fp) ifs (TDt X.K t)) (hk : ∀ (s : Shared) (H : Hp) (C : Addr) (cl : List (Str × Addr)) (fp : List Addr), PE (X.blk s H scope (compEnvC scope cl C X.env) fp) kx (TD X.K fk))
    (he : ∀ (s : Shared) (H : Hp) (C : Addr) (cl : List (Str × Addr)) (fp : List Addr), PE (X.blk s H scope (compEnvC scope cl C X.env) fp) vx (TD X.K e))
    (hs : ∀ x, foldedSetIterable iter X.env x = pure x := by intro _; rfl) : PEd X (.DictComp kx vx [⟨tg, iter, ifs, 0⟩] scope pos) (fDc it g t fk e (own.map (·.2))) := pe_weak (pe_dc hX.calm hX.nd hi ok hg ht hk he hs) fun _ _ _ => dc_val
end
section
variable {X : Cx} {o e : Expr} {es : List Expr} {fo : FE} {ga : FA} {name : Str} {apos cpos : Pos} {id : String} {r : V → List V → Hp → VK → Prop} {op : MOp}
theorem d_mt (slot : Slot "list" name id) (hty : typeOf (.builtin id) = pure (.type "method_descriptor")) (hm : MtR X id r) (hop : OpM X.K r op) (ho : PEd X o fo) (ha : PAd X (e :: es) ga)
    (hbase : attributeBase o name X.env (eval o X.env) = eval o X.env := by rfl)
    (hfew : ((backTo cpos (starEach (e :: es) X.env)).all (fun x => !x.1) && (backToKw cpos (keywordEach [] X.env)).all (fun x => x.1.isSome)
      && decide ((e :: es).length + ([] : List Keyword).length + (if ([] : List Keyword).isEmpty then 0 else 1) < 30)) = true := by rfl)
    (hline : (apos.endLine == cpos.line) = true := by rfl) (hs : starEach (e :: es) X.env = (false, eval e X.env) :: starEach es X.env := by rfl) (hplain : (backTo cpos (starEach es X.env)).any (·.1) = false := by rfl) :
    PEd X (.Call (.Attribute o name apos) (e :: es) [] cpos) (fMt op fo ga) := pe_weak (pe_bm PySem.F.plainAttrs_list slot hty hm ho ha hbase hfew hline hs hplain) fun _ _ _ => td_mt hop
theorem d_mt0 (slot : Slot "list" name id) (hty : typeOf (.builtin id) = pure (.type "method_descriptor")) (hm : MtR X id r) (hop : OpM X.K r op) (ho : PEd X o fo)
    (hbase : attributeBase o name X.env (eval o X.env) = eval o X.env := by rfl) (hline : (apos.endLine == cpos.line) = true := by rfl) : PEd X (.Call (.Attribute o name apos) [] [] cpos) (fMt op fo fNil) := pe_weak (pe_bm0 PySem.F.plainAttrs_list slot hty hm ho hbase hline) fun _ _ _ => td_mt0 hop
theorem d_append (ho : PEd X o fo) (ha : PAd X [e] ga) (hbase : attributeBase o "append" X.env (eval o X.env) = eval o X.env := by rfl)
    (hfew : ((backTo cpos (starEach [e] X.env)).all (fun x => !x.1) && (backToKw cpos (keywordEach [] X.env)).all (fun x => x.1.isSome)
      && decide ([e].length + ([] : List Keyword).length + (if ([] : List Keyword).isEmpty then 0 else 1) < 30)) = true := by rfl)
    (hline : (apos.endLine == cpos.line) = true := by rfl) (hs : starEach [e] X.env = (false, eval e X.env) :: starEach [] X.env := by rfl) : PEd X (.Call (.Attribute o "append" apos) [e] [] cpos) (fMt mAppend fo ga) := d_mt PySem.F.slot_list_append PySem.F.type_list_append mt_append om_append ho ha hbase hfew hline hs
theorem d_extend (ho : PEd X o fo) (ha : PAd X [e] ga) (hbase : attributeBase o "extend" X.env (eval o X.env) = eval o X.env := by rfl)
    (hfew : ((backTo cpos (starEach [e] X.env)).all (fun x => !x.1) && (backToKw cpos (keywordEach [] X.env)).all (fun x => x.1.isSome)
      && decide ([e].length + ([] : List Keyword).length + (if ([] : List Keyword).isEmpty then 0 else 1) < 30)) = true := by rfl)
    (hline : (apos.endLine == cpos.line) = true := by rfl) (hs : starEach [e] X.env = (false, eval e X.env) :: starEach [] X.env := by rfl) : PEd X (.Call (.Attribute o "extend" apos) [e] [] cpos) (fMt mExtend fo ga) := d_mt PySem.F.slot_list_extend PySem.F.type_list_extend mt_extend om_extend ho ha hbase hfew hline hs
theorem d_popAt (ho : PEd X o fo) (ha : PAd X [e] ga) (hbase : attributeBase o "pop" X.env (eval o X.env) = eval o X.env := by rfl)
    (hfew : ((backTo cpos (starEach [e] X.env)).all (fun x => !x.1) && (backToKw cpos (keywordEach [] X.env)).all (fun x => x.1.isSome)
      && decide ([e].length + ([] : List Keyword).length + (if ([] : List Keyword).isEmpty then 0 else 1) < 30)) = true := by rfl)
    (hline : (apos.endLine == cpos.line) = true := by rfl) (hs : starEach [e] X.env = (false, eval e X.env) :: starEach [] X.env := by rfl) : PEd X (.Call (.Attribute o "pop" apos) [e] [] cpos) (fMt mPopAt fo ga) := d_mt PySem.F.slot_list_pop PySem.F.type_list_pop mt_popAt om_popAt ho ha hbase hfew hline hs
theorem d_pop (ho : PEd X o fo) (hbase : attributeBase o "pop" X.env (eval o X.env) = eval o X.env := by rfl) (hline : (apos.endLine == cpos.line) = true := by rfl) : PEd X (.Call (.Attribute o "pop" apos) [] [] cpos) (fMt mPop fo fNil) := d_mt0 PySem.F.slot_list_pop PySem.F.type_list_pop mt_pop om_pop ho hbase hline
theorem d_insert {e2 : Expr} (ho : PEd X o fo) (ha : PAd X [e, e2] ga) (hbase : attributeBase o "insert" X.env (eval o X.env) = eval o X.env := by rfl)
    (hfew : ((backTo cpos (starEach [e, e2] X.env)).all (fun x => !x.1) && (backToKw cpos (keywordEach [] X.env)).all (fun x => x.1.isSome)
      && decide ([e, e2].length + ([] : List Keyword).length + (if ([] : List Keyword).isEmpty then 0 else 1) < 30)) = true := by rfl)
    (hline : (apos.endLine == cpos.line) = true := by rfl) (hs : starEach [e, e2] X.env = (false, eval e X.env) :: starEach [e2] X.env := by rfl) (hplain : (backTo cpos (starEach [e2] X.env)).any (·.1) = false := by rfl) : PEd X (.Call (.Attribute o "insert" apos) [e, e2] [] cpos) (fMt mInsert fo ga) := d_mt PySem.F.slot_list_insert PySem.F.type_list_insert mt_insert om_insert ho ha hbase hfew hline hs hplain
end
/-- a def behind the head's facts -/
theorem fn_D {P : Program} {w : World} {K : PySem.W.Frag} {mg : Str → Option Value} {base : Heap} {k : Nat} {f : Addr} {name qual : Str} {params : Arguments} {body : List Stmt} {scope : Scope} {dvs : List V} {kws : List (Str × V)} {fd : FuncData}
    {N ps : List Str} {b : FS} {keep : Bool} (F : FunD K name qual params body scope dvs kws f fd) (S : FnScope N ps scope)
    (hbody : ∀ (cdv : Value) (A : Around) (outer : List PySem.Env) (s : Shared) (H : Hp), Room k (A.deeper (envOfC qual scope s.heap.objs.size f cdv)) → SX (cxOf CX0 P w K mg base N qual scope f cdv A outer s H E0).nox → PassesOwn (model P w) (A.deeper (envOfC qual scope s.heap.objs.size f cdv)) (cxOf CX0 P w K mg base N qual scope f cdv A outer s H E0).nox.env (cxOf CX0 P w K mg base N qual scope f cdv A outer s H E0).nox.xe → PSsd (cxOf CX0 P w K mg base N qual scope f cdv A outer s H E0).nox body b) :
    FnG P w K mg base (k + 1) f fd ps (runF N.length keep b) := by
  obtain ⟨oc, od, dV, kV, doc, pm, an, cdv, ct, osl, rfl, lk, hcd, _, _⟩ := F.ex
  refine fn_g lk hcd S fun A outer s H hr hgd => hbody cdv A outer s H hr ⟨rfl, S.nd, ?_, hgd⟩ ?_
  · have := hr.un
    show (A.deeper (envOfC qual scope s.heap.objs.size f cdv)).units + 200 < cLine
    omega
  · exact PassesOwn.never
end DL

/-! DLk: keyword calls by places, the built-ins' names. -/
namespace DL
open PySem PySem.Spec PyProof.Rows L2

/-- the values at these places -/
def pick {α : Type} (ix : List Nat) (xs : List α) : List α := ix.filterMap fun i => xs[i]?
theorem pick_cons {α : Type} {i : Nat} {ix : List Nat} {xs : List α} {a : α} (h : xs[i]? = some a) : pick (i :: ix) xs = a :: pick ix xs := by
  unfold pick
  rw [List.filterMap_cons, h]
theorem vals_get : ∀ {vs : List V} {us : List Value} {i : Nat} {v : V}, Vals vs us → vs[i]? = some v → ∃ u, us[i]? = some u ∧ RelV v u
  | _, _, _, _, .nil, h => by simp at h
  | _, _, 0, _, .cons r q, h => by
    simp at h
    subst h
    exact ⟨_, rfl, r⟩
  | _, _, i + 1, _, .cons r q, h => by
    obtain ⟨u, e, q2⟩ := vals_get (i := i) q (by simpa using h)
    exact ⟨u, by simpa using e, q2⟩
theorem pick_vals : ∀ {ix : List Nat} {vs : List V} {us : List Value}, Vals vs us → Vals (pick ix vs) (pick ix us)
  | [], _, _, _ => .nil
  | i :: ix, vs, us, h => by
    cases e : vs[i]? with
    | none =>
      have e2 : us[i]? = none := by
        rw [List.getElem?_eq_none_iff] at e ⊢
        rw [← h.length]
        exact e
      unfold pick
      rw [List.filterMap_cons, List.filterMap_cons, e, e2]
      exact pick_vals (ix := ix) h
    | some v =>
      obtain ⟨u, e2, r⟩ := vals_get h e
      rw [pick_cons e, pick_cons e2]
      exact .cons r (pick_vals h)
theorem pick_ds {K : PySem.W.Frag} {m : Mp} {G : Hp} : ∀ {ix : List Nat} {ds : List D} {vs : List V}, IsDs K m G ds vs → (∀ i ∈ ix, i < ds.length) → IsDs K m G (pick ix ds) (pick ix vs) ∧ (pick ix ds).length = ix.length
  | [], _, _, _, _ => ⟨rfl, rfl⟩
  | i :: ix, ds, vs, h, hl => by
    have hi : i < ds.length := hl i (List.mem_cons_self ..)
    obtain ⟨v, e2, r⟩ := isDs_get h (List.getElem?_eq_getElem hi)
    rw [pick_cons (List.getElem?_eq_getElem hi), pick_cons e2]
    obtain ⟨a, b⟩ := pick_ds (ix := ix) h fun j hj => hl j (List.mem_cons_of_mem _ hj)
    exact ⟨⟨v, _, rfl, r, a⟩, by simp [b]⟩
theorem gd_is {K : PySem.W.Frag} {n j l : Nat} {ix : List Nat} {dv : List D} {mvs : List V} (hdv : ∀ m G, IsDs K m G dv mvs) (hix : (ix.all fun i => decide (i < n + (dv.length + j))) = true) (hl : ix.length = l) :
    GdIs K n j l (fun ds es => pick ix (ds ++ (dv ++ es))) (fun vs zs => pick ix (vs ++ (mvs ++ zs))) := fun m G ds es vs zs h1 h2 l1 l2 => by
  obtain ⟨a, b⟩ := pick_ds (ix := ix) (h1.append ((hdv m G).append h2)) fun i hi => by
    have := of_decide_eq_true (List.all_eq_true.mp hix i hi)
    rw [List.length_append, List.length_append, l1, l2]
    exact this
  exact ⟨a, b.trans hl⟩
section
variable {K : PySem.W.Frag} {x qual : Str} {params : Arguments} {body : List Stmt} {scope : Scope} {dvs : List V} {kws : List (Str × V)} {f : Addr} {fd : FuncData} {ps : List Str}
/-- keyword-only defaults, no others; ms: those that lack -/
theorem kbK (F : FunD K x qual params body scope [] kws f fd) (n : Nat) (ks : List Str) (ms : List (Str × V)) (ix : List Nat) (hk : kws ≠ []) (hms : ∀ q ∈ ms, q ∈ kws)
    (h : ∀ (D : Addr) (doc pm : Value) (an : Option Addr) (cdv ct : Value) (us mv ws : List Value), us.length = n → mv.length = ms.length → ws.length = ks.length →
      KwChain D ((ms.map (·.1)).zip mv) (bindArgs (PySem.W.fnOf x qual params body scope .none (.ref D) doc pm an cdv ct) ⟨us, ks.zip ws⟩) (ps.zip (pick ix (us ++ (mv ++ ws))))) :
    ∃ mv : List Value, KBn K fd ps n ks (fun us ws => pick ix (us ++ (mv ++ ws))) (fun vs zs => pick ix (vs ++ (ms.map (·.2) ++ zs))) := by
  obtain ⟨oc, od, dV, kV, doc, pm, an, cdv, ct, osl, rfl, lk, hcd, hD, hK⟩ := F.ex
  rcases hD with ⟨_, rfl⟩ | ⟨e, _⟩
  · rcases hK with e | ⟨D, rfl, hq⟩
    · exact absurd e hk
    · obtain ⟨mv, hl, rk, hks⟩ := kwd_vals (ms := ms) fun q hm => hq q (hms q hm)
      exact ⟨mv, ⟨fun s us ws X l1 l2 => BindsTo.of_looks fun M => KwChain.looks X hks (h D doc pm an cdv ct us mv ws l1 hl l2), fun r1 r2 => pick_vals (r1.append (rk.append r2))⟩⟩
  · exact absurd rfl e
/-- no defaults: keywords alone -/
theorem kbN (F : FunD K x qual params body scope [] kws f fd) (n : Nat) (ks : List Str) (ix : List Nat)
    (h : ∀ (kV doc pm : Value) (an : Option Addr) (cdv ct : Value) (us ws : List Value), us.length = n → ws.length = ks.length → bindArgs (PySem.W.fnOf x qual params body scope .none kV doc pm an cdv ct) ⟨us, ks.zip ws⟩ = pure (ps.zip (pick ix (us ++ ([] ++ ws))))) :
    KBn K fd ps n ks (fun us ws => pick ix (us ++ ([] ++ ws))) (fun vs zs => pick ix (vs ++ ([] ++ zs))) := by
  obtain ⟨oc, od, dV, kV, doc, pm, an, cdv, ct, osl, rfl, lk, hcd, hD, hK⟩ := F.ex
  rcases hD with ⟨_, rfl⟩ | ⟨e, _⟩
  · exact ⟨fun s us ws X l1 l2 => BindsTo.of_looks fun M => .of_pure (h kV doc pm an cdv ct us ws l1 l2), fun r1 r2 => pick_vals (r1.append (show Vals ([] ++ _) ([] ++ _) from r2))⟩
  · exact absurd rfl e
end
theorem bb_len : bootBuiltins "len" = some (.builtin "len") := by decide +kernel
theorem bb_list : bootBuiltins "list" = some (.type "list") := by decide +kernel
theorem bb_tuple : bootBuiltins "tuple" = some (.type "tuple") := by decide +kernel
theorem bb_min : bootBuiltins "min" = some (.builtin "min") := by decide +kernel
theorem bb_max : bootBuiltins "max" = some (.builtin "max") := by decide +kernel
theorem bb_int : bootBuiltins "int" = some (.type "int") := by decide +kernel
theorem bb_all : bootBuiltins "all" = some (.builtin "all") := by decide +kernel
theorem bb_any : bootBuiltins "any" = some (.builtin "any") := by decide +kernel
theorem bb_sum : bootBuiltins "sum" = some (.builtin "sum") := by decide +kernel
theorem bb_sorted : bootBuiltins "sorted" = some (.builtin "sorted") := by decide +kernel
theorem bb_repr : bootBuiltins "repr" = some (.builtin "repr") := by decide +kernel
theorem cr_len {X : Cx} : CallR X (.builtin "len") (rLenAll X.K) := cr_or call_len call_lenD
theorem on_list {K : PySem.W.Frag} : OpN K (fun xs H Q => ∃ p ys, xs = [.ref p] ∧ (SqL K H p ys ∨ SqT K H p ys) ∧ ∀ l, H l = none → Q (.ref l) (upd H l (.lst ys))) bList := on_of_ol ol_list bList_lst
theorem on_sorted {K : PySem.W.Frag} : OpN K (rSortD K) bSorted := on_of_ol ol_sorted bSorted_lst
/-! ### tests by comparison -/
section
variable {X : Cx} {a b : Expr} {f g : FE} {pos : Pos}
theorem bl_eq (p q u : P) (e : pEq p q = some u) : ∃ b, u = .bl b := by
  unfold pEq at e
  repeat' (split at e)
  all_goals first | cases e <;> exact ⟨_, rfl⟩ | (cases e; exact ⟨_, rfl⟩) | cases e
theorem bl_ne (p q u : P) (e : pNe p q = some u) : ∃ b, u = .bl b := by
  unfold pNe at e
  repeat' (split at e)
  all_goals first | cases e <;> exact ⟨_, rfl⟩ | (cases e; exact ⟨_, rfl⟩) | cases e
theorem bl_isN (p q u : P) (e : pIsN p q = some u) : ∃ b, u = .bl b := by
  unfold pIsN at e
  repeat' (split at e)
  all_goals first | cases e <;> exact ⟨_, rfl⟩ | (cases e; exact ⟨_, rfl⟩) | cases e
theorem bl_notN (p q u : P) (e : pNotN p q = some u) : ∃ b, u = .bl b := by
  unfold pNotN at e
  repeat' (split at e)
  all_goals first | cases e <;> exact ⟨_, rfl⟩ | (cases e; exact ⟨_, rfl⟩) | cases e
theorem bl_lt (p q u : P) (e : pLt p q = some u) : ∃ b, u = .bl b := by
  unfold pLt at e
  repeat' (split at e)
  all_goals first | cases e <;> exact ⟨_, rfl⟩ | (cases e; exact ⟨_, rfl⟩) | cases e
theorem bl_le (p q u : P) (e : pLe p q = some u) : ∃ b, u = .bl b := by
  unfold pLe at e
  repeat' (split at e)
  all_goals first | cases e <;> exact ⟨_, rfl⟩ | (cases e; exact ⟨_, rfl⟩) | cases e
theorem bl_gt (p q u : P) (e : pGt p q = some u) : ∃ b, u = .bl b := by
  unfold pGt at e
  repeat' (split at e)
  all_goals first | cases e <;> exact ⟨_, rfl⟩ | (cases e; exact ⟨_, rfl⟩) | cases e
theorem bl_ge (p q u : P) (e : pGe p q = some u) : ∃ b, u = .bl b := by
  unfold pGe at e
  repeat' (split at e)
  all_goals first | cases e <;> exact ⟨_, rfl⟩ | (cases e; exact ⟨_, rfl⟩) | cases e
theorem bl_in (p q u : P) (e : pIn p q = some u) : ∃ b, u = .bl b := by
  unfold pIn at e
  obtain ⟨b, _, h⟩ := Option.map_eq_some_iff.mp e
  exact ⟨b, h.symm⟩
theorem bl_notIn (p q u : P) (e : pNotIn p q = some u) : ∃ b, u = .bl b := by
  unfold pNotIn at e
  obtain ⟨b, _, h⟩ := Option.map_eq_some_iff.mp e
  exact ⟨!b, h.symm⟩
theorem t_of {op : CmpOp} {r : R2} {o : P → P → Option P} (ho : OpR X (compareOp op) r) (h2 : Op2 X.K r o) (hbl : ∀ p q u, o p q = some u → ∃ b, u = .bl b) (ha : PEd X a f) (hb : PEd X b g) (h1 : op ≠ .In) (h2' : op ≠ .NotIn) : PTd X (.Compare a [op] [b] pos) (fTru (f2 o f g)) := d_cmpT ho h2 hbl ha hb (nobehind _ h1 h2')
theorem t_eq (hX : SX X) (ha : PEd X a f) (hb : PEd X b g) : PTd X (.Compare a [.Eq] [b] pos) (fTru (f2 pEq f g)) := t_of (op_eqD (by have := hX.units; omega)) op2_eq bl_eq ha hb (by decide) (by decide)
theorem t_ne (hX : SX X) (ha : PEd X a f) (hb : PEd X b g) : PTd X (.Compare a [.NotEq] [b] pos) (fTru (f2 pNe f g)) := t_of (op_neD (by have := hX.units; omega)) op2_ne bl_ne ha hb (by decide) (by decide)
theorem t_isN (ha : PEd X a f) (hb : PEd X b g) : PTd X (.Compare a [.Is] [b] pos) (fTru (f2 pIsN f g)) := t_of op_isN op2_isN bl_isN ha hb (by decide) (by decide)
theorem t_notN (ha : PEd X a f) (hb : PEd X b g) : PTd X (.Compare a [.IsNot] [b] pos) (fTru (f2 pNotN f g)) := t_of op_notN op2_notN bl_notN ha hb (by decide) (by decide)
theorem t_lt (ha : PEd X a f) (hb : PEd X b g) : PTd X (.Compare a [.Lt] [b] pos) (fTru (f2 pLt f g)) := t_of (opr_or op_lt op_lt_str) (fun m H S p q u x y Q R hx hy e k => by
  unfold pLt at e
  split at e
  · cases e; exact .inl ⟨_, _, hx, hy, k.here R rfl⟩
  · cases e; exact .inr ⟨_, _, hx, hy, k.here R rfl⟩
  · cases e) bl_lt ha hb (by decide) (by decide)
theorem t_le (ha : PEd X a f) (hb : PEd X b g) : PTd X (.Compare a [.LtE] [b] pos) (fTru (f2 pLe f g)) := t_of op_le (fun m H S p q u x y Q R hx hy e k => by
  unfold pLe at e
  split at e
  · cases e; exact ⟨_, _, hx, hy, k.here R rfl⟩
  · cases e) bl_le ha hb (by decide) (by decide)
theorem t_gt (ha : PEd X a f) (hb : PEd X b g) : PTd X (.Compare a [.Gt] [b] pos) (fTru (f2 pGt f g)) := t_of op_gt (fun m H S p q u x y Q R hx hy e k => by
  unfold pGt at e
  split at e
  · cases e; exact ⟨_, _, hx, hy, k.here R rfl⟩
  · cases e) bl_gt ha hb (by decide) (by decide)
theorem t_ge (ha : PEd X a f) (hb : PEd X b g) : PTd X (.Compare a [.GtE] [b] pos) (fTru (f2 pGe f g)) := t_of op_ge (fun m H S p q u x y Q R hx hy e k => by
  unfold pGe at e
  split at e
  · cases e; exact ⟨_, _, hx, hy, k.here R rfl⟩
  · cases e) bl_ge ha hb (by decide) (by decide)
theorem t_in (hX : SX X) (ha : PEd X a f) (hb : PEd X b g) (hm : behindInMarks .In b = false := by rfl) : PTd X (.Compare a [.In] [b] pos) (fTru (f2 pIn f g)) := d_cmpT (opr_in hX) (fun m H S p q u x y Q R hx hy e k => by
  unfold pIn at e
  cases hb : pInB p q with
  | none => rw [hb] at e; cases e
  | some b =>
    rw [hb] at e
    cases e
    rcases inB_is hx hy hb with ⟨a, o, h1, h2, rfl⟩ | ⟨i, j, h1, h2, rfl⟩ | ⟨xs, d, h1, h2, h3, h4, rfl⟩
    · exact .inl ⟨a, o, h1, h2, k.here R rfl⟩
    · exact .inr (.inl ⟨i, j, h1, h2, k.here R rfl⟩)
    · exact .inr (.inr ⟨xs, d, h1, h2, h3, h4, k.here R rfl⟩)) bl_in ha hb hm
theorem t_notIn (hX : SX X) (ha : PEd X a f) (hb : PEd X b g) (hm : behindInMarks .NotIn b = false := by rfl) : PTd X (.Compare a [.NotIn] [b] pos) (fTru (f2 pNotIn f g)) := d_cmpT (opr_notIn hX) (fun m H S p q u x y Q R hx hy e k => by
  unfold pNotIn at e
  cases hb : pInB p q with
  | none => rw [hb] at e; cases e
  | some b =>
    rw [hb] at e
    cases e
    rcases inB_is hx hy hb with ⟨a, o, h1, h2, rfl⟩ | ⟨i, j, h1, h2, rfl⟩ | ⟨xs, d, h1, h2, h3, h4, rfl⟩
    · exact .inl ⟨a, o, h1, h2, k.here R rfl⟩
    · exact .inr (.inl ⟨i, j, h1, h2, k.here R rfl⟩)
    · exact .inr (.inr ⟨xs, d, h1, h2, h3, h4, k.here R rfl⟩)) bl_notIn ha hb hm
end
/-- a comprehension's block, by a look -/
def blkB (N : List Str) (sc scope : Scope) (own : List (Str × Nat)) : Bool :=
  decide (scope.kind = .function) && ((scope.names.all fun y => decide (scope.names.lookup y.1 = some y.2)) && ((own.all fun p => decide (N[p.2]? = some p.1)) &&
    ((scope.names.all fun y => !decide (y.2 = .free) || (decide (sc.names.lookup y.1 = some .cell) || decide (sc.names.lookup y.1 = some .free))) &&
      scope.names.all fun y => !(decide (y.2 = .local) || decide (y.2 = .cell)) || (decide (y.1 ∈ own.map (·.1)) || decide (y.1 ∉ N)))))
theorem blk_ok {N : List Str} {sc scope : Scope} {own : List (Str × Nat)} (h : blkB N sc scope own = true := by kernel_rfl) : BlkOk N sc scope own := by
  unfold blkB at h
  simp only [Bool.and_eq_true, List.all_eq_true, decide_eq_true_eq, Bool.or_eq_true, Bool.not_eq_true', decide_eq_false_iff_not, Bool.or_eq_false_iff] at h
  obtain ⟨h1, h2, h3, h4, h5⟩ := h
  exact ⟨h1, h2, h3, fun y hy e => (h4 y hy).resolve_left fun z => z e, fun y hy e => (h5 y hy).resolve_left fun z => e.elim z.1 z.2⟩
section
variable {X : Cx} {pos : Pos}
/-- a, b = x, y where a name is captured by a comprehension -/
theorem s_parC (hX : SX X) {i j : Nat} {x y : Str} {a b : Expr} {g : FA} {px py pt : Pos} {kt k2 pt2} (ha : PAd X [a, b] g)
    (hi : X.N[i]? = some x := by rfl) (hj : X.N[j]? = some y := by rfl)
    (hx : Loc X.env.scope x := by first | exact .inl rfl | exact .inr rfl) (hy : Loc X.env.scope y := by first | exact .inl rfl | exact .inr rfl)
    (hfx : X.fn x = true ∨ X.env.scope.names.lookup x = some .local := by first | exact .inl rfl | exact .inr rfl | assumption) (hfy : X.fn y = true ∨ X.env.scope.names.lookup y = some .local := by first | exact .inl rfl | exact .inr rfl | assumption)
    (hs : swapsWithSole [.Tuple [.Name x px, .Name y py] kt pt] (.Tuple [a, b] k2 pt2) pos.line X.env = pure false := by rfl)
    (hw : swappedStores [.Tuple [.Name x px, .Name y py] kt pt] (.Tuple [a, b] k2 pt2) X.env = pure none := by rfl) :
    PSd X (.Assign [.Tuple [.Name x px, .Name y py] kt pt] (.Tuple [a, b] k2 pt2) pos) (fPar i j g) :=
  ps_weak (ps_asg (pe_tup ha) (pg_tup hX.calm (pgs_cons (pg_name hX.nd hi hx hfx) (pgs_cons (pg_name hX.nd hj hy hfy) pgs_nil))) hs hw) fun D σ H ⟨m, env, S, R, E, q⟩ => by
  obtain ⟨ds, S1, k1, q⟩ := Oc.fl_ne q
  refine ⟨m, env, S, R, E, ds, S1, k1, fun vs m1 H1 st1 R1 i1 => ?_⟩
  split at q
  · obtain ⟨v, ws, rfl, h2, h3⟩ := i1
    obtain ⟨w, ws, rfl, h4, h5⟩ := h3
    have h5' : ws = [] := h5
    subst h5'
    refine ⟨size_of (show 2 ≤ 100000 by decide), fun p hp => ?_⟩
    obtain ⟨R2, st2⟩ := R1.fresh (o := .tup [v, w]) hp
    exact ⟨p, [v, w], rfl, .inl (.inl upd_same), rfl, v, [w], rfl, w, [], rfl, rfl, q m1 _ _ (st1.trans st2) R2 (((E.step (st1.trans st2)).set (st2.is h2)).set (st2.is h4))⟩
  · exact q.elim
end
end DL

/-! DLm: what a text computes, read backwards: rules that run it on data. -/
namespace DL
open PySem PySem.Spec PyProof.Rows L2

def Oc.P {α : Type} (o : Oc α) (Q : α → Sto → Prop) : Prop := match o with
  | .ok a S => Q a S
  | .bad => False
structure FEn where
  nx : Dnv → Sto → Prop
  rt : D → Sto → Prop
  bk : Dnv → Sto → Prop
  ct : Dnv → Sto → Prop
def Flo.F (f : Flo) (E : FEn) : Prop := match f with
  | .nx e S => E.nx e S
  | .rt d S => E.rt d S
  | .bk e S => E.bk e S
  | .ct e S => E.ct e S
  | .bad => False
section
variable {α β : Type} {Q R : α → Sto → Prop} {o : Oc α} {S S1 : Sto} {E : FEn} {env : Dnv}
theorem Oc.P.ex (h : o.P Q) : ∃ a S, o = .ok a S ∧ Q a S := by
  cases o with
  | ok a S => exact ⟨a, S, rfl, h⟩
  | bad => exact h.elim
theorem Oc.P.mono (h : o.P R) (q : ∀ a S, R a S → Q a S) : o.P Q := by
  cases o with
  | ok a S => exact q a S h
  | bad => exact h.elim
theorem P_of {a : α} (h : o = .ok a S) (q : Q a S) : o.P Q := by rw [h]; exact q
theorem P_bind {f : α → Sto → Oc β} {Q : β → Sto → Prop} (h : o.P fun a S => (f a S).P Q) : (o.bind f).P Q := by
  cases o with
  | ok a S => exact h
  | bad => exact h.elim
theorem F_fl {f : α → Sto → Flo} (h : o.P fun a S => (f a S).F E) : (o.fl f).F E := by
  cases o with
  | ok a S => exact h
  | bad => exact h.elim
theorem Flo.F.mono {f : Flo} {E' : FEn} (h : f.F E) (n : ∀ e S, E.nx e S → E'.nx e S) (r : ∀ e S, E.rt e S → E'.rt e S) (b : ∀ e S, E.bk e S → E'.bk e S) (c : ∀ e S, E.ct e S → E'.ct e S) : f.F E' := by
  cases f with
  | nx e S => exact n e S h
  | rt d S => exact r d S h
  | bk e S => exact b e S h
  | ct e S => exact c e S h
  | bad => exact h.elim
end
/-! ### values -/
section
variable {f g h : FE} {ga gb : FA} {t u : FT} {env env2 : Dnv} {S S1 : Sto} {Q : D → Sto → Prop} {Qa : List D → Sto → Prop} {Qt : Bool → Sto → Prop}
theorem p_c {d : D} (q : Q d S) : (fC d env S).P Q := q
theorem p_var {i : Nat} {d : D} (h : env[i]? = some (some d)) (q : Q d S) : (fVar i env S).P Q := by
  unfold fVar
  rw [h]
  exact q
theorem p_nil (q : Qa [] S) : (fNil env S).P Qa := q
theorem p_cons (h : (f env S).P fun d S1 => (ga env S1).P fun ds S2 => Qa (d :: ds) S2) : (fCons f ga env S).P Qa := P_bind (h.mono fun _ _ h => P_bind (h.mono fun _ _ h => h))
theorem onVals_P {k : List P → Sto → Oc D} {ds : List D} {ps : List P} (h : vals ds = some ps) (hl : ps.length ≤ 100000) (q : (k ps S).P Q) : (onVals k ds S).P Q := by
  unfold onVals
  rw [h]
  show (if _ then _ else _ : Oc D).P Q
  rw [if_pos hl]
  exact q
theorem v_nil : vals [] = some [] := rfl
theorem v_cons {p : P} {ds : List D} {ps : List P} (h : vals ds = some ps) : vals (.v p :: ds) = some (p :: ps) := by
  show (vals ds).map _ = _
  rw [h]
  rfl
def tupE (ds : List D) (S : Sto) : Oc D := onVals (fun ps S1 => .ok (.v (.tup ps)) S1) ds S
def lstE (ds : List D) (S : Sto) : Oc D := onVals (fun ps S1 => .ok (.v (.lst ps)) S1) ds S
def lstBE (ds : List D) (S : Sto) : Oc D := onVals (fun ps S1 => .ok (.r S1.length) (S1 ++ [.lst ps])) ds S
theorem p_tup (h : (ga env S).P fun ds S1 => (tupE ds S1).P Q) : (fTup ga env S).P Q := P_bind h
theorem p_lst (h : (ga env S).P fun ds S1 => (lstE ds S1).P Q) : (fLst ga env S).P Q := P_bind h
theorem p_lstB (h : (ga env S).P fun ds S1 => (lstBE ds S1).P Q) : (fLstB ga env S).P Q := P_bind h
theorem p_tupE {ds : List D} {ps : List P} (h : vals ds = some ps) (hl : ps.length ≤ 100000) (q : Q (.v (.tup ps)) S) : (tupE ds S).P Q := onVals_P h hl q
theorem p_lstE {ds : List D} {ps : List P} (h : vals ds = some ps) (hl : ps.length ≤ 100000) (q : Q (.v (.lst ps)) S) : (lstE ds S).P Q := onVals_P h hl q
theorem p_lstBE {ds : List D} {ps : List P} (h : vals ds = some ps) (hl : ps.length ≤ 100000) (q : Q (.r S.length) (S ++ [.lst ps])) : (lstBE ds S).P Q := onVals_P h hl q
theorem p_f2 {op : P → P → Option P} (h : (f env S).P fun d S1 => (g env S1).P fun e S2 => (lift2 op d e S2).P Q) : (f2 op f g env S).P Q := P_bind (h.mono fun _ _ h => P_bind h)
theorem p_l2 {op : P → P → Option P} {d e : D} {p q u : P} (h1 : deP S d = some p) (h2 : deP S e = some q) (h3 : op p q = some u) (k : Q (.v u) S) : (lift2 op d e S).P Q := by
  unfold lift2
  rw [h1]
  show (match deP S e with | some q => oP (op p q) S | none => .bad : Oc D).P Q
  rw [h2]
  show (oP (op p q) S).P Q
  rw [h3]
  exact k
theorem p_f1 {op : P → Option P} (h : (f env S).P fun d S1 => (lift1 op d S1).P Q) : (f1 op f env S).P Q := P_bind h
theorem p_l1 {op : P → Option P} {d : D} {p u : P} (h1 : deP S d = some p) (h3 : op p = some u) (k : Q (.v u) S) : (lift1 op d S).P Q := by
  unfold lift1
  rw [h1]
  show (oP (op p) S).P Q
  rw [h3]
  exact k
def truE (d : D) (S : Sto) : Oc Bool := match deP S d with
  | some p => match truP p with
    | some b => .ok b S
    | none => .bad
  | none => .bad
theorem p_tru (h : (f env S).P fun d S1 => (truE d S1).P Qt) : (fTru f env S).P Qt := by
  unfold fTru
  refine P_bind (h.mono fun d S1 h => ?_)
  unfold truE at h
  exact h
theorem p_truE {d : D} {p : P} {b : Bool} (h1 : deP S d = some p) (h2 : truP p = some b) (q : Qt b S) : (truE d S).P Qt := by
  unfold truE
  rw [h1]
  show (match truP p with | some b => .ok b S | none => .bad : Oc Bool).P Qt
  rw [h2]
  exact q
theorem p_and (h : (t env S).P fun b S1 => (b = true → (u env S1).P Qt) ∧ (b = false → Qt false S1)) : (fAnd t u env S).P Qt := P_bind (h.mono fun b S1 h => by
  cases b with
  | true => exact h.1 rfl
  | false => exact h.2 rfl)
theorem p_or (h : (t env S).P fun b S1 => (b = true → Qt true S1) ∧ (b = false → (u env S1).P Qt)) : (fOr t u env S).P Qt := P_bind (h.mono fun b S1 h => by
  cases b with
  | true => exact h.1 rfl
  | false => exact h.2 rfl)
theorem p_not (h : (t env S).P fun b S1 => Qt (!b) S1) : (fNot t env S).P Qt := P_bind h
theorem p_yes (h : Qt true S) : (fYes env S).P Qt := h
theorem p_ite (h : (t env S).P fun b S1 => (b = true → (f env S1).P Q) ∧ (b = false → (g env S1).P Q)) : (fIte t f g env S).P Q := P_bind (h.mono fun b S1 h => by
  cases b with
  | true => exact h.1 rfl
  | false => exact h.2 rfl)
def andE (d : D) (g : FE) (env : Dnv) (S1 : Sto) : Oc D := match asB d with
  | some true => g env S1
  | some false => .ok d S1
  | none => .bad
/-- slices -/
def slE (d : D) (l u : Option Int) (S : Sto) : Oc D := match deP S d with
  | some p => oP (pSl p l u) S
  | none => .bad
theorem p_sl {lo hi : FO} (h : (f env S).P fun d S1 => (lo env S1).P fun l S2 => (hi env S2).P fun u S3 => (slE d l u S3).P Q) : (fSl f lo hi env S).P Q := P_bind (h.mono fun _ _ h => P_bind (h.mono fun _ _ h => P_bind (h.mono fun _ _ h => h)))
theorem p_slE {d : D} {l u : Option Int} {p q : P} (h1 : deP S d = some p) (h2 : pSl p l u = some q) (k : Q (.v q) S) : (slE d l u S).P Q := by
  unfold slE
  rw [h1]
  show (oP (pSl p l u) S).P Q
  rw [h2]
  exact k
theorem p_oNo {Qo : Option Int → Sto → Prop} (q : Qo none S) : (oNo env S).P Qo := q
def atE (d : D) (S : Sto) : Oc (Option Int) := match d with
  | .v (.int i) => .ok (some i) S
  | _ => .bad
/-- built-ins -/
def cbE (op : List P → Option P) (ds : List D) (S : Sto) : Oc D := match deAll S ds with
  | some ps => oP (op ps) S
  | none => .bad
def cbBE (op : List P → Option P) (ds : List D) (S : Sto) : Oc D := match deAll S ds with
  | some ps => oB (op ps) S
  | none => .bad
theorem p_cb {op : List P → Option P} (h : (ga env S).P fun ds S1 => (cbE op ds S1).P Q) : (fCb op ga env S).P Q := P_bind (h.mono fun _ _ h => h)
theorem p_cbB {op : List P → Option P} (h : (ga env S).P fun ds S1 => (cbBE op ds S1).P Q) : (fCbB op ga env S).P Q := P_bind (h.mono fun _ _ h => h)
theorem p_cbE {op : List P → Option P} {ds : List D} {ps : List P} {u : P} (h1 : deAll S ds = some ps) (h2 : op ps = some u) (q : Q (.v u) S) : (cbE op ds S).P Q := by
  unfold cbE
  rw [h1]
  show (oP (op ps) S).P Q
  rw [h2]
  exact q
theorem p_cbBE {op : List P → Option P} {ds : List D} {ps qs : List P} (h1 : deAll S ds = some ps) (h2 : op ps = some (.lst qs)) (q : Q (.r S.length) (S ++ [.lst qs])) : (cbBE op ds S).P Q := by
  unfold cbBE
  rw [h1]
  show (oB (op ps) S).P Q
  rw [h2]
  exact q
theorem a_nil : deAll S [] = some [] := rfl
theorem a_cons {d : D} {ds : List D} {p : P} {ps : List P} (h1 : deP S d = some p) (h2 : deAll S ds = some ps) : deAll S (d :: ds) = some (p :: ps) := by
  show (match deP S d with | some p => (deAll S ds).map (p :: ·) | none => none) = _
  rw [h1, h2]
  rfl
/-- methods -/
def mtE (op : MOp) (n : Nat) (ds : List D) (S : Sto) : Oc D := match S[n]? with
  | some (.lst ps) => match op ps ds S with
    | some (u, qs) => .ok (.v u) (S.set n (.lst qs))
    | none => .bad
  | _ => .bad
theorem p_mt {op : MOp} {i n : Nat} {ps : List P} (h : env[i]? = some (some (.r n))) (h1 : S[n]? = some (.lst ps)) (q : (ga env S).P fun ds S1 => (mtE op n ds S1).P Q) : (fMt op (fVar i) ga env S).P Q := by
  unfold fMt
  refine P_bind (p_var h ?_)
  show (match S[n]? with
    | some (.lst _) => (ga env S).bind fun ds S2 => match S2[n]? with
      | some (.lst ps) => match op ps ds S2 with
        | some (u, qs) => .ok (.v u) (S2.set n (.lst qs))
        | none => .bad
      | _ => .bad
    | _ => .bad : Oc D).P Q
  rw [h1]
  exact P_bind (q.mono fun _ _ h => h)
theorem p_mtE {op : MOp} {n : Nat} {ds : List D} {ps qs : List P} {u : P} (h1 : S[n]? = some (.lst ps)) (h2 : op ps ds S = some (u, qs)) (q : Q (.v u) (S.set n (.lst qs))) : (mtE op n ds S).P Q := by
  unfold mtE
  rw [h1]
  show (match op ps ds S with | some (u, qs) => .ok (.v u) (S.set n (.lst qs)) | none => .bad : Oc D).P Q
  rw [h2]
  exact q
/-- calls -/
theorem p_call {G : FF} {dv : List D} (h : (ga env S).P fun ds S1 => (G (ds ++ dv) S1).P Q) : (fCall G dv ga env S).P Q := P_bind h
theorem p_callN {G : FF} {n k : Nat} {gd : List D → List D → List D} (h : (ga env S).P fun ds S1 => (gb env S1).P fun es S2 => ds.length = n ∧ es.length = k ∧ (G (gd ds es) S2).P Q) : (fCallN G n k gd ga gb env S).P Q := P_bind (h.mono fun ds _ h => P_bind (h.mono fun es _ h => by
  show (if _ then _ else _ : Oc D).P Q
  rw [if_pos ⟨h.1, h.2.1⟩]
  exact h.2.2))
theorem p_oAt {Qo : Option Int → Sto → Prop} {i : Int} (h : (f env S).P fun d S1 => d = .v (.int i) ∧ Qo (some i) S1) : (oAt f env S).P Qo := by
  unfold oAt
  refine P_bind (h.mono fun d S1 h => ?_)
  rw [h.1]
  exact h.2
end
/-! ### targets -/
section
variable {env : Dnv} {S S1 : Sto} {Q : Dnv → Sto → Prop} {d : D}
theorem p_gNm {i : Nat} (q : Q (env.set i (some d)) S) : (gNm i d env S).P Q := q
theorem p_gNl (q : Q env S) : (gNl [] env S).P Q := q
theorem p_gCn {g : FG} {k : FGs} {p : P} {ps : List P} (h : (g (.v p) env S).P fun e s => (k ps e s).P Q) : (gCn g k (p :: ps) env S).P Q := P_bind h
theorem p_gTp {n : Nat} {k : FGs} {ps : List P} (hl : ps.length = n) (h : (k ps env S).P Q) : (gTp n k (.v (.tup ps)) env S).P Q := by
  unfold gTp
  show (if _ then _ else _ : Oc Dnv).P Q
  rw [if_pos hl]
  exact h
def sbE (o i d : D) (env : Dnv) (S : Sto) : Oc Dnv := match setD o i d S with
  | some S3 => .ok env S3
  | none => .bad
theorem p_gSb {fo fi : FE} (h : (fo env S).P fun o S1 => (fi env S1).P fun i S2 => (sbE o i d env S2).P Q) : (gSb fo fi d env S).P Q := P_bind (h.mono fun _ _ h => P_bind (h.mono fun _ _ h => h))
theorem p_sbL {n j : Nat} {k : Int} {p : P} {ps : List P} (h1 : S[n]? = some (.lst ps)) (h2 : ixN ps.length k = some j) (q : Q env (S.set n (.lst (ps.set j p)))) : (sbE (.r n) (.v (.int k)) (.v p) env S).P Q := by
  have e : setD (.r n) (.v (.int k)) (.v p) S = some (S.set n (.lst (ps.set j p))) := by simp [setD, h1, h2]
  unfold sbE
  rw [e]
  exact q
theorem p_sbD {n : Nat} {kp p : P} {k : Key} {ks : List Key} {ps : List P} (h1 : S[n]? = some (.dic ks ps)) (h2 : pKey kp = some k) (h3 : ks.length < 10000) (q : Q env (S.set n (.dic (putP ks ps k p).1 (putP ks ps k p).2))) : (sbE (.r n) (.v kp) (.v p) env S).P Q := by
  have e : setD (.r n) (.v kp) (.v p) S = some (S.set n (.dic (putP ks ps k p).1 (putP ks ps k p).2)) := by simp [setD, h1, h2, h3]
  unfold sbE
  rw [e]
  exact q
end
/-! ### statements -/
section
variable {f : FE} {ga : FA} {g : FG} {t : FT} {a b : FS} {env : Dnv} {S S1 : Sto} {E : FEn}
theorem s_Nx (q : E.nx env S) : (fNext env S).F E := q
theorem s_Bk (q : E.bk env S) : (fBreak env S).F E := q
theorem s_Ct (q : E.ct env S) : (fCont env S).F E := q
theorem s_Seq {En : Dnv → Sto → Prop} {Er : D → Sto → Prop} {Eb Ec : Dnv → Sto → Prop} (h : (a env S).F ⟨fun e s => (b e s).F ⟨En, Er, Eb, Ec⟩, Er, Eb, Ec⟩) : (fSeq a b env S).F ⟨En, Er, Eb, Ec⟩ := by
  unfold fSeq
  cases e : a env S with
  | nx e S => rw [e] at h; exact h
  | rt d S => rw [e] at h; exact h
  | bk e S => rw [e] at h; exact h
  | ct e S => rw [e] at h; exact h
  | bad => rw [e] at h; exact h.elim
theorem s_Set (h : (f env S).P fun d S1 => (g d env S1).P fun e s => E.nx e s) : (fSet f g env S).F E := F_fl (h.mono fun _ _ h => F_fl h)
theorem s_Drop (h : (f env S).P fun _ S1 => E.nx env S1) : (fDrop f env S).F E := F_fl h
theorem s_Ret (h : (f env S).P fun d S1 => E.rt d S1) : (fRet f env S).F E := F_fl h
theorem s_RetN (h : E.rt (.v .non) S) : (fRetN env S).F E := h
theorem s_If (h : (t env S).P fun k S1 => (k = true → (a env S1).F E) ∧ (k = false → (b env S1).F E)) : (fIf t a b env S).F E := F_fl (h.mono fun k S1 h => by
  cases k with
  | true => exact h.1 rfl
  | false => exact h.2 rfl)
def parE (i j : Nat) (env : Dnv) (ds : List D) (S : Sto) : Flo := match ds with
  | [d, e] => .nx ((env.set i (some d)).set j (some e)) S
  | _ => .bad
theorem s_Par {i j : Nat} (h : (ga env S).P fun ds S1 => (parE i j env ds S1).F E) : (fPar i j ga env S).F E := F_fl (h.mono fun _ _ h => h)
theorem s_ParE {i j : Nat} {d e : D} (q : E.nx ((env.set i (some d)).set j (some e)) S) : (parE i j env [d, e] S).F E := q
def augE (i : Nat) (op : P → P → Option P) (d e : D) (env : Dnv) (S : Sto) : Flo := (lift2 op d e S).fl fun x S2 => .nx (env.set i (some x)) S2
/-- a loop over items -/
theorem s_loop {own : Option Nat} {all : List P} (I : Nat → Dnv → Sto → Prop) (ho : ∀ i env S, I i env S → OwnOk own all S)
    (hs : ∀ i p env S, all[i]? = some p → I i env S → (g (.v p) env S).P fun e s => (b e s).F ⟨I (i + 1), E.rt, E.nx, I (i + 1)⟩)
    (hd : ∀ env S, I all.length env S → E.nx env S) : ∀ (ps : List P) (i : Nat) (env : Dnv) (S : Sto), ps = all.drop i → i ≤ all.length → I i env S → (loopF own all g b ps env S).F E
  | [], i, env, S, hp, hi, h => by
    have e : i = all.length := by
      have := congrArg List.length hp
      rw [List.length_nil, List.length_drop] at this
      omega
    subst e
    unfold loopF
    rw [if_pos (ho _ _ _ h)]
    exact hd _ _ h
  | p :: ps, i, env, S, hp, hi, h => by
    have hlt : i < all.length := by
      have := congrArg List.length hp
      rw [List.length_cons, List.length_drop] at this
      omega
    rw [List.drop_eq_getElem_cons hlt] at hp
    injection hp with h1 h2
    subst h1
    unfold loopF
    rw [if_pos (ho _ _ _ h)]
    refine F_fl ((hs i _ env S (List.getElem?_eq_getElem hlt) h).mono fun e s q => ?_)
    cases hb : b e s with
    | nx e2 s2 =>
      rw [hb] at q
      exact s_loop I ho hs hd ps (i + 1) e2 s2 h2 hlt q
    | ct e2 s2 =>
      rw [hb] at q
      exact s_loop I ho hs hd ps (i + 1) e2 s2 h2 hlt q
    | bk e2 s2 =>
      rw [hb] at q
      exact q
    | rt d2 s2 =>
      rw [hb] at q
      exact q
    | bad =>
      rw [hb] at q
      exact q.elim
theorem s_For {it : FI} (h : (it env S).P fun r S1 => (loopF r.2 r.1 g b r.1 env S1).F E) : (fFor it g b env S).F E := F_fl h
/-- the rule for a loop; all: the items, own: the list that is iterated, if it is the store's -/
theorem s_Loop {own : Option Nat} {all : List P} (I : Nat → Dnv → Sto → Prop) (h0 : I 0 env S) (ho : ∀ i env S, I i env S → OwnOk own all S)
    (hs : ∀ i p env S, all[i]? = some p → I i env S → (g (.v p) env S).P fun e s => (b e s).F ⟨I (i + 1), E.rt, E.nx, I (i + 1)⟩)
    (hd : ∀ env S, I all.length env S → E.nx env S) : (loopF own all g b all env S).F E := s_loop I ho hs hd all 0 env S rfl (Nat.zero_le _) h0
theorem s_While (I : Nat → Dnv → Sto → Prop) (n : Nat) (hn : n < 100000) (h0 : I n env S) (hs : ∀ i env S, I i env S → (t env S).P fun k S1 => (k = true → (b env S1).F ⟨fun e s => ∃ j, j < i ∧ I j e s, E.rt, E.nx, fun e s => ∃ j, j < i ∧ I j e s⟩) ∧ (k = false → E.nx env S1)) : (fWhile t b env S).F E := by
  have go : ∀ (m i : Nat) (env : Dnv) (S : Sto), i < m → I i env S → (whileF t b m env S).F E := by
    intro m
    induction m with
    | zero => exact fun i env S h => absurd h (Nat.not_lt_zero _)
    | succ m ih =>
      intro i env S him h
      unfold whileF
      refine F_fl ((hs i env S h).mono fun k S1 q => ?_)
      cases k with
      | false =>
        rw [if_neg (by decide)]
        exact q.2 rfl
      | true =>
        rw [if_pos rfl]
        have q := q.1 rfl
        cases hb : b env S1 with
        | nx e2 s2 =>
          rw [hb] at q
          obtain ⟨j, hj, q⟩ := q
          exact ih j e2 s2 (by omega) q
        | ct e2 s2 =>
          rw [hb] at q
          obtain ⟨j, hj, q⟩ := q
          exact ih j e2 s2 (by omega) q
        | bk e2 s2 => rw [hb] at q; exact q
        | rt e2 s2 => rw [hb] at q; exact q
        | bad => rw [hb] at q; exact q.elim
  exact go 100000 n env S hn h0
theorem p_iVal {Qi : List P × Option Nat → Sto → Prop} (h : (f env S).P fun d S1 => ∃ r, seqOf d S1 = some r ∧ Qi r S1) : (iVal f env S).P Qi := P_bind (h.mono fun d S1 ⟨r, h1, h2⟩ => by
  show (match seqOf d S1 with | some r => .ok r S1 | none => .bad : Oc (List P × Option Nat)).P Qi
  rw [h1]
  exact h2)
def rgP (n : Nat) : List P := (List.range n).map fun i : Nat => .int (i : Int)
theorem p_iR1 {Qi : List P × Option Nat → Sto → Prop} (h : (ga env S).P fun ds S1 => ∃ n : Int, ds = [.v (.int n)] ∧ -1000000 ≤ n ∧ n ≤ 1000000 ∧ Qi (rgP n.toNat, none) S1) : (iR1 ga env S).P Qi := P_bind (h.mono fun ds S1 ⟨n, h1, h2, h3, q⟩ => by
  subst h1
  show (if _ then _ else _ : Oc (List P × Option Nat)).P Qi
  rw [if_pos ⟨h2, h3⟩]
  have e : ((List.range n.toNat).map fun i : Nat => P.int ((0 : Int) + i)) = rgP n.toNat := by
    unfold rgP
    exact List.map_congr_left fun i _ => by rw [Int.zero_add]
  show Qi (((List.range n.toNat).map fun i : Nat => P.int ((0 : Int) + i)), none) S1
  rw [e]
  exact q)
theorem rgP_at {n i : Nat} {p : P} (h : (rgP n)[i]? = some p) : i < n ∧ p = .int i := by
  unfold rgP at h
  rw [List.getElem?_map] at h
  obtain ⟨j, h1, h2⟩ := Option.map_eq_some_iff.mp h
  have hl := lt_of_at h1
  rw [List.length_range] at hl
  rw [List.getElem?_range hl] at h1
  cases h1
  exact ⟨hl, h2.symm⟩
@[simp] theorem rgP_len (n : Nat) : (rgP n).length = n := by simp [rgP]
theorem own_none {all : List P} {S : Sto} : OwnOk none all S := fun _ h => by cases h
end
/-! ### comprehensions -/
section
variable {it : FI} {g : FG} {t : FT} {e fk : FE} {vs : List Nat} {env : Dnv} {S : Sto}
theorem lc_P {own : Option Nat} {all : List P} {Q : List P → Sto → Prop} (I : Nat → Sto → List P → Prop) (ho : ∀ i S acc, I i S acc → OwnOk own all S)
    (hs : ∀ i p S acc, all[i]? = some p → I i S acc → acc.length < 100000 ∧ (g (.v p) env S).P fun env1 S1 => (t env1 S1).P fun b S2 => (b = true → (e env1 S2).P fun d S3 => ∃ q, d = .v q ∧ I (i + 1) S3 (acc ++ [q])) ∧ (b = false → I (i + 1) S2 acc))
    (hd : ∀ S acc, I all.length S acc → Q acc S) : ∀ (ps : List P) (i : Nat) (S : Sto) (acc : List P), ps = all.drop i → i ≤ all.length → I i S acc → (lcF own all g t e env ps S acc).P Q
  | [], i, S, acc, hp, hi, h => by
    have e : i = all.length := by
      have := congrArg List.length hp
      rw [List.length_nil, List.length_drop] at this
      omega
    subst e
    unfold lcF
    rw [if_pos (ho _ _ _ h)]
    exact hd _ _ h
  | p :: ps, i, S, acc, hp, hi, h => by
    have hlt : i < all.length := by
      have := congrArg List.length hp
      rw [List.length_cons, List.length_drop] at this
      omega
    rw [List.drop_eq_getElem_cons hlt] at hp
    injection hp with h1 h2
    subst h1
    unfold lcF
    rw [if_pos (ho _ _ _ h)]
    obtain ⟨hl, hq⟩ := hs i _ S acc (List.getElem?_eq_getElem hlt) h
    refine P_bind (hq.mono fun env1 S1 q => P_bind (q.mono fun b S2 q => ?_))
    cases b with
    | false =>
      rw [if_neg (by decide)]
      exact lc_P I ho hs hd ps (i + 1) S2 acc h2 hlt (q.2 rfl)
    | true =>
      rw [if_pos rfl]
      refine P_bind ((q.1 rfl).mono fun d S3 q => ?_)
      obtain ⟨x, rfl, q⟩ := q
      show (if acc.length < 100000 then lcF own all g t e env ps S3 (acc ++ [x]) else .bad : Oc (List P)).P Q
      rw [if_pos hl]
      exact lc_P I ho hs hd ps (i + 1) S3 (acc ++ [x]) h2 hlt q
/-- a comprehension as a value -/
theorem p_lc {Q : D → Sto → Prop} (h : (it env S).P fun r S1 => (lcF r.2 r.1 g t e (wipeE env vs) r.1 S1 []).P fun acc S2 => Q (.v (.lst acc)) S2) : (fLc it g t e vs env S).P Q := P_bind (h.mono fun _ _ h => P_bind h)
theorem p_lcB {Q : D → Sto → Prop} (h : (it env S).P fun r S1 => (lcF r.2 r.1 g t e (wipeE env vs) r.1 S1 []).P fun acc S2 => Q (.r S2.length) (S2 ++ [.lst acc])) : (fLcB it g t e vs env S).P Q := P_bind (h.mono fun _ _ h => P_bind h)
theorem p_Lc {own : Option Nat} {all : List P} {Q : List P → Sto → Prop} (I : Nat → Sto → List P → Prop) (h0 : I 0 S []) (ho : ∀ i S acc, I i S acc → OwnOk own all S)
    (hs : ∀ i p S acc, all[i]? = some p → I i S acc → acc.length < 100000 ∧ (g (.v p) env S).P fun env1 S1 => (t env1 S1).P fun b S2 => (b = true → (e env1 S2).P fun d S3 => ∃ q, d = .v q ∧ I (i + 1) S3 (acc ++ [q])) ∧ (b = false → I (i + 1) S2 acc))
    (hd : ∀ S acc, I all.length S acc → Q acc S) : (lcF own all g t e env all S []).P Q := lc_P I ho hs hd all 0 S [] rfl (Nat.zero_le _) h0
theorem dc_P {own : Option Nat} {all : List P} {Q : List Key × List P → Sto → Prop} (I : Nat → Sto → List Key → List P → Prop) (ho : ∀ i S ks acc, I i S ks acc → OwnOk own all S)
    (hs : ∀ i p S ks acc, all[i]? = some p → I i S ks acc → ks.length < 10000 ∧ (g (.v p) env S).P fun env1 S1 => (t env1 S1).P fun b S2 => (b = true → (fk env1 S2).P fun dk S3 => (e env1 S3).P fun d S4 => ∃ qk k q, dk = .v qk ∧ pKey qk = some k ∧ d = .v q ∧ I (i + 1) S4 (putP ks acc k q).1 (putP ks acc k q).2) ∧ (b = false → I (i + 1) S2 ks acc))
    (hd : ∀ S ks acc, I all.length S ks acc → Q (ks, acc) S) : ∀ (ps : List P) (i : Nat) (S : Sto) (ks : List Key) (acc : List P), ps = all.drop i → i ≤ all.length → I i S ks acc → (dcF own all g t fk e env ps S ks acc).P Q
  | [], i, S, ks, acc, hp, hi, h => by
    have e : i = all.length := by
      have := congrArg List.length hp
      rw [List.length_nil, List.length_drop] at this
      omega
    subst e
    unfold dcF
    rw [if_pos (ho _ _ _ _ h)]
    exact hd _ _ _ h
  | p :: ps, i, S, ks, acc, hp, hi, h => by
    have hlt : i < all.length := by
      have := congrArg List.length hp
      rw [List.length_cons, List.length_drop] at this
      omega
    rw [List.drop_eq_getElem_cons hlt] at hp
    injection hp with h1 h2
    subst h1
    unfold dcF
    rw [if_pos (ho _ _ _ _ h)]
    obtain ⟨hl, hq⟩ := hs i _ S ks acc (List.getElem?_eq_getElem hlt) h
    refine P_bind (hq.mono fun env1 S1 q => P_bind (q.mono fun b S2 q => ?_))
    cases b with
    | false =>
      rw [if_neg (by decide)]
      exact dc_P I ho hs hd ps (i + 1) S2 ks acc h2 hlt (q.2 rfl)
    | true =>
      rw [if_pos rfl]
      refine P_bind ((q.1 rfl).mono fun dk S3 q => P_bind (q.mono fun d S4 q => ?_))
      obtain ⟨qk, k, x, rfl, hk, rfl, q⟩ := q
      show (match pKey qk with | some k => if ks.length < 10000 then dcF own all g t fk e env ps S4 (putP ks acc k x).1 (putP ks acc k x).2 else .bad | none => .bad : Oc (List Key × List P)).P Q
      rw [hk]
      show (if ks.length < 10000 then dcF own all g t fk e env ps S4 (putP ks acc k x).1 (putP ks acc k x).2 else .bad : Oc (List Key × List P)).P Q
      rw [if_pos hl]
      exact dc_P I ho hs hd ps (i + 1) S4 _ _ h2 hlt q
theorem p_dc {Q : D → Sto → Prop} (h : (it env S).P fun r S1 => (dcF r.2 r.1 g t fk e (wipeE env vs) r.1 S1 [] []).P fun acc S2 => Q (.v (.dic acc.1 acc.2)) S2) : (fDc it g t fk e vs env S).P Q := P_bind (h.mono fun _ _ h => P_bind h)
theorem p_Dc {own : Option Nat} {all : List P} {Q : List Key × List P → Sto → Prop} (I : Nat → Sto → List Key → List P → Prop) (h0 : I 0 S [] []) (ho : ∀ i S ks acc, I i S ks acc → OwnOk own all S)
    (hs : ∀ i p S ks acc, all[i]? = some p → I i S ks acc → ks.length < 10000 ∧ (g (.v p) env S).P fun env1 S1 => (t env1 S1).P fun b S2 => (b = true → (fk env1 S2).P fun dk S3 => (e env1 S3).P fun d S4 => ∃ qk k q, dk = .v qk ∧ pKey qk = some k ∧ d = .v q ∧ I (i + 1) S4 (putP ks acc k q).1 (putP ks acc k q).2) ∧ (b = false → I (i + 1) S2 ks acc))
    (hd : ∀ S ks acc, I all.length S ks acc → Q (ks, acc) S) : (dcF own all g t fk e env all S [] []).P Q := dc_P I ho hs hd all 0 S [] [] rfl (Nat.zero_le _) h0
end
/-! ### defs -/
section
variable {n : Nat} {keep : Bool} {b : FS} {ds : List D} {S S1 : Sto} {Q : D → Sto → Prop}
theorem p_run (h : (b (startD n ds) S).F ⟨fun _ S1 => (closeD keep S.length (.v .non) S1).P Q, fun d S1 => (closeD keep S.length d S1).P Q, fun _ _ => False, fun _ _ => False⟩) : (runF n keep b ds S).P Q := by
  unfold runF
  cases e : b (startD n ds) S with
  | nx e2 S1 => rw [e] at h; exact h
  | rt d S1 => rw [e] at h; exact h
  | bk e2 S1 => rw [e] at h; exact h.elim
  | ct e2 S1 => rw [e] at h; exact h.elim
  | bad => rw [e] at h; exact h.elim
theorem p_closeV {p : P} (h : Q (.v p) (S1.take n)) : (closeD false n (.v p) S1).P Q := h
theorem p_closeK {d : D} (h : Q d S1) : (closeD true n d S1).P Q := h
theorem p_closeR {r : Nat} {ps : List P} (hr : ¬ r < n) (hs : S1[r]? = some (.lst ps)) (h : Q (.v (.lst ps)) (S1.take n)) : (closeD false n (.r r) S1).P Q := by
  unfold closeD
  rw [if_neg (by decide)]
  show (if r < n then .ok (.r r) (S1.take n) else match S1[r]? with
    | some (.lst ps) => .ok (.v (.lst ps)) (S1.take n)
    | some (.dic ks ps) => .ok (.v (.dic ks ps)) (S1.take n)
    | none => .bad : Oc D).P Q
  rw [if_neg hr, hs]
  exact h
end
end DL

/-! DLn: data that is shown, compared, sought, sorted. -/
namespace DL
open PySem PySem.Spec PyProof.Rows L2

/-! ### shown -/
theorem ok_app {x y : Str} (hx : PyData.strOk x = true) (hy : PyData.strOk y = true) : PyData.strOk (x ++ y) = true := by
  unfold PyData.strOk at hx hy ⊢
  rw [Array.all_eq_true_iff_forall_mem] at hx hy ⊢
  intro a ha
  rw [Str.cps_append] at ha
  rcases Array.mem_append.mp ha with h | h
  · exact hx a h
  · exact hy a h
theorem ok_join : ∀ {ts : List Str}, (∀ t ∈ ts, PyData.strOk t = true) → PyData.strOk (Str.join ", " ts) = true
  | [], _ => by decide +kernel
  | [x], h => h x (List.mem_cons_self ..)
  | x :: y :: r, h => ok_app (ok_app (h x (List.mem_cons_self ..)) (by decide +kernel)) (ok_join (ts := y :: r) fun t ht => h t (List.mem_cons_of_mem _ ht))
theorem ok_from : ∀ {ts : List Str} {k : Nat} {acc : Str}, PyData.strOk acc = true → (∀ t ∈ ts, PyData.strOk t = true) → PyData.strOk (textFrom k acc ts) = true
  | [], _, _, ha, _ => ha
  | t :: r, k, acc, ha, h => by
    refine ok_from (ts := r) (k := k + 1) (acc := acc ++ (if k > 0 then ", " else "" : String) ++ t) (ok_app (ok_app ha ?_) (h t (List.mem_cons_self ..))) fun u hu => h u (List.mem_cons_of_mem _ hu)
    split <;> decide +kernel
theorem piled_le {n : Nat} : ∀ {ts : List Str}, (∀ t ∈ ts, t.length ≤ n) → piled ts ≤ ts.length * (n + 2)
  | [], _ => by simp [piled]
  | t :: r, h => by
    have h1 := h t (List.mem_cons_self ..)
    have h2 := piled_le (ts := r) fun u hu => h u (List.mem_cons_of_mem _ hu)
    rw [piled_cons, List.length_cons, Nat.add_mul]
    omega
theorem from_le {n : Nat} : ∀ {ts : List Str} {k : Nat} {acc : Str}, (∀ t ∈ ts, t.length ≤ n) → (textFrom k acc ts).length ≤ acc.length + ts.length * (n + 2)
  | [], _, acc, _ => by
    show acc.length ≤ _
    simp
  | t :: r, k, acc, h => by
    have h1 := h t (List.mem_cons_self ..)
    have h2 := from_le (ts := r) (k := k + 1) (acc := acc ++ (if k > 0 then ", " else "" : String) ++ t) fun u hu => h u (List.mem_cons_of_mem _ hu)
    have e : (acc ++ (if k > 0 then ", " else "" : String) ++ t).length = acc.length + (if k > 0 then 2 else 0) + t.length := by
      rw [Str.length_append, Str.length_append]
      split <;> rfl
    rw [List.length_cons, Nat.add_mul]
    have h3 : (textFrom (k + 1) (acc ++ (if k > 0 then ", " else "" : String) ++ t) r).length ≤ acc.length + (r.length * (n + 2) + 1 * (n + 2)) := by
      have : (if k > 0 then 2 else 0) ≤ 2 := by split <;> omega
      omega
    exact h3
/-- data of at most n signs, m deep, that can be shown -/
def Sh (n m : Nat) (p : P) : Prop := ∃ d, toPy p = some d ∧ d.showable = true ∧ d.hasDict = false ∧ PyData.strOk d.shown = true ∧ d.shown.length ≤ n ∧ d.depth ≤ m
theorem Sh.mono {n m n' m' : Nat} {p : P} (h : Sh n m p) (hn : n ≤ n') (hm : m ≤ m') : Sh n' m' p := by
  obtain ⟨d, h1, h2, h3, h4, h5, h6⟩ := h
  exact ⟨d, h1, h2, h3, h4, Nat.le_trans h5 hn, Nat.le_trans h6 hm⟩
theorem sh_all {n m : Nat} : ∀ {ps : List P}, (∀ p ∈ ps, Sh n m p) → ∃ ds, toPys ps = some ds ∧ PyData.showableAll ds = true ∧ PyData.hasDictAll ds = false ∧ (∀ t ∈ PyData.shownAll ds, PyData.strOk t = true ∧ t.length ≤ n) ∧ (PyData.shownAll ds).length = ps.length ∧ PyData.depthAll ds ≤ m
  | [], _ => ⟨[], rfl, rfl, rfl, (fun _ h => by cases h), rfl, Nat.zero_le _⟩
  | p :: ps, h => by
    obtain ⟨d, h1, h2, h3, h4, h5, h6⟩ := h p (List.mem_cons_self ..)
    obtain ⟨ds, k1, k2, k3, k4, k5, k6⟩ := sh_all (ps := ps) fun q hq => h q (List.mem_cons_of_mem _ hq)
    refine ⟨d :: ds, ?_, ?_, ?_, fun t ht => ?_, ?_, ?_⟩
    · simp [toPys, h1, k1]
    · simp [PyData.showableAll, h2, k2]
    · simp [PyData.hasDictAll, h3, k3]
    · rcases List.mem_cons.mp (show t ∈ d.shown :: PyData.shownAll ds from ht) with rfl | ht
      · exact ⟨h4, h5⟩
      · exact k4 t ht
    · show (d.shown :: PyData.shownAll ds).length = _
      simp [k5]
    · show max d.depth (PyData.depthAll ds) ≤ m
      omega
theorem sh_tup {n m : Nat} {ps : List P} (h : ∀ p ∈ ps, Sh n m p) : Sh (ps.length * (n + 2) + 3) (m + 1) (.tup ps) := by
  obtain ⟨ds, k1, k2, k3, k4, k5, k6⟩ := sh_all h
  refine ⟨.tuple ds, by simp [toPy, k1], k2, k3, ?_, ?_, by show PyData.depthAll ds + 1 ≤ m + 1; omega⟩
  · show PyData.strOk (tupleText (PyData.shownAll ds)) = true
    unfold tupleText
    refine ok_app (ok_app (by decide +kernel) (ok_join fun t ht => (k4 t ht).1)) ?_
    split <;> decide +kernel
  · show (tupleText (PyData.shownAll ds)).length ≤ _
    unfold tupleText
    rw [Str.length_append, Str.length_append]
    have e1 : (("(" : String) : Str).length = 1 := rfl
    have e2 : ((if (PyData.shownAll ds).length == 1 then ",)" else ")" : String) : Str).length ≤ 2 := by
      split
      · exact Nat.le_refl 2
      · exact (by decide : 1 ≤ 2)
    have e3 : (Str.join ", " (PyData.shownAll ds)).length ≤ ps.length * (n + 2) := by
      by_cases hz : PyData.shownAll ds = []
      · rw [hz]
        exact Nat.zero_le _
      · have := join_length_add _ hz
        have := piled_le (ts := PyData.shownAll ds) fun t ht => (k4 t ht).2
        rw [k5] at this
        omega
    omega
theorem sh_lst {n m : Nat} {ps : List P} (h : ∀ p ∈ ps, Sh n m p) : Sh (ps.length * (n + 2) + 3) (m + 1) (.lst ps) := by
  obtain ⟨ds, k1, k2, k3, k4, k5, k6⟩ := sh_all h
  refine ⟨.list ds, by simp [toPy, k1], k2, k3, ?_, ?_, by show PyData.depthAll ds + 1 ≤ m + 1; omega⟩
  · show PyData.strOk (listText (PyData.shownAll ds)) = true
    unfold listText
    exact ok_app (ok_from (by decide +kernel) fun t ht => (k4 t ht).1) (by decide +kernel)
  · show (listText (PyData.shownAll ds)).length ≤ _
    unfold listText
    rw [Str.length_append]
    have e2 : (("]" : String) : Str).length = 1 := rfl
    have e1 : (("[" : String) : Str).length = 1 := rfl
    have := from_le (ts := PyData.shownAll ds) (k := 0) (acc := "[") fun t ht => (k4 t ht).2
    rw [k5] at this
    omega
theorem sh_str {n : Nat} {x : Str} (h1 : PyData.strOk (reprText x) = true) (h2 : (reprText x).length ≤ n) : Sh n 0 (.str x) := ⟨.str x, rfl, rfl, rfl, h1, h2, Nat.le_refl _⟩
theorem sh_bl {b : Bool} : Sh 5 0 (.bl b) := ⟨.bool b, rfl, rfl, rfl, (by cases b <;> decide +kernel), (by cases b <;> decide +kernel), Nat.le_refl _⟩
theorem sh_non : Sh 4 0 .non := ⟨.none, rfl, rfl, rfl, by decide +kernel, by decide +kernel, Nat.le_refl _⟩
/-- its text -/
def shw (p : P) : Str := (pyOf p).shown
theorem Sh.repr {n m : Nat} {p : P} (h : Sh n m p) (hn : n ≤ 100000) (hm : m ≤ 64) : bRepr [p] = some (.str (shw p)) ∧ PyData.strOk (shw p) = true := by
  obtain ⟨d, h1, h2, h3, h4, h5, h6⟩ := h
  have e : pyOf p = d := by unfold pyOf; rw [h1]; rfl
  unfold shw
  rw [e]
  refine ⟨?_, h4⟩
  unfold bRepr
  simp only [h1]
  rw [if_pos ⟨h2, h3, by omega, by omega⟩]
theorem ne_txt {x y : Str} (hx : PyData.strOk x = true) (hy : PyData.strOk y = true) : ∃ b, pNe (.str x) (.str y) = some (.bl b) ∧ (b = true ↔ x ≠ y) := by
  refine ⟨!(x == y), ?_, by simp⟩
  unfold pNe
  simp [toPy, SeqAt.shaped, PyData.canLay0, hx, hy, PyData.depth, PyData.eqv]
theorem eq_txt {x y : Str} (hx : PyData.strOk x = true) (hy : PyData.strOk y = true) : ∃ b, pEq (.str x) (.str y) = some (.bl b) ∧ (b = true ↔ x = y) := by
  refine ⟨x == y, ?_, by simp⟩
  unfold pEq
  simp [toPy, SeqAt.shaped, PyData.canLay0, hx, hy, PyData.depth, PyData.eqv]
/-! ### plain data: compared, sought -/
mutual
def pl : P → Bool
  | .non => true
  | .int _ => true
  | .str x => PyData.strOk x
  | .tup ps => pls ps
  | .lst ps => pls ps
  | _ => false
def pls : List P → Bool
  | [] => true
  | p :: ps => pl p && pls ps
end
mutual
def dp : P → Nat
  | .tup ps => dps ps + 1
  | .lst ps => dps ps + 1
  | _ => 0
def dps : List P → Nat
  | [] => 0
  | p :: ps => max (dp p) (dps ps)
end
mutual
theorem pl_py : ∀ p : P, pl p = true → ∃ d, toPy p = some d ∧ d.canLay0 = true ∧ d.depth = dp p
  | .non, _ => ⟨.none, rfl, rfl, rfl⟩
  | .int i, _ => ⟨.int i, rfl, rfl, rfl⟩
  | .str x, h => ⟨.str x, rfl, h, rfl⟩
  | .tup ps, h => by
    obtain ⟨ds, h1, h2, h3⟩ := pls_py ps h
    exact ⟨.tuple ds, by simp [toPy, h1], h2, by show PyData.depthAll ds + 1 = dps ps + 1; rw [h3]⟩
  | .lst ps, h => by
    obtain ⟨ds, h1, h2, h3⟩ := pls_py ps h
    exact ⟨.list ds, by simp [toPy, h1], h2, by show PyData.depthAll ds + 1 = dps ps + 1; rw [h3]⟩
  | .bl _, h => by cases h
  | .frz _, h => by cases h
  | .dic _ _, h => by cases h
  | .fn _, h => by cases h
theorem pls_py : ∀ ps : List P, pls ps = true → ∃ ds, toPys ps = some ds ∧ PyData.canLayAll0 ds = true ∧ PyData.depthAll ds = dps ps
  | [], _ => ⟨[], rfl, rfl, rfl⟩
  | p :: ps, h => by
    have hh : (pl p && pls ps) = true := h
    obtain ⟨a, b⟩ := Bool.and_eq_true_iff.mp hh
    obtain ⟨d, h1, h2, h3⟩ := pl_py p a
    obtain ⟨ds, k1, k2, k3⟩ := pls_py ps b
    exact ⟨d :: ds, by simp [toPys, h1, k1], by simp [PyData.canLayAll0, h2, k2], by show max d.depth (PyData.depthAll ds) = max (dp p) (dps ps); rw [h3, k3]⟩
end
mutual
theorem pl_eqv : ∀ (p q : P) (d e : PyData), pl p = true → pl q = true → toPy p = some d → toPy q = some e → (PyData.eqv d e = true ↔ p = q)
  | .non, q, d, e, hp, hq, h1, h2 => by
    cases h1
    cases q <;> first | (cases hq; done) | (simp [toPy] at h2; first | (subst h2; simp [PyData.eqv]) | (obtain ⟨x, _, rfl⟩ := h2; simp [PyData.eqv]))
  | .int i, q, d, e, hp, hq, h1, h2 => by
    cases h1
    cases q <;> first | (cases hq; done) | (simp [toPy] at h2; first | (subst h2; simp [PyData.eqv]) | (obtain ⟨x, _, rfl⟩ := h2; simp [PyData.eqv]))
  | .str i, q, d, e, hp, hq, h1, h2 => by
    cases h1
    cases q <;> first | (cases hq; done) | (simp [toPy] at h2; first | (subst h2; simp [PyData.eqv]) | (obtain ⟨x, _, rfl⟩ := h2; simp [PyData.eqv]))
  | .tup ps, q, d, e, hp, hq, h1, h2 => by
    obtain ⟨ds, h1', rfl⟩ := Option.map_eq_some_iff.mp (show (toPys ps).map PyData.tuple = some d from h1)
    cases q with
    | tup qs =>
      obtain ⟨es, h2', rfl⟩ := Option.map_eq_some_iff.mp (show (toPys qs).map PyData.tuple = some e from h2)
      have := pls_eqv ps qs ds es hp hq h1' h2'
      simp only [PyData.eqv, this, P.tup.injEq]
    | lst qs =>
      obtain ⟨es, h2', rfl⟩ := Option.map_eq_some_iff.mp (show (toPys qs).map PyData.list = some e from h2)
      simp [PyData.eqv]
    | non => cases h2; simp [PyData.eqv]
    | int i => cases h2; simp [PyData.eqv]
    | str x => cases h2; simp [PyData.eqv]
    | bl _ => cases hq
    | frz _ => cases hq
    | dic _ _ => cases hq
    | fn _ => cases hq
  | .lst ps, q, d, e, hp, hq, h1, h2 => by
    obtain ⟨ds, h1', rfl⟩ := Option.map_eq_some_iff.mp (show (toPys ps).map PyData.list = some d from h1)
    cases q with
    | lst qs =>
      obtain ⟨es, h2', rfl⟩ := Option.map_eq_some_iff.mp (show (toPys qs).map PyData.list = some e from h2)
      have := pls_eqv ps qs ds es hp hq h1' h2'
      simp only [PyData.eqv, this, P.lst.injEq]
    | tup qs =>
      obtain ⟨es, h2', rfl⟩ := Option.map_eq_some_iff.mp (show (toPys qs).map PyData.tuple = some e from h2)
      simp [PyData.eqv]
    | non => cases h2; simp [PyData.eqv]
    | int i => cases h2; simp [PyData.eqv]
    | str x => cases h2; simp [PyData.eqv]
    | bl _ => cases hq
    | frz _ => cases hq
    | dic _ _ => cases hq
    | fn _ => cases hq
  | .bl _, _, _, _, h, _, _, _ => by cases h
  | .frz _, _, _, _, h, _, _, _ => by cases h
  | .dic _ _, _, _, _, h, _, _, _ => by cases h
  | .fn _, _, _, _, h, _, _, _ => by cases h
theorem pls_eqv : ∀ (ps qs : List P) (ds es : List PyData), pls ps = true → pls qs = true → toPys ps = some ds → toPys qs = some es → (PyData.eqvAll ds es = true ↔ ps = qs)
  | [], qs, ds, es, hp, hq, h1, h2 => by
    cases h1
    cases qs with
    | nil => cases h2; simp [PyData.eqvAll]
    | cons q qs =>
      have hh : (pl q && pls qs) = true := hq
      obtain ⟨a, b⟩ := Bool.and_eq_true_iff.mp hh
      obtain ⟨e, k1, _⟩ := pl_py q a
      obtain ⟨es', k2, _⟩ := pls_py qs b
      simp [toPys, k1, k2] at h2
      subst h2
      simp [PyData.eqvAll]
  | p :: ps, qs, ds, es, hp, hq, h1, h2 => by
    have hh : (pl p && pls ps) = true := hp
    obtain ⟨a, b⟩ := Bool.and_eq_true_iff.mp hh
    obtain ⟨d, k1, _⟩ := pl_py p a
    obtain ⟨ds', k2, _⟩ := pls_py ps b
    simp [toPys, k1, k2] at h1
    subst h1
    cases qs with
    | nil => cases h2; simp [PyData.eqvAll]
    | cons q qs =>
      have hh2 : (pl q && pls qs) = true := hq
      obtain ⟨a2, b2⟩ := Bool.and_eq_true_iff.mp hh2
      obtain ⟨e, l1, _⟩ := pl_py q a2
      obtain ⟨es', l2, _⟩ := pls_py qs b2
      simp [toPys, l1, l2] at h2
      subst h2
      have i1 := pl_eqv p q d e a a2 k1 l1
      have i2 := pls_eqv ps qs ds' es' b b2 k2 l2
      simp only [PyData.eqvAll, Bool.and_eq_true, i1, i2, List.cons.injEq]
end
theorem pls_mem : ∀ {ps : List P}, pls ps = true ↔ ∀ p ∈ ps, pl p = true
  | [] => by simp [pls]
  | p :: ps => by simp [pls, pls_mem (ps := ps)]
theorem dps_le {n : Nat} : ∀ {ps : List P}, dps ps ≤ n ↔ ∀ p ∈ ps, dp p ≤ n
  | [] => by simp [dps]
  | p :: ps => by simp [dps, dps_le (ps := ps), Nat.max_le]
/-- plain data of small depth -/
def Pl (n : Nat) (p : P) : Prop := pl p = true ∧ dp p ≤ n
theorem Pl.mono {n m : Nat} {p : P} (h : Pl n p) (hm : n ≤ m) : Pl m p := ⟨h.1, Nat.le_trans h.2 hm⟩
theorem pl_tup {n : Nat} {ps : List P} (h : ∀ p ∈ ps, Pl n p) : Pl (n + 1) (.tup ps) := ⟨pls_mem.mpr fun p hp => (h p hp).1, Nat.succ_le_succ (dps_le.mpr fun p hp => (h p hp).2)⟩
theorem pl_lst {n : Nat} {ps : List P} (h : ∀ p ∈ ps, Pl n p) : Pl (n + 1) (.lst ps) := ⟨pls_mem.mpr fun p hp => (h p hp).1, Nat.succ_le_succ (dps_le.mpr fun p hp => (h p hp).2)⟩
theorem pl_int {i : Int} : Pl 0 (.int i) := ⟨rfl, Nat.le_refl _⟩
theorem pl_non : Pl 0 .non := ⟨rfl, Nat.le_refl _⟩
theorem pl_str {x : Str} (h : PyData.strOk x = true) : Pl 0 (.str x) := ⟨h, Nat.le_refl _⟩
theorem pl_shaped {n : Nat} {p : P} (h : Pl n p) (hn : n ≤ 64) : ∃ d, toPy p = some d ∧ SeqAt.shaped d = true ∧ d.canLay0 = true ∧ d.depth ≤ 64 := by
  obtain ⟨d, h1, h2, h3⟩ := pl_py p h.1
  have : d.depth ≤ 64 := by rw [h3]; exact Nat.le_trans h.2 hn
  exact ⟨d, h1, by simp [SeqAt.shaped, h2, this], h2, this⟩
theorem eq_pl {n m : Nat} {p q : P} (hp : Pl n p) (hq : Pl m q) (hn : n ≤ 64) (hm : m ≤ 64) : ∃ b, pEq p q = some (.bl b) ∧ (b = true ↔ p = q) := by
  obtain ⟨d, h1, h2, _⟩ := pl_shaped hp hn
  obtain ⟨e, k1, k2, _⟩ := pl_shaped hq hm
  refine ⟨PyData.eqv d e, ?_, pl_eqv p q d e hp.1 hq.1 h1 k1⟩
  unfold pEq
  rw [h1]
  simp only []
  rw [k1]
  simp [h2, k2]
theorem ne_pl {n m : Nat} {p q : P} (hp : Pl n p) (hq : Pl m q) (hn : n ≤ 64) (hm : m ≤ 64) : ∃ b, pNe p q = some (.bl b) ∧ (b = true ↔ p ≠ q) := by
  obtain ⟨d, h1, h2, _⟩ := pl_shaped hp hn
  obtain ⟨e, k1, k2, _⟩ := pl_shaped hq hm
  have := pl_eqv p q d e hp.1 hq.1 h1 k1
  refine ⟨!PyData.eqv d e, ?_, by rw [Ne, ← this]; cases PyData.eqv d e <;> simp⟩
  unfold pNe
  rw [h1]
  simp only []
  rw [k1]
  simp [h2, k2]
theorem any_pl {p : P} {d : PyData} (hp : pl p = true) (h1 : toPy p = some d) : ∀ {ps : List P} {ds : List PyData}, pls ps = true → toPys ps = some ds → ((ds.any fun y => PyData.eqv y d) = true ↔ p ∈ ps)
  | [], ds, _, h => by cases h; simp
  | q :: ps, ds, hq, h => by
    have hh2 : (pl q && pls ps) = true := hq
    obtain ⟨a2, b2⟩ := Bool.and_eq_true_iff.mp hh2
    obtain ⟨e, l1, _⟩ := pl_py q a2
    obtain ⟨es', l2, _⟩ := pls_py ps b2
    simp [toPys, l1, l2] at h
    subst h
    have i1 := pl_eqv q p e d a2 hp l1 h1
    have i2 := any_pl hp h1 (ps := ps) b2 l2
    rw [List.any_cons, Bool.or_eq_true, i1, i2, List.mem_cons]
    constructor
    · rintro (h | h)
      · exact .inl h.symm
      · exact .inr h
    · rintro (h | h)
      · exact .inl h.symm
      · exact .inr h
theorem inB_pl {n m : Nat} {p : P} {ps : List P} (hp : Pl n p) (hq : ∀ q ∈ ps, Pl m q) (hn : n ≤ 64) : ∃ b, pInB p (.tup ps) = some b ∧ pInB p (.lst ps) = some b ∧ (b = true ↔ p ∈ ps) := by
  obtain ⟨d, h1, h2, h3, h4⟩ := pl_shaped hp hn
  have hps : pls ps = true := pls_mem.mpr fun q h => (hq q h).1
  obtain ⟨ds, k1, k2, _⟩ := pls_py ps hps
  refine ⟨ds.any fun y => PyData.eqv y d, ?_, ?_, any_pl hp.1 h1 hps k1⟩
  · simp [pInB, toPy, k1, h1, k2, canD, h3, h4]
  · simp [pInB, toPy, k1, h1, k2, canD, h3, h4]
theorem in_tup {n m : Nat} {p : P} {ps : List P} (hp : Pl n p) (hq : ∀ q ∈ ps, Pl m q) (hn : n ≤ 64) : ∃ b, pIn p (.tup ps) = some (.bl b) ∧ (b = true ↔ p ∈ ps) := by
  obtain ⟨b, h1, _, h2⟩ := inB_pl hp hq hn
  exact ⟨b, by simp [pIn, h1], h2⟩
theorem in_lst {n m : Nat} {p : P} {ps : List P} (hp : Pl n p) (hq : ∀ q ∈ ps, Pl m q) (hn : n ≤ 64) : ∃ b, pIn p (.lst ps) = some (.bl b) ∧ (b = true ↔ p ∈ ps) := by
  obtain ⟨b, _, h1, h2⟩ := inB_pl hp hq hn
  exact ⟨b, by simp [pIn, h1], h2⟩
theorem notIn_tup {n m : Nat} {p : P} {ps : List P} (hp : Pl n p) (hq : ∀ q ∈ ps, Pl m q) (hn : n ≤ 64) : ∃ b, pNotIn p (.tup ps) = some (.bl b) ∧ (b = true ↔ p ∉ ps) := by
  obtain ⟨b, h1, _, h2⟩ := inB_pl hp hq hn
  exact ⟨!b, by simp [pNotIn, h1], by rw [← h2]; cases b <;> simp⟩
theorem notIn_lst {n m : Nat} {p : P} {ps : List P} (hp : Pl n p) (hq : ∀ q ∈ ps, Pl m q) (hn : n ≤ 64) : ∃ b, pNotIn p (.lst ps) = some (.bl b) ∧ (b = true ↔ p ∉ ps) := by
  obtain ⟨b, _, h1, h2⟩ := inB_pl hp hq hn
  exact ⟨!b, by simp [pNotIn, h1], by rw [← h2]; cases b <;> simp⟩
theorem ne_nil {n : Nat} {ps : List P} (hq : ∀ q ∈ ps, Pl n q) (hn : n ≤ 60) : ∃ b, pNe (.lst ps) (.lst []) = some (.bl b) ∧ (b = true ↔ ps ≠ []) := by
  obtain ⟨b, h1, h2⟩ := ne_pl (pl_lst hq) (pl_lst (n := 0) (ps := []) (by simp)) (by omega) (by omega)
  exact ⟨b, h1, by rw [h2, Ne, P.lst.injEq]⟩
/-! ### dicts -/
theorem look_hit {ks : List Key} {ps : List P} {k : Key} {i : Nat} {p : P} (hn : ks.Nodup) (h1 : ks[i]? = some k) (h2 : ps[i]? = some p) : look ks ps k = some p := by
  induction ks generalizing ps i with
  | nil => simp at h1
  | cons j ks ih =>
    cases ps with
    | nil => simp at h2
    | cons q ps =>
      obtain ⟨hn1, hn2⟩ := List.nodup_cons.mp hn
      cases i with
      | zero =>
        simp at h1 h2
        subst h1 h2
        simp [look]
      | succ i =>
        have h1' : ks[i]? = some k := by simpa using h1
        have h2' : ps[i]? = some p := by simpa using h2
        have := ih hn2 h1' h2'
        have hne : j ≠ k := fun e => hn1 (e ▸ List.mem_of_getElem? h1')
        unfold look at this ⊢
        rw [List.zip_cons_cons, List.find?_cons, decide_eq_false hne]
        exact this
theorem put_new {ks : List Key} {ps : List P} {k : Key} {p : P} (hk : k ∉ ks) (hl : ks.length = ps.length) : putP ks ps k p = (ks ++ [k], ps ++ [p]) := by
  induction ks generalizing ps with
  | nil =>
    have : ps = [] := by simpa using hl.symm
    subst this
    rfl
  | cons j ks ih =>
    cases ps with
    | nil => simp at hl
    | cons q ps =>
      have h1 : j ≠ k := fun e => hk (e ▸ List.mem_cons_self ..)
      have := ih (ps := ps) (fun h => hk (List.mem_cons_of_mem _ h)) (by simpa using hl)
      unfold putP
      rw [if_neg h1, this]
      rfl
/-! ### sorted -/
theorem sorted_of {ps : List P} {ds : List PyData} (h1 : toPys ps = some ds) (h2 : alikeB ds = true) (h3 : sortableB ds = true) (h4 : ps.length ≤ 100000) (h5 : ∀ d ∈ ds, d.depth ≤ 64) : bSorted [.lst ps] = some (.lst (ps.mergeSort (PySem.W.dataLe false pyOf))) := by
  unfold bSorted
  simp only [h1]
  rw [if_pos ⟨h2, h3, h4, List.all_eq_true.mpr fun d hd => decide_eq_true (h5 d hd)⟩]
theorem alike_strs : ∀ (xs ys : List Str), PySem.W.alikeAll (xs.map .str) (ys.map .str) = true
  | [], _ => by simp [PySem.W.alikeAll]
  | x :: xs, [] => by simp [PySem.W.alikeAll]
  | x :: xs, y :: ys => by simp [PySem.W.alikeAll, PySem.W.alike, alike_strs xs ys]
theorem toPys_strs : ∀ xs : List Str, toPys (xs.map .str) = some (xs.map .str)
  | [] => rfl
  | x :: xs => by simp [toPys, toPy, toPys_strs xs]
theorem sorted_strs {xs : List Str} (h : xs.length ≤ 100000) : ∃ ys : List Str, bSorted [.lst (xs.map .str)] = some (.lst (ys.map .str)) ∧ ys.Perm xs := by
  have e := sorted_of (toPys_strs xs) (by
    unfold alikeB
    simp only [List.all_eq_true, List.mem_map]
    rintro _ ⟨x, _, rfl⟩ _ ⟨y, _, rfl⟩
    simp [PySem.W.alike]) (by
    unfold sortableB
    rw [Bool.or_eq_true]
    right
    simp only [List.all_eq_true, List.mem_map]
    rintro _ ⟨x, _, rfl⟩
    rfl) (by simpa using h) (by
    simp only [List.mem_map]
    rintro _ ⟨x, _, rfl⟩
    exact Nat.zero_le _)
  have hp := List.mergeSort_perm (xs.map P.str) (PySem.W.dataLe false pyOf)
  have back : ∀ zs : List P, (∀ z ∈ zs, ∃ x : Str, z = .str x) → ∃ ys : List Str, zs = ys.map .str := by
    intro zs
    induction zs with
    | nil => exact fun _ => ⟨[], rfl⟩
    | cons z zs ih =>
      intro h
      obtain ⟨x, rfl⟩ := h z (List.mem_cons_self ..)
      obtain ⟨ys, rfl⟩ := ih fun w hw => h w (List.mem_cons_of_mem _ hw)
      exact ⟨x :: ys, rfl⟩
  obtain ⟨ys, hy⟩ := back _ fun z hz => by
    obtain ⟨x, _, e⟩ := List.mem_map.mp (hp.mem_iff.mp hz)
    exact ⟨x, e.symm⟩
  refine ⟨ys, by rw [e, hy], ?_⟩
  rw [hy] at hp
  have := hp.map fun p => match p with | .str x => x | _ => ""
  have e2 : ∀ zs : List Str, (zs.map P.str).map (fun p => match p with | .str x => x | _ => "") = zs := fun zs => by
    rw [List.map_map]
    exact List.map_id zs
  rw [e2, e2] at this
  exact this
end DL

/-! DLo: the source of the laws' draws. -/
namespace DL
open PySem PySem.Spec PyProof.Rows L2

theorem mod_ok {i j : Int} (h : 0 < j) : pMod (.int i) (.int j) = some (.int (i % j)) := if_pos h
theorem fdiv_ok {i j : Int} (h : 0 < j) (h2 : j < 1073741824) : pFdiv (.int i) (.int j) = some (.int (i / j)) := if_pos ⟨h, h2⟩
theorem pow_ok {i j : Int} (h : 0 ≤ j) (h2 : j ≤ 1000000) (h3 : i.natAbs < 2 ^ 64) : pPow (.int i) (.int j) = some (.int (i ^ j.toNat)) := if_pos ⟨h, h2, h3⟩
theorem mul_ok {i j : Int} (h : -(2 ^ 64) < i) (h2 : i < 2 ^ 64) : pMul (.int i) (.int j) = some (.int (i * j)) := by
  show (if -(2 ^ 64) < j ∧ j < 2 ^ 64 then some (P.int (i * j)) else if -(2 ^ 64) < i ∧ i < 2 ^ 64 then some (P.int (i * j)) else none) = _
  split
  · rfl
  · exact if_pos ⟨h, h2⟩
theorem add_ok {i j : Int} : pAdd (.int i) (.int j) = some (.int (i + j)) := rfl
theorem dt {p : Prop} [Decidable p] {A B : Prop} (h1 : p → A) (h2 : ¬ p → B) : (decide p = true → A) ∧ (decide p = false → B) := ⟨fun h => h1 (of_decide_eq_true h), fun h => h2 (of_decide_eq_false h)⟩
theorem ff {A B : Prop} (h : B) : (false = true → A) ∧ (false = false → B) := ⟨(fun h => nomatch h), fun _ => h⟩
theorem tt {A B : Prop} (h : A) : (true = true → A) ∧ (true = false → B) := ⟨fun _ => h, (fun h => nomatch h)⟩
theorem nff {A B : Prop} (h : A) : ((!false) = true → A) ∧ ((!false) = false → B) := ⟨fun _ => h, (fun h => nomatch h)⟩
theorem ntt {A B : Prop} (h : B) : ((!true) = true → A) ∧ ((!true) = false → B) := ⟨(fun h => nomatch h), fun _ => h⟩
theorem ndt {p : Prop} [Decidable p] {A B : Prop} (h1 : ¬ p → A) (h2 : p → B) : ((!decide p) = true → A) ∧ ((!decide p) = false → B) := ⟨fun h => h1 (by simpa using h), fun h => h2 (by simpa using h)⟩
theorem bt {b : Bool} {p : Prop} {A B : Prop} (hb : b = true ↔ p) (h1 : p → A) (h2 : ¬ p → B) : (b = true → A) ∧ (b = false → B) := ⟨fun h => h1 (hb.mp h), fun h => h2 fun q => by rw [hb.mpr q] at h; cases h⟩
theorem at_nn {α : Type} {xs : List α} {i : Int} {j : Nat} {a : α} (hi : i = j) (h : xs[j]? = some a) : atI xs i = some a := by
  have hl := lt_of_at h
  unfold atI ixN
  subst hi
  rw [if_pos (by omega), if_pos (by omega)]
  exact h
/-! ### the store of a def: the source, what stood before, what the def made -/
def bx (T : Sto) (j : Nat) : Nat := T.length + 1 + j
section
variable {o : Ob} {T B : Sto} {j : Nat} {z : Ob}
theorem bx_get : (o :: (T ++ B))[bx T j]? = B[j]? := by
  unfold bx
  rw [show T.length + 1 + j = (T.length + j) + 1 by omega, List.getElem?_cons_succ, List.getElem?_append_right (by omega)]
  congr 1
  omega
theorem bx_set : (o :: (T ++ B)).set (bx T j) z = o :: (T ++ B.set j z) := by
  unfold bx
  have e : ∀ (A : Sto), (A ++ B).set (A.length + j) z = A ++ B.set j z := fun A => by
    induction A with
    | nil => simp
    | cons a A ih =>
      have e2 : (a :: A).length + j = (A.length + j) + 1 := by
        rw [List.length_cons]
        omega
      rw [e2, List.cons_append, List.set_cons_succ, ih, List.cons_append]
  rw [show T.length + 1 + j = (T.length + j) + 1 by omega, List.set_cons_succ, e]
theorem bx_len : (o :: (T ++ B)).length = bx T B.length := by
  unfold bx
  simp
  omega
theorem bx_put : (o :: (T ++ B)) ++ [z] = o :: (T ++ (B ++ [z])) := by simp
theorem bx_take {T2 : Sto} (h : (o :: T).length = T2.length + 1) : (o :: (T ++ B)).take (T2.length + 1) = o :: T := by
  rw [List.length_cons] at h
  rw [List.take_succ_cons, ← Nat.add_right_cancel h, List.take_left]
theorem deP_bx {ps : List P} (h : B[j]? = some (.lst ps)) : deP (o :: (T ++ B)) (.r (bx T j)) = some (.lst ps) := by
  show (match (o :: (T ++ B))[bx T j]? with
    | some (Ob.lst ps) => some (P.lst ps)
    | some (Ob.dic ks ps) => some (P.dic ks ps)
    | none => none) = _
  rw [bx_get, h]
theorem seq_bx {ps : List P} (h : B[j]? = some (.lst ps)) : seqOf (.r (bx T j)) (o :: (T ++ B)) = some (ps, some (bx T j)) := by
  show (match (o :: (T ++ B))[bx T j]? with
    | some (.lst ps) => some (ps, some (bx T j))
    | _ => none) = _
  rw [bx_get, h]
theorem own_bx {ps : List P} (h : B[j]? = some (.lst ps)) : OwnOk (some (bx T j)) ps (o :: (T ++ B)) := fun r e => by
  cases e
  rw [bx_get, h]
variable {Q : D → Sto → Prop} {ga : FA} {env : Dnv}
theorem c_lstB {ds : List D} {ps : List P} (h : vals ds = some ps) (hl : ps.length ≤ 100000) (q : Q (.r (bx T B.length)) (o :: (T ++ (B ++ [.lst ps])))) : (lstBE ds (o :: (T ++ B))).P Q := by
  refine p_lstBE h hl ?_
  rw [bx_put, bx_len]
  exact q
theorem c_cbB {op : List P → Option P} {ds : List D} {ps qs : List P} (h1 : deAll (o :: (T ++ B)) ds = some ps) (h2 : op ps = some (.lst qs)) (q : Q (.r (bx T B.length)) (o :: (T ++ (B ++ [.lst qs])))) : (cbBE op ds (o :: (T ++ B))).P Q := by
  refine p_cbBE h1 h2 ?_
  rw [bx_put, bx_len]
  exact q
theorem c_mt {op : MOp} {i : Nat} {ps : List P} (h : env[i]? = some (some (.r (bx T j)))) (h1 : B[j]? = some (.lst ps)) (q : (ga env (o :: (T ++ B))).P fun ds S1 => (mtE op (bx T j) ds S1).P Q) : (fMt op (fVar i) ga env (o :: (T ++ B))).P Q :=
  p_mt h (by rw [bx_get]; exact h1) q
theorem c_mtE {op : MOp} {ds : List D} {ps qs : List P} {u : P} (h1 : B[j]? = some (.lst ps)) (h2 : op ps ds (o :: (T ++ B)) = some (u, qs)) (q : Q (.v u) (o :: (T ++ B.set j (.lst qs)))) : (mtE op (bx T j) ds (o :: (T ++ B))).P Q := by
  refine p_mtE (by rw [bx_get]; exact h1) h2 ?_
  rw [bx_set]
  exact q
def ivE (d : D) (S : Sto) : Oc (List P × Option Nat) := match seqOf d S with
  | some r => .ok r S
  | none => .bad
theorem c_iv {f : FE} {Qi : List P × Option Nat → Sto → Prop} {S : Sto} (h : (f env S).P fun d S1 => (ivE d S1).P Qi) : (iVal f env S).P Qi := P_bind h
theorem c_ivE {Qi : List P × Option Nat → Sto → Prop} {S : Sto} {d : D} {r : List P × Option Nat} (h : seqOf d S = some r) (q : Qi r S) : (ivE d S).P Qi := by
  unfold ivE
  rw [h]
  exact q
def rgE (ds : List D) (S : Sto) : Oc (List P × Option Nat) := match ds with
  | [.v (.int n)] => if -1000000 ≤ n ∧ n ≤ 1000000 then .ok (rgP n.toNat, none) S else .bad
  | _ => .bad
theorem c_rg {Qi : List P × Option Nat → Sto → Prop} {S : Sto} (h : (ga env S).P fun ds S1 => (rgE ds S1).P Qi) : (iR1 ga env S).P Qi := p_iR1 (h.mono fun ds S1 h => by
  unfold rgE at h
  split at h
  · rename_i n
    split at h
    · rename_i hn
      exact ⟨n, rfl, hn.1, hn.2, h⟩
    · exact h.elim
  · exact h.elim)
theorem c_rgE {Qi : List P × Option Nat → Sto → Prop} {S : Sto} {n : Int} (h1 : -1000000 ≤ n) (h2 : n ≤ 1000000) (q : Qi (rgP n.toNat, none) S) : (rgE [.v (.int n)] S).P Qi := by
  show (if _ then _ else _ : Oc (List P × Option Nat)).P Qi
  rw [if_pos ⟨h1, h2⟩]
  exact q
theorem c_oAt {f : FE} {Qo : Option Int → Sto → Prop} {S : Sto} (h : (f env S).P fun d S1 => (atE d S1).P Qo) : (oAt f env S).P Qo := by
  unfold oAt
  exact P_bind (h.mono fun d S1 h => h)
theorem c_atE {Qo : Option Int → Sto → Prop} {S : Sto} {i : Int} (q : Qo (some i) S) : (atE (.v (.int i)) S).P Qo := q
theorem cut_map {α β : Type} (f : α → β) (xs : List α) (lo hi : Option Int) : cutL (xs.map f) lo hi = (cutL xs lo hi).map f := by
  unfold cutL
  rw [List.map_take, List.map_drop, List.length_map]
theorem cut_mem {α : Type} {xs : List α} {lo hi : Option Int} {x : α} (h : x ∈ cutL xs lo hi) : x ∈ xs := List.mem_of_mem_drop (List.mem_of_mem_take h)
theorem cut_len {α : Type} {xs : List α} {lo hi : Option Int} : (cutL xs lo hi).length ≤ xs.length := by
  unfold cutL
  rw [List.length_take, List.length_drop]
  omega
/-- a def over a store -/
theorem p_runC {n : Nat} {b : FS} {ds : List D} (h : (b (startD n ds) (o :: (T ++ []))).F ⟨fun _ S1 => (closeD false (T.length + 1) (.v .non) S1).P Q, fun d S1 => (closeD false (T.length + 1) d S1).P Q, fun _ _ => False, fun _ _ => False⟩) : (runF n false b ds (o :: T)).P Q := by
  rw [List.append_nil] at h
  exact p_run h
theorem c_ret {p : P} (h : Q (.v p) (o :: T)) : (closeD false (T.length + 1) (.v p) (o :: (T ++ B))).P Q := by
  refine p_closeV ?_
  rw [bx_take rfl]
  exact h
theorem c_retL {ps : List P} (h1 : B[j]? = some (.lst ps)) (h : Q (.v (.lst ps)) (o :: T)) : (closeD false (T.length + 1) (.r (bx T j)) (o :: (T ++ B))).P Q := by
  refine p_closeR (ps := ps) (by unfold bx; omega) (by rw [bx_get]; exact h1) ?_
  rw [bx_take rfl]
  exact h
end
theorem a_of {S : Sto} {d : D} {p : P} {ds : List D} {ps : List P} (h1 : deP S d = some p) (h2 : deAll S ds = some ps) : deAll S (d :: ds) = some (p :: ps) := a_cons h1 h2
/-- the running of a text on data -/
local macro_rules | `(tactic| trivial) => `(tactic| first
  | with_reducible refine s_Seq ?_
  | with_reducible refine s_Set ?_
  | with_reducible refine s_If ?_
  | with_reducible refine s_Drop ?_
  | with_reducible refine s_Ret ?_
  | with_reducible refine s_Par ?_
  | with_reducible refine s_For ?_
  | with_reducible refine s_Nx ?_
  | with_reducible refine p_f2 ?_
  | ((with_reducible apply p_var); (exact rfl))
  | with_reducible refine p_c ?_
  | with_reducible refine p_gNm ?_
  | with_reducible refine p_gSb ?_
  | with_reducible refine p_tru ?_
  | with_reducible refine p_and ?_
  | with_reducible refine p_or ?_
  | with_reducible refine p_not ?_
  | with_reducible refine p_yes ?_
  | with_reducible refine p_ite ?_
  | with_reducible refine p_cons ?_
  | with_reducible refine p_nil ?_
  | with_reducible refine p_cb ?_
  | with_reducible refine p_cbB ?_
  | with_reducible refine p_tup ?_
  | with_reducible refine p_lst ?_
  | with_reducible refine p_lstB ?_
  | with_reducible refine p_lc ?_
  | with_reducible refine p_dc ?_
  | with_reducible refine p_sl ?_
  | with_reducible refine p_oNo ?_
  | with_reducible refine c_oAt ?_
  | with_reducible refine c_atE ?_
  | ((with_reducible apply p_slE); (first | exact rfl | exact deP_bx rfl); (exact rfl))
  | with_reducible refine p_call ?_
  | with_reducible refine p_callN ?_
  | with_reducible refine s_ParE ?_
  | with_reducible refine c_iv ?_
  | with_reducible refine c_rg ?_
  | ((with_reducible apply c_mt); (exact rfl); (exact rfl))
  | with_reducible refine c_ret ?_
  | with_reducible refine p_closeV ?_
  | with_reducible refine p_closeK ?_
  | with_reducible refine ff ?_
  | with_reducible refine tt ?_
  | with_reducible refine nff ?_
  | with_reducible refine ntt ?_
  | with_reducible refine ndt (fun _ => ?_) (fun _ => ?_)
  | with_reducible refine dt (fun _ => ?_) (fun _ => ?_)
  | ((with_reducible apply p_l2); (first | exact rfl | exact deP_bx rfl); (first | exact rfl | exact deP_bx rfl); (first | assumption | exact rfl | exact mod_ok (by omega) | exact fdiv_ok (by omega) (by omega) | exact mul_ok (by omega) (by omega) | exact pow_ok (by omega) (by omega) (by omega)))
  | ((with_reducible apply p_truE); (first | exact rfl | exact deP_bx rfl); (exact rfl))
  | ((with_reducible apply p_cbE); (repeat (first | exact a_nil | (apply a_cons; first | exact rfl | exact deP_bx rfl))); (first | assumption | exact rfl))
  | ((with_reducible apply c_cbB); (repeat (first | exact a_nil | (apply a_cons; first | exact rfl | exact deP_bx rfl))); (first | assumption | exact rfl))
  | ((with_reducible apply p_lstE); (repeat (first | exact v_nil | apply v_cons)); (focus (show _ ≤ (100000 : Nat); first | decide | (simp; done) | (simp; omega))))
  | ((with_reducible apply p_tupE); (repeat (first | exact v_nil | apply v_cons)); (focus (show _ ≤ (100000 : Nat); first | decide | (simp; done) | (simp; omega))))
  | ((with_reducible apply c_lstB); (repeat (first | exact v_nil | apply v_cons)); (focus (show _ ≤ (100000 : Nat); first | decide | (simp; done) | (simp; omega))))
  | ((with_reducible apply c_ivE); (first | exact rfl | exact seq_bx rfl))
  | ((with_reducible apply p_sbL); (exact rfl); (exact rfl)))

/-- the law's source: its numbers, its place, what is left of a number, how many draws -/
structure Src where
  ns : List Int
  at' : Int
  c : Int
  k : Int
def src (s : Src) : Ob := .lst [.lst (s.ns.map P.int), .int s.at', .int s.c, .int s.k]
structure SrcOk (b : Int) (s : Src) : Prop where
  nn : 0 ≤ s.k
  le : s.k ≤ b
  ln : s.ns.length ≤ 63
def drawB (c0 m1 a1 b1 m2 a2 m3 q : Int) : FS :=
 (fSeq (fSet (f2 pAdd (f2 pIx (fVar 0) (fC (.v (.int 3)))) (fC (.v (.int 1)))) (gSb (fVar 0) (fC (.v (.int 3)))))
 (fSeq (fIf (fTru (f2 pGt (f2 pIx (fVar 0) (fC (.v (.int 2)))) (fC (.v (.int 0)))))
  (fSeq (fSet (f2 pMod (f2 pIx (fVar 0) (fC (.v (.int 2)))) (fVar 1)) (gNm 2))
  (fSeq (fSet (f2 pFdiv (f2 pIx (fVar 0) (fC (.v (.int 2)))) (fVar 1)) (gSb (fVar 0) (fC (.v (.int 2)))))
  (fRet (fVar 2))))
  fNext)
 (fSeq (fSet (f2 pIx (fVar 0) (fC (.v (.int 1)))) (gNm 3))
 (fSeq (fSet (f2 pAdd (fVar 3) (fC (.v (.int 1)))) (gSb (fVar 0) (fC (.v (.int 1)))))
 (fSeq (fSet (fIte (fTru (f2 pNe (f2 pIx (fVar 0) (fC (.v (.int 0)))) (fLst fNil))) (f2 pIx (f2 pIx (fVar 0) (fC (.v (.int 0)))) (f2 pMod (fVar 3) (fCb bLen (fCons (f2 pIx (fVar 0) (fC (.v (.int 0)))) fNil)))) (fC (.v (.int c0)))) (gNm 4))
 (fSeq (fIf (fAnd (fTru (f2 pGe (fVar 4) (f2 pPow (fC (.v (.int 10))) (fC (.v (.int 18)))))) (fTru (f2 pLt (fVar 3) (fCb bLen (fCons (f2 pIx (fVar 0) (fC (.v (.int 0)))) fNil)))))
  (fSeq (fSet (f2 pFdiv (fVar 4) (fVar 1)) (gSb (fVar 0) (fC (.v (.int 2)))))
  (fRet (f2 pMod (fVar 4) (fVar 1))))
  fNext)
 (fSeq (fSet (f2 pMod (f2 pPow (f2 pAdd (f2 pAdd (f2 pMod (fVar 4) (fC (.v (.int m1)))) (f2 pMul (fC (.v (.int a1))) (f2 pIx (fVar 0) (fC (.v (.int 3)))))) (fC (.v (.int b1)))) (fC (.v (.int 5)))) (fC (.v (.int m2)))) (gNm 5))
 (fRet (f2 pMod (f2 pFdiv (f2 pMod (f2 pPow (f2 pAdd (fVar 5) (f2 pMul (fC (.v (.int a2))) (f2 pIx (fVar 0) (fC (.v (.int 3)))))) (fC (.v (.int 5)))) (fC (.v (.int m3)))) (fC (.v (.int q)))) (fVar 1))))))))))
def drawF (c0 m1 a1 b1 m2 a2 m3 q : Int) : FF := runF 6 false (drawB c0 m1 a1 b1 m2 a2 m3 q)
structure DrC (m1 a1 b1 m2 a2 m3 q : Int) : Prop where
  h1 : 0 < m1 ∧ m1 < 4294967296
  h2 : 0 ≤ a1 ∧ a1 ≤ 1000000
  h3 : 0 ≤ b1 ∧ b1 ≤ 1000
  h4 : 0 < m2 ∧ m2 < 4294967296
  h5 : 0 ≤ a2 ∧ a2 ≤ 1000000
  h6 : 0 < m3
  h7 : 0 < q ∧ q < 1000000
theorem draw_raw {c0 m1 a1 b1 m2 a2 m3 q : Int} (C : DrC m1 a1 b1 m2 a2 m3 q) {n at' c k : Int} {ns : List Int} {T : Sto} (hk : 0 ≤ k) (hb : k ≤ 1000000) (h0 : 0 < n) (hn : n < 1000000) (hl : ns.length ≤ 63) :
    (drawF c0 m1 a1 b1 m2 a2 m3 q [.r 0, .v (.int n)] (.lst [.lst (ns.map P.int), .int at', .int c, .int k] :: T)).P fun d S => ∃ v at2 c2, d = .v (.int v) ∧ S = .lst [.lst (ns.map P.int), .int at2, .int c2, .int (k + 1)] :: T ∧ 0 ≤ v ∧ v < n := by
  obtain ⟨C1, C2, C3, C4, C5, C6, C7⟩ := C
  have fin : ∀ {at2 c2 v : Int} {S1 : Sto}, S1.take (T.length + 1) = .lst [.lst (ns.map P.int), .int at2, .int c2, .int (k + 1)] :: T → 0 ≤ v → v < n →
      ∃ v2 at3 c3, D.v (.int v) = .v (.int v2) ∧ S1.take ((Ob.lst [.lst (ns.map P.int), .int at', .int c, .int k] :: T).length) = .lst [.lst (ns.map P.int), .int at3, .int c3, .int (k + 1)] :: T ∧ 0 ≤ v2 ∧ v2 < n :=
    fun h1 h2 h3 => ⟨_, _, _, rfl, h1, h2, h3⟩
  have hlen : (List.map P.int ns).length = ns.length := List.length_map ..
  refine p_run ?_
  show (drawB _ _ _ _ _ _ _ _ [some (.r 0), some (.v (.int n)), none, none, none, none] _).F _
  unfold drawB
  repeat' trivial
  · exact fin (by simp; exact ⟨rfl, rfl⟩) (Int.emod_nonneg _ (by omega)) (Int.emod_lt_of_pos _ h0)
  obtain ⟨bb, e1, e2⟩ := ne_nil (ps := ns.map P.int) (n := 0) (fun q hq => by
      obtain ⟨i, _, rfl⟩ := List.mem_map.mp hq
      exact pl_int) (by omega)
  refine p_l2 rfl rfl e1 ?_
  have tailP : ∀ i : Int, 0 ≤ i % m1 := fun i => Int.emod_nonneg _ (by omega)
  have tailQ : ∀ i : Int, i % m1 < m1 := fun i => Int.emod_lt_of_pos _ (by omega)
  have tailR : ∀ i : Int, 0 ≤ i % m2 := fun i => Int.emod_nonneg _ (by omega)
  have tailS : ∀ i : Int, i % m2 < m2 := fun i => Int.emod_lt_of_pos _ (by omega)
  have prodA : 0 ≤ a1 * (k + 1) ∧ a1 * (k + 1) ≤ 1000000 * 1000001 := ⟨Int.mul_nonneg (by omega) (by omega), Int.le_trans (Int.mul_le_mul_of_nonneg_right C2.2 (by omega)) (Int.mul_le_mul_of_nonneg_left (by omega) (by omega))⟩
  have prodB : 0 ≤ a2 * (k + 1) ∧ a2 * (k + 1) ≤ 1000000 * 1000001 := ⟨Int.mul_nonneg (by omega) (by omega), Int.le_trans (Int.mul_le_mul_of_nonneg_right C5.2 (by omega)) (Int.mul_le_mul_of_nonneg_left (by omega) (by omega))⟩
  have nb : ∀ i : Int, (i % m2 + a2 * (k + 1)).natAbs < 2 ^ 64 := fun i => by
    have := tailR i
    have := tailS i
    omega
  repeat' trivial
  refine bt e2 (fun hne => ?_) fun hne => ?_
  · have hz : 0 < ns.length := by
      cases ns with
      | nil => exact absurd rfl hne
      | cons x r => exact Nat.succ_pos _
    have hi : ∃ x : Int, pIx (.lst (ns.map P.int)) (.int (at' % ((ns.map P.int).length : Int))) = some (.int x) := by
      rw [hlen]
      have h1 := Int.emod_nonneg at' (show (ns.length : Int) ≠ 0 by omega)
      have h2 := Int.emod_lt_of_pos at' (show (0 : Int) < (ns.length : Int) by omega)
      have hj : (at' % (ns.length : Int)).toNat < ns.length := by omega
      exact ⟨ns[(at' % (ns.length : Int)).toNat], at_nn (j := (at' % (ns.length : Int)).toNat) (by omega) (by rw [List.getElem?_map, List.getElem?_eq_getElem hj]; rfl)⟩
    obtain ⟨cell, hi⟩ := hi
    have := tailP cell
    have := tailQ cell
    repeat' trivial
    all_goals first
      | exact fin (by simp; exact ⟨rfl, rfl⟩) (Int.emod_nonneg _ (by omega)) (Int.emod_lt_of_pos _ h0)
      | (refine p_l2 rfl rfl (pow_ok (by decide) (by decide) (nb _)) ?_
         repeat' trivial
         exact fin (by simp; exact ⟨rfl, rfl⟩) (Int.emod_nonneg _ (by omega)) (Int.emod_lt_of_pos _ h0))
  · have := tailP c0
    have := tailQ c0
    repeat' trivial
    all_goals first
      | exact fin (by simp; exact ⟨rfl, rfl⟩) (Int.emod_nonneg _ (by omega)) (Int.emod_lt_of_pos _ h0)
      | (refine p_l2 rfl rfl (pow_ok (by decide) (by decide) (nb _)) ?_
         repeat' trivial
         exact fin (by simp; exact ⟨rfl, rfl⟩) (Int.emod_nonneg _ (by omega)) (Int.emod_lt_of_pos _ h0))
end DL

/-! DLp: lists of texts that change. -/
namespace DL
open PySem PySem.Spec PyProof.Rows L2

theorem erase_perm {α : Type} : ∀ {xs : List α} {i : Nat} (h : i < xs.length), (xs[i] :: xs.eraseIdx i).Perm xs
  | [], i, h => by simp at h
  | x :: xs, 0, _ => List.Perm.refl _
  | x :: xs, i + 1, h => by
    have h' : i < xs.length := by simpa using h
    show ((xs[i]) :: x :: xs.eraseIdx i).Perm (x :: xs)
    exact (List.Perm.swap x xs[i] _).trans ((erase_perm h').cons x)
theorem map_erase {α β : Type} (f : α → β) : ∀ (xs : List α) (i : Nat), (xs.map f).eraseIdx i = (xs.eraseIdx i).map f
  | [], _ => by simp
  | x :: xs, 0 => rfl
  | x :: xs, i + 1 => by
    show f x :: (xs.map f).eraseIdx i = f x :: (xs.eraseIdx i).map f
    rw [map_erase f xs i]
theorem popAt_ok {xs : List Str} {S : Sto} {v : Int} (h0 : 0 ≤ v) (h1 : v < (xs.map P.str).length) (hl : xs.length ≤ 100000) : ∃ x, mPopAt (xs.map P.str) [.v (.int v)] S = some (.str x, (xs.eraseIdx v.toNat).map P.str) ∧ (x :: xs.eraseIdx v.toNat).Perm xs := by
  rw [List.length_map] at h1
  have hj : v.toNat < xs.length := by omega
  refine ⟨xs[v.toNat], ?_, erase_perm hj⟩
  have e1 : ixN (xs.map P.str).length v = some v.toNat := by
    unfold ixN
    rw [if_pos h0, List.length_map, if_pos h1]
  have e2 : (xs.map P.str)[v.toNat]? = some (.str xs[v.toNat]) := by
    rw [List.getElem?_map, List.getElem?_eq_getElem hj]
    rfl
  unfold mPopAt
  simp only []
  rw [if_pos (by omega), e1]
  simp only []
  rw [e2]
  simp only []
  rw [map_erase]
theorem app_ok {ps : List P} {S : Sto} {p : P} (hl : ps.length < 100000) : mAppend ps [.v p] S = some (.non, ps ++ [p]) := if_pos hl
theorem ins_ok {xs : List Str} {S : Sto} {v : Int} {x : Str} (h0 : 0 ≤ v) (h1 : v ≤ xs.length) (hl : xs.length < 10000) : ∃ ys : List Str, mInsert (xs.map P.str) [.v (.int v), .v (.str x)] S = some (.non, ys.map P.str) ∧ ys.Perm (x :: xs) := by
  refine ⟨xs.take v.toNat ++ [x] ++ xs.drop v.toNat, ?_, ?_⟩
  · have e : mInsert (xs.map P.str) [.v (.int v), .v (.str x)] S = some (.non, (xs.map P.str).take v.toNat ++ [.str x] ++ (xs.map P.str).drop v.toNat) := if_pos ⟨by rw [List.length_map]; omega, h0, by omega⟩
    rw [e]
    simp [List.map_take, List.map_drop]
  · have e : xs.take v.toNat ++ [x] ++ xs.drop v.toNat = xs.take v.toNat ++ x :: xs.drop v.toNat := by simp
    rw [e]
    refine List.perm_middle.trans ?_
    rw [List.take_append_drop]
end DL

/-! DLq: dict displays, lists of ranges. -/
namespace DL
open PySem PySem.Spec PyProof.Rows L2

abbrev FKs := List (FE × FE)
def kvF : FKs → Dnv → Sto → Oc (List (Key × P))
  | [], _, S => .ok [] S
  | (fk, fv) :: r, env, S => (fk env S).bind fun dk S1 => (fv env S1).bind fun dv S2 => match dk, dv with
    | .v pk, .v pv => match pKey pk with
      | some k => (kvF r env S2).bind fun kvs S3 => .ok ((k, pv) :: kvs) S3
      | none => .bad
    | _, _ => .bad
def mergeP (kvs : List (Key × P)) : List Key × List P := kvs.foldl (fun a kv => putP a.1 a.2 kv.1 kv.2) ([], [])
def fDic (l : FKs) : FE := fun env S => (kvF l env S).bind fun kvs S1 => if kvs.length ≤ 15 then .ok (.v (.dic (mergeP kvs).1 (mergeP kvs).2)) S1 else .bad
def fDicB (l : FKs) : FE := fun env S => (kvF l env S).bind fun kvs S1 => if kvs.length ≤ 15 then .ok (.r S1.length) (S1 ++ [.dic (mergeP kvs).1 (mergeP kvs).2]) else .bad
def trsOf (K : PySem.W.Frag) (l : FKs) : List (TE × TE) := l.map fun p => (TD K p.1, TD K p.2)
section
variable {K : PySem.W.Frag}
theorem kv_ok {σ : L2.St} {env : Dnv} : ∀ {l : FKs} {m : Mp} {H : Hp} {S S' : Sto} {kvs : List (Key × P)} {Q : List (V × V) → Hp → Prop}, Rel K m H S → EnvIs K m (mask m H) σ env → kvF l env S = .ok kvs S' →
    (∀ m' H' vs, Stp m H m' H' → Rel K m' H' S' → IsAll K (mask m' H') (kvs.map (·.2)) vs → Q (((kvs.map (·.1)).zip vs).map fun kv => (kV kv.1, kv.2)) H') → tPairs (trsOf K l) σ H Q
  | [], m, H, S, S', kvs, Q, R, E, e, q => by
    cases e
    exact q m H [] (Stp.refl m H) R rfl
  | (fk, fv) :: r, m, H, S, S', kvs, Q, R, E, e, q => by
    obtain ⟨dk, S1, k1, e2⟩ := Oc.bind_eq e
    obtain ⟨dv, S2, k2, e3⟩ := Oc.bind_eq e2
    refine ⟨m, env, S, R, E, dk, S1, k1, fun x m1 H1 st1 R1 i1 => ⟨m1, env, S1, R1, E.step st1, dv, S2, k2, fun y m2 H2 st2 R2 i2 => ?_⟩⟩
    split at e3
    · rename_i pk pv
      split at e3
      · rename_i k hk
        obtain ⟨kvs', S3, k3, e4⟩ := Oc.bind_eq e3
        cases e4
        refine kv_ok R2 ((E.step st1).step st2) k3 fun m3 H3 vs st3 R3 i3 => ?_
        have ex : x = kV k := pKey_is (isR_val (show Is K (mask m1 H1) pk x from i1)) hk
        rw [ex]
        exact q m3 H3 (y :: vs) ((st1.trans st2).trans st3) R3 ⟨y, vs, rfl, st3.val i2, i3⟩
      · cases e3
    · cases e3
theorem merge_is {G : Hp} : ∀ {kvs : List (Key × P)} {vs : List V} {ks : List Key} {ps : List P} {xs : List V}, IsAll K G (kvs.map (·.2)) vs → ks.length = xs.length → ks.Nodup → IsAll K G ps xs →
    ∃ ys, mergeK (ks.zip xs) ((kvs.map (·.1)).zip vs) = (kvs.foldl (fun a kv => putP a.1 a.2 kv.1 kv.2) (ks, ps)).1.zip ys ∧ (kvs.foldl (fun a kv => putP a.1 a.2 kv.1 kv.2) (ks, ps)).1.length = ys.length ∧ (kvs.foldl (fun a kv => putP a.1 a.2 kv.1 kv.2) (ks, ps)).1.Nodup ∧ IsAll K G (kvs.foldl (fun a kv => putP a.1 a.2 kv.1 kv.2) (ks, ps)).2 ys
  | [], vs, ks, ps, xs, h, h1, h2, h3 => by
    cases h
    exact ⟨xs, rfl, h1, h2, h3⟩
  | (k, p) :: r, vs, ks, ps, xs, h, h1, h2, h3 => by
    obtain ⟨v, us, rfl, h4, h5⟩ := h
    obtain ⟨ys, b1, b2, b3, b4, _⟩ := put_is (k := k) h4 h1 h2 h3
    obtain ⟨zs, c1, c2, c3, c4⟩ := merge_is (kvs := r) h5 b2 b3 b4
    refine ⟨zs, ?_, c2, c3, c4⟩
    refine Eq.trans ?_ c1
    show mergeK (putK (ks.zip xs) k v) ((r.map (·.1)).zip us) = _
    rw [b1]
/-- a hidden object is the store's now -/
theorem Rel.boxO {l h : List Addr} {a : Addr} {H : Hp} {S : Sto} {x : Ob} (R : Rel K ⟨l, a :: h⟩ H S) (ha : a ∉ h) (hx : ∀ m', mask m' H = mask ⟨l, a :: h⟩ H → ObIs K m' H a x) :
    Rel K ⟨l ++ [a], h⟩ H (S ++ [x]) ∧ mask ⟨l ++ [a], h⟩ H = mask ⟨l, a :: h⟩ H := by
  have em : mask ⟨l ++ [a], h⟩ H = mask ⟨l, a :: h⟩ H := by
    funext b
    unfold mask
    have q : (b ∈ l ++ [a] ∨ b ∈ h) ↔ (b ∈ l ∨ b ∈ a :: h) := by
      simp only [List.mem_append, List.mem_cons, List.not_mem_nil, or_false]
      constructor
      · rintro ((z | z) | z)
        · exact .inl z
        · exact .inr (.inl z)
        · exact .inr (.inr z)
      · rintro (z | z | z)
        · exact .inl (.inl z)
        · exact .inl (.inr z)
        · exact .inr z
    by_cases hb : b ∈ l ∨ b ∈ a :: h
    · rw [if_pos (q.mpr hb), if_pos hb]
    · rw [if_neg (fun z => hb (q.mp z)), if_neg hb]
  have hal : a ∉ l := (R.hid a (List.mem_cons_self ..)).1
  have hlen : l.length = S.length := R.len
  refine ⟨⟨by simp [hlen], ?_, fun r b y h1 h2 => ?_, fun b hb => ⟨?_, (R.hid b (List.mem_cons_of_mem _ hb)).2⟩⟩, em⟩
  · show (l ++ [a]).Nodup
    rw [List.nodup_append]
    exact ⟨R.nd, by simp, fun b hb c hc z => by
      simp at hc
      subst hc
      subst z
      exact hal hb⟩
  · have h1' : (l ++ [a])[r]? = some b := h1
    rcases Nat.lt_or_ge r l.length with q | q
    · rw [List.getElem?_append_left q] at h1'
      rw [List.getElem?_append_left (by rw [← hlen]; exact q)] at h2
      have q2 := R.ob r b y h1' h2
      cases y with
      | lst ds =>
        obtain ⟨ys, e, q2⟩ := q2
        exact ⟨ys, e, by rw [em]; exact q2⟩
      | dic ks ds =>
        obtain ⟨ys, e, k1, k2, q2⟩ := q2
        exact ⟨ys, e, k1, k2, by rw [em]; exact q2⟩
    · have e1 : b = a := by
        rw [List.getElem?_append_right q] at h1'
        have := List.mem_of_getElem? h1'
        simpa using this
      subst e1
      rw [List.getElem?_append_right (by rw [← hlen]; exact q)] at h2
      have := List.mem_of_getElem? h2
      simp at this
      subst this
      exact hx _ em
  · intro z
    have z' : b ∈ l ++ [a] := z
    rcases List.mem_append.mp z' with q | q
    · exact (R.hid b (List.mem_cons_of_mem _ hb)).1 q
    · have : b = a := by simpa using q
      exact ha (this ▸ hb)
/-- a display's walk, whatever is done with the dict -/
theorem dic_walk {l : FKs} {σ : L2.St} {H : Hp} {Q : VK} {m : Mp} {env : Dnv} {S S' : Sto} {kvs : List (Key × P)} (R : Rel K m H S) (E : EnvIs K m (mask m H) σ env) (k1 : kvF l env S = .ok kvs S') (hl : kvs.length ≤ 15)
    (q : ∀ p ys l2 H2, p ∉ m.h → Wk m H ⟨l2, p :: m.h⟩ H2 → (∀ b, b ∈ m.h → H2 b = H b) → Rel K ⟨l2, p :: m.h⟩ H2 S' → H2 p = some (.dK ((mergeP kvs).1.zip ys)) → (mergeP kvs).1.length = ys.length → (mergeP kvs).1.Nodup → IsAll K (mask ⟨l2, p :: m.h⟩ H2) (mergeP kvs).2 ys → Q (.ref p) H2) :
    tDisp (trsOf K l) σ H Q := by
  intro p hp
  have Rh := R.hide (o := .dK []) hp
  have emk := mask_hide (m := m) (o := .dK []) hp
  have hpm := R.out hp
  have Eh : EnvIs K (m.hide p) (mask (m.hide p) (upd H p (.dK []))) σ env := by
    rw [emk]
    exact ⟨E.len, fun i d z => by
      obtain ⟨v, h1, h2⟩ := E.get i d z
      exact ⟨v, h1, h2.mono (fun _ _ h => h) (fun _ _ h => h)⟩⟩
  refine kv_ok Rh Eh k1 fun m2 H2 vs st2 R2 i2 => ?_
  have hph : p ∈ m2.h := by rw [st2.hh]; exact List.mem_cons_self ..
  have eD : H2 p = some (.dK []) := by
    rw [st2.hk p (List.mem_cons_self ..)]
    exact upd_same
  have hlen : ((kvs.map (·.1)).zip vs).length ≤ 15 := by
    rw [List.length_zip, List.length_map]
    omega
  refine ⟨eD, (kvs.map (·.1)).zip vs, rfl, hlen, ?_⟩
  obtain ⟨ys, b1, b2, b3, b4⟩ := merge_is (ks := []) (ps := []) (xs := []) i2 rfl List.nodup_nil (show IsAll K _ [] [] from rfl)
  have b1' : mergeK [] ((kvs.map (·.1)).zip vs) = (mergeP kvs).1.zip ys := b1
  rw [b1']
  have R3 := R2.hidden (o := .dK ((mergeP kvs).1.zip ys)) hph
  have em := mask_hid (m := m2) (H := H2) (o := .dK ((mergeP kvs).1.zip ys)) hph
  obtain ⟨l2, h2⟩ := m2
  have hh : h2 = p :: m.h := st2.hh
  subst hh
  refine q p ys l2 _ (fun z => hpm (.inr z)) ⟨fun r a h => st2.ext r a h, fun b o z => ?_⟩ (fun b hb => ?_) R3 upd_same b2 b3 (by rw [em]; exact b4)
  · rw [em]
    exact st2.ex b o (by rw [emk]; exact z)
  · have hne : b ≠ p := fun z => hpm (.inr (z ▸ hb))
    rw [upd_ne hne, st2.hk b (List.mem_cons_of_mem _ hb), upd_ne hne]
theorem dic_val {l : FKs} {σ : L2.St} {H : Hp} {Q : VK} (h : TD K (fDic l) σ H Q) : tDisp (trsOf K l) σ H Q := by
  obtain ⟨m, env, S, R, E, d, S', e1, q⟩ := h
  obtain ⟨kvs, S1, k1, e2⟩ := Oc.bind_eq e1
  split at e2
  · rename_i hl
    cases e2
    refine dic_walk R E k1 hl fun p ys l2 H2 hp w hk R2 e2 hl2 hn2 i2 => ?_
    obtain ⟨R3, ex3⟩ := R2.show' hp
    have hpl := (R2.hid p (List.mem_cons_self ..)).1
    refine q (.ref p) ⟨l2, m.h⟩ H2 ⟨w.ext, fun b o z => ex3 b o (w.ex b o z), rfl, hk⟩ R3 ⟨p, ys, rfl, ?_, hl2, hn2, IsAll.mono ex3 _ _ i2⟩
    exact (mask_out (m := ⟨l2, m.h⟩) (fun z => z.elim (fun q => hpl q) (fun q => hp q))).trans e2
  · cases e2
theorem dic_box {l : FKs} {σ : L2.St} {H : Hp} {Q : VK} (h : TD K (fDicB l) σ H Q) : tDisp (trsOf K l) σ H Q := by
  obtain ⟨m, env, S, R, E, d, S', e1, q⟩ := h
  obtain ⟨kvs, S1, k1, e2⟩ := Oc.bind_eq e1
  split at e2
  · rename_i hl
    cases e2
    refine dic_walk R E k1 hl fun p ys l2 H2 hp w hk R2 e2 hl2 hn2 i2 => ?_
    obtain ⟨R3, em⟩ := R2.boxO (x := .dic (mergeP kvs).1 (mergeP kvs).2) hp fun m' em => ⟨ys, e2, hl2, hn2, by rw [em]; exact i2⟩
    refine q (.ref p) ⟨l2 ++ [p], m.h⟩ H2 ⟨fun r a h => ?_, fun b o z => by rw [em]; exact w.ex b o z, rfl, hk⟩ R3 ⟨p, rfl, ?_⟩
    · have := w.ext r a h
      have hlt : r < l2.length := lt_of_at this
      show (l2 ++ [p])[r]? = some a
      rw [List.getElem?_append_left hlt]
      exact this
    · show (l2 ++ [p])[S1.length]? = some p
      have hlen : l2.length = S1.length := R2.len
      rw [List.getElem?_append_right (by omega), hlen, Nat.sub_self]
      rfl
  · cases e2
end
section
variable {X : Cx} {pos : Pos} {keys : List (Option Expr)} {values : List Expr} {l : FKs}
abbrev PKv (X : Cx) (pos : Pos) (keys : List (Option Expr)) (values : List Expr) (l : FKs) : Prop := PPs X pos keys values (trsOf X.K l)
theorem kv_nil : PKv X pos [] [] [] := pps_nil
theorem kv_cons {k v : Expr} {fk fv : FE} (hk : PEd X k fk) (hv : PEd X v fv) (hr : PKv X pos keys values l) : PKv X pos (some k :: keys) (v :: values) ((fk, fv) :: l) := pps_cons hk hv hr
theorem d_dic (h : PKv X pos keys values l) (hall : keys.all (·.isSome) = true := by rfl) (hl : keys.length = values.length := by rfl) (h0 : keys ≠ [] := by simp) (h15 : keys.length ≤ 15 := by decide) : PEd X (.Dict keys values pos) (fDic l) := pe_weak (pe_disp h hall hl h0 h15) fun _ _ _ => dic_val
theorem d_dicB (h : PKv X pos keys values l) (hall : keys.all (·.isSome) = true := by rfl) (hl : keys.length = values.length := by rfl) (h0 : keys ≠ [] := by simp) (h15 : keys.length ≤ 15 := by decide) : PEd X (.Dict keys values pos) (fDicB l) := pe_weak (pe_disp h hall hl h0 h15) fun _ _ _ => dic_box
def fDic0B : FE := fun _ S => .ok (.r S.length) (S ++ [.dic [] []])
def fDic0 : FE := fun _ S => .ok (.v (.dic [] [])) S
theorem d_dic0B : PEd X (.Dict [] [] pos) fDic0B := pe_weak pe_dnewK fun σ H Q ⟨m, env, S, R, E, d, S', e1, q⟩ => by
  cases e1
  intro p hp
  obtain ⟨R2, st2⟩ := R.alloc (o := .dK []) (x := .dic [] []) hp fun H' st e => ⟨[], e, rfl, List.nodup_nil, rfl⟩
  refine q (.ref p) _ _ st2 R2 ⟨p, rfl, ?_⟩
  show (_ ++ [p])[S.length]? = some p
  rw [List.getElem?_append_right (by rw [R.len]; exact Nat.le_refl _), R.len, Nat.sub_self]
  rfl
theorem d_dic0 : PEd X (.Dict [] [] pos) fDic0 := pe_weak pe_dnewK fun σ H Q ⟨m, env, S, R, E, d, S', e1, q⟩ => by
  cases e1
  intro p hp
  obtain ⟨R2, st2⟩ := R.fresh (o := .dK []) hp
  refine q (.ref p) m _ st2 R2 ⟨p, [], rfl, ?_, rfl, List.nodup_nil, rfl⟩
  rw [mask_upd (R.out hp)]
  exact upd_same
/-! ### list(range(n)) -/
def rgB (op : Bool) (d : D) (S : Sto) : Oc D := match d with
  | .v (.int n) => if -1000000 ≤ n ∧ n ≤ 1000000 then (if op = true then .ok (.r S.length) (S ++ [.lst (rgP n.toNat)]) else .ok (.v (.lst (rgP n.toNat))) S) else .bad
  | _ => .bad
def fRg (op : Bool) (f : FE) : FE := fun env S => (f env S).bind fun d S1 => rgB op d S1
theorem rg_all {K : PySem.W.Frag} {G : Hp} (n : Nat) : IsAll K G (rgP n) ((List.range n).map fun i : Nat => V.int (0 + (i : Nat))) := by
  unfold rgP
  generalize List.range n = is
  induction is with
  | nil => rfl
  | cons i is ih => exact ⟨_, _, rfl, by show V.int (0 + (i : Int)) = V.int (i : Int); rw [Int.zero_add], ih⟩
theorem rg_ok {K : PySem.W.Frag} {op : Bool} {f : FE} {σ : L2.St} {H : Hp} {Q : VK} (h : TD K (fRg op f) σ H Q) : tLstRg (tRg1 (TD K f)) σ H Q := by
  obtain ⟨m, env, S, R, E, d, S', e1, q⟩ := h
  obtain ⟨d1, S1, k1, e2⟩ := Oc.bind_eq e1
  refine ⟨m, env, S, R, E, d1, S1, k1, fun x m1 H1 st1 R1 i1 => ?_⟩
  unfold rgB at e2
  split at e2
  · rename_i n
    split at e2
    · rename_i hn
      refine ⟨n, i1, ⟨by omega, by omega, by omega, by omega, by omega⟩, fun p hp => ?_⟩
      have ev : rgV 0 n = (List.range n.toNat).map fun i : Nat => V.int (0 + (i : Nat)) := by
        unfold rgV
        rw [Int.sub_zero]
      rw [ev]
      split at e2
      · cases e2
        obtain ⟨R2, st2⟩ := R1.alloc (x := .lst (rgP n.toNat)) hp fun H' st e => ⟨_, e, rg_all _⟩
        refine q (.ref p) _ _ (st1.trans st2) R2 ⟨p, rfl, ?_⟩
        show (_ ++ [p])[S1.length]? = some p
        rw [List.getElem?_append_right (by rw [R1.len]; exact Nat.le_refl _), R1.len, Nat.sub_self]
        rfl
      · cases e2
        obtain ⟨R2, st2⟩ := R1.fresh (o := .lst _) hp
        refine q (.ref p) m1 _ (st1.trans st2) R2 ⟨p, _, rfl, ?_, rg_all _⟩
        rw [mask_upd (R1.out hp)]
        exact upd_same
    · cases e2
  · cases e2
theorem d_rg {op : Bool} {f : FE} {a : Expr} {p p2 pos2 : Pos} (hX : SX X) (hm : X.mg "list" = none) (hm2 : X.mg "range" = none) (h : PEd X a f) (hg : Gl X "list" := by rfl) (hg2 : Gl X "range" := by rfl) (na2 : starEach [a] X.env = (false, eval a X.env) :: starEach [] X.env := by rfl)
    (na : starEach [.Call (.Name "range" p2) [a] [] pos2] X.env = (false, eval (.Call (.Name "range" p2) [a] [] pos2) X.env) :: starEach [] X.env := by rfl) : PEd X (.Call (.Name "list" p) [.Call (.Name "range" p2) [a] [] pos2] [] pos) (fRg op f) :=
  pe_weak (pe_listRg hX.calm hg hm (prg_1 hg2 hm2 h na2) na) fun _ _ _ => rg_ok
end
end DL

/-! DLr: comprehensions that only look, that draw; the one sorted list. -/
namespace DL
open PySem PySem.Spec PyProof.Rows L2

section
variable {α : Type} {g : FG} {t : FT} {e : FE} {env : Dnv} {S : Sto} {own : Option Nat} {xs : List α} {f hh : α → P} {Q : List P → Sto → Prop}
/-- a comprehension that changes nothing: a filter and a map -/
theorem lc_pure (q : α → Prop) [DecidablePred q] (ho : OwnOk own (xs.map f) S) (hl : xs.length < 100000)
    (hs : ∀ x ∈ xs, (g (.v (f x)) env S).P fun env1 S1 => (t env1 S1).P fun b S2 => S2 = S ∧ (b = true ↔ q x) ∧ (b = true → (e env1 S).P fun d S3 => S3 = S ∧ d = .v (hh x)))
    (hd : Q ((xs.filter fun x => decide (q x)).map hh) S) : (lcF own (xs.map f) g t e env (xs.map f) S []).P Q := by
  refine p_Lc (fun i S' acc => S' = S ∧ acc = ((xs.take i).filter fun x => decide (q x)).map hh) ⟨rfl, by simp⟩ (fun i S' acc h => by rw [h.1]; exact ho) ?_ ?_
  · rintro i p S' acc hi ⟨rfl, rfl⟩
    rw [List.getElem?_map] at hi
    obtain ⟨x, hx, rfl⟩ := Option.map_eq_some_iff.mp hi
    have hm := List.mem_of_getElem? hx
    have e2 : xs.take (i + 1) = xs.take i ++ [x] := by
      rw [List.take_add_one, hx]
      rfl
    refine ⟨?_, (hs x hm).mono fun env1 S1 h => h.mono fun b S2 h => ?_⟩
    · rw [List.length_map]
      have := List.length_filter_le (fun x => decide (q x)) (xs.take i)
      rw [List.length_take] at this
      omega
    obtain ⟨rfl, h1, h2⟩ := h
    refine ⟨fun hb => (h2 hb).mono fun d S3 h3 => ?_, fun hb => ⟨rfl, ?_⟩⟩
    · obtain ⟨rfl, rfl⟩ := h3
      refine ⟨_, rfl, rfl, ?_⟩
      rw [e2, List.filter_append, List.map_append, List.filter_cons, if_pos (decide_eq_true (h1.mp hb))]
      rfl
    · rw [e2, List.filter_append, List.map_append, List.filter_cons, if_neg (by
        rw [decide_eq_true_eq]
        intro hq
        rw [h1.mpr hq] at hb
        cases hb)]
      simp
  · rintro S' acc ⟨rfl, rfl⟩
    rw [List.length_map, List.take_length]
    exact hd
/-- a comprehension over all items -/
theorem lc_map (ho : OwnOk own (xs.map f) S) (hl : xs.length < 100000)
    (hs : ∀ x ∈ xs, (g (.v (f x)) env S).P fun env1 S1 => (t env1 S1).P fun b S2 => S2 = S ∧ b = true ∧ (e env1 S).P fun d S3 => S3 = S ∧ d = .v (hh x))
    (hd : Q (xs.map hh) S) : (lcF own (xs.map f) g t e env (xs.map f) S []).P Q := by
  refine lc_pure (fun _ => True) ho hl (fun x hx => (hs x hx).mono fun env1 S1 h => h.mono fun b S2 h => ⟨h.1, by simp [h.2.1], fun _ => h.2.2⟩) ?_
  have e : (xs.filter fun _ => decide True) = xs := by simp
  rw [e]
  exact hd
/-- a comprehension that draws: some of the items, in their order -/
theorem lc_some (J : Nat → Sto → Prop) (h0 : J 0 S) (ho : ∀ i S, J i S → OwnOk own (xs.map f) S) (hl : xs.length < 100000)
    (hs : ∀ i x S, xs[i]? = some x → J i S → (g (.v (f x)) env S).P fun env1 S1 => (t env1 S1).P fun b S2 => (b = true → (e env1 S2).P fun d S3 => d = .v (hh x) ∧ J (i + 1) S3) ∧ (b = false → J (i + 1) S2))
    (hd : ∀ (ys : List α) (S : Sto), ys.Sublist xs → J xs.length S → Q (ys.map hh) S) : (lcF own (xs.map f) g t e env (xs.map f) S []).P Q := by
  refine p_Lc (fun i S acc => ∃ ys : List α, acc = ys.map hh ∧ ys.Sublist (xs.take i) ∧ J i S) ⟨[], rfl, List.nil_sublist _, h0⟩ (fun i S acc ⟨_, _, _, h⟩ => ho i S h) ?_ ?_
  · rintro i p S acc hi ⟨ys, rfl, hsub, hJ⟩
    rw [List.getElem?_map] at hi
    obtain ⟨x, hx, rfl⟩ := Option.map_eq_some_iff.mp hi
    have e2 : xs.take (i + 1) = xs.take i ++ [x] := by
      rw [List.take_add_one, hx]
      rfl
    refine ⟨?_, (hs i x S hx hJ).mono fun env1 S1 h => h.mono fun b S2 h => ⟨fun hb => (h.1 hb).mono fun d S3 h3 => ?_, fun hb => ?_⟩⟩
    · rw [List.length_map]
      have := hsub.length_le
      rw [List.length_take] at this
      omega
    · obtain ⟨rfl, h4⟩ := h3
      exact ⟨_, rfl, ys ++ [x], by simp, by rw [e2]; exact hsub.append (List.Sublist.refl _), h4⟩
    · exact ⟨ys, rfl, by rw [e2]; exact hsub.trans (List.sublist_append_left _ _), h.2 hb⟩
  · rintro S acc ⟨ys, rfl, hsub, hJ⟩
    rw [List.length_map] at hsub hJ
    rw [List.take_length] at hsub
    exact hd ys S hsub hJ
end
/-! ### the one sorted list -/
noncomputable def srt (ps : List P) : List P := ps.mergeSort (PySem.W.dataLe false pyOf)
theorem srt_perm (ps : List P) : (srt ps).Perm ps := List.mergeSort_perm ps _
theorem le_total (a b : P) : (PySem.W.dataLe false pyOf a b || PySem.W.dataLe false pyOf b a) = true := Bool.or_eq_true_iff.mpr ((PySem.W.sortLe_total (PyProof.Rows.listOrd itemOrd) false fun b => PySem.W.keyToks (pyOf b)).total a b)
theorem le_trans (a b c : P) (h1 : PySem.W.dataLe false pyOf a b = true) (h2 : PySem.W.dataLe false pyOf b c = true) : PySem.W.dataLe false pyOf a c = true := (PySem.W.sortLe_total (PyProof.Rows.listOrd itemOrd) false fun b => PySem.W.keyToks (pyOf b)).trans a b c h1 h2
theorem srt_sorted (ps : List P) : (srt ps).Pairwise fun a b => PySem.W.dataLe false pyOf a b = true := List.pairwise_mergeSort le_trans le_total ps
/-- data that can be compared, plain -/
def Cmp (ps : List P) : Prop := (∀ p ∈ ps, pl p = true) ∧ ∀ p ∈ ps, ∀ q ∈ ps, PySem.W.alike (pyOf p) (pyOf q) = true
theorem py_of {p : P} (h : pl p = true) : toPy p = some (pyOf p) := by
  obtain ⟨d, h1, _⟩ := pl_py p h
  unfold pyOf
  rw [h1]
  rfl
theorem le_anti {p q : P} (hp : pl p = true) (hq : pl q = true) (ha : PySem.W.alike (pyOf p) (pyOf q) = true) (h1 : PySem.W.dataLe false pyOf p q = true) (h2 : PySem.W.dataLe false pyOf q p = true) : p = q := by
  have k1 : (!PyProof.Rows.lexLt itemOrd (PySem.W.keyToks (pyOf q)) (PySem.W.keyToks (pyOf p))) = true := h1
  have k2 : (!PyProof.Rows.lexLt itemOrd (PySem.W.keyToks (pyOf p)) (PySem.W.keyToks (pyOf q))) = true := h2
  rw [Bool.not_eq_true'] at k1 k2
  have ek : PySem.W.keyToks (pyOf p) = PySem.W.keyToks (pyOf q) := (PyProof.Rows.listOrd itemOrd).total _ _ k2 k1
  have e := pl_eqv p q _ _ hp hq (py_of hp) (py_of hq)
  cases hE : PyData.eqv (pyOf p) (pyOf q) with
  | true => exact e.mp hE
  | false =>
    exfalso
    have := (PySem.W.toks_eqv _ _ ha).2 hE [.inl 0] [.inl 1]
    rw [ek, PySem.W.lex_pre, PyProof.Rows.lex_irrefl] at this
    revert this
    decide
theorem sorted_unique {le : P → P → Bool} : ∀ {xs ys : List P}, xs.Perm ys → xs.Pairwise (fun a b => le a b = true) → ys.Pairwise (fun a b => le a b = true) → (∀ a ∈ xs, ∀ b ∈ xs, le a b = true → le b a = true → a = b) → xs = ys
  | [], ys, h, _, _, _ => by rw [List.nil_perm.mp h]
  | x :: xs, [], h, _, _, _ => by cases h.length_eq
  | x :: xs, y :: ys, h, h1, h2, ha => by
    have hy : y ∈ x :: xs := h.mem_iff.mpr (List.mem_cons_self ..)
    have hx : x ∈ y :: ys := h.mem_iff.mp (List.mem_cons_self ..)
    have e : x = y := by
      rcases List.mem_cons.mp hy with e | hy'
      · exact e.symm
      · rcases List.mem_cons.mp hx with e | hx'
        · exact e
        · exact ha x (List.mem_cons_self ..) y hy ((List.pairwise_cons.mp h1).1 y hy') ((List.pairwise_cons.mp h2).1 x hx')
    subst e
    rw [sorted_unique (xs := xs) (ys := ys) (List.Perm.cons_inv h) (List.pairwise_cons.mp h1).2 (List.pairwise_cons.mp h2).2 fun a hA b hB => ha a (List.mem_cons_of_mem _ hA) b (List.mem_cons_of_mem _ hB)]
theorem srt_eq {ps qs : List P} (h : ps.Perm qs) (hc : Cmp ps) : srt ps = srt qs := by
  refine sorted_unique (le := PySem.W.dataLe false pyOf) (((srt_perm ps).trans h).trans (srt_perm qs).symm) (srt_sorted ps) (srt_sorted qs) fun a ha b hb => ?_
  have ha := (srt_perm ps).mem_iff.mp ha
  have hb := (srt_perm ps).mem_iff.mp hb
  exact le_anti (hc.1 a ha) (hc.1 b hb) (hc.2 a ha b hb)
theorem pyAll_of : ∀ {ps : List P}, (∀ p ∈ ps, pl p = true) → toPys ps = some (ps.map pyOf)
  | [], _ => rfl
  | p :: ps, h => by
    simp [toPys, py_of (h p (List.mem_cons_self ..)), pyAll_of (ps := ps) fun q hq => h q (List.mem_cons_of_mem _ hq)]
/-- tuples of texts, of any lengths but none -/
def stP (xs : List Str) : P := .tup (xs.map P.str)
theorem pl_st {xs : List Str} (h : ∀ x ∈ xs, PyData.strOk x = true) : Pl 1 (stP xs) := pl_tup fun q hq => by
  obtain ⟨x, hx, rfl⟩ := List.mem_map.mp hq
  exact pl_str (h x hx)
theorem py_st (xs : List Str) : pyOf (stP xs) = .tuple (xs.map .str) := by
  unfold pyOf
  rw [show toPy (stP xs) = some (.tuple (xs.map .str)) by simp [stP, toPy, toPys_strs]]
  rfl
theorem cmp_st {xss : List (List Str)} (h : ∀ xs ∈ xss, ∀ x ∈ xs, PyData.strOk x = true) : Cmp (xss.map stP) := ⟨fun p hp => by
    obtain ⟨xs, hx, rfl⟩ := List.mem_map.mp hp
    exact (pl_st (h xs hx)).1, fun p hp q hq => by
    obtain ⟨xs, hx, rfl⟩ := List.mem_map.mp hp
    obtain ⟨ys, hy, rfl⟩ := List.mem_map.mp hq
    rw [py_st, py_st]
    simp [PySem.W.alike, alike_strs]⟩
theorem sorted_st {xss : List (List Str)} (h : ∀ xs ∈ xss, ∀ x ∈ xs, PyData.strOk x = true) (hn : ∀ xs ∈ xss, xs ≠ []) (hl : xss.length ≤ 100000) : bSorted [.lst (xss.map stP)] = some (.lst (srt (xss.map stP))) := by
  have hc := cmp_st h
  refine sorted_of (pyAll_of hc.1) ?_ ?_ (by simpa using hl) ?_
  · unfold alikeB
    simp only [List.all_eq_true, List.mem_map]
    rintro _ ⟨p, hp, rfl⟩ _ ⟨q, hq, rfl⟩
    exact hc.2 p (by simpa using hp) q (by simpa using hq)
  · unfold sortableB
    rw [Bool.or_eq_true]
    left
    simp only [List.all_eq_true, List.mem_map]
    rintro _ ⟨p, ⟨xs, hx, rfl⟩, rfl⟩
    rw [py_st]
  · simp only [List.mem_map]
    rintro _ ⟨p, ⟨xs, hx, rfl⟩, rfl⟩
    rw [py_st]
    have dep : ∀ xs : List Str, PyData.depthAll (xs.map PyData.str) = 0 := fun xs => by
      induction xs with
      | nil => rfl
      | cons x xs ih => simp [PyData.depthAll, PyData.depth, ih]
    show PyData.depthAll _ + 1 ≤ 64
    rw [dep]
    omega
end DL

/-! DLs: constants of the top and defaults that are data. -/
namespace DL
open PySem PySem.Spec PyProof.Rows L2

mutual
/-- the value reads as this data for good -/
def isB (K : PySem.W.Frag) : P → Value → Bool
  | .non, u => (match u with
    | .none => true
    | _ => false)
  | .bl b, u => (match u with
    | .bool c => b == c
    | _ => false)
  | .int i, u => (match u with
    | .int j _ => decide (i = j)
    | _ => false)
  | .str x, u => (match u with
    | .str y _ => decide (x = y)
    | _ => false)
  | .tup ps, u => (match u with
    | .ref a => (match K.lookup a with
      | some ⟨.type c, _, .seq its _, _⟩ => decide (c = "tuple") && (decide (its.size ≤ sizeLine) && isBs K ps its.toList)
      | _ => false)
    | _ => false)
  | _, _ => false
def isBs (K : PySem.W.Frag) : List P → List Value → Bool
  | [], us => (match us with
    | [] => true
    | _ => false)
  | p :: ps, us => (match us with
    | u :: us => isB K p u && isBs K ps us
    | [] => false)
end
mutual
theorem isB_ok {K : PySem.W.Frag} : ∀ (p : P) (u : Value), isB K p u = true → ∃ v, RelV v u ∧ ∀ G, Is K G p v
  | .non, u, h => by
    cases u <;> first | (cases h; done) | exact ⟨.non, rfl, fun _ => rfl⟩
  | .bl b, u, h => by
    cases u <;> first | (cases h; done) | skip
    rename_i c
    have e : b = c := eq_of_beq (show (b == c) = true from h)
    subst e
    exact ⟨.bl b, rfl, fun _ => rfl⟩
  | .int i, u, h => by
    cases u <;> first | (cases h; done) | skip
    rename_i j t
    have e : i = j := of_decide_eq_true h
    subst e
    exact ⟨.int i, ⟨t, rfl⟩, fun _ => rfl⟩
  | .str x, u, h => by
    cases u <;> first | (cases h; done) | skip
    rename_i y t
    have e : x = y := of_decide_eq_true h
    subst e
    exact ⟨.str x, ⟨t, rfl⟩, fun _ => rfl⟩
  | .tup ps, u, h => by
    cases u <;> first | (cases h; done) | skip
    rename_i a
    have h0 : (match K.lookup a with
      | some ⟨.type c, _, .seq its _, _⟩ => decide (c = "tuple") && (decide (its.size ≤ sizeLine) && isBs K ps its.toList)
      | _ => false) = true := h
    cases q : K.lookup a with
    | none => rw [q] at h0; cases h0
    | some o =>
      obtain ⟨oc, od, dt, osl⟩ := o
      rw [q] at h0
      cases oc with
      | type c =>
        cases dt with
        | seq its n =>
          obtain ⟨h1, h2⟩ := Bool.and_eq_true_iff.mp (show (decide (c = "tuple") && (decide (its.size ≤ sizeLine) && isBs K ps its.toList)) = true from h0)
          obtain ⟨h3, h4⟩ := Bool.and_eq_true_iff.mp h2
          obtain ⟨vs, r, hv⟩ := isBs_ok ps its.toList h4
          exact ⟨.ref a, rfl, fun G => ⟨a, vs, rfl, .inr ⟨_, its, n, q, congrArg Value.type (of_decide_eq_true h1), rfl, of_decide_eq_true h3, r⟩, hv G⟩⟩
        | _ => cases h0
      | _ => cases dt <;> cases h0
  | .lst _, _, h => by cases h
  | .frz _, _, h => by cases h
  | .dic _ _, _, h => by cases h
  | .fn _, _, h => by cases h
theorem isBs_ok {K : PySem.W.Frag} : ∀ (ps : List P) (us : List Value), isBs K ps us = true → ∃ vs, Vals vs us ∧ ∀ G, IsAll K G ps vs
  | [], us, h => by
    cases us with
    | nil => exact ⟨[], .nil, fun _ => rfl⟩
    | cons u us => cases h
  | p :: ps, us, h => by
    cases us with
    | nil => cases h
    | cons u us =>
      obtain ⟨h1, h2⟩ := Bool.and_eq_true_iff.mp (show (isB K p u && isBs K ps us) = true from h)
      obtain ⟨v, r, hv⟩ := isB_ok p u h1
      obtain ⟨vs, rs, hvs⟩ := isBs_ok ps us h2
      exact ⟨v :: vs, .cons r rs, fun G => ⟨v, vs, rfl, hv G, hvs G⟩⟩
end
/-! ### where they stand -/
def gvV (x : Str) (K : PySem.W.Frag) : Value := match PySem.W.nsIn K mainGlobals x with
  | some (some u) => u
  | _ => .none
/-- the keyword-only default of a def, if it is an object -/
def kwA (f x : Str) (K : PySem.W.Frag) : Addr := match K.lookup (He.fAd K (f, none)) with
  | some ⟨_, _, .func fd, _⟩ => (match fd.kwdefaults with
    | .ref D => (match PySem.W.nsIn K D x with
      | some (some (.ref a)) => a
      | _ => 0)
    | _ => 0)
  | _ => 0
abbrev CsT := (PySem.W.Frag → Value) × P
/-! ### the hook -/
abbrev AlP : Type := He.AlD × Bool
def obsP (fa : List He.Fa) (fn : List He.DefD) (cs : List CsT) (K : PySem.W.Frag) : AlP := (He.obsD fa fn K, (cs.all fun c => isB K c.2 (c.1 K)) && cs.all fun c => match c.2 with
  | .bl _ => true
  | _ => true)
def SaysP (fa : List He.Fa) (fn : List He.DefD) (cs : List CsT) (K : PySem.W.Frag) : Prop := obsP fa fn cs K = (He.valD fn, true)
def obsPG (n : Nat) (fa : List He.Fa) (fn : List He.DefD) (cs : List CsT) (g : Addr → Option Obj) : AlP := obsP fa fn cs (He.frG g (He.asD g n))
def hookP (n : Nat) (fa : List He.Fa) (fn : List He.DefD) (cs : List CsT) : PySem.W.Hook where
  α := AlP
  obs := fun s => obsPG n fa fn cs s.heap.get?
  val := fun _ => (He.valD fn, true)
  says := fun _ h => ∃ K : PySem.W.Frag, K.In h ∧ SaysP fa fn cs K
  of := fun _ _ e => ⟨_, He.frG_in, e⟩
  keeps := fun _ _ _ ⟨K, hK, c⟩ k => ⟨K, PySem.W.Frag.In.keeps hK k, c⟩
theorem obsPG_eq {n : Nat} {fa : List He.Fa} {fn : List He.DefD} {cs : List CsT} {g : Addr → Option Obj} {s : Shared} (h : ∀ a, g a = s.heap.get? a) : obsPG n fa fn cs g = (hookP n fa fn cs).obs s := by
  have e : g = s.heap.get? := funext h
  rw [e] <;> rfl
theorem SaysP.d {fa : List He.Fa} {fn : List He.DefD} {cs : List CsT} {K : PySem.W.Frag} (c : SaysP fa fn cs K) : He.SaysD fa fn K := congrArg (fun z : AlP => z.1) c
theorem SaysP.c {fa : List He.Fa} {fn : List He.DefD} {cs : List CsT} {K : PySem.W.Frag} (c : SaysP fa fn cs K) (i : Nat) {q : CsT} (h : cs[i]? = some q := by rfl) : isB K q.2 (q.1 K) = true := by
  have c1 := (Bool.and_eq_true_iff.mp (show ((cs.all fun c => isB K c.2 (c.1 K)) && _) = true from congrArg (fun z : AlP => z.2) c)).1
  exact List.all_eq_true.mp c1 q (List.mem_of_getElem? h)
/-- a module's name that is data -/
theorem d_glob {X : Cx} {x : Str} {p : P} {u : Value} {pos : Pos} (hm : X.mg x = some u) (hb : isB X.K p u = true) (hg : Gl X x := by rfl) (hd : (x == ("__debug__" : Str)) = false := by decide) : PEd X (.Name x pos) (fC (.v p)) := by
  obtain ⟨v, r, hi⟩ := isB_ok p u hb
  exact d_const (pe_glob hg hm r hd) hi
theorem is_tup {K : PySem.W.Frag} {ps : List P} {a : Addr} (h : isB K (.tup ps) (.ref a) = true) (G : Hp) : Is K G (.tup ps) (.ref a) := by
  obtain ⟨v, r, hv⟩ := isB_ok _ _ h
  obtain ⟨b, xs, e, _⟩ := hv G
  have hr : RelV v (.ref a) := r
  rw [e] at hr
  have e2 : Value.ref a = Value.ref b := hr
  cases e2
  have := hv G
  rw [e] at this
  exact this
theorem gv_ok {K : PySem.W.Frag} {h : Heap} {mg : Str → Option Value} {x : Str} {p : P} (X : K.In h) (G : h.Ns mainGlobals mg) (c : isB K p (gvV x K) = true) (hp : p ≠ .non) : mg x = some (gvV x K) := by
  have key : PySem.W.nsIn K mainGlobals x = some (some (gvV x K)) := by
    have no : isB K p .none = true → False := fun z => by
      cases p <;> first | exact hp rfl | cases z
    unfold gvV at c ⊢
    split at c
    · rename_i u e
      rw [e]
    · exact (no c).elim
  exact PySem.W.mg_of X G key
end DL

/-! DLt: what a text computes, forwards: rules that find the value; names as a kind of their own. -/
namespace DL
open PySem PySem.Spec PyProof.Rows L2

theorem of_P {α : Type} {o : Oc α} {a : α} {S : Sto} (h : o.P fun b S2 => b = a ∧ S2 = S) : o = .ok a S := by
  cases o with
  | ok b S2 => rw [h.1, h.2]
  | bad => exact h.elim
/-! ### values -/
section
variable {f g h fk : FE} {ga gb : FA} {t u : FT} {env env1 env2 : Dnv} {S S1 S2 S3 : Sto} {d e r : D} {ds es : List D} {p q v w : P} {a b : Bool}
theorem e_c : fC d env S = .ok d S := rfl
theorem e_var {i : Nat} (h : env[i]? = some (some d)) : fVar i env S = .ok d S := by
  unfold fVar
  rw [h]
theorem e_f2 {op : P → P → Option P} (h1 : f env S = .ok d S1) (h2 : g env S1 = .ok e S2) (h3 : lift2 op d e S2 = .ok r S3) : f2 op f g env S = .ok r S3 := by
  unfold f2
  rw [h1]
  simp only [Oc.bind_ok]
  rw [h2]
  exact h3
theorem e_l2 {op : P → P → Option P} (h1 : deP S d = some p) (h2 : deP S e = some q) (h3 : op p q = some v) : lift2 op d e S = .ok (.v v) S := by
  unfold lift2
  rw [h1]
  show (match deP S e with | some q => oP (op p q) S | none => .bad : Oc D) = _
  rw [h2]
  show oP (op p q) S = _
  rw [h3]
  rfl
theorem e_f1 {op : P → Option P} (h1 : f env S = .ok d S1) (h2 : deP S1 d = some p) (h3 : op p = some v) : f1 op f env S = .ok (.v v) S1 := by
  unfold f1
  rw [h1]
  show lift1 op d S1 = _
  unfold lift1
  rw [h2]
  show oP (op p) S1 = _
  rw [h3]
  rfl
theorem e_nil : fNil env S = .ok [] S := rfl
theorem e_cons (h1 : f env S = .ok d S1) (h2 : ga env S1 = .ok ds S2) : fCons f ga env S = .ok (d :: ds) S2 := by
  unfold fCons
  rw [h1]
  simp only [Oc.bind_ok]
  rw [h2]
  rfl
theorem onVals_E {k : List P → Sto → Oc D} {ps : List P} (h : vals ds = some ps) (hl : ps.length ≤ 100000) : onVals k ds S = k ps S := by
  unfold onVals
  rw [h]
  show (if _ then _ else _ : Oc D) = _
  rw [if_pos hl]
theorem e_tup (h1 : ga env S = .ok ds S1) {ps : List P} (h2 : vals ds = some ps) (h3 : ps.length ≤ 100000) : fTup ga env S = .ok (.v (.tup ps)) S1 := by
  unfold fTup
  rw [h1]
  exact onVals_E h2 h3
theorem e_lst (h1 : ga env S = .ok ds S1) {ps : List P} (h2 : vals ds = some ps) (h3 : ps.length ≤ 100000) : fLst ga env S = .ok (.v (.lst ps)) S1 := by
  unfold fLst
  rw [h1]
  exact onVals_E h2 h3
theorem e_lstB {o : Ob} {T B : Sto} (h1 : ga env S = .ok ds (o :: (T ++ B))) {ps : List P} (h2 : vals ds = some ps) (h3 : ps.length ≤ 100000) : fLstB ga env S = .ok (.r (bx T B.length)) (o :: (T ++ (B ++ [.lst ps]))) := by
  unfold fLstB
  rw [h1]
  show onVals (fun ps S1 => .ok (.r S1.length) (S1 ++ [.lst ps])) ds (o :: (T ++ B)) = _
  rw [onVals_E h2 h3, bx_put, bx_len]
theorem e_cb {op : List P → Option P} {ps : List P} (h1 : ga env S = .ok ds S1) (h2 : deAll S1 ds = some ps) (h3 : op ps = some v) : fCb op ga env S = .ok (.v v) S1 := by
  show (ga env S).bind _ = _
  rw [h1]
  show (match deAll S1 ds with | some ps => oP (op ps) S1 | none => .bad : Oc D) = _
  rw [h2]
  show oP (op ps) S1 = _
  rw [h3]
  rfl
theorem e_cbB {op : List P → Option P} {ps qs : List P} {o : Ob} {T B : Sto} (h1 : ga env S = .ok ds (o :: (T ++ B))) (h2 : deAll (o :: (T ++ B)) ds = some ps) (h3 : op ps = some (.lst qs)) : fCbB op ga env S = .ok (.r (bx T B.length)) (o :: (T ++ (B ++ [.lst qs]))) := by
  show (ga env S).bind _ = _
  rw [h1]
  show (match deAll (o :: (T ++ B)) ds with | some ps => oB (op ps) (o :: (T ++ B)) | none => .bad : Oc D) = _
  rw [h2]
  show oB (op ps) (o :: (T ++ B)) = _
  rw [h3]
  show Oc.ok (D.r (o :: (T ++ B)).length) ((o :: (T ++ B)) ++ [.lst qs]) = _
  rw [bx_put, bx_len]
theorem e_oNo : oNo env S = .ok none S := rfl
theorem e_oAt {i : Int} (h1 : f env S = .ok (.v (.int i)) S1) : oAt f env S = .ok (some i) S1 := by
  unfold oAt
  rw [h1]
  rfl
theorem e_sl {lo hi : FO} {l m : Option Int} (h1 : f env S = .ok d S1) (h2 : lo env S1 = .ok l S2) (h3 : hi env S2 = .ok m S3) (h4 : deP S3 d = some p) (h5 : pSl p l m = some q) : fSl f lo hi env S = .ok (.v q) S3 := by
  unfold fSl
  rw [h1]
  simp only [Oc.bind_ok]
  rw [h2]
  simp only [Oc.bind_ok]
  rw [h3]
  show (match deP S3 d with | some p => oP (pSl p l m) S3 | none => .bad : Oc D) = _
  rw [h4]
  show oP (pSl p l m) S3 = _
  rw [h5]
  rfl
theorem e_tru (h1 : f env S = .ok d S1) (h2 : deP S1 d = some p) (h3 : truP p = some a) : fTru f env S = .ok a S1 := by
  unfold fTru
  rw [h1]
  show (match deP S1 d with | some p => (match truP p with | some b => .ok b S1 | none => .bad) | none => .bad : Oc Bool) = _
  rw [h2]
  show (match truP p with | some b => .ok b S1 | none => .bad : Oc Bool) = _
  rw [h3]
theorem e_yes : fYes env S = .ok true S := rfl
theorem e_and (h1 : t env S = .ok a S) (h2 : a = true → u env S = .ok b S) : fAnd t u env S = .ok (a && b) S := by
  unfold fAnd
  rw [h1]
  cases a with
  | true => exact (h2 rfl).trans (by rfl)
  | false => rfl
theorem e_or (h1 : t env S = .ok a S) (h2 : a = false → u env S = .ok b S) : fOr t u env S = .ok (a || b) S := by
  unfold fOr
  rw [h1]
  cases a with
  | true => rfl
  | false => exact (h2 rfl).trans (by rfl)
theorem e_not (h1 : t env S = .ok a S1) : fNot t env S = .ok (!a) S1 := by
  unfold fNot
  rw [h1]
  rfl
theorem e_ite (h1 : t env S = .ok a S) (h2 : a = true → f env S = .ok (.v p) S) (h3 : a = false → g env S = .ok (.v q) S) : fIte t f g env S = .ok (.v (if a = true then p else q)) S := by
  unfold fIte
  rw [h1]
  cases a with
  | true => exact h2 rfl
  | false => exact h3 rfl
theorem e_iteB {o : Ob} {T B : Sto} {ps qs : List P} (h1 : t env (o :: (T ++ B)) = .ok a (o :: (T ++ B))) (h2 : a = true → fLstB ga env (o :: (T ++ B)) = .ok (.r (bx T B.length)) (o :: (T ++ (B ++ [.lst ps])))) (h3 : a = false → fLstB gb env (o :: (T ++ B)) = .ok (.r (bx T B.length)) (o :: (T ++ (B ++ [.lst qs])))) :
    fIte t (fLstB ga) (fLstB gb) env (o :: (T ++ B)) = .ok (.r (bx T B.length)) (o :: (T ++ (B ++ [.lst (if a = true then ps else qs)]))) := by
  unfold fIte
  rw [h1]
  cases a with
  | true => exact h2 rfl
  | false => exact h3 rfl
theorem e_andV (h1 : f env S = .ok (.v (.bl a)) S) (h2 : a = true → g env S = .ok (.v (.bl b)) S) : fAndV f g env S = .ok (.v (.bl (a && b))) S := by
  unfold fAndV
  rw [h1]
  cases a with
  | true => exact (h2 rfl).trans (by rfl)
  | false => rfl
theorem e_orV (h1 : f env S = .ok (.v (.bl a)) S) (h2 : a = false → g env S = .ok (.v (.bl b)) S) : fOrV f g env S = .ok (.v (.bl (a || b))) S := by
  unfold fOrV
  rw [h1]
  cases a with
  | true => rfl
  | false => exact (h2 rfl).trans (by rfl)
theorem e_notV (h1 : f env S = .ok (.v (.bl a)) S1) : fNotV f env S = .ok (.v (.bl (!a))) S1 := by
  unfold fNotV
  rw [h1]
  rfl
theorem e_call {G : FF} {dv : List D} (h1 : ga env S = .ok ds S1) (h2 : G (ds ++ dv) S1 = .ok r S2) : fCall G dv ga env S = .ok r S2 := by
  unfold fCall
  rw [h1]
  exact h2
theorem e_callN {G : FF} {n k : Nat} {gd : List D → List D → List D} (h1 : ga env S = .ok ds S1) (h2 : gb env S1 = .ok es S2) (h3 : ds.length = n ∧ es.length = k) (h4 : G (gd ds es) S2 = .ok r S3) : fCallN G n k gd ga gb env S = .ok r S3 := by
  unfold fCallN
  rw [h1]
  simp only [Oc.bind_ok]
  rw [h2]
  show (if _ then _ else _ : Oc D) = _
  rw [if_pos h3]
  exact h4
/-! targets, what is walked -/
theorem e_gNm {i : Nat} : gNm i d env S = .ok (env.set i (some d)) S := rfl
theorem e_gNl : gNl [] env S = .ok env S := rfl
theorem e_gCn {k : FG} {m : FGs} {ps : List P} (h1 : k (.v p) env S = .ok env1 S1) (h2 : m ps env1 S1 = .ok env2 S2) : gCn k m (p :: ps) env S = .ok env2 S2 := by
  unfold gCn
  show (k (.v p) env S).bind _ = _
  rw [h1]
  exact h2
theorem e_gTp {n : Nat} {k : FGs} {ps : List P} (hl : ps.length = n) (h : k ps env S = .ok env1 S1) : gTp n k (.v (.tup ps)) env S = .ok env1 S1 := by
  unfold gTp
  show (if _ then _ else _ : Oc Dnv) = _
  rw [if_pos hl]
  exact h
theorem e_iv {z : List P × Option Nat} (h1 : f env S = .ok d S1) (h2 : seqOf d S1 = some z) : iVal f env S = .ok z S1 := by
  unfold iVal
  rw [h1]
  show (match seqOf d S1 with | some r => .ok r S1 | none => .bad : Oc (List P × Option Nat)) = _
  rw [h2]
theorem e_rg {n : Int} (h1 : ga env S = .ok [.v (.int n)] S1) (h2 : -1000000 ≤ n) (h3 : n ≤ 1000000) : iR1 ga env S = .ok ((List.range n.toNat).map (fun i : Nat => P.int (i : Int)), none) S1 := by
  unfold iR1
  rw [h1]
  show (if _ then _ else _ : Oc (List P × Option Nat)) = _
  rw [if_pos ⟨h2, h3⟩]
  congr 2
  exact List.map_congr_left fun i _ => by rw [Int.zero_add]
theorem e_rg2 {m n : Int} (h1 : ga env S = .ok [.v (.int m), .v (.int n)] S1) (h2 : (-1000000 ≤ m ∧ m ≤ 1000000) ∧ (-1000000 ≤ n ∧ n ≤ 1000000)) : iR2 ga env S = .ok ((List.range (n - m).toNat).map (fun i : Nat => P.int (m + i)), none) S1 := by
  unfold iR2
  rw [h1]
  show (if _ then _ else _ : Oc (List P × Option Nat)) = _
  rw [if_pos h2]
end
/-! ### comprehensions -/
/-- one turn: the test, the item -/
structure BodyE (g : FG) (t : FT) (e : FE) (env : Dnv) (S : Sto) (p : P) (b : Bool) (r : P) : Prop where
  ex : ∃ env1, g (.v p) env S = .ok env1 S ∧ t env1 S = .ok b S ∧ (b = true → e env1 S = .ok (.v r) S)
theorem e_body {g : FG} {t : FT} {e : FE} {env env1 : Dnv} {S : Sto} {p r : P} {b : Bool} (h1 : g (.v p) env S = .ok env1 S) (h2 : t env1 S = .ok b S) (h3 : b = true → e env1 S = .ok (.v r) S) : BodyE g t e env S p b r := ⟨env1, h1, h2, h3⟩
section
variable {α : Type} {it : FI} {g : FG} {t : FT} {e fk : FE} {vs : List Nat} {env : Dnv} {S S1 : Sto} {own : Option Nat} {xs : List α} {f hh : α → P} {q : α → Bool}
theorem lcF_E (ho : OwnOk own (xs.map f) S) (hl : xs.length < 100000) (hs : ∀ x ∈ xs, BodyE g t e env S (f x) (q x) (hh x)) : lcF own (xs.map f) g t e env (xs.map f) S [] = .ok ((xs.filter q).map hh) S := by
  refine of_P ?_
  refine lc_pure (fun x => q x = true) ho hl (fun x hx => ?_) ?_ (hh := hh)
  · obtain ⟨env1, h1, h2, h3⟩ := (hs x hx).ex
    exact P_of h1 (P_of h2 ⟨rfl, Iff.rfl, fun hb => P_of (h3 hb) ⟨rfl, rfl⟩⟩)
  · refine ⟨?_, rfl⟩
    congr 2
    funext x
    cases q x <;> rfl
theorem e_lc (hi : it env S = .ok (xs.map f, own) S1) (ho : OwnOk own (xs.map f) S1) (hl : xs.length < 100000) (hs : ∀ x ∈ xs, BodyE g t e (wipeE env vs) S1 (f x) (q x) (hh x)) : fLc it g t e vs env S = .ok (.v (.lst ((xs.filter q).map hh))) S1 := by
  unfold fLc
  rw [hi]
  show (lcF own (xs.map f) g t e (wipeE env vs) (xs.map f) S1 []).bind _ = _
  rw [lcF_E ho hl hs]
  rfl
theorem filter_yes : xs.filter (fun _ => true) = xs := by simp
theorem e_lcA (hi : it env S = .ok (xs.map f, own) S1) (ho : OwnOk own (xs.map f) S1) (hl : xs.length < 100000) (hs : ∀ x ∈ xs, BodyE g fYes e (wipeE env vs) S1 (f x) true (hh x)) : fLc it g fYes e vs env S = .ok (.v (.lst (xs.map hh))) S1 := by
  rw [e_lc (q := fun _ => true) hi ho hl hs, filter_yes]
theorem e_lcB {o : Ob} {T B : Sto} (hi : it env S = .ok (xs.map f, own) (o :: (T ++ B))) (ho : OwnOk own (xs.map f) (o :: (T ++ B))) (hl : xs.length < 100000) (hs : ∀ x ∈ xs, BodyE g t e (wipeE env vs) (o :: (T ++ B)) (f x) (q x) (hh x)) :
    fLcB it g t e vs env S = .ok (.r (bx T B.length)) (o :: (T ++ (B ++ [.lst ((xs.filter q).map hh)]))) := by
  unfold fLcB
  rw [hi]
  show (lcF own (xs.map f) g t e (wipeE env vs) (xs.map f) _ []).bind _ = _
  rw [lcF_E ho hl hs]
  show Oc.ok (D.r (o :: (T ++ B)).length) ((o :: (T ++ B)) ++ [.lst _]) = _
  rw [bx_put, bx_len]
/-- a turn of a dict's comprehension -/
structure BodyD (g : FG) (t : FT) (fk e : FE) (env : Dnv) (S : Sto) (p : P) (b : Bool) (kp : P) (k : Key) (r : P) : Prop where
  ex : ∃ env1, g (.v p) env S = .ok env1 S ∧ t env1 S = .ok b S ∧ (b = true → fk env1 S = .ok (.v kp) S ∧ pKey kp = some k ∧ e env1 S = .ok (.v r) S)
theorem e_bodyD {env1 : Dnv} {p kp r : P} {k : Key} {b : Bool} (h1 : g (.v p) env S = .ok env1 S) (h2 : t env1 S = .ok b S) (h3 : b = true → fk env1 S = .ok (.v kp) S) (h4 : b = true → pKey kp = some k) (h5 : b = true → e env1 S = .ok (.v r) S) : BodyD g t fk e env S p b kp k r := ⟨env1, h1, h2, fun hb => ⟨h3 hb, h4 hb, h5 hb⟩⟩
theorem e_dc {kk : α → Key} {kp : α → P} (hi : it env S = .ok (xs.map f, own) S1) (ho : OwnOk own (xs.map f) S1) (hl : xs.length < 10000) (hs : ∀ x ∈ xs, BodyD g t fk e (wipeE env vs) S1 (f x) (q x) (kp x) (kk x) (hh x)) (hn : ((xs.filter q).map kk).Nodup) :
    fDc it g t fk e vs env S = .ok (.v (.dic ((xs.filter q).map kk) ((xs.filter q).map hh))) S1 := by
  refine of_P ?_
  refine p_dc (P_of hi ?_)
  refine p_Dc (fun i S2 ks acc => S2 = S1 ∧ ks = ((xs.take i).filter q).map kk ∧ acc = ((xs.take i).filter q).map hh) ⟨rfl, by simp, by simp⟩ (fun i S2 ks acc h => by rw [h.1]; exact ho) ?_ ?_
  · rintro i p S2 ks acc hx ⟨rfl, rfl, rfl⟩
    have hx : (xs.map f)[i]? = some p := hx
    rw [List.getElem?_map] at hx
    obtain ⟨x, hxx, rfl⟩ := Option.map_eq_some_iff.mp hx
    clear hx
    have hx := hxx
    have hm := List.mem_of_getElem? hx
    have e2 : xs.take (i + 1) = xs.take i ++ [x] := by
      rw [List.take_add_one, hx]
      rfl
    refine ⟨?_, ?_⟩
    · rw [List.length_map]
      have := List.length_filter_le q (xs.take i)
      rw [List.length_take] at this
      omega
    obtain ⟨env1, h1, h2, h3⟩ := (hs x hm).ex
    refine P_of h1 (P_of h2 ⟨fun hb => ?_, fun hb => ?_⟩)
    · obtain ⟨h4, h5, h6⟩ := h3 hb
      refine P_of h4 (P_of h6 ⟨_, _, _, rfl, h5, rfl, rfl, ?_⟩)
      have e3 : (xs.take (i + 1)).filter q = (xs.take i).filter q ++ [x] := by
        rw [e2, List.filter_append, List.filter_cons, if_pos hb]
        rfl
      have hnew : kk x ∉ ((xs.take i).filter q).map kk := fun hmem => by
        have e4 : xs.filter q = (xs.take (i + 1)).filter q ++ (xs.drop (i + 1)).filter q := by
          rw [← List.filter_append, List.take_append_drop]
        rw [e4, e3, List.map_append, List.map_append] at hn
        have hn2 := (List.nodup_append.mp hn).1
        exact (List.nodup_append.mp hn2).2.2 _ hmem _ (by simp) rfl
      rw [put_new hnew (by simp), e3]
      exact ⟨by simp, by simp⟩
    · have e3 : (xs.take (i + 1)).filter q = (xs.take i).filter q := by
        rw [e2, List.filter_append, List.filter_cons, if_neg (by rw [hb]; decide)]
        simp
      exact ⟨rfl, by rw [e3], by rw [e3]⟩
  · rintro S2 ks acc ⟨rfl, rfl, rfl⟩
    have e3 : xs.take (xs.map f, own).1.length = xs := by
      show xs.take (xs.map f).length = xs
      rw [List.length_map, List.take_length]
    refine ⟨?_, rfl⟩
    show D.v (.dic (((xs.take (xs.map f, own).1.length).filter q).map kk) (((xs.take (xs.map f, own).1.length).filter q).map hh)) = _
    rw [e3]
end
/-! ### statements over values that are found -/
section
variable {f : FE} {ga : FA} {g : FG} {t : FT} {a b : FS} {env env2 : Dnv} {S S1 S2 : Sto} {d : D} {k : Bool} {En : Dnv → Sto → Prop} {Er : D → Sto → Prop} {Eb Ec : Dnv → Sto → Prop}
theorem s_SetE (h1 : f env S = .ok d S1) (h2 : g d env S1 = .ok env2 S2) (h : En env2 S2) : (fSet f g env S).F ⟨En, Er, Eb, Ec⟩ := s_Set (P_of h1 (P_of h2 h))
theorem s_DropE (h1 : f env S = .ok d S1) (h : En env S1) : (fDrop f env S).F ⟨En, Er, Eb, Ec⟩ := s_Drop (P_of h1 h)
theorem s_RetE (h1 : f env S = .ok d S1) (h : Er d S1) : (fRet f env S).F ⟨En, Er, Eb, Ec⟩ := s_Ret (P_of h1 h)
theorem s_IfE (h1 : t env S = .ok k S1) (h2 : k = true → (a env S1).F ⟨En, Er, Eb, Ec⟩) (h3 : k = false → (b env S1).F ⟨En, Er, Eb, Ec⟩) : (fIf t a b env S).F ⟨En, Er, Eb, Ec⟩ := s_If (P_of h1 ⟨h2, h3⟩)
theorem s_Par2 {i j : Nat} {d e : D} (h1 : ga env S = .ok [d, e] S1) (h : En ((env.set i (some d)).set j (some e)) S1) : (fPar i j ga env S).F ⟨En, Er, Eb, Ec⟩ := s_Par (P_of h1 (s_ParE h))
theorem s_AugE {i : Nat} {op : P → P → Option P} {d e r : D} (h0 : env[i]? = some (some d)) (h1 : f env S = .ok e S1) (h2 : lift2 op d e S1 = .ok r S2) (h : En (env.set i (some r)) S2) : (fAug i op f env S).F ⟨En, Er, Eb, Ec⟩ := by
  unfold fAug
  rw [h0]
  show (Oc.fl (f env S) _).F _
  rw [h1]
  show (Oc.fl (lift2 op d e S1) _).F _
  rw [h2]
  exact h
theorem s_ForE {it : FI} {z : List P × Option Nat} (h1 : it env S = .ok z S1) (h : (loopF z.2 z.1 g b z.1 env S1).F ⟨En, Er, Eb, Ec⟩) : (fFor it g b env S).F ⟨En, Er, Eb, Ec⟩ := s_For (P_of h1 h)
theorem e_run {n : Nat} {b : FS} {ds : List D} {o : Ob} {T : Sto} {r : D} (h : (b (startD n ds) (o :: (T ++ []))).F ⟨fun _ S1 => closeD false (T.length + 1) (.v .non) S1 = .ok r (o :: T), fun d S1 => closeD false (T.length + 1) d S1 = .ok r (o :: T), fun _ _ => False, fun _ _ => False⟩) : runF n false b ds (o :: T) = .ok r (o :: T) := by
  refine of_P (p_runC (Q := fun d S => d = r ∧ S = o :: T) (Flo.F.mono h ?_ ?_ ?_ ?_))
  · exact fun _ _ h => P_of (Q := fun d S => d = r ∧ S = o :: T) h ⟨rfl, rfl⟩
  · exact fun _ _ h => P_of (Q := fun d S => d = r ∧ S = o :: T) h ⟨rfl, rfl⟩
  · exact fun _ _ h => h
  · exact fun _ _ h => h
theorem e_close {o : Ob} {T B : Sto} {p : P} : closeD false (T.length + 1) (.v p) (o :: (T ++ B)) = .ok (.v p) (o :: T) := of_P (c_ret (B := B) ⟨rfl, rfl⟩)
theorem e_closeT {o : Ob} {T B : Sto} {p q : P} (h : p = q) : closeD false (T.length + 1) (.v p) (o :: (T ++ B)) = .ok (.v q) (o :: T) := h ▸ e_close
theorem e_closeLT {o : Ob} {T B : Sto} {j : Nat} {ps : List P} {q : P} (h1 : B[j]? = some (.lst ps)) (h : .lst ps = q) : closeD false (T.length + 1) (.r (bx T j)) (o :: (T ++ B)) = .ok (.v q) (o :: T) := h ▸ of_P (c_retL h1 ⟨rfl, rfl⟩)
theorem e_closeL {o : Ob} {T B : Sto} {j : Nat} {ps : List P} (h1 : B[j]? = some (.lst ps)) : closeD false (T.length + 1) (.r (bx T j)) (o :: (T ++ B)) = .ok (.v (.lst ps)) (o :: T) := of_P (c_retL h1 ⟨rfl, rfl⟩)
theorem e_mt {op : MOp} {i : Nat} {o : Ob} {T B : Sto} {j : Nat} {ps qs : List P} {ds : List D} {u : P} (h : env[i]? = some (some (.r (bx T j)))) (h1 : B[j]? = some (.lst ps)) (h2 : ga env (o :: (T ++ B)) = .ok ds (o :: (T ++ B))) (h3 : op ps ds (o :: (T ++ B)) = some (u, qs)) :
    fMt op (fVar i) ga env (o :: (T ++ B)) = .ok (.v u) (o :: (T ++ B.set j (.lst qs))) := of_P (c_mt h h1 (P_of h2 (c_mtE h1 h3 ⟨rfl, rfl⟩)))
end
/-! ### names -/
def OkS (x : Str) : Prop := PyData.strOk x = true ∧ PyData.strOk (reprText x) = true ∧ (reprText x).length ≤ 20
structure Nm where
  s : Str
  ok : OkS s
theorem Nm.inj {a b : Nm} (h : a.s = b.s) : a = b := by
  cases a
  cases b
  cases h
  rfl
theorem Nm.eq_iff {a b : Nm} : a = b ↔ a.s = b.s := ⟨fun h => h ▸ rfl, Nm.inj⟩
instance : DecidableEq Nm := fun a b => decidable_of_iff (a.s = b.s) Nm.eq_iff.symm
instance : Inhabited Nm := ⟨⟨"", by
  have : PyData.strOk "" = true ∧ PyData.strOk (reprText "") = true ∧ (reprText "").length ≤ 20 := by decide +kernel
  exact this⟩⟩
def nP (x : Nm) : P := .str x.s
abbrev tN (xs : List Nm) : P := .tup (xs.map nP)
abbrev lN (xs : List Nm) : P := .lst (xs.map nP)
theorem pl_nm (x : Nm) : Pl 0 (nP x) := pl_str x.ok.1
theorem pl_nm' (x : Nm) : Pl 0 (.str x.s) := pl_str x.ok.1
theorem pl_tN (xs : List Nm) : Pl 1 (tN xs) := pl_tup fun q hq => by
  obtain ⟨x, _, rfl⟩ := List.mem_map.mp hq
  exact pl_nm x
theorem pl_lN (xs : List Nm) : Pl 1 (lN xs) := pl_lst fun q hq => by
  obtain ⟨x, _, rfl⟩ := List.mem_map.mp hq
  exact pl_nm x
theorem nP_inj {a b : Nm} : nP a = nP b ↔ a = b := ⟨fun h => Nm.inj (P.str.inj h), fun h => h ▸ rfl⟩
theorem nP_map {xs ys : List Nm} : xs.map nP = ys.map nP ↔ xs = ys := ⟨fun h => (List.map_inj_right fun _ _ e => nP_inj.mp e).mp h, fun h => h ▸ rfl⟩
theorem tN_inj {xs ys : List Nm} : tN xs = tN ys ↔ xs = ys := by
  unfold tN
  rw [P.tup.injEq, nP_map]
theorem lN_inj {xs ys : List Nm} : lN xs = lN ys ↔ xs = ys := by
  unfold lN
  rw [P.lst.injEq, nP_map]
theorem mem_nP {a : Nm} {xs : List Nm} : nP a ∈ xs.map nP ↔ a ∈ xs := by
  rw [List.mem_map]
  exact ⟨fun ⟨b, h, e⟩ => nP_inj.mp e ▸ h, fun h => ⟨a, h, rfl⟩⟩
theorem boolE {b : Bool} {q : Prop} [Decidable q] (h : b = true ↔ q) : b = decide q := by
  cases b with
  | true => exact (decide_eq_true (h.mp rfl)).symm
  | false => exact (decide_eq_false fun z => Bool.noConfusion (h.mpr z)).symm
theorem eqP {n m : Nat} {p q : P} {z : Prop} [Decidable z] (hp : Pl n p) (hq : Pl m q) (hz : p = q ↔ z) (hn : n ≤ 64 := by decide) (hm : m ≤ 64 := by decide) : pEq p q = some (.bl (decide z)) := by
  obtain ⟨b, h1, h2⟩ := eq_pl hp hq hn hm
  rw [h1, boolE (h2.trans hz)]
theorem neP {n m : Nat} {p q : P} {z : Prop} [Decidable z] (hp : Pl n p) (hq : Pl m q) (hz : p = q ↔ z) (hn : n ≤ 64 := by decide) (hm : m ≤ 64 := by decide) : pNe p q = some (.bl (!decide z)) := by
  obtain ⟨b, h1, h2⟩ := ne_pl hp hq hn hm
  rw [h1]
  have : (!b) = decide z := boolE (by rw [← hz, ← Classical.not_not (a := p = q), ← Ne, ← h2]; cases b <;> simp)
  rw [← this]
  simp
/-! the operators on names; a written text has its own rules -/
section
variable {a b : Nm} {xs ys : List Nm} {l l1 l2 l3 : Str} {i j : Int}
theorem o_eqN : pEq (nP a) (nP b) = some (.bl (decide (a = b))) := eqP (pl_nm a) (pl_nm b) nP_inj
theorem o_neN : pNe (nP a) (nP b) = some (.bl (!decide (a = b))) := neP (pl_nm a) (pl_nm b) nP_inj
theorem o_eqL (h : PyData.strOk l = true) : pEq (nP a) (.str l) = some (.bl (decide (a.s = l))) := eqP (pl_nm a) (pl_str h) (by unfold nP; rw [P.str.injEq])
theorem o_neL (h : PyData.strOk l = true) : pNe (nP a) (.str l) = some (.bl (!decide (a.s = l))) := neP (pl_nm a) (pl_str h) (by unfold nP; rw [P.str.injEq])
theorem o_eqT : pEq (tN xs) (tN ys) = some (.bl (decide (xs = ys))) := eqP (pl_tN xs) (pl_tN ys) tN_inj
theorem o_neT : pNe (tN xs) (tN ys) = some (.bl (!decide (xs = ys))) := neP (pl_tN xs) (pl_tN ys) tN_inj
theorem o_eqT0 : pEq (tN xs) (.tup []) = some (.bl (decide (xs = []))) := o_eqT (ys := [])
theorem o_neT0 : pNe (tN xs) (.tup []) = some (.bl (!decide (xs = []))) := o_neT (ys := [])
theorem o_eqLs0 : pEq (lN xs) (.lst []) = some (.bl (decide (xs = []))) := eqP (pl_lN xs) (pl_lN []) (lN_inj (ys := []))
theorem o_neLs0 : pNe (lN xs) (.lst []) = some (.bl (!decide (xs = []))) := neP (pl_lN xs) (pl_lN []) (lN_inj (ys := []))
theorem o_inT : pIn (nP a) (tN xs) = some (.bl (decide (a ∈ xs))) := by
  obtain ⟨b, h1, h2⟩ := in_tup (n := 0) (m := 0) (p := nP a) (ps := xs.map nP) (pl_nm a) (fun q hq => by
    obtain ⟨x, _, rfl⟩ := List.mem_map.mp hq
    exact pl_nm x) (by decide)
  show pIn (nP a) (.tup (xs.map nP)) = _
  rw [h1, boolE (h2.trans mem_nP)]
theorem o_inLs : pIn (nP a) (lN xs) = some (.bl (decide (a ∈ xs))) := by
  obtain ⟨b, h1, h2⟩ := in_lst (n := 0) (m := 0) (p := nP a) (ps := xs.map nP) (pl_nm a) (fun q hq => by
    obtain ⟨x, _, rfl⟩ := List.mem_map.mp hq
    exact pl_nm x) (by decide)
  show pIn (nP a) (.lst (xs.map nP)) = _
  rw [h1, boolE (h2.trans mem_nP)]
theorem notIn_of {x c : P} {z : Bool} (h : pIn x c = some (.bl z)) : pNotIn x c = some (.bl (!z)) := by
  unfold pIn at h
  unfold pNotIn
  cases e : pInB x c with
  | none => rw [e] at h; cases h
  | some w =>
    rw [e] at h
    have : w = z := by simpa using h
    subst this
    rfl
theorem o_niT : pNotIn (nP a) (tN xs) = some (.bl (!decide (a ∈ xs))) := notIn_of o_inT
theorem o_niLs : pNotIn (nP a) (lN xs) = some (.bl (!decide (a ∈ xs))) := notIn_of o_inLs
/-- does it have the word -/
def has (l : Str) (xs : List Nm) : Bool := decide (l ∈ xs.map Nm.s)
theorem o_inW (h : PyData.strOk l = true) : pIn (.str l) (tN xs) = some (.bl (has l xs)) := by
  obtain ⟨b, h1, h2⟩ := in_tup (n := 0) (m := 0) (p := .str l) (ps := xs.map nP) (pl_str h) (fun q hq => by
    obtain ⟨x, _, rfl⟩ := List.mem_map.mp hq
    exact pl_nm x) (by decide)
  show pIn (.str l) (.tup (xs.map nP)) = _
  rw [h1]
  have : b = has l xs := boolE (h2.trans (by
    rw [List.mem_map, List.mem_map]
    constructor
    · rintro ⟨x, hx, e⟩
      exact ⟨x, hx, P.str.inj e⟩
    · rintro ⟨x, hx, e⟩
      exact ⟨x, hx, congrArg P.str e⟩))
  rw [this]
theorem o_niW (h : PyData.strOk l = true) : pNotIn (.str l) (tN xs) = some (.bl (!has l xs)) := notIn_of (o_inW h)
theorem in_lits {ls : List Str} (h : ∀ l ∈ ls, PyData.strOk l = true) : pIn (nP a) (.tup (ls.map P.str)) = some (.bl (decide (a.s ∈ ls))) := by
  obtain ⟨b, h1, h2⟩ := in_tup (n := 0) (m := 0) (p := nP a) (ps := ls.map P.str) (pl_nm a) (fun q hq => by
    obtain ⟨x, hx, rfl⟩ := List.mem_map.mp hq
    exact pl_str (h x hx)) (by decide)
  rw [h1]
  have : b = decide (a.s ∈ ls) := boolE (h2.trans (by
    rw [List.mem_map]
    constructor
    · rintro ⟨x, hx, e⟩
      exact P.str.inj e ▸ hx
    · exact fun hx => ⟨a.s, hx, rfl⟩))
  rw [this]
theorem o_in1 (h1 : PyData.strOk l1 = true) : pIn (nP a) (.tup [.str l1]) = some (.bl (decide (a.s = l1))) := (in_lits (ls := [l1]) (by simpa using h1)).trans (by simp)
theorem o_in2 (h1 : PyData.strOk l1 = true) (h2 : PyData.strOk l2 = true) : pIn (nP a) (.tup [.str l1, .str l2]) = some (.bl (decide (a.s = l1 ∨ a.s = l2))) := (in_lits (ls := [l1, l2]) (by simpa using ⟨h1, h2⟩)).trans (by simp)
theorem o_in3 (h1 : PyData.strOk l1 = true) (h2 : PyData.strOk l2 = true) (h3 : PyData.strOk l3 = true) : pIn (nP a) (.tup [.str l1, .str l2, .str l3]) = some (.bl (decide (a.s = l1 ∨ a.s = l2 ∨ a.s = l3))) := (in_lits (ls := [l1, l2, l3]) (by simpa using ⟨h1, h2, h3⟩)).trans (by simp)
theorem o_ni1 (h1 : PyData.strOk l1 = true) : pNotIn (nP a) (.tup [.str l1]) = some (.bl (!decide (a.s = l1))) := notIn_of (o_in1 h1)
theorem o_ni2 (h1 : PyData.strOk l1 = true) (h2 : PyData.strOk l2 = true) : pNotIn (nP a) (.tup [.str l1, .str l2]) = some (.bl (!decide (a.s = l1 ∨ a.s = l2))) := notIn_of (o_in2 h1 h2)
theorem o_eqI : pEq (.int i) (.int j) = some (.bl (decide (i = j))) := eqP pl_int pl_int (by rw [P.int.injEq])
theorem o_neI : pNe (.int i) (.int j) = some (.bl (!decide (i = j))) := neP pl_int pl_int (by rw [P.int.injEq])
theorem o_addLs {ps qs : List P} (h : ps.length + qs.length ≤ 100000) : pAdd (.lst ps) (.lst qs) = some (.lst (ps ++ qs)) := if_pos h
theorem o_addTp {ps qs : List P} (h : ps.length + qs.length ≤ 100000) : pAdd (.tup ps) (.tup qs) = some (.tup (ps ++ qs)) := if_pos h
theorem o_addT (h : xs.length + ys.length ≤ 100000) : pAdd (tN xs) (tN ys) = some (tN (xs ++ ys)) := by
  unfold tN
  rw [o_addTp (by simpa using h), List.map_append]
theorem o_addT1 (h : xs.length + 1 ≤ 100000) : pAdd (tN xs) (.tup [nP a]) = some (tN (xs ++ [a])) := o_addT (ys := [a]) h
theorem o_tupleN {xs : List Nm} : bTuple [lN xs] = some (tN xs) := rfl
theorem o_tuple {ps : List P} : bTuple [.lst ps] = some (.tup ps) := rfl
theorem o_app {ps : List P} {p : P} {S : Sto} (h : ps.length < 100000) : mAppend ps [.v p] S = some (.non, ps ++ [p]) := if_pos h
theorem o_ext {ps qs : List P} {d : D} {S : Sto} (h1 : deP S d = some (.lst qs)) (h : ps.length + qs.length ≤ 100000) : mExtend ps [d] S = some (.non, ps ++ qs) := by
  show (match deP S d with | some (.lst qs) => if ps.length + qs.length ≤ 100000 then some (.non, ps ++ qs) else none | _ => none : Option (P × List P)) = _
  rw [h1]
  exact if_pos h
end
end DL

namespace DL
open PySem PySem.Spec PyProof.Rows L2
/-! DLu: comprehensions that draw, with what is known of the kept ones; written names. -/
section
variable {α : Type} {g : FG} {t : FT} {e : FE} {env : Dnv} {S : Sto} {own : Option Nat} {xs : List α} {f hh : α → P} {Q : List P → Sto → Prop}
theorem lc_someQ (q : α → Prop) (J : Nat → Sto → Prop) (h0 : J 0 S) (ho : ∀ i S, J i S → OwnOk own (xs.map f) S) (hl : xs.length < 100000)
    (hs : ∀ i x S, xs[i]? = some x → J i S → (g (.v (f x)) env S).P fun env1 S1 => (t env1 S1).P fun b S2 => (b = true → (e env1 S2).P fun d S3 => d = .v (hh x) ∧ q x ∧ J (i + 1) S3) ∧ (b = false → J (i + 1) S2))
    (hd : ∀ (ys : List α) (S : Sto), ys.Sublist xs → (∀ y ∈ ys, q y) → J xs.length S → Q (ys.map hh) S) : (lcF own (xs.map f) g t e env (xs.map f) S []).P Q := by
  refine p_Lc (fun i S acc => ∃ ys : List α, acc = ys.map hh ∧ ys.Sublist (xs.take i) ∧ (∀ y ∈ ys, q y) ∧ J i S) ⟨[], rfl, List.nil_sublist _, (fun _ h => by cases h), h0⟩ (fun i S acc ⟨_, _, _, _, h⟩ => ho i S h) ?_ ?_
  · rintro i p S acc hi ⟨ys, rfl, hsub, hq, hJ⟩
    rw [List.getElem?_map] at hi
    obtain ⟨x, hx, rfl⟩ := Option.map_eq_some_iff.mp hi
    have e2 : xs.take (i + 1) = xs.take i ++ [x] := by
      rw [List.take_add_one, hx]
      rfl
    refine ⟨?_, (hs i x S hx hJ).mono fun env1 S1 h => h.mono fun b S2 h => ⟨fun hb => (h.1 hb).mono fun d S3 h3 => ?_, fun hb => ?_⟩⟩
    · rw [List.length_map]
      have := hsub.length_le
      rw [List.length_take] at this
      omega
    · obtain ⟨rfl, hqx, h4⟩ := h3
      refine ⟨_, rfl, ys ++ [x], by simp, by rw [e2]; exact hsub.append (List.Sublist.refl _), fun y hy => ?_, h4⟩
      rcases List.mem_append.mp hy with h | h
      · exact hq y h
      · rw [List.mem_singleton.mp h]
        exact hqx
    · exact ⟨ys, rfl, by rw [e2]; exact hsub.trans (List.sublist_append_left _ _), hq, h.2 hb⟩
  · rintro S acc ⟨ys, rfl, hsub, hq, hJ⟩
    rw [List.length_map] at hsub hJ
    rw [List.take_length] at hsub
    exact hd ys S hsub hq hJ
end
instance (x : Str) : Decidable (OkS x) := inferInstanceAs (Decidable (_ ∧ _))
/-- a written name -/
def lit (x : Str) (h : OkS x := by decide +kernel) : Nm := ⟨x, h⟩
def nAgain : Nm := lit "again"
def nAsk : Nm := lit "ask"
def nRepeat : Nm := lit "repeat"
def nUndo : Nm := lit "undo"
theorem has_iff {l : Nm} {xs : List Nm} : has l.s xs = decide (l ∈ xs) := by
  unfold has
  refine boolE ?_
  rw [decide_eq_true_eq, List.mem_map]
  exact ⟨fun ⟨a, h, e⟩ => Nm.inj e ▸ h, fun h => ⟨l, h, rfl⟩⟩
theorem o_popN {xs : List Nm} {S : Sto} {v : Int} (h0 : 0 ≤ v) (h1 : v < (xs.map nP).length) (hl : xs.length ≤ 100000) : ∃ x, mPopAt (xs.map nP) [.v (.int v)] S = some (nP x, (xs.eraseIdx v.toNat).map nP) := by
  rw [List.length_map] at h1
  have hj : v.toNat < xs.length := by omega
  refine ⟨xs[v.toNat], ?_⟩
  have e1 : ixN (xs.map nP).length v = some v.toNat := by
    unfold ixN
    rw [if_pos h0, List.length_map, if_pos h1]
  have e2 : (xs.map nP)[v.toNat]? = some (nP xs[v.toNat]) := by
    rw [List.getElem?_map, List.getElem?_eq_getElem hj]
    rfl
  unfold mPopAt
  simp only []
  rw [if_pos (by omega), e1]
  simp only []
  rw [e2]
  simp only []
  rw [map_erase]
theorem o_popI {vs : List Int} {S : Sto} {v : Int} (h0 : 0 ≤ v) (h1 : v < (vs.map P.int).length) (hl : vs.length ≤ 100000) : ∃ x, mPopAt (vs.map P.int) [.v (.int v)] S = some (.int x, (vs.eraseIdx v.toNat).map P.int) ∧ (x :: vs.eraseIdx v.toNat).Perm vs := by
  rw [List.length_map] at h1
  have hj : v.toNat < vs.length := by omega
  refine ⟨vs[v.toNat], ?_, erase_perm hj⟩
  have e1 : ixN (vs.map P.int).length v = some v.toNat := by
    unfold ixN
    rw [if_pos h0, List.length_map, if_pos h1]
  have e2 : (vs.map P.int)[v.toNat]? = some (.int vs[v.toNat]) := by
    rw [List.getElem?_map, List.getElem?_eq_getElem hj]
    rfl
  unfold mPopAt
  simp only []
  rw [if_pos (by omega), e1]
  simp only []
  rw [e2]
  simp only []
  rw [map_erase]
def kxN (xs : List Nm) : List Key := xs.map fun x => .inr x.s
theorem kxN_nd {xs : List Nm} (h : xs.Nodup) : (kxN xs).Nodup := List.Pairwise.map _ (fun a b h e => h (Nm.inj (Sum.inr.inj e))) h
theorem kxN_mem {xs : List Nm} {x : Nm} : (.inr x.s : Key) ∈ kxN xs ↔ x ∈ xs := by
  unfold kxN
  rw [List.mem_map]
  exact ⟨fun ⟨y, h, e⟩ => Nm.inj (Sum.inr.inj e) ▸ h, fun h => ⟨x, h, rfl⟩⟩
theorem sbD_bxN {T B : Sto} {o : Ob} {j : Nat} {ks : List Key} {ps : List P} {x : Nm} {p : P} {env : Dnv} {Q : Dnv → Sto → Prop} (h1 : B[j]? = some (.dic ks ps)) (hn : (Sum.inr x.s : Key) ∉ ks) (hl : ks.length = ps.length) (h3 : ks.length < 10000)
    (q : Q env (o :: (T ++ B.set j (.dic (ks ++ [.inr x.s]) (ps ++ [p]))))) : (sbE (.r (bx T j)) (.v (nP x)) (.v p) env (o :: (T ++ B))).P Q := by
  refine p_sbD (ks := ks) (ps := ps) (k := .inr x.s) (by rw [bx_get]; exact h1) rfl h3 ?_
  rw [bx_set, put_new hn hl]
  exact q
theorem deP_bxD {o : Ob} {T B : Sto} {j : Nat} {ks : List Key} {ps : List P} (h : B[j]? = some (.dic ks ps)) : deP (o :: (T ++ B)) (.r (bx T j)) = some (.dic ks ps) := by
  show (match (o :: (T ++ B))[bx T j]? with
    | some (Ob.lst ps) => some (P.lst ps)
    | some (Ob.dic ks ps) => some (P.dic ks ps)
    | none => none) = _
  rw [bx_get, h]
theorem c_dic0B {o : Ob} {T B : Sto} {env : Dnv} {Q : D → Sto → Prop} (q : Q (.r (bx T B.length)) (o :: (T ++ (B ++ [.dic [] []])))) : (fDic0B env (o :: (T ++ B))).P Q := by
  show Q (.r (o :: (T ++ B)).length) ((o :: (T ++ B)) ++ [.dic [] []])
  rw [bx_put, bx_len]
  exact q
theorem e_dic0B {o : Ob} {T B : Sto} {env : Dnv} : fDic0B env (o :: (T ++ B)) = .ok (.r (bx T B.length)) (o :: (T ++ (B ++ [.dic [] []]))) := of_P (c_dic0B ⟨rfl, rfl⟩)
theorem c_rgT {o : Ob} {T B : Sto} {env : Dnv} {f : FE} {n : Int} {Q : D → Sto → Prop} (h : (f env (o :: (T ++ B))).P fun d S1 => d = .v (.int n) ∧ S1 = o :: (T ++ B)) (h1 : -1000000 ≤ n) (h2 : n ≤ 1000000) (q : Q (.r (bx T B.length)) (o :: (T ++ (B ++ [.lst (rgP n.toNat)])))) : (fRg true f env (o :: (T ++ B))).P Q := by
  refine P_bind (h.mono ?_)
  rintro d S ⟨rfl, rfl⟩
  show (if _ then _ else _ : Oc D).P Q
  rw [if_pos ⟨h1, h2⟩]
  show Q (.r (o :: (T ++ B)).length) ((o :: (T ++ B)) ++ [.lst (rgP n.toNat)])
  rw [bx_put, bx_len]
  exact q
theorem o_ix {α : Type} {xs : List α} {f : α → P} {i : Nat} {a : α} (h : xs[i]? = some a) : pIx (.lst (xs.map f)) (.int i) = some (f a) ∧ pIx (.tup (xs.map f)) (.int i) = some (f a) := by
  have e : atI (xs.map f) (i : Int) = some (f a) := at_nn (j := i) rfl (by rw [List.getElem?_map, h]; rfl)
  exact ⟨e, e⟩
theorem p_rgC {Qi : List P × Option Nat → Sto → Prop} {S : Sto} {env : Dnv} {n : Int} (h1 : -1000000 ≤ n ∧ n ≤ 1000000) (q : Qi (rgP n.toNat, none) S) : (iR1 (fCons (fC (.v (.int n))) fNil) env S).P Qi := p_iR1 (p_cons (p_c (p_nil ⟨n, rfl, h1.1, h1.2, q⟩)))
/-- a dict whose keys are names -/
theorem o_kx {xs : List Nm} {ps : List P} {i : Nat} {x : Nm} {p : P} (hn : xs.Nodup) (h1 : xs[i]? = some x) (h2 : ps[i]? = some p) : pIx (.dic (kxN xs) ps) (nP x) = some p :=
  look_hit (kxN_nd hn) (by unfold kxN; rw [List.getElem?_map, h1]; rfl) h2
theorem o_kxF {α : Type} {xs : List Nm} {f : Nm → P} {x : Nm} (hn : xs.Nodup) (h : x ∈ xs) : pIx (.dic (kxN xs) (xs.map f)) (nP x) = some (f x) := by
  obtain ⟨i, hi, e⟩ := List.getElem_of_mem h
  have e1 : xs[i]? = some x := by rw [List.getElem?_eq_getElem hi, e]
  exact o_kx hn e1 (by rw [List.getElem?_map, e1]; rfl)
end DL

/-! ZS: zip(.., strict=True) of lists and tuples. -/
namespace ZS
open PySem
open PySem.Sem (wp)
def Sq (t : Bool) (g : Heap) (u : Addr) (vs : Array Value) : Prop := cond t (g.IsTuple u vs) (g.IsList u vs)
def Im (t : Bool) (g : Heap) (p u : Addr) (k : Nat) : Prop := cond t (g.IsTupleIter p u k) (g.IsListIter p u k)
section
variable {t : Bool} {g g2 : Heap} {u p b : Addr} {vs : Array Value} {k : Nat}
theorem Sq.ext (q : Sq t g u vs) (e : Heap.ExtBut b g g2) (n : u ≠ b) : Sq t g2 u vs := by
  cases t
  · exact Heap.IsList.extBut q e n
  · exact Heap.IsTuple.extBut q e n
theorem Im.ext (q : Im t g p u k) (e : Heap.ExtBut b g g2) (n : p ≠ b) : Im t g2 p u k := by
  cases t
  · exact Heap.IsListIter.extBut q e n
  · exact Heap.IsTupleIter.extBut q e n
theorem Im.at (q : Im t g p u k) (e : ∀ o, g.get? p = some o → g2.get? p = some o) : Im t g2 p u k := by
  cases t
  · exact Heap.IsListIter.at q e
  · exact Heap.IsTupleIter.at q e
theorem Im.obj (q : Im t g p u k) : ∃ o, g.get? p = some o ∧ ∀ v, o.data ≠ .cell v := by
  cases t
  · obtain ⟨o, e1, _, d1⟩ := q
    exact ⟨o, e1, fun v z => by rw [d1] at z; cases z⟩
  · obtain ⟨o, e1, _, d1⟩ := q
    exact ⟨o, e1, fun v z => by rw [d1] at z; cases z⟩
end
section
variable {prog : Program} {w : World} {A : Around} {E : Value → Shared → Prop} {s : Shared}
theorem draw_item {t : Bool} {p u : Addr} {k : Nat} {vs : Array Value} {x : Value} {Q : Option Value → Shared → Prop} (i : Im t s.heap p u k) (q : Sq t s.heap u vs) (hx : vs[k]? = some x)
    (h : ∀ g, Im t g p u (k + 1) → Heap.SameBut p s.heap g → Q (some x) { s with heap := g }) : wpAny (model prog w) A (Builtin.SmallTypes.nextOrEnd (.ref p)) Q E s := by
  unfold Builtin.SmallTypes.nextOrEnd
  refine wpAny_bind (wpAny_attempt ?_)
  cases t with
  | false => exact wpAny_nextOf_list_item i q hx fun g ig sg => wpAny_pure (h g ig sg)
  | true => exact RZ.nextOf_tuple_item i q hx fun g ig sg => wpAny_pure (h g ig sg)
theorem draw_end {t : Bool} {p u : Addr} {k : Nat} {vs : Array Value} {Q : Option Value → Shared → Prop} (hh : A.handled = none) (i : Im t s.heap p u k) (q : Sq t s.heap u vs) (hx : vs[k]? = none)
    (h : ∀ g, Heap.ExtBut p s.heap g → Q none { s with heap := g }) : wpAny (model prog w) A (Builtin.SmallTypes.nextOrEnd (.ref p)) Q E s := by
  unfold Builtin.SmallTypes.nextOrEnd
  refine wpAny_bind (wpAny_attempt ?_)
  cases t with
  | false => exact wpAny_nextOf_list_end hh i q hx fun g e eg ⟨o, ho, hc⟩ => wpAny_bind (wpAny_isInstance (T := "StopIteration") (b := true) ⟨o, ho, hc⟩ isSubtype_stop (wpAny_pure (h g eg)))
  | true => exact RZ.nextOf_tuple_end hh i q hx fun g e eg ⟨o, ho, hc⟩ => wpAny_bind (wpAny_isInstance (T := "StopIteration") (b := true) ⟨o, ho, hc⟩ isSubtype_stop (wpAny_pure (h g eg)))
abbrev IsZs (g : Heap) (z ti to : Addr) (f : Value) : Prop := g.get? z = some { cls := .type "zip", dict := none, data := .fields #[f, .bool false, .bool true, .ref ti, .ref to], slots := #[] }
structure Ap (z ti to p r u v : Addr) : Prop where
  a1 : ti ≠ z
  a2 : to ≠ z
  a3 : p ≠ z
  a4 : r ≠ z
  a5 : ti ≠ to
  a6 : ti ≠ p
  a7 : ti ≠ r
  a8 : to ≠ p
  a9 : to ≠ r
  b1 : p ≠ r
  b2 : u ≠ z
  b3 : u ≠ to
  b4 : u ≠ p
  b5 : u ≠ r
  b6 : v ≠ z
  b7 : v ≠ to
  b8 : v ≠ p
  b9 : v ≠ r
theorem item {t1 t2 : Bool} {z ti to p r u v : Addr} {k : Nat} {xs ys : Array Value} {x y a b : Value} {Q : Value → Shared → Prop} (D : Ap z ti to p r u v)
    (hz : IsZs s.heap z ti to .none) (hti : IsPair s.heap ti (.ref p) (.ref r)) (hto : IsPair s.heap to a b) (i1 : Im t1 s.heap p u k) (i2 : Im t2 s.heap r v k) (q1 : Sq t1 s.heap u xs) (q2 : Sq t2 s.heap v ys) (hx : xs[k]? = some x) (hy : ys[k]? = some y)
    (hQ : ∀ g, IsZs g z ti to (rawInt s.heap.objs.size) → IsPair g to x y → Im t1 g p u (k + 1) → Im t2 g r v (k + 1) → IsPair g s.heap.objs.size x y → g.objs.size = s.heap.objs.size + 1 →
      (∀ c o, c ≠ z → c ≠ to → c ≠ p → c ≠ r → s.heap.get? c = some o → g.get? c = some o) → Q (.ref s.heap.objs.size) { s with heap := g }) :
    wpAny (model prog w) A (Builtin.«zip.__next__» ⟨[.ref z], []⟩) (fun fin s' => ∃ d, fin = .done (.ret d) ∧ Q d s') E s := by
  show wpAny _ _ (field (.ref z) 2 >>= _) _ _ s
  refine wpAny_bind (wpAny_field hz rfl (x := .bool true) rfl ?_)
  show wpAny _ _ (field (.ref z) 3 >>= _) _ _ s
  refine wpAny_bind (wpAny_field hz rfl (x := .ref ti) rfl (wpAny_bind (wpAny_seqItems hti rfl ?_)))
  show wpAny _ _ (Builtin.SmallTypes.ownedTupleIsFree (.ref z) >>= _) _ _ s
  refine wpAny_bind ?_
  unfold Builtin.SmallTypes.ownedTupleIsFree
  refine wpAny_bind (wpAny_field hz rfl (x := .none) rfl (wpAny_pure ?_))
  simp only [if_true]
  refine wpAny_bind (wpAny_rule (wpAny_bind (wpAny_field hz rfl (x := .ref to) rfl ?_)))
  refine wpAny_bind (wpAny_setField_rec hz (by simp) fun g₁ hz₁ hs₁ => ?_)
  replace hz₁ : IsZs g₁ z ti to .ellipsis := hz₁
  refine wpAny_bind ?_
  simp only [List.zipIdx_cons, List.zipIdx_nil, List.forIn_cons, List.forIn_nil]
  refine wpAny_bind (wpAny_bind (wpAny_onRaise ?_))
  show wpAny _ _ (Builtin.SmallTypes.nextOrEnd (.ref p)) _ _ _
  refine draw_item (i1.ext hs₁.extBut D.a3) (q1.ext hs₁.extBut D.b2) hx fun g₂ i₂ hs₂ => ?_
  have to₂ : IsPair g₂ to a b := hs₂.extBut _ _ D.a8 (hs₁.extBut _ _ D.a2 hto)
  refine wpAny_bind (wpAny_seqItems to₂ rfl (wpAny_bind (wpAny_updateSeq_pair to₂ fun g₃ to₃ hs₃ => ?_)))
  replace to₃ : IsPair g₃ to x b := to₃
  refine wpAny_bind (wpAny_letGo (wpAny_pure (wpAny_bind (wpAny_bind (wpAny_onRaise ?_)))))
  show wpAny _ _ (Builtin.SmallTypes.nextOrEnd (.ref r)) _ _ _
  refine draw_item (((i2.ext hs₁.extBut D.a4).ext hs₂.extBut D.b1.symm).ext hs₃.extBut D.a9.symm) (((q2.ext hs₁.extBut D.b6).ext hs₂.extBut D.b8).ext hs₃.extBut D.b7) hy fun g₄ i₄ hs₄ => ?_
  have to₄ : IsPair g₄ to x b := hs₄.extBut _ _ D.a9 to₃
  refine wpAny_bind (wpAny_seqItems to₄ rfl (wpAny_bind (wpAny_updateSeq_pair to₄ fun g₅ to₅ hs₅ => ?_)))
  replace to₅ : IsPair g₅ to x y := to₅
  refine wpAny_bind (wpAny_letGo (wpAny_pure (wpAny_pure ?_)))
  refine wpAny_bind (wpAny_seqItems to₅ rfl (wpAny_bind (wpAny_newTuple ?_)))
  have hsz : g₅.objs.size = s.heap.objs.size := by rw [hs₅.1, hs₄.1, hs₃.1, hs₂.1, hs₁.1]
  have hz₅ : IsZs g₅ z ti to .ellipsis := hs₅.extBut _ _ D.a2.symm (hs₄.extBut _ _ D.a4.symm (hs₃.extBut _ _ D.a2.symm (hs₂.extBut _ _ D.a3.symm hz₁)))
  have hk₅ : ∀ c o, c ≠ z → c ≠ to → c ≠ p → c ≠ r → s.heap.get? c = some o → g₅.get? c = some o := fun c o c1 c2 c3 c4 e =>
    hs₅.extBut _ _ c2 (hs₄.extBut _ _ c4 (hs₃.extBut _ _ c2 (hs₂.extBut _ _ c3 (hs₁.extBut _ _ c1 e))))
  have j1 : Im t1 g₅ p u (k + 1) := ((i₂.ext hs₃.extBut D.a8.symm).ext hs₄.extBut D.b1).ext hs₅.extBut D.a8.symm
  have j2 : Im t2 g₅ r v (k + 1) := i₄.ext hs₅.extBut D.a9.symm
  have lz : z < g₅.objs.size := Heap.lt_size hz₅
  show wpAny _ _ (Builtin.SmallTypes.ownedTupleHandOut (.ref z) (.ref g₅.objs.size) >>= _) _ _ _
  refine wpAny_bind ?_
  unfold Builtin.SmallTypes.ownedTupleHandOut
  have hz₆ : IsZs (g₅.push { cls := .type "tuple", data := .seq #[x, y] }) z ti to .ellipsis := Heap.get?_push_of_some _ hz₅
  refine wpAny_bind (wpAny_setField_rec hz₆ (by simp) fun g₇ hz₇ hs₇ => ?_)
  replace hz₇ : IsZs g₇ z ti to (rawInt g₅.objs.size) := hz₇
  refine wpAny_setField_rec hz₇ (by simp) fun g₈ hz₈ hs₈ => ?_
  replace hz₈ : IsZs g₈ z ti to (rawInt g₅.objs.size) := hz₈
  have up : ∀ c o, c ≠ z → g₅.get? c = some o → g₈.get? c = some o := fun c o c1 e => hs₈.extBut _ _ c1 (hs₇.extBut _ _ c1 (Heap.get?_push_of_some _ e))
  have new₈ : IsPair g₈ g₅.objs.size x y := hs₈.extBut _ _ (Nat.ne_of_gt lz) (hs₇.extBut _ _ (Nat.ne_of_gt lz) (Heap.get?_push_size _ rfl))
  have sz₈ : g₈.objs.size = g₅.objs.size + 1 := by rw [hs₈.1, hs₇.1, Heap.size_push]
  rw [hsz] at hz₈ new₈ sz₈
  refine wpAny_pure ⟨_, rfl, ?_⟩
  show Q (.ref g₅.objs.size) _
  rw [hsz]
  exact hQ g₈ hz₈ (up _ _ D.a2 to₅) (j1.at fun o e => up _ o D.a3 e) (j2.at fun o e => up _ o D.a4 e) new₈ sz₈ fun c o c1 c2 c3 c4 e => up c o c1 (hk₅ c o c1 c2 c3 c4 e)
theorem ended {t1 t2 : Bool} {z ti to p r u v : Addr} {k : Nat} {xs ys : Array Value} {a b : Value} {Q : Fin → Shared → Prop} (hh : A.handled = none) (D : Ap z ti to p r u v)
    (hz : IsZs s.heap z ti to .none) (hti : IsPair s.heap ti (.ref p) (.ref r)) (hto : IsPair s.heap to a b) (i1 : Im t1 s.heap p u k) (i2 : Im t2 s.heap r v k) (q1 : Sq t1 s.heap u xs) (q2 : Sq t2 s.heap v ys) (hx : xs[k]? = none) (hy : ys[k]? = none)
    (hE : ∀ g e, (∀ c o, c ≠ z → c ≠ to → c ≠ p → c ≠ r → s.heap.get? c = some o → g.get? c = some o) → (∃ o, g.get? e = some o ∧ o.cls = .type "StopIteration") → E (.ref e) { s with heap := g }) :
    wpAny (model prog w) A (Builtin.«zip.__next__» ⟨[.ref z], []⟩) Q E s := by
  show wpAny _ _ (field (.ref z) 2 >>= _) _ _ s
  refine wpAny_bind (wpAny_field hz rfl (x := .bool true) rfl ?_)
  show wpAny _ _ (field (.ref z) 3 >>= _) _ _ s
  refine wpAny_bind (wpAny_field hz rfl (x := .ref ti) rfl (wpAny_bind (wpAny_seqItems hti rfl ?_)))
  show wpAny _ _ (Builtin.SmallTypes.ownedTupleIsFree (.ref z) >>= _) _ _ s
  refine wpAny_bind ?_
  unfold Builtin.SmallTypes.ownedTupleIsFree
  refine wpAny_bind (wpAny_field hz rfl (x := .none) rfl (wpAny_pure ?_))
  simp only [if_true]
  refine wpAny_bind (wpAny_rule (wpAny_bind (wpAny_field hz rfl (x := .ref to) rfl ?_)))
  refine wpAny_bind (wpAny_setField_rec hz (by simp) fun g₁ hz₁ hs₁ => ?_)
  replace hz₁ : IsZs g₁ z ti to .ellipsis := hz₁
  refine wpAny_bind ?_
  simp only [List.zipIdx_cons, List.zipIdx_nil, List.forIn_cons, List.forIn_nil]
  refine wpAny_bind (wpAny_bind (wpAny_onRaise ?_))
  show wpAny _ _ (Builtin.SmallTypes.nextOrEnd (.ref p)) _ _ _
  refine draw_end hh (i1.ext hs₁.extBut D.a3) (q1.ext hs₁.extBut D.b2) hx fun g₂ hs₂ => ?_
  have hz₂ : IsZs g₂ z ti to .ellipsis := hs₂ _ _ D.a3.symm hz₁
  refine wpAny_bind (wpAny_setField_rec hz₂ (by simp) fun g₃ hz₃ hs₃ => ?_)
  refine wpAny_bind (wpAny_bind ?_)
  show wpAny _ _ (bind _ _) _ _ _
  refine wpAny_bind ?_
  show wpAny _ _ (Builtin.SmallTypes.nextOrEnd (.ref r) >>= _) _ _ _
  have i2₃ : Im t2 g₃ r v k := ((i2.ext hs₁.extBut D.a4).ext hs₂ D.b1.symm).ext hs₃.extBut D.a4
  have q2₃ : Sq t2 g₃ v ys := ((q2.ext hs₁.extBut D.b6).ext hs₂ D.b8).ext hs₃.extBut D.b6
  refine wpAny_bind (draw_end hh i2₃ q2₃ hy fun g₄ hs₄ => ?_)
  show wpAny _ _ (pure _) _ _ _
  refine wpAny_pure ?_
  show wpAny _ _ (pure _) _ _ _
  refine wpAny_pure (wpAny_bind (wpAny_rule ?_))
  show wpAny _ _ (newExc (.type "StopIteration") [] >>= _) _ _ _
  refine wpAny_bind ?_
  simp only [newExc, newTuple]
  refine wpAny_bind (wpAny_newObj_type (wpAny_bind (m := firstArgMember _ _) (wpAny_of_eq (a := Value.none) (by first | rfl | (simp only [firstArgMember]; rfl)) (wpAny_newObj_type ?_ (by size_fits)))) (by size_fits))
  simp only [raiseNew]
  refine wpAny_bind (wpAny_handled ?_)
  first | rw [show A.in1.handled = none from hh] | rw [hh]
  refine wpAny_bind (wpAny_pure (wpAny_throw ?_))
  refine hE _ _ (fun c o c1 c2 c3 c4 e => ?_) ⟨_, Heap.get?_push_size _ rfl, rfl⟩
  exact Heap.get?_push_of_some _ (Heap.get?_push_of_some _ (hs₄ _ _ c4 (hs₃.extBut _ _ c1 (hs₂ _ _ c3 (hs₁.extBut _ _ c1 e)))))
theorem next_item {t1 t2 : Bool} {z ti to p r u v : Addr} {k : Nat} {xs ys : Array Value} {x y a b : Value} {Q : Option Value → Shared → Prop} (D : Ap z ti to p r u v)
    (hz : IsZs s.heap z ti to .none) (hti : IsPair s.heap ti (.ref p) (.ref r)) (hto : IsPair s.heap to a b) (i1 : Im t1 s.heap p u k) (i2 : Im t2 s.heap r v k) (q1 : Sq t1 s.heap u xs) (q2 : Sq t2 s.heap v ys) (hx : xs[k]? = some x) (hy : ys[k]? = some y)
    (hQ : ∀ g, IsZs g z ti to (rawInt s.heap.objs.size) → IsPair g to x y → Im t1 g p u (k + 1) → Im t2 g r v (k + 1) → IsPair g s.heap.objs.size x y → g.objs.size = s.heap.objs.size + 1 →
      (∀ c o, c ≠ z → c ≠ to → c ≠ p → c ≠ r → s.heap.get? c = some o → g.get? c = some o) → Q (some (.ref s.heap.objs.size)) { s with heap := g }) : wpAny (model prog w) A (pyNext (.ref z)) Q E s := by
  have ht : s.TypeIs (.ref z) "zip" := ⟨_, hz, rfl⟩
  unfold pyNext
  refine wpAny_bind (wpAny_attempt (wpAny_callSpecial?_slot (name := Str.ofString "__next__") ht F.slot_zip_next (wpAny_call_entry F.slot_zip_next ht F.entry_zip_next ?_ (F.args_zip_next_1 _))))
  exact item D hz hti hto i1 i2 q1 q2 hx hy fun g b1 b2 b3 b4 b5 b6 b7 => wpAny_pure (hQ g b1 b2 b3 b4 b5 b6 b7)
theorem next_end {t1 t2 : Bool} {z ti to p r u v : Addr} {k : Nat} {xs ys : Array Value} {a b : Value} {Q : Option Value → Shared → Prop} (hh : A.handled = none) (D : Ap z ti to p r u v)
    (hz : IsZs s.heap z ti to .none) (hti : IsPair s.heap ti (.ref p) (.ref r)) (hto : IsPair s.heap to a b) (i1 : Im t1 s.heap p u k) (i2 : Im t2 s.heap r v k) (q1 : Sq t1 s.heap u xs) (q2 : Sq t2 s.heap v ys) (hx : xs[k]? = none) (hy : ys[k]? = none)
    (hQ : ∀ g, (∀ c o, c ≠ z → c ≠ to → c ≠ p → c ≠ r → s.heap.get? c = some o → g.get? c = some o) → Q none { s with heap := g }) : wpAny (model prog w) A (pyNext (.ref z)) Q E s := by
  have ht : s.TypeIs (.ref z) "zip" := ⟨_, hz, rfl⟩
  unfold pyNext
  refine wpAny_bind (wpAny_attempt (wpAny_callSpecial?_slot (name := Str.ofString "__next__") ht F.slot_zip_next (wpAny_call_entry F.slot_zip_next ht F.entry_zip_next ?_ (F.args_zip_next_1 _))))
  refine ended hh D hz hti hto i1 i2 q1 q2 hx hy fun g e hk ⟨o, ho, hc⟩ => ?_
  exact wpAny_bind (wpAny_isInstance (T := "StopIteration") (b := true) ⟨o, ho, hc⟩ isSubtype_stop (wpAny_pure (hQ _ hk)))
theorem let_go {es : List Expr} {x1} {pos : Pos} {z ti to d : Addr} {Q : Unit → Shared → Prop} (hz : IsZs s.heap z ti to (rawInt d)) (hQ : ∀ g, IsZs g z ti to .none → Heap.SameBut z s.heap g → Q () { s with heap := g }) :
    wpAny (model prog w) A (letOwnedTupleGo (.Tuple es x1 pos) (.ref z) (.ref d)) Q E s := by
  unfold letOwnedTupleGo
  refine wpAny_bind (wpAny_load hz ?_)
  show wpAny _ _ (if (["enumerate", "zip", "dict_itemiterator", "dict_reverseitemiterator", "odict_iterator", "itertools.zip_longest", "itertools.pairwise"].contains "zip" && (#[rawInt d, .bool false, .bool true, .ref ti, .ref to] : Array Value)[0]? == some (rawInt d)) = true then _ else _) Q E s
  rw [if_pos (by simp)]
  refine wpAny_bind (wpAny_rule ?_)
  show wpAny _ _ (setField (.ref z) 0 .none) Q E s
  exact wpAny_setField_rec hz (by simp) fun g hg sg => hQ g hg sg
theorem iter_self {z ti to : Addr} {f : Value} {Q : Value → Shared → Prop} (hz : IsZs s.heap z ti to f) (h : Q (.ref z) s) : wpAny (model prog w) A (pyIter (.ref z)) Q E s := by
  have ht : s.TypeIs (.ref z) "zip" := ⟨_, hz, rfl⟩
  refine wpAny_pyIter_slot ht F.slot_zip_iter (wpAny_call_entry F.slot_zip_iter ht F.entry_zip_iter ?_ (F.args_zip_iter_1 _))
  show wpAny _ _ (ret (.ref z)) _ _ s
  exact wpAny_pure ⟨_, rfl, "zip", _, ht, F.slot_zip_next.lookup, h⟩
end
/-! ### the making -/
def icl (t : Bool) : String := cond t "tuple_iterator" "list_iterator"
abbrev g1 (g : Heap) (t : Bool) (u : Addr) : Heap := g.push { cls := .type (icl t), data := .fields #[.ref u, .int 0 0] }
abbrev g2 (g : Heap) (t1 t2 : Bool) (u v : Addr) : Heap := (g1 g t1 u).push { cls := .type (icl t2), data := .fields #[.ref v, .int 0 0] }
abbrev g3 (g : Heap) (t1 t2 : Bool) (u v : Addr) : Heap := (g2 g t1 t2 u v).push { cls := .type "tuple", data := .seq #[.ref g.objs.size, .ref (g1 g t1 u).objs.size] }
abbrev g4 (g : Heap) (t1 t2 : Bool) (u v : Addr) : Heap := (g3 g t1 t2 u v).push { cls := .type "tuple", data := .seq #[.none, .none] }
abbrev g5 (g : Heap) (t1 t2 : Bool) (u v : Addr) : Heap := (g4 g t1 t2 u v).push { cls := .type "zip", data := .fields #[.none, .bool false, .bool true, .ref (g2 g t1 t2 u v).objs.size, .ref (g3 g t1 t2 u v).objs.size] }
theorem meets_new (t1 t2 : Bool) (u v : Addr) (xs ys : Array Value) :
    Meets (Builtin.«zip.__new__» ⟨[.type "zip", .ref u, .ref v], [("strict", .bool true)]⟩) (fun _ R s => Sq t1 s.heap u xs ∧ Sq t2 s.heap v ys ∧ R (.ok (.ret (.ref (g4 s.heap t1 t2 u v).objs.size))) { s with heap := g5 s.heap t1 t2 u v }) :=
  .of_wp fun prog w A R s h => by
    obtain ⟨hp, g, d, tk, os⟩ := s
    obtain ⟨hu, hv, h⟩ := h
    have hsub := sub_zip
    cases t1 <;> cases t2
    · have hL1 : Heap.IsList (Shared.heap ⟨hp, g, d, tk, os⟩) u xs := hu
      have hL2 : Heap.IsList (Shared.heap ⟨hp.push { cls := .type "list_iterator", data := .fields #[.ref u, .int 0 0] }, g, d, tk, os⟩) v ys := Heap.IsList.push hv _
      wp_walk using wpAny_pyIter_list hL1, wpAny_pyIter_list hL2
      exact ⟨_, rfl, h⟩
    · have hL1 : Heap.IsList (Shared.heap ⟨hp, g, d, tk, os⟩) u xs := hu
      have hL2 : Heap.IsTuple (Shared.heap ⟨hp.push { cls := .type "list_iterator", data := .fields #[.ref u, .int 0 0] }, g, d, tk, os⟩) v ys := Heap.IsTuple.push hv _
      wp_walk using wpAny_pyIter_list hL1, wpAny_pyIter_tuple hL2
      exact ⟨_, rfl, h⟩
    · have hL1 : Heap.IsTuple (Shared.heap ⟨hp, g, d, tk, os⟩) u xs := hu
      have hL2 : Heap.IsList (Shared.heap ⟨hp.push { cls := .type "tuple_iterator", data := .fields #[.ref u, .int 0 0] }, g, d, tk, os⟩) v ys := Heap.IsList.push hv _
      wp_walk using wpAny_pyIter_tuple hL1, wpAny_pyIter_list hL2
      exact ⟨_, rfl, h⟩
    · have hL1 : Heap.IsTuple (Shared.heap ⟨hp, g, d, tk, os⟩) u xs := hu
      have hL2 : Heap.IsTuple (Shared.heap ⟨hp.push { cls := .type "tuple_iterator", data := .fields #[.ref u, .int 0 0] }, g, d, tk, os⟩) v ys := Heap.IsTuple.push hv _
      wp_walk using wpAny_pyIter_tuple hL1, wpAny_pyIter_tuple hL2
      exact ⟨_, rfl, h⟩
end ZS

namespace ZS
open PySem
open PySem.Sem (wp)
section
variable {prog : Program} {w : World} {A : Around} {E : Value → Shared → Prop} {s : Shared}
theorem init_meets {T newId : String} {self : Value} {rest : List Value} {kw : List (Str × Value)} (hl : typeLookup (.type T) "__init__" = pure (some (.builtin "object.__init__"))) (hm : Bind.madeBy (.type T) = pure (some newId)) (hne : (some newId != some "object.__new__") = true) (hr : rest ≠ []) :
    Meets (Builtin.«object.__init__» ⟨self :: rest, kw⟩) (fun _ R s => s.TypeIs self T ∧ R (.ok (.ret .none)) s) := by
  refine Meets.of_wp fun prog w A R s ⟨hT, hq⟩ => ?_
  cases rest with
  | nil => exact absurd rfl hr
  | cons a rest =>
    repeat (any_goals (first | assumption | wp_step))
    exact ⟨_, rfl, hq⟩
theorem type_meets {T newId initId : String} {Bn Bi : Builtin} {ps : List Value} {kw : List (Str × Value)} {Sp : Spec} {Q Q₁ : Value → Shared → Prop} (ft : TypeCalled T newId initId) (hct : checkTypeCall T ⟨ps, kw⟩ = pure ()) (hcn : checkBuiltinCall newId ⟨.type T :: ps, kw⟩ = pure ())
    (eN : entryFor table newId = some Bn) (eI : entryFor table initId = some Bi) (g : Meets (Bn ⟨.type T :: ps, kw⟩) Sp) (h : Sp A.in1 (wants Q₁ E) s)
    (next : ∀ obj s₁, Q₁ obj s₁ → s₁.TypeIs obj T ∧ argsOk initId ⟨obj :: ps, kw⟩ ∧ ∃ Si, Meets (Bi ⟨obj :: ps, kw⟩) Si ∧ Si A.in1 (wants (fun r s₂ => r = .none ∧ Q obj s₂) E) s₁) :
    wpAny (model prog w) A (call (.type T) ps kw) Q E s := by
  obtain ⟨c, tl, hmro⟩ := ft.mro
  have hmade := ft.made
  have hsub := ft.sub
  refine wpAny_call (codeAny_of_tree ?_)
  show wpAny _ _ (callAny (.type T) _) _ _ s
  refine wpAny_pure ⟨Code.quiet_builtin _ (by decide +kernel), codeAny_builtin F.entry_type_call ?_⟩
  rw [Around.under_plain (weight_type_call_type T ps kw) (units_type_call_type T ps kw)]
  have k1 := ft.notType
  have k2 := ft.canCreate
  repeat (any_goals (first | assumption | wp_step))
  refine codeAny_mono (codeAny_call_builtin ft.plain eN (wpAny_of_eq hcn (g prog w A.in1 _ s h))) fun r s₁ hr => ?_
  cases r with
  | error e => exact hr
  | ok fl =>
    cases fl with
    | ret obj =>
      obtain ⟨hT, hok, Si, gi, hsi⟩ := next _ _ hr
      have hli := ft.init.lookup
      have hbi := ft.init.bind obj
      repeat (any_goals (first | assumption | wp_step))
      refine codeAny_mono (codeAny_call_builtin ft.init.plain eI (ft.init.check _ _ _ _ _ _ _ _ hT hok (gi prog w A.in1 _ s₁ hsi))) fun r₂ s₂ hr₂ => ?_
      cases r₂ with
      | error e => exact hr₂
      | ok fl₂ =>
        cases fl₂ with
        | ret r =>
          obtain ⟨rfl, hq⟩ := hr₂
          repeat (any_goals (first | assumption | wp_step))
        | _ => exact hr₂.elim
    | _ => exact hr.elim
abbrev kwS : List (Str × Value) := [("strict", .bool true)]
theorem ck_type (a b : Value) : checkTypeCall "zip" ⟨[a, b], kwS⟩ = pure () := by kernel_rfl
theorem ck_new (a b : Value) : checkBuiltinCall "zip.__new__" ⟨[.type "zip", a, b], kwS⟩ = pure () := by kernel_rfl
theorem ck_init (a b c : Value) : argsOk "object.__init__" ⟨[a, b, c], kwS⟩ := by
  unfold argsOk
  rw [signature?_of (id := "object.__init__") (n := ['_', '_', 't', 'i', 'n', 'i', '_', '_']) (o := ['t', 'c', 'e', 'j', 'b', 'o']) (by kernel_rfl) F.owner_object]
  kernel_rfl
theorem call_zs {t1 t2 : Bool} {u v : Addr} {xs ys : Array Value} {Q : Value → Shared → Prop} (q1 : Sq t1 s.heap u xs) (q2 : Sq t2 s.heap v ys)
    (h : ∀ g, IsZs g (s.heap.objs.size + 4) (s.heap.objs.size + 2) (s.heap.objs.size + 3) .none → IsPair g (s.heap.objs.size + 2) (.ref s.heap.objs.size) (.ref (s.heap.objs.size + 1)) → IsPair g (s.heap.objs.size + 3) .none .none → Im t1 g s.heap.objs.size u 0 → Im t2 g (s.heap.objs.size + 1) v 0 →
      (∀ c o, s.heap.get? c = some o → g.get? c = some o) → Q (.ref (s.heap.objs.size + 4)) { s with heap := g }) :
    wpAny (model prog w) A (call (.type "zip") [.ref u, .ref v] kwS) Q E s := by
  refine type_meets (Q₁ := fun obj s₁ => s₁.TypeIs obj "zip" ∧ Q obj s₁) F.called_zip (ck_type _ _) (ck_new _ _) F.entry_zip_new F.entry_object_init (meets_new t1 t2 u v xs ys) ⟨q1, q2, ?_⟩ fun obj _ hq =>
    ⟨hq.1, ck_init obj _ _, _, init_meets F.called_zip.init.lookup F.called_zip.made (by decide) (by simp), hq.1, rfl, hq.2⟩
  have z1 : (g1 s.heap t1 u).objs.size = s.heap.objs.size + 1 := Heap.size_push ..
  have z2 : (g2 s.heap t1 t2 u v).objs.size = s.heap.objs.size + 2 := by rw [Heap.size_push, z1]
  have z3 : (g3 s.heap t1 t2 u v).objs.size = s.heap.objs.size + 3 := by rw [Heap.size_push, z2]
  have z4 : (g4 s.heap t1 t2 u v).objs.size = s.heap.objs.size + 4 := by rw [Heap.size_push, z3]
  have n1 : ∀ t (g : Heap) (a : Addr), (g.push { cls := .type (icl t), data := .fields #[.ref a, .int 0 0] }).get? g.objs.size = some { cls := .type (icl t), data := .fields #[.ref a, .int 0 0] } := fun t g a => Heap.get?_push_size _ rfl
  have im : ∀ t (g : Heap) (p a : Addr), g.get? p = some { cls := .type (icl t), data := .fields #[.ref a, .int 0 0] } → Im t g p a 0 := fun t g p a e => by
    cases t
    · exact ⟨_, e, rfl, rfl⟩
    · exact ⟨_, e, rfl, rfl⟩
  have e5 : (g5 s.heap t1 t2 u v).get? (g4 s.heap t1 t2 u v).objs.size = some _ := Heap.get?_push_size _ rfl
  have e4 : (g5 s.heap t1 t2 u v).get? (g3 s.heap t1 t2 u v).objs.size = some _ := Heap.get?_push_of_some _ (Heap.get?_push_size _ rfl)
  have e3 : (g5 s.heap t1 t2 u v).get? (g2 s.heap t1 t2 u v).objs.size = some _ := Heap.get?_push_of_some _ (Heap.get?_push_of_some _ (Heap.get?_push_size _ rfl))
  have e2 : (g5 s.heap t1 t2 u v).get? (g1 s.heap t1 u).objs.size = some _ := Heap.get?_push_of_some _ (Heap.get?_push_of_some _ (Heap.get?_push_of_some _ (n1 t2 _ v)))
  have e1 : (g5 s.heap t1 t2 u v).get? s.heap.objs.size = some _ := Heap.get?_push_of_some _ (Heap.get?_push_of_some _ (Heap.get?_push_of_some _ (Heap.get?_push_of_some _ (n1 t1 _ u))))
  show _ ∧ _
  rw [z2, z3, z4] at e5
  rw [z1, z2] at e3
  rw [z3] at e4
  rw [z1] at e2
  rw [z4]
  exact ⟨⟨_, e5, rfl⟩, h _ e5 e3 e4 (im t1 _ _ _ e1) (im t2 _ _ _ e2) fun c o e => Heap.get?_push_of_some _ (Heap.get?_push_of_some _ (Heap.get?_push_of_some _ (Heap.get?_push_of_some _ (Heap.get?_push_of_some _ e))))⟩
end
theorem with_type {M : Model} {A : Around} {E : Value → Shared → Prop} {s : Shared} {pos : Pos} {T : String} {first : List Value} {args : List (Bool × Sem Value)} {keywords : List (Option Str × Sem Value)} {Q : Value → Shared → Prop}
    (hp : args.any (·.1) = false) (hk : keywords.any (·.1.isNone) = false) (h : wpAny M A (evalArgs (.type T) true args keywords) (fun a s₁ => wpAny M A (call (.type T) (first ++ a.pos) a.kw) Q E s₁) E s) : wpAny M A (callWith pos (.type T) first args keywords) Q E s := by
  unfold callWith
  refine wpAny_bind (wpAny_holding (wpAny_mono h (fun a s₁ h₁ => wpAny_bind (wpAny_standAt ?_)) fun _ _ x => x))
  simp only [hp, hk, Bool.or_false]
  refine wpAny_bind (wpAny_pure (wpAny_bind (wpAny_mono h₁ (fun r s₂ hr => wpAny_bind (wpAny_holding (wpAny_point (wpAny_pure hr)))) fun _ _ x => x)))
end ZS

namespace ZS
open PySem PySem.Spec PyProof.Rows L2
def SqB (K : PySem.W.Frag) (H : Hp) (t : Bool) (a : Addr) (xs : List V) : Prop := cond t (SqT K H a xs) (SqL K H a xs)
/-- the two sequences as they stand at each turn, the items in new pairs -/
def ItS (K : PySem.W.Frag) (t1 t2 : Bool) (a b : Addr) : It :=
  ⟨fun i H => ∃ (xs ys : List V) (x y : V), SqB K H t1 a xs ∧ SqB K H t2 b ys ∧ xs[i]? = some x ∧ ys[i]? = some y,
    fun i H v H' => ∃ d x y, v = .ref d ∧ H d = none ∧ H' = upd H d (.tup [x, y]) ∧ (∀ xs, SqB K H t1 a xs → xs[i]? = some x) ∧ ∀ ys, SqB K H t2 b ys → ys[i]? = some y,
    fun i H => ∃ xs ys : List V, SqB K H t1 a xs ∧ SqB K H t2 b ys ∧ xs.length ≤ i ∧ ys.length ≤ i⟩
theorem sq_of {X : Cx} {pins : List (Addr × Obj)} {σ : L2.St} {H : Hp} {s : Shared} {t : Bool} {a : Addr} {xs : List V} (I : Inv X pins σ H s) (h : SqB X.K H t a xs) : ∃ its : List Value, Vals xs its ∧ Sq t s.heap a its.toArray ∧ a < s.heap.objs.size := by
  cases t with
  | false =>
    obtain ⟨its, rv, p, _⟩ := I.list h
    exact ⟨its, rv, p.isList, p.lt⟩
  | true =>
    obtain ⟨its, rv, p, _⟩ := I.tuple h
    exact ⟨its, rv, p, by obtain ⟨o, e, _⟩ := p; exact Heap.lt_size e⟩
theorem sq_inj {X : Cx} {pins : List (Addr × Obj)} {σ : L2.St} {H : Hp} {s : Shared} {t : Bool} {a : Addr} {xs ys : List V} (I : Inv X pins σ H s) (h : SqB X.K H t a xs) (h2 : SqB X.K H t a ys) : xs = ys := by
  cases t with
  | false => exact I.list_inj h h2
  | true => exact I.tuple_inj h h2
theorem ap_of (n u v : Addr) (hu : u < n) (hv : v < n) : Ap (n + 4) (n + 2) (n + 3) n (n + 1) u v := by
  have D := PySem.W.ktu_apart n u v hu hv
  exact ⟨D.TIz, D.TOz, D.i1z, D.i2z, D.TITO, D.TIi1, D.TIi2, D.TOi1, D.TOi2, D.i12, D.l1z, D.l1TO, D.l1i1, D.l1i2, D.l2z, D.l2TO, D.l2i1, D.l2i2⟩
theorem turn {P : Program} {w : World} {K : PySem.W.Frag} {elts : List Expr} {kk : Nat} {tpos : Pos} {t1 t2 : Bool} {a b z ti to p r : Addr} (D : Ap z ti to p r a b) :
    Turn P w K (.Tuple elts kk tpos) (ItS K t1 t2 a b) [z, ti, to, p, r] z (fun i h => IsZs h z ti to .none ∧ IsPair h ti (.ref p) (.ref r) ∧ (∃ x y, IsPair h to x y) ∧ Im t1 h p a i ∧ Im t2 h r b i) where
  mem := by simp
  obj := fun i h ⟨hz, hti, ⟨x, y, hto⟩, h1, h2⟩ c hc => by
    have e' : c = z ∨ c = ti ∨ c = to ∨ c = p ∨ c = r := by simpa using hc
    rcases e' with q | q | q | q | q
    · rw [q]; exact ⟨_, hz, fun v q => nomatch q⟩
    · rw [q]; exact ⟨_, hti, fun v q => nomatch q⟩
    · rw [q]; exact ⟨_, hto, fun v q => nomatch q⟩
    · rw [q]; exact h1.obj
    · rw [q]; exact h2.obj
  keep := fun i h h' ⟨hz, hti, ⟨x, y, hto⟩, h1, h2⟩ k => ⟨k z (by simp) _ hz, k ti (by simp) _ hti, ⟨x, y, k to (by simp) _ hto⟩, h1.at fun o q => k p (by simp) o q, h2.at fun o q => k r (by simp) o q⟩
  item := by
    intro X hP hw hK hc i pins s σ H E I hf st hg
    subst hP hw hK
    obtain ⟨hz, hti, ⟨x0, y0, hto⟩, h1, h2⟩ := st
    obtain ⟨xs, ys, x, y, hqx, hqy, hx, hy⟩ := hg
    obtain ⟨its, rv, w1, _⟩ := sq_of I hqx
    obtain ⟨its2, rv2, w2, _⟩ := sq_of I hqy
    obtain ⟨u, hu, ru⟩ := rv.get hx
    obtain ⟨u2, hu2, ru2⟩ := rv2.get hy
    have lz : z < s.heap.objs.size := Heap.lt_size hz
    refine next_item D hz hti hto h1 h2 w1 w2 (x := u) (y := u2) (by simpa using hu) (by simpa using hu2) fun g z' to' k1 k2 hT hsz hk => ?_
    refine ⟨_, rfl, let_go (s := { s with heap := g }) z' fun g2 z'' sb => ?_⟩
    have hT2 : g2.get? s.heap.objs.size = some { cls := .type "tuple", data := .seq #[u, u2] } := (sb.2 _ (Nat.ne_of_gt lz)).trans hT
    have new : ObjOk X.prog X.w (upd H s.heap.objs.size (.tup [x, y])) g2 s.heap.objs.size (.tup [x, y]) := ⟨(by show 2 ≤ sizeLine; decide), [u, u2], .cons ru (.cons ru2 .nil), ⟨_, hT2, rfl, _, rfl⟩⟩
    have I1 : Inv X pins σ (upd H s.heap.objs.size (.tup [x, y])) { s with heap := g2 } :=
      I.turnedNew (t' := s.toks) (ch := [z, ti, to, p, r]) (fun c o hb q => (sb.2 c (fun q' => hb (by simp [q']))).trans (hk c o (fun q' => hb (by simp [q'])) (fun q' => hb (by simp [q'])) (fun q' => hb (by simp [q'])) (fun q' => hb (by simp [q'])) q)) hf (Nat.le_refl _) new
    refine ⟨.ref s.heap.objs.size, _, I1, rfl, ⟨_, x, y, rfl, I.hok.fresh (Nat.le_refl _), rfl, fun l hl => by rw [sq_inj I hl hqx]; exact hx, fun l hl => by rw [sq_inj I hl hqy]; exact hy⟩, ⟨z'', ?_, ⟨u, u2, ?_⟩, ?_, ?_⟩, fun c hcm => ?_⟩
    · exact (sb.2 _ D.a1).trans (hk _ _ D.a1 D.a5 D.a6 D.a7 hti)
    · exact (sb.2 _ D.a2).trans to'
    · exact k1.at fun o q => (sb.2 _ D.a3).trans q
    · exact k2.at fun o q => (sb.2 _ D.a4).trans q
    · have hlt : c < s.heap.objs.size := by
        have e' : c = z ∨ c = ti ∨ c = to ∨ c = p ∨ c = r := by simpa using hcm
        rcases e' with q | q | q | q | q
        · rw [q]; exact lz
        · rw [q]; exact Heap.lt_size hti
        · rw [q]; exact Heap.lt_size hto
        · rw [q]; obtain ⟨_, e1, _⟩ := h1.obj; exact Heap.lt_size e1
        · rw [q]; obtain ⟨_, e1, _⟩ := h2.obj; exact Heap.lt_size e1
      rw [upd_ne (Nat.ne_of_lt hlt)]
      exact (hf c hcm).1
  done := by
    intro X hP hw hK hc i pins s σ H E I hf st hg
    subst hP hw hK
    obtain ⟨hz, hti, ⟨x0, y0, hto⟩, h1, h2⟩ := st
    obtain ⟨xs, ys, hqx, hqy, e1, e2⟩ := hg
    obtain ⟨its, rv, w1, _⟩ := sq_of I hqx
    obtain ⟨its2, rv2, w2, _⟩ := sq_of I hqy
    have l1 := rv.length
    have l2 := rv2.length
    exact next_end (I.ok.hd hc) D hz hti hto h1 h2 w1 w2 (by simp; omega) (by simp; omega) fun g hk => ⟨rfl, I.turnedL (t' := s.toks) (ch := [z, ti, to, p, r]) (fun c o hb q =>
      hk c o (fun q' => hb (by simp [q'])) (fun q' => hb (by simp [q'])) (fun q' => hb (by simp [q'])) (fun q' => hb (by simp [q'])) q) hf⟩
  self := fun A i s Q E st h => iter_self st.1 h
def iZs (K : PySem.W.Frag) (ta tk : TA) : TI := fun σ H R => ta σ H fun vs H1 => tk σ H1 fun zs H2 => ∃ a b xs ys t1 t2, vs = [.ref a, .ref b] ∧ zs = [.bl true] ∧ SqB K H2 t1 a xs ∧ SqB K H2 t2 b ys ∧ R (ItS K t1 t2 a b) H2
theorem pi_zs {X : Cx} {e e2 : Expr} {ta tk : TA} {p pos tpos : Pos} {elts : List Expr} {kk : Nat} {kws : List Keyword} (hg : Gl X "zip") (hm : X.mg "zip" = none) (ha : PA X [e, e2] ta) (hk : PK X kws tk)
    (he : backTo pos (starEach [e, e2] X.env) = (false, eval e X.env) :: backTo pos (starEach [e2] X.env) := by rfl) (hpl : (backTo pos (starEach [e, e2] X.env)).any (·.1) = false := by rfl)
    (hall : (backToKw pos (keywordEach kws X.env)).all (·.1.isSome) = true := by rfl) (hnone : (backToKw pos (keywordEach kws X.env)).any (·.1.isNone) = false := by rfl) (hks : (backToKw pos (keywordEach kws X.env)).filterMap (·.1) = ([("strict" : Str)] : List Str) := by rfl) :
    PI X (.Tuple elts kk tpos) (.Call (.Name "zip" p) [e, e2] kws pos) (iZs X.K ta tk) := by
  refine ⟨fun pins s σ H R I h => ?_⟩
  refine wpAny_Call_Name_kw (ld_blt I hg hm PyProof.Rows.boot_zip ?_ (by decide) (by decide))
  refine with_type hpl hnone ?_
  rw [he]
  refine evalArgs_kwB hall ?_
  rw [← he]
  refine thn (ha.run pos pins s σ H _ I h) fun us s1 ⟨vs, H1, I1, r1, q1⟩ => thn (hk.run pos pins s1 σ H1 _ I1 q1) fun ws s2 ⟨zs, H2, I2, r2, q2⟩ => ?_
  rw [hks]
  obtain ⟨a, b, xs, ys, t1, t2, ex, ez, hqx, hqy, q⟩ := q2
  subst ex ez
  cases r1 with
  | cons r rr =>
    cases rr with
    | cons r' rr =>
      cases rr
      cases r
      cases r'
      cases r2 with
      | cons r3 rr =>
        cases rr
        cases r3
        obtain ⟨its, rv, w1, la⟩ := sq_of I2 hqx
        obtain ⟨its2, rv2, w2, lb⟩ := sq_of I2 hqy
        refine call_zs w1 w2 fun g hz hti hto h1 h2 hk => iter_self hz ?_
        have I3 : Inv X pins σ H2 { s2 with heap := g } := I2.kept (t' := s2.toks) hk
        refine ⟨s2.heap.objs.size + 4, [s2.heap.objs.size + 4, s2.heap.objs.size + 2, s2.heap.objs.size + 3, s2.heap.objs.size, s2.heap.objs.size + 1], _, _, H2, rfl, I3, turn (ap_of s2.heap.objs.size a b la lb), ⟨hz, hti, ⟨_, _, hto⟩, h1, h2⟩, fun c hcm => ?_, q⟩
        have e' : c = s2.heap.objs.size + 4 ∨ c = s2.heap.objs.size + 2 ∨ c = s2.heap.objs.size + 3 ∨ c = s2.heap.objs.size ∨ c = s2.heap.objs.size + 1 := by simpa using hcm
        have hle : s2.heap.objs.size ≤ c := by rcases e' with z | z | z | z | z <;> (rw [z]; first | exact Nat.le_add_right _ _ | exact Nat.le_refl _)
        exact I2.fpOk hle (I2.hok.fresh hle)
end ZS

/-! DLz: pairs of two sequences. -/
namespace DL
open PySem PySem.Spec PyProof.Rows L2 ZS

def seqV : D → Option (Bool × List P)
  | .v (.lst ps) => some (false, ps)
  | .v (.frz ps) => some (false, ps)
  | .v (.tup ps) => some (true, ps)
  | _ => none
section
variable {K : PySem.W.Frag} {m m2 : Mp} {G G2 H H2 : Hp} {t : Bool} {a : Addr} {xs : List V} {ps qs : List P}
theorem sqB_mono (e : Exh G G2) (h : SqB K G t a xs) : SqB K G2 t a xs := by
  cases t
  · exact sqL_mono e h
  · exact sqT_mono e h
theorem seqV_is {d : D} {v : V} (h : seqV d = some (t, ps)) (i : IsD K m G d v) : ∃ a xs, v = .ref a ∧ SqB K G t a xs ∧ IsAll K G ps xs := by
  unfold seqV at h
  split at h
  · cases h
    obtain ⟨a, xs, h1, h2, h3⟩ := i
    exact ⟨a, xs, h1, .of h2, h3⟩
  · cases h
    obtain ⟨a, xs, h1, h2, h3⟩ := i
    exact ⟨a, xs, h1, h2, h3⟩
  · cases h
    obtain ⟨a, xs, h1, h2, h3⟩ := i
    exact ⟨a, xs, h1, h2, h3⟩
  · cases h
/-- the pairs -/
def prs (ps qs : List P) : List P := List.zipWith (fun a b => .tup [a, b]) ps qs
theorem prs_at {i : Nat} {p : P} (h : (prs ps qs)[i]? = some p) : ∃ x y, ps[i]? = some x ∧ qs[i]? = some y ∧ p = .tup [x, y] := by
  unfold prs at h
  rw [List.getElem?_zipWith] at h
  cases hx : ps[i]? with
  | none => rw [hx] at h; cases h
  | some x =>
    cases hy : qs[i]? with
    | none => rw [hx, hy] at h; cases h
    | some y =>
      rw [hx, hy] at h
      exact ⟨x, y, rfl, rfl, (Option.some.inj h).symm⟩
theorem pair_new {d : Addr} {vx vy : V} {x y : P} {S2 : Sto} (R : Rel K m2 H2 S2) (hd : H2 d = none) (h1 : Is K (mask m2 H2) x vx) (h2 : Is K (mask m2 H2) y vy) :
    Rel K m2 (upd H2 d (.tup [vx, vy])) S2 ∧ Stp m2 H2 m2 (upd H2 d (.tup [vx, vy])) ∧ Is K (mask m2 (upd H2 d (.tup [vx, vy]))) (.tup [x, y]) (.ref d) ∧ ∀ b o, H2 b = some o → upd H2 d (.tup [vx, vy]) b = some o := by
  obtain ⟨R2, st2⟩ := R.fresh (o := .tup [vx, vy]) hd
  refine ⟨R2, st2, ⟨d, [vx, vy], rfl, .inl (.inl ?_), ⟨vx, [vy], rfl, st2.val h1, ⟨vy, [], rfl, st2.val h2, rfl⟩⟩⟩, fun b o e => ?_⟩
  · rw [mask_upd (R.out hd)]
    exact upd_same
  · rw [upd_ne (ne_of_none e hd)]
    exact e
theorem itd_zs {t1 t2 : Bool} {a b : Addr} {xs ys : List V} (hl : ps.length = qs.length) (h1 : SqB K (mask m H) t1 a xs) (h2 : SqB K (mask m H) t2 b ys) (i1 : IsAll K (mask m H) ps xs) (i2 : IsAll K (mask m H) qs ys) : ItD K m H (ItS K t1 t2 a b) (prs ps qs) none where
  go := fun i p m2 H2 S2 hp w R o => by
    obtain ⟨x, y, hx, hy, rfl⟩ := prs_at hp
    have k1 := sqB_mono (mask_ex m2 H2) (sqB_mono w.ex h1)
    have k2 := sqB_mono (mask_ex m2 H2) (sqB_mono w.ex h2)
    obtain ⟨vx, e1, j1⟩ := (IsAll.mono w.ex _ _ i1).get hx
    obtain ⟨vy, e2, j2⟩ := (IsAll.mono w.ex _ _ i2).get hy
    refine ⟨⟨xs, ys, vx, vy, k1, k2, e1, e2⟩, fun z H3 hy => ?_⟩
    obtain ⟨d, ux, uy, rfl, hd, rfl, f1, f2⟩ := hy
    have g1 := f1 xs k1
    have g2 := f2 ys k2
    rw [e1] at g1
    rw [e2] at g2
    cases g1
    cases g2
    exact pair_new R hd j1 j2
  stop := fun i m2 H2 S2 hi w R o => by
    have k1 := sqB_mono (mask_ex m2 H2) (sqB_mono w.ex h1)
    have k2 := sqB_mono (mask_ex m2 H2) (sqB_mono w.ex h2)
    unfold prs at hi
    rw [List.length_zipWith] at hi
    exact ⟨xs, ys, k1, k2, by rw [← i1.len]; omega, by rw [← i2.len]; omega⟩
theorem itd_zL {a b : Addr} {xs ys : List V} (h1 : SqL K (mask m H) a xs) (h2 : SqL K (mask m H) b ys) (i1 : IsAll K (mask m H) ps xs) (i2 : IsAll K (mask m H) qs ys) : ItD K m H (Itz K a b) (prs ps qs) none where
  go := fun i p m2 H2 S2 hp w R o => by
    obtain ⟨x, y, hx, hy, rfl⟩ := prs_at hp
    have k1 := sqL_mono (mask_ex m2 H2) (sqL_mono w.ex h1)
    have k2 := sqL_mono (mask_ex m2 H2) (sqL_mono w.ex h2)
    obtain ⟨vx, e1, j1⟩ := (IsAll.mono w.ex _ _ i1).get hx
    obtain ⟨vy, e2, j2⟩ := (IsAll.mono w.ex _ _ i2).get hy
    refine ⟨⟨xs, ys, vx, vy, k1, k2, e1, e2⟩, fun z H3 hy => ?_⟩
    obtain ⟨d, ux, uy, rfl, hd, rfl, f1, f2⟩ := hy
    have g1 := f1 xs k1
    have g2 := f2 ys k2
    rw [e1] at g1
    rw [e2] at g2
    cases g1
    cases g2
    exact pair_new R hd j1 j2
  stop := fun i m2 H2 S2 hi w R o => by
    have k1 := sqL_mono (mask_ex m2 H2) (sqL_mono w.ex h1)
    have k2 := sqL_mono (mask_ex m2 H2) (sqL_mono w.ex h2)
    unfold prs at hi
    rw [List.length_zipWith] at hi
    refine ⟨xs, ys, k1, k2, ?_⟩
    rw [← i1.len, ← i2.len]
    omega
theorem itd_zT {a b : Addr} {xs ys : List V} (h1 : SqT K (mask m H) a xs) (h2 : SqT K (mask m H) b ys) (i1 : IsAll K (mask m H) ps xs) (i2 : IsAll K (mask m H) qs ys) : ItD K m H (RZ.ItzT K a b) (prs ps qs) none where
  go := fun i p m2 H2 S2 hp w R o => by
    obtain ⟨x, y, hx, hy, rfl⟩ := prs_at hp
    have k1 := sqT_mono (mask_ex m2 H2) (sqT_mono w.ex h1)
    have k2 := sqT_mono (mask_ex m2 H2) (sqT_mono w.ex h2)
    obtain ⟨vx, e1, j1⟩ := (IsAll.mono w.ex _ _ i1).get hx
    obtain ⟨vy, e2, j2⟩ := (IsAll.mono w.ex _ _ i2).get hy
    refine ⟨⟨xs, ys, vx, vy, k1, k2, e1, e2⟩, fun z H3 hy => ?_⟩
    obtain ⟨d, ux, uy, rfl, hd, rfl, f1, f2⟩ := hy
    have g1 := f1 xs k1
    have g2 := f2 ys k2
    rw [e1] at g1
    rw [e2] at g2
    cases g1
    cases g2
    exact pair_new R hd j1 j2
  stop := fun i m2 H2 S2 hi w R o => by
    have k1 := sqT_mono (mask_ex m2 H2) (sqT_mono w.ex h1)
    have k2 := sqT_mono (mask_ex m2 H2) (sqT_mono w.ex h2)
    unfold prs at hi
    rw [List.length_zipWith] at hi
    refine ⟨xs, ys, k1, k2, ?_⟩
    rw [← i1.len, ← i2.len]
    omega
end
def two (ds : List D) : Option ((Bool × List P) × (Bool × List P)) := match ds with
  | [d, e] => match seqV d, seqV e with
    | some x, some y => some (x, y)
    | _, _ => none
  | _ => none
theorem two_is {K : PySem.W.Frag} {m : Mp} {G : Hp} {ds : List D} {vs : List V} {t1 t2 : Bool} {ps qs : List P} (h : two ds = some ((t1, ps), (t2, qs))) (i : IsDs K m G ds vs) :
    ∃ a b xs ys, vs = [.ref a, .ref b] ∧ SqB K G t1 a xs ∧ SqB K G t2 b ys ∧ IsAll K G ps xs ∧ IsAll K G qs ys := by
  unfold two at h
  split at h
  · rename_i d e
    split at h
    · rename_i x y hx hy
      cases h
      obtain ⟨v, r, rfl, i1, w, r2, rfl, i2, rfl⟩ := i
      obtain ⟨a, xs, rfl, j1, j2⟩ := seqV_is hx i1
      obtain ⟨b, ys, rfl, j3, j4⟩ := seqV_is hy i2
      exact ⟨a, b, xs, ys, rfl, j1, j3, j2, j4⟩
    · cases h
  · cases h
/-- zip(.., strict=True) -/
def iZpS (g gk : FA) : FI := fun env S => (g env S).bind fun ds S1 => (gk env S1).bind fun es S2 => match es with
  | [.v (.bl true)] => match two ds with
    | some ((_, ps), (_, qs)) => if ps.length = qs.length then .ok (prs ps qs, none) S2 else .bad
    | none => .bad
  | _ => .bad
/-- zip(.., ..) of two lists, of two tuples -/
def iZp (g : FA) : FI := fun env S => (g env S).bind fun ds S1 => match two ds with
  | some ((t1, ps), (t2, qs)) => if t1 = t2 then .ok (prs ps qs, none) S1 else .bad
  | none => .bad
section
variable {X : Cx} {e e2 : Expr} {p pos tpos : Pos} {elts : List Expr} {kk : Nat} {kws : List Keyword} {g gk : FA}
theorem i_zpS (hm : X.mg "zip" = none) (ha : PAd X [e, e2] g) (hk : PKd X kws gk) (hg : Gl X "zip" := by rfl) (he : backTo pos (starEach [e, e2] X.env) = (false, eval e X.env) :: backTo pos (starEach [e2] X.env) := by rfl) (hpl : (backTo pos (starEach [e, e2] X.env)).any (·.1) = false := by rfl)
    (hall : (backToKw pos (keywordEach kws X.env)).all (·.1.isSome) = true := by rfl) (hnone : (backToKw pos (keywordEach kws X.env)).any (·.1.isNone) = false := by rfl) (hks : (backToKw pos (keywordEach kws X.env)).filterMap (·.1) = ([("strict" : Str)] : List Str) := by rfl) :
    PId X (.Tuple elts kk tpos) (.Call (.Name "zip" p) [e, e2] kws pos) (iZpS g gk) := pi_weak (pi_zs hg hm ha hk he hpl hall hnone hks) fun σ H W ⟨m, env, S, R, E, ps, own, S', e1, q⟩ => by
  obtain ⟨ds, S1, k1, e2⟩ := Oc.bind_eq e1
  obtain ⟨es, S2, k2, e3⟩ := Oc.bind_eq e2
  refine ⟨m, env, S, R, E, ds, S1, k1, fun vs m1 H1 st1 R1 i1 => ⟨m1, env, S1, R1, E.step st1, es, S2, k2, fun zs m2 H2 st2 R2 i2 => ?_⟩⟩
  split at e3
  · split at e3
    · rename_i t1 pp t2 qq hw
      split at e3
      · rename_i hl
        cases e3
        obtain ⟨a, b, xs, ys, rfl, j1, j2, j3, j4⟩ := two_is hw (st2.ids i1)
        obtain ⟨z, r, rfl, hz, rfl⟩ := i2
        refine ⟨a, b, xs, ys, t1, t2, rfl, congrArg (fun v => [v]) hz, sqB_mono (mask_ex _ _) j1, sqB_mono (mask_ex _ _) j2, q m2 H2 _ (st1.trans st2) R2 (itd_zs hl j1 j2 j3 j4)⟩
      · cases e3
    · cases e3
  · cases e3
theorem i_zp (hm : X.mg "zip" = none) (ha : PAd X [e, e2] g) (hg : Gl X "zip" := by rfl) (hs : starEach [e, e2] X.env = (false, eval e X.env) :: starEach [e2] X.env := by rfl) (hpl : (backTo pos (starEach [e2] X.env)).any (·.1) = false := by rfl) :
    PId X (.Tuple elts kk tpos) (.Call (.Name "zip" p) [e, e2] [] pos) (iZp g) := pi_weak (RZ.pi_zipA hg hm ha hs hpl) fun σ H W ⟨m, env, S, R, E, ps, own, S', e1, q⟩ => by
  obtain ⟨ds, S1, k1, e2⟩ := Oc.bind_eq e1
  refine ⟨m, env, S, R, E, ds, S1, k1, fun vs m1 H1 st1 R1 i1 => ?_⟩
  split at e2
  · rename_i t1 pp t2 qq hw
    split at e2
    · rename_i ht
      cases ht
      cases e2
      obtain ⟨a, b, xs, ys, rfl, j1, j2, j3, j4⟩ := two_is hw i1
      cases t1 with
      | false => exact ⟨a, b, xs, ys, rfl, .inl ⟨sqL_mono (mask_ex _ _) j1, sqL_mono (mask_ex _ _) j2, q m1 H1 _ st1 R1 (itd_zL j1 j2 j3 j4)⟩⟩
      | true => exact ⟨a, b, xs, ys, rfl, .inr ⟨sqT_mono (mask_ex _ _) j1, sqT_mono (mask_ex _ _) j2, q m1 H1 _ st1 R1 (itd_zT j1 j2 j3 j4)⟩⟩
    · cases e2
  · cases e2
end
/-! values found -/
theorem prs_map {α β γ : Type} {xs : List γ} {f g : γ → P} : prs (xs.map f) (xs.map g) = xs.map fun x => .tup [f x, g x] := by
  unfold prs
  rw [List.zipWith_map, List.zipWith_self]
theorem prs_zip {α β : Type} {xs : List α} {ys : List β} {f : α → P} {g : β → P} : prs (xs.map f) (ys.map g) = (xs.zip ys).map fun z => .tup [f z.1, g z.2] := by
  unfold prs
  rw [List.zipWith_map, List.map_zip_eq_zipWith]
  rfl
section
variable {α β : Type} {xs : List α} {ys : List β} {f : α → P} {h : β → P} {g gk : FA} {env : Dnv} {S S1 S2 : Sto} {ds es : List D} {t1 t2 : Bool}
theorem e_zpS (h1 : g env S = .ok ds S1) (h2 : gk env S1 = .ok [.v (.bl true)] S2) (h3 : two ds = some ((t1, xs.map f), (t2, ys.map h))) (hl : xs.length = ys.length) : iZpS g gk env S = .ok ((xs.zip ys).map (fun z => P.tup [f z.1, h z.2]), none) S2 := by
  unfold iZpS
  rw [h1]
  simp only [Oc.bind_ok]
  rw [h2]
  simp only [Oc.bind_ok]
  rw [h3]
  show (if _ then _ else _ : Oc (List P × Option Nat)) = _
  rw [if_pos (by simpa using hl), prs_zip]
theorem e_zp (h1 : g env S = .ok ds S1) (h3 : two ds = some ((t1, xs.map f), (t1, ys.map h))) : iZp g env S = .ok ((xs.zip ys).map (fun z => P.tup [f z.1, h z.2]), none) S1 := by
  unfold iZp
  rw [h1]
  simp only [Oc.bind_ok]
  rw [h3]
  show (if _ then _ else _ : Oc (List P × Option Nat)) = _
  rw [if_pos rfl, prs_zip]
end
/-! a sum of lists that will be changed -/
def fAddB (f g : FE) : FE := fun env S => (f env S).bind fun d S1 => (g env S1).bind fun e S2 => match deP S2 d, deP S2 e with
  | some (.lst a), some (.lst b) => if a.length + b.length ≤ 100000 then .ok (.r S2.length) (S2 ++ [.lst (a ++ b)]) else .bad
  | _, _ => .bad
theorem d_addB {X : Cx} {a b : Expr} {f g : FE} {pos : Pos} (ha : PEd X a f) (hb : PEd X b g) : PEd X (.BinOp a .Add b pos) (fAddB f g) := pe_weak (pe_op op_cat ha hb) fun σ H Q ⟨m, env, S, R, E, d', S', e1, q⟩ => by
  obtain ⟨d, S1, k1, e2⟩ := Oc.bind_eq e1
  obtain ⟨e, S2, k2, e3⟩ := Oc.bind_eq e2
  refine ⟨m, env, S, R, E, d, S1, k1, fun v m1 H1 st1 R1 i1 => ⟨m1, env, S1, R1, E.step st1, e, S2, k2, fun w m2 H2 st2 R2 i2 => ?_⟩⟩
  split at e3
  · rename_i A B h1 h2
    split at e3
    · rename_i hl
      cases e3
      obtain ⟨x, xs, rfl, hsx, hax⟩ := isR_of R2 (st2.is i1) h1
      obtain ⟨y, ys, rfl, hsy, hay⟩ := isR_of R2 i2 h2
      exact ⟨x, y, xs, ys, rfl, rfl, hsx, hsy, by rw [← hax.len, ← hay.len]; exact size_of hl, boxLst R2 (hax.append hay) fun z m3 H3 st3 R3 i3 => q z m3 H3 ((st1.trans st2).trans st3) R3 i3⟩
    · cases e3
  · cases e3
theorem e_addB {o : Ob} {T B : Sto} {f g : FE} {env : Dnv} {S S1 : Sto} {d e : D} {a b : List P} (h1 : f env S = .ok d S1) (h2 : g env S1 = .ok e (o :: (T ++ B))) (h3 : deP (o :: (T ++ B)) d = some (.lst a)) (h4 : deP (o :: (T ++ B)) e = some (.lst b)) (hl : a.length + b.length ≤ 100000) :
    fAddB f g env S = .ok (.r (bx T B.length)) (o :: (T ++ (B ++ [.lst (a ++ b)]))) := by
  unfold fAddB
  rw [h1]
  simp only [Oc.bind_ok]
  rw [h2]
  simp only [Oc.bind_ok]
  rw [h3, h4]
  show (if _ then _ else _ : Oc D) = _
  rw [if_pos hl, bx_put, bx_len]
theorem p_addB {f g : FE} {env : Dnv} {S : Sto} {Q : D → Sto → Prop} (h : (f env S).P fun d S1 => (g env S1).P fun e S2 => ∃ a b, deP S2 d = some (.lst a) ∧ deP S2 e = some (.lst b) ∧ a.length + b.length ≤ 100000 ∧ Q (.r S2.length) (S2 ++ [.lst (a ++ b)])) : (fAddB f g env S).P Q :=
  P_bind (h.mono fun d S1 h => P_bind (h.mono fun e S2 ⟨a, b, h1, h2, h3, q⟩ => by
    rw [h1, h2]
    show (if _ then _ else _ : Oc D).P Q
    rw [if_pos h3]
    exact q))
end DL

/-! SX: sets of texts: made of a list or a tuple, counted, sorted. -/
namespace SX
open PySem PySem.Spec L2
abbrev TK (P : Program) (w : World) := PySem.strKind P w
abbrev fresh0 (w : World) : Obj := { cls := .type "set", dict := none, data := .set #[] 0 (.fresh 0 0 (!w.params.followText "set-order")) }
def keyT (e : Int × Value) : Str := match e.2 with | .str k _ => k | _ => Str.empty
def GoodT (w : World) (e : Int × Value) : Prop := ∃ k u, e.2 = Value.str k u ∧ e.1 = hashStr w k
/-- the set at a holds the texts of M, n of them -/
def SetT (w : World) (g : Heap) (a : Addr) (M : Str → Prop) (n : Nat) : Prop :=
  ∃ o es ep t, g.get? a = some o ∧ o.ExactSet ∧ o.data = .set es ep t ∧ (∀ e ∈ es.toList, GoodT w e) ∧ (es.toList.map keyT).Nodup ∧ (∀ k, M k ↔ k ∈ es.toList.map keyT) ∧ es.size < scanBound ∧ t.fits es.size = true ∧ es.size = n ∧ Ris t.place.toList ∧ (w.params.followText "set-order" = true ∨ t.led = true)
section
variable {P : Program} {w : World} {g g' : Heap} {a : Addr} {M : Str → Prop} {n : Nat}
theorem SetT.at (R : SetT w g a M n) (k : ∀ o, g.get? a = some o → g'.get? a = some o) : SetT w g' a M n := by
  obtain ⟨o, es, ep, t, ho, r⟩ := R
  exact ⟨o, es, ep, t, k o ho, r⟩
theorem SetT.congr {M' : Str → Prop} (R : SetT w g a M n) (e : ∀ k, M' k ↔ M k) : SetT w g a M' n := by
  have q : M' = M := funext fun k => propext (e k)
  rw [q]
  exact R
theorem is_t (k : Str) (u : Tok) : (TK P w).is k (.str k u) = true := by
  show Value.isStrOf k (.str k u) = true
  simp [Value.isStrOf]
theorem el_of {l : List (Int × Value)} (q : ∀ e ∈ l, GoodT w e) : ElemsOf (TK P w) l := fun e he => by
  obtain ⟨k, u, h1, h2⟩ := q e he
  exact ⟨⟨k, by rw [h1]; exact is_t k u, h2⟩, by rw [h1] <;> rfl⟩
theorem is_iff {e : Int × Value} (q : GoodT w e) (k : Str) : (TK P w).is k e.2 = true ↔ keyT e = k := by
  obtain ⟨k0, u, h1, _⟩ := q
  unfold keyT
  rw [h1]
  exact ⟨fun h => (TK P w).inj (.str k0 u) k0 k (is_t k0 u) h, fun h => h ▸ is_t k0 u⟩
theorem key_iff {l : List (Int × Value)} (q : ∀ e ∈ l, GoodT w e) (k : Str) : k ∈ l.map keyT ↔ ∃ e ∈ l, (TK P w).is k e.2 = true := by
  rw [List.mem_map]
  exact ⟨fun ⟨e, he, z⟩ => ⟨e, he, (is_iff (q e he) k).2 z⟩, fun ⟨e, he, z⟩ => ⟨e, he, (is_iff (q e he) k).1 z⟩⟩
theorem SetT.new (ho : g.get? a = some (fresh0 w)) : SetT w g a (fun _ => False) 0 :=
  ⟨_, #[], 0, _, ho, ⟨rfl, rfl, rfl⟩, rfl, (fun e he => by simp at he), (by simp), (fun k => by simp), (by decide), (by rfl), rfl, List.Pairwise.nil, by
    show _ ∨ (!w.params.followText "set-order") = true
    cases w.params.followText "set-order"
    · exact .inr rfl
    · exact .inl rfl⟩
end
section
variable {P : Program} {w : World} {A : Around} {E : Value → Shared → Prop} {s : Shared} {a : Addr} {M : Str → Prop} {n : Nat}
theorem tail {f : Bool → Sem Unit} (hf : ∀ (b : Bool) (s₁ : Shared) (Q' : Unit → Shared → Prop), Q' () s₁ → wpAny (model P w) A (f b) Q' E s₁) {o : Obj} {es : Array (Int × Value)} {ep : Nat} {t : SetTable} (ho : s.heap.get? a = some o) (hex : o.ExactSet) (hd : o.data = .set es ep t)
    {e1 : Array (Int × Value)} {t1 : SetTable} {M' : Str → Prop} (q1 : ∀ e ∈ e1.toList, GoodT w e) (n1 : (e1.toList.map keyT).Nodup) (m1 : ∀ k, M' k ↔ k ∈ e1.toList.map keyT) (b1 : e1.size < scanBound) (f1 : t1.fits e1.size = true) (r1 : Ris t1.place.toList) (l1 : w.params.followText "set-order" = true ∨ t1.led = true)
    {dm : Bool} {R : Option Bool → Shared → Prop} (hR : ∀ g, Heap.SameBut a s.heap g → SetT w g a M' e1.size → R (some true) { s with heap := g }) :
    wpAny (model P w) A (do
        storeSet a e1 t1
        if (!dm && t1.tooFull) = true then do
            f (relayAll t1 e1 (SetTable.grown e1.size)).2.2
            storeSet a (relayAll t1 e1 (SetTable.grown e1.size)).1 (relayAll t1 e1 (SetTable.grown e1.size)).2.1
            pure (some true)
          else pure (some true)) R E s := by
  refine wpAny_bind (wpAny_storeSet_of ho hd ?_ (fits_of_scanBound b1))
  have ho1 := store_at (es' := e1) (t' := t1) ho hd
  have sb := Heap.SameBut.update s.heap a (Obj.putSet e1 t1)
  split
  · have pm := relayAll_perm t1 e1 (SetTable.grown e1.size)
    have k1 := relayAll_fits t1 e1 (SetTable.grown e1.size)
    have k2 := relayAll_ris t1 e1 (SetTable.grown e1.size)
    have k3 := relayAll_led t1 e1 (SetTable.grown e1.size)
    generalize relayAll t1 e1 (SetTable.grown e1.size) = Z at pm k1 k2 k3 ⊢
    obtain ⟨e2, t2, gv⟩ := Z
    dsimp only at pm k1 k2 k3 ⊢
    have hsz : e2.size = e1.size := by rw [← Array.length_toList, pm.length_eq, Array.length_toList]
    have b2 : e2.size < scanBound := hsz ▸ b1
    refine wpAny_bind (hf _ _ _ (wpAny_bind (wpAny_storeSet_of ho1 rfl ?_ (fits_of_scanBound b2))))
    have ho2 := store_at (es' := e2) (t' := t2) ho1 rfl
    refine wpAny_pure (hR _ (sb.trans (Heap.SameBut.update _ a _)) ?_)
    exact ⟨_, e2, _, t2, ho2, hex, rfl, fun e he => q1 e (pm.mem_iff.mp he), (pm.map keyT).nodup_iff.mpr n1, fun k => (m1 k).trans (pm.map keyT).mem_iff.symm, b2, k1, hsz, k2, l1.imp id fun z => by rw [k3]; exact z⟩
  · exact wpAny_pure (hR _ sb ⟨_, e1, _, t1, ho1, hex, rfl, q1, n1, m1, b1, f1, rfl, r1, l1⟩)
theorem add {k : Str} {u : Tok} {Q : Bool → Shared → Prop} (R : SetT w s.heap a M n) (room : n + 1 < scanBound)
    (hQ : ∀ g c b, Heap.SameBut a s.heap g → c ≤ n + 1 → SetT w g a (fun j => M j ∨ j = k) c → Q b { s with heap := g }) : wpAny (model P w) A (setAddHashed a (.str k u) ((TK P w).hash k)) Q E s := by
  obtain ⟨o, es, ep, t, ho, hex, hd, q, nd, hm, hb, hf, hn, hr, hl⟩ := R
  have hkey : (TK P w).is k (.str k u) = true := is_t k u
  have hsc : (Value.str k u).scannable = true := rfl
  have hel : ElemsOf (TK P w) es.toList := el_of q
  unfold setAddHashed setAddHashedIn
  refine wpAny_holding (wpAny_bind (wpAny_setState_of ho hd hf ?_))
  dsimp only
  rw [byScan_of hsc hb hel]
  simp only [↓reduceIte]
  unfold setAddByScan
  refine wpAny_bind (wpAny_bind (wpAny_rule (wpAny_bind (wpAny_setScan_of hkey ho hd hf hel ?_))))
  cases hfi : List.findIdx? (fun e => (TK P w).is k e.2) es.toList with
  | some j =>
    dsimp only
    obtain ⟨hj, pj, _⟩ := List.findIdx?_eq_some_iff_getElem.mp hfi
    have hk : M k := (hm k).2 ((key_iff (P := P) (w := w) q k).2 ⟨es.toList[j], List.getElem_mem hj, pj⟩)
    refine wpAny_pure (wpAny_pure (hQ s.heap n _ (Heap.SameBut.refl a s.heap) (Nat.le_succ _) ⟨o, es, ep, t, ho, hex, hd, q, nd, fun i => ?_, hb, hf, hn, hr, hl⟩))
    rw [← hm i]
    exact ⟨fun z => z.elim id fun e => e ▸ hk, .inl⟩
  | none =>
    dsimp only
    have hnk : k ∉ es.toList.map keyT := fun z => by
      obtain ⟨e, he, z⟩ := (key_iff (P := P) (w := w) q k).1 z
      have c := List.findIdx?_eq_none_iff.mp hfi e he
      rw [z] at c
      cases c
    have hgv : ∀ (b : Bool) {s₁ : Shared} {Q' : Unit → Shared → Prop}, Q' () s₁ → wpAny (model P w) A (match b with | true => rule "set.scan.the-table-gave-way" | false => pure ()) Q' E s₁ := fun b s₁ Q' z => by cases b <;> first | exact wpAny_pure z | exact wpAny_rule z
    have pm := layNew_perm t es ((TK P w).hash k) (.str k u)
    have f1 := layNew_fits t es ((TK P w).hash k) (.str k u)
    have r1 := layNew_ris t es ((TK P w).hash k) (.str k u) hr
    have l1 := layNew_led t es ((TK P w).hash k) (.str k u)
    generalize layNew t es ((TK P w).hash k) (.str k u) = Z at pm f1 r1 l1 ⊢
    obtain ⟨e1, t1, dm, gv⟩ := Z
    dsimp only at pm f1 r1 l1 ⊢
    rw [Array.toList_push] at pm
    have pc : e1.toList.Perm (((TK P w).hash k, Value.str k u) :: es.toList) := pm.trans (List.perm_append_singleton _ _)
    have pk : (e1.toList.map keyT).Perm (k :: es.toList.map keyT) := pc.map keyT
    have q1 : ∀ e ∈ e1.toList, GoodT w e := fun e he => by
      rcases List.mem_cons.mp (pc.mem_iff.mp he) with z | z
      · rw [z]
        exact ⟨k, u, rfl, rfl⟩
      · exact q e z
    have n1 : (e1.toList.map keyT).Nodup := pk.nodup_iff.mpr (List.nodup_cons.mpr ⟨hnk, nd⟩)
    have m1 : ∀ i, (M i ∨ i = k) ↔ i ∈ e1.toList.map keyT := fun i => by
      rw [hm i, pk.mem_iff, List.mem_cons]
      exact Or.comm
    have hsz : e1.size = n + 1 := by rw [← Array.length_toList, pc.length_eq, List.length_cons, Array.length_toList, hn]
    have b1 : e1.size < scanBound := hsz ▸ room
    have hled : w.params.followText "set-order" = true ∨ t1.led = true := hl.imp id fun z => by rw [l1]; exact z
    have fin : ∀ g, Heap.SameBut a s.heap g → SetT w g a (fun j => M j ∨ j = k) e1.size → Q true { s with heap := g } := fun g sb z => hQ g _ _ sb (Nat.le_of_eq hsz) z
    refine wpAny_bind (hgv _ ?_)
    split
    · refine wpAny_bind ?_
      rw [hashByValue_scannable 8 hsc]
      refine wpAny_pure (tail ?_ ho hex hd q1 n1 m1 b1 ?_ ?_ ?_ ?_)
      · exact fun b s₁ Q' z => by cases b <;> first | exact wpAny_pure z | exact wpAny_rule z
      · first | (split <;> first | exact f1 | exact SetTable.fits_plain_off f1) | exact f1
      · first | (split <;> exact r1) | exact r1
      · first | (split <;> exact hled) | exact hled
      · exact fun g sb z => wpAny_pure (fin g sb z)
    · refine wpAny_bind (wpAny_pure ?_)
      simp only [↓reduceIte]
      refine tail ?_ ho hex hd q1 n1 m1 b1 f1 r1 hled ?_
      · exact fun b s₁ Q' z => by cases b <;> first | exact wpAny_pure z | exact wpAny_rule z
      · exact fun g sb z => wpAny_pure (fin g sb z)
theorem update {I : Addr} {fp wr : List Addr} {G : Array GenState → Array GenState → Prop} {n : Nat} {Pv : Nat → Value → Prop} {St : Nat → Shared → Prop} {R : Result → Shared → Prop} (W : WalksS P w A.in1 I fp wr G n Pv St) (S : Addr) (hSf : S ∉ fp) (xs : List Str) (hn : n = xs.length) (hb : xs.length + 1 < scanBound)
    (hval : ∀ i v, Pv i v → ∃ k t, xs[i]? = some k ∧ v = .str k t) :
    ∀ (k i : Nat) (s : Shared), n - i = k → i ≤ n → St i s → (∃ c, c ≤ i ∧ SetT w s.heap S (fun j => j ∈ xs.take i) c) →
      (∀ s' c, Moved (S :: wr) G s s' → c ≤ n → SetT w s'.heap S (fun j => j ∈ xs) c → R (.ok (.ret .none)) s') → codeAny (model P w) A (.builtin "set.update.loop" ⟨[.ref S, .ref I], []⟩) R s := by
  have hSw : S ∉ wr := fun h => hSf (W.sub _ h)
  have up : ∀ b ∈ wr, b ∈ S :: wr := fun b hb => List.mem_cons_of_mem _ hb
  intro k
  induction k with
  | zero =>
    intro i s hk' hi hst ⟨c, hc, hS⟩ hR
    have hin : i = n := by omega
    subst hin
    refine codeAny_builtin PyProof.Rows.F.entry_set_update_loop ?_
    rw [Around.under_plainId PyProof.Rows.F.plain_set_update_loop _]
    show wpAny _ A.in1 (pyNext (.ref I) >>= _) _ _ s
    refine wpAny_bind (W.done s _ _ hst fun s' hm => ?_)
    show wpAny _ A.in1 (ret Value.none) _ _ s'
    rw [List.take_of_length_le (by omega)] at hS
    exact wpAny_pure (hR s' c (hm.mono up) hc (hS.at fun o e => hm.heap S o hSw e))
  | succ k ih =>
    intro i s hk' hi hst ⟨c, hc, hS⟩ hR
    have hlt : i < n := by omega
    refine codeAny_builtin PyProof.Rows.F.entry_set_update_loop ?_
    rw [Around.under_plainId PyProof.Rows.F.plain_set_update_loop _]
    show wpAny _ A.in1 (pyNext (.ref I) >>= _) _ _ s
    refine wpAny_bind (W.item i s _ _ hlt hst fun v s' hP hst' hm => ?_)
    obtain ⟨z, t, hz, rfl⟩ := hval i v hP
    have hS' : SetT w s'.heap S (fun j => j ∈ xs.take i) c := hS.at fun o e => hm.heap S o hSw e
    show wpAny _ A.in1 (holding [Value.str z t] (setAdd S (.str z t)) >>= _) _ _ s'
    refine wpAny_bind (wpAny_holding ?_)
    unfold setAdd
    refine wpAny_holding (wpAny_bind ((TK P w).pyHash (k := z) (is_t _ _) ?_))
    refine add (s := { s' with toks := s'.toks + 1 }) hS' (by omega) fun g c2 b2 sb hc2 hS2 => ?_
    have hS3 : SetT w g S (fun j => j ∈ xs.take (i + 1)) c2 := hS2.congr fun j => by
      rw [List.take_add_one, hz]
      simp [List.mem_append]
    refine wpAny_pure ⟨plainId_quiet PyProof.Rows.F.plain_set_update_loop _, ih (i + 1) _ (by omega) hlt (W.frame _ s' _ _ hst' (Nat.le_succ _) fun b hb o e => ?_) ⟨_, by omega, hS3⟩ fun s'' c3 hm'' hc'' hS'' => ?_⟩
    · rw [sb.2 b (fun h : b = S => hSf (by rw [← h]; exact hb))]
      exact e
    · refine hR s'' c3 (Moved.trans W.gtrans ((hm.mono up).then_heap (Nat.le_succ _) fun b o hb e => ?_) hm'') hc'' hS''
      rw [sb.2 b (fun h : b = S => hb (by rw [h]; exact List.mem_cons_self))]
      exact e
end
end SX

namespace SX
open PySem PySem.Spec L2 ZS
section
variable {P : Program} {w : World} {A : Around} {E : Value → Shared → Prop} {s : Shared}
theorem make {t : Bool} {l : Addr} {items : Array Value} (xs : List Str) {Q : Value → Shared → Prop} (hh : A.handled = none) (hl : Sq t s.heap l items) (hv : ∀ (i : Nat) (v : Value), items[i]? = some v → ∃ k u, xs[i]? = some k ∧ v = .str k u) (hz : items.size = xs.length) (hb : xs.length + 1 < scanBound)
    (h : ∀ (g : Heap) (tk c : Nat), SetT w g s.heap.objs.size (fun j => j ∈ xs) c → c ≤ xs.length → (∀ b o, s.heap.get? b = some o → g.get? b = some o) → Q (.ref s.heap.objs.size) { s with heap := g, toks := tk }) : wpAny (model P w) A (call (.type "set") [.ref l]) Q E s := by
  obtain ⟨c0, tl, hmro⟩ := F.called_set.mro
  have hmade := F.called_set.made
  have hsub := F.called_set.sub
  refine wpAny_call (codeAny_of_tree ?_)
  show wpAny _ _ (callAny (.type "set") _) _ _ s
  refine wpAny_pure ⟨Code.quiet_builtin _ (by decide +kernel), codeAny_builtin F.entry_type_call ?_⟩
  rw [Around.under_plain (weight_type_call_type "set" [.ref l] []) rfl]
  have k1 := F.called_set.notType
  have k2 := F.called_set.canCreate
  have hct := F.typeCall_set_1 (.ref l)
  repeat (any_goals (first | assumption | wp_step))
  refine codeAny_mono (code_set_led1 (.ref l) (E := E) (Q₁ := fun obj s₁ => obj = .ref s.heap.objs.size ∧ s₁ = { s with heap := s.heap.push (fresh0 w) }) ⟨rfl, rfl⟩) fun r s₁ hr => ?_
  cases r with
  | error e => exact hr
  | ok fl =>
    cases fl with
    | ret obj =>
      obtain ⟨rfl, rfl⟩ := hr
      have hS : (s.heap.push (fresh0 w)).get? s.heap.objs.size = some (fresh0 w) := Heap.get?_push_size _ rfl
      have hT : Shared.TypeIs { s with heap := s.heap.push (fresh0 w) } (.ref s.heap.objs.size) "set" := ⟨_, hS, rfl⟩
      have hli := F.called_set.init.lookup
      have hbi := F.called_set.init.bind (.ref s.heap.objs.size)
      repeat (any_goals (first | assumption | wp_step))
      refine codeAny_mono (codeAny_call_builtin (R := wants (fun r s₂ => r = .none ∧ ∃ g tk c, s₂ = { s with heap := g, toks := tk } ∧ SetT w g s.heap.objs.size (fun j => j ∈ xs) c ∧ c ≤ xs.length ∧ (∀ b o, s.heap.get? b = some o → g.get? b = some o)) E) F.called_set.init.plain F.entry_set_init (check_set_init_1 hT ?_)) fun r₂ s₂ hr₂ => ?_
      · have hlS : l < s.heap.objs.size := by
          cases t with
          | false => obtain ⟨_, e, _⟩ := hl; exact Heap.lt_size e
          | true => obtain ⟨_, e, _⟩ := hl; exact Heap.lt_size e
        have hneI : l ≠ (s.heap.push (fresh0 w)).objs.size := by
          rw [Heap.size_push]
          exact Nat.ne_of_lt (Nat.lt_succ_of_lt hlS)
        have hSf : s.heap.objs.size ∉ [(s.heap.push (fresh0 w)).objs.size, l] := by
          rw [Heap.size_push]
          simp only [List.mem_cons, List.mem_singleton, List.not_mem_nil, or_false, not_or]
          exact ⟨Nat.ne_of_lt (Nat.lt_succ_self _), Nat.ne_of_gt hlS⟩
        have hh3 : A.in1.in1.in1.handled = none := by simp [hh]
        have fin : ∀ {R : Result → Shared → Prop} {s' : Shared} {c' : Nat}, Moved [s.heap.objs.size, (s.heap.push (fresh0 w)).objs.size] (fun x y => y = x) { s with heap := (s.heap.push (fresh0 w)).push { cls := .type (icl t), data := .fields #[.ref l, .int 0 0] } } s' → c' ≤ items.size → SetT w s'.heap s.heap.objs.size (fun j => j ∈ xs) c' →
            ∃ g tk c, s' = { s with heap := g, toks := tk } ∧ SetT w g s.heap.objs.size (fun j => j ∈ xs) c ∧ c ≤ xs.length ∧ ∀ b o, s.heap.get? b = some o → g.get? b = some o := by
          intro R s' c' hm hc' hS'
          obtain ⟨g, g2, d', tk', os'⟩ := s'
          have eg : g2 = s.gens := hm.gens
          have ed : d' = s.drawn := hm.drawn
          have eo : os' = s.os := hm.os
          subst eg ed eo
          refine ⟨g, tk', c', rfl, hS', hz ▸ hc', fun b o e => ?_⟩
          have hb0 : b < s.heap.objs.size := Heap.lt_size e
          have hb2 : b ≠ (s.heap.push (fresh0 w)).objs.size := by
            rw [Heap.size_push]
            exact Nat.ne_of_lt (Nat.lt_succ_of_lt hb0)
          exact hm.heap b o (by simp only [List.mem_cons, List.mem_singleton, List.not_mem_nil, or_false, not_or]; exact ⟨Nat.ne_of_lt hb0, hb2⟩) (Heap.get?_push_of_some _ (Heap.get?_push_of_some _ e))
        cases t with
        | true =>
          obtain ⟨⟨ocls, odict, odata, oslots⟩, hol, hcl, nl, hdl⟩ := hl
          simp only at hcl hdl
          subst hcl hdl
          have hol' : (s.heap.push (fresh0 w)).get? l = some { cls := .type "tuple", dict := odict, data := .seq items nl, slots := oslots } := Heap.get?_push_of_some _ hol
          have hsls := F.sub_tuple_set
          have hslf := F.sub_tuple_frozenset
          have hne : (Value.type "tuple" == Value.type "dict") = false := by decide
          have hl1 : (s.heap.push (fresh0 w)).IsTuple l items := ⟨_, hol', rfl, nl, rfl⟩
          unfold Builtin.«set.__init__» noKeywords Builtin.Frozenset.updateFrom
          generalize hPI : pyIter = PI
          wp_walk
          subst hPI
          refine wpAny_pyIter_tuple hl1 (wpAny_bind (wpAny_runValue ?_))
          refine update ((Walks.tuple hh3 _ l hneI items).toS) s.heap.objs.size hSf xs hz hb hv (items.size - 0) 0 _ (by omega) (Nat.zero_le _) ⟨⟨_, Heap.get?_push_size _ rfl, rfl, rfl⟩, (hl1.push _)⟩ ⟨0, Nat.le_refl 0, (SetT.new (Heap.get?_push_of_some _ hS)).congr fun j => by simp⟩ fun s' c' hm hc' hS' => ?_
          show wpAny _ _ _ _ _ _
          refine wpAny_pure ?_
          show wpAny _ _ (ret Value.none) _ _ _
          exact wpAny_pure ⟨rfl, fin (R := fun _ _ => True) hm hc' hS'⟩
        | false =>
          obtain ⟨⟨ocls, odict, odata, oslots⟩, hol, hcl, nl, hdl⟩ := hl
          simp only at hcl hdl
          subst hcl hdl
          have hol' : (s.heap.push (fresh0 w)).get? l = some { cls := .type "list", dict := odict, data := .seq items nl, slots := oslots } := Heap.get?_push_of_some _ hol
          have hsls := F.sub_list_set
          have hslf := F.sub_list_frozenset
          have hne : (Value.type "list" == Value.type "dict") = false := by decide
          have hl1 : (s.heap.push (fresh0 w)).IsList l items := ⟨_, hol', rfl, nl, rfl⟩
          unfold Builtin.«set.__init__» noKeywords Builtin.Frozenset.updateFrom
          generalize hPI : pyIter = PI
          wp_walk
          subst hPI
          refine wpAny_pyIter_list hl1 (wpAny_bind (wpAny_runValue ?_))
          refine update ((Walks.list hh3 _ l hneI items).toS) s.heap.objs.size hSf xs hz hb hv (items.size - 0) 0 _ (by omega) (Nat.zero_le _) ⟨⟨_, Heap.get?_push_size _ rfl, rfl, rfl⟩, (hl1.push _)⟩ ⟨0, Nat.le_refl 0, (SetT.new (Heap.get?_push_of_some _ hS)).congr fun j => by simp⟩ fun s' c' hm hc' hS' => ?_
          show wpAny _ _ _ _ _ _
          refine wpAny_pure ?_
          show wpAny _ _ (ret Value.none) _ _ _
          exact wpAny_pure ⟨rfl, fin (R := fun _ _ => True) hm hc' hS'⟩
      · cases r₂ with
        | error e => exact hr₂
        | ok fl₂ =>
          cases fl₂ with
          | ret r =>
            obtain ⟨rfl, g, tk, c, rfl, hS', hc', hk'⟩ := hr₂
            repeat (any_goals (first | assumption | wp_step))
            exact h _ _ _ hS' hc' hk'
          | _ => exact hr₂.elim
    | _ => exact hr.elim
end
end SX

namespace SX
open PySem PySem.Spec PyProof.Rows L2 ZS
section
variable {P : Program} {w : World} {A : Around} {E : Value → Shared → Prop} {s : Shared} {a : Addr} {M : Str → Prop} {n : Nat}
theorem sorted_of {Q : Value → Shared → Prop} (R : SetT w s.heap a M n) (hh : A.handled = none) (hn : n ≤ 100000) (hu : A.units + 2 < cLine)
    (hQ : ∀ s' p (out : List Value) (c : Nat) (bs : List Str), (∀ b o, s.heap.get? b = some o → s'.heap.get? b = some o) → s'.gens = s.gens → s'.os = s.os → s.heap.objs.size ≤ p → s'.heap.get? p = some (seqObj "list" out.toArray c) → bs.Nodup → (∀ k, k ∈ bs ↔ M k) → bs.length = n →
      PySem.W.EachIs (fun v k => ∃ u, v = Value.str k u) out (bs.mergeSort (PySem.W.dataLe false PyData.str)) → Q (.ref p) s') :
    wpAny (model P w) A (call (.builtin "sorted") [.ref a]) Q E s := by
  obtain ⟨o, es, ep, t, ho, hex, hd, q, nd, hm, hb, hf, hsz, hr, hl⟩ := R
  refine Calls.call_function_entry kind_sorted plain_sorted entry_sorted (args_sorted1 _) ?_
  unfold Builtin.«sorted»
  refine wpAny_bind (m := checkCount "sorted" 1 1 _) (wpAny_pure (wpAny_bind (collect_set (A := A.in1) hh ⟨o, ho, hex.1, hd⟩ hf hb hr hl fun s1 vs k1 hz g1 o1 pm => ?_)))
  have hvl : vs.length = n := by rw [pm.length_eq, List.length_map, Array.length_toList]; exact hsz
  have hv : ∀ v ∈ vs, ∃ k u, v = Value.str k u := fun v hv => by
    obtain ⟨e, he, rfl⟩ := List.mem_map.mp (pm.mem_iff.mp hv)
    obtain ⟨k, u, h1, _⟩ := q e he
    exact ⟨k, u, h1⟩
  let bs : List Str := vs.map fun v => match v with | .str k _ => k | _ => Str.empty
  have each : ∀ us : List Value, (∀ v ∈ us, ∃ k u, v = Value.str k u) → PySem.W.EachIs (fun v k => ∃ u, v = Value.str k u) us (us.map fun v => match v with | .str k _ => k | _ => Str.empty) := by
    intro us
    induction us with
    | nil => exact fun _ => .nil
    | cons v us ih =>
      intro h
      obtain ⟨k, u, rfl⟩ := h v (List.mem_cons_self ..)
      exact .cons ⟨u, rfl⟩ (ih fun y hy => h y (List.mem_cons_of_mem _ hy))
  have hea := each vs hv
  have pk : bs.Perm (es.toList.map keyT) := by
    have z := pm.map fun v : Value => match v with | .str k _ => k | _ => Str.empty
    rw [List.map_map] at z
    exact z
  refine wpAny_bind (wpAny_newList ?_ (by rw [hvl, sizeLine_eq]; omega))
  have hoL : (s1.heap.push (seqObj "list" vs.toArray 0)).get? s1.heap.objs.size = some (seqObj "list" vs.toArray 0) := Heap.get?_push_size _ rfl
  have hal : PySem.W.AllAlike (bs.map PyData.str) := fun x hx y hy => by
    obtain ⟨i, _, rfl⟩ := List.mem_map.mp hx
    obtain ⟨j, _, rfl⟩ := List.mem_map.mp hy
    simp [PySem.W.alike]
  have hso : PySem.W.Sortable (bs.map PyData.str) := .inr fun x hx => by
    obtain ⟨i, _, rfl⟩ := List.mem_map.mp hx
    exact ⟨(by intro e; cases e), (by intro xs e; cases e)⟩
  refine wpAny_bind (wpAny_holding (PySem.W.list_sort_data (s := { s1 with heap := s1.heap.push (seqObj "list" vs.toArray 0) }) (enc := PyData.str) hoL hea (hea.mono fun v k ⟨u, e⟩ => ⟨[], e ▸ .str _ _, by simp⟩) hal hso (by show bs.length ≤ _; rw [List.length_map, hvl, sizeLine_eq]; omega) (fun b _ => by
    show A.in1.units + 1 + 0 < cLine
    have : A.in1.units ≤ A.units + 1 := (by simp)
    omega) fun out ol oe => ?_))
  obtain ⟨c, hc⟩ := sortedHeap_at (vs := vs) (out := out.toArray) hoL
  refine wpAny_pure ⟨_, rfl, hQ _ s1.heap.objs.size out c bs (fun b u e => ?_) g1 o1 hz hc (pk.nodup_iff.mpr nd) (fun k => by rw [pk.mem_iff, ← hm k]) (by show bs.length = n; rw [List.length_map, hvl]) oe⟩
  have z := k1 b u e
  have hlt := Heap.lt_size z
  show (sortedHeap (s1.heap.push (seqObj "list" vs.toArray 0)) s1.heap.objs.size vs out.toArray).get? b = some u
  rw [sortedHeap_old (Nat.ne_of_lt hlt) (by rw [Heap.size_push]; exact Nat.lt_succ_of_lt hlt)]
  exact Heap.get?_push_of_some _ z
end
/-! ### over the layer -/
def SetX (w : World) (a : Addr) (M : Str → Prop) (n : Nat) : HO := .ext fun g => SetT w g a M n
section
variable {X : Cx} {pins : List (Addr × Obj)} {σ : L2.St} {H : Hp} {s : Shared} {a : Addr} {M : Str → Prop} {n : Nat}
theorem setX_new {w : World} {P : Program} {H : Hp} {g : Heap} (R : SetT w g a M n) : ObjOk P w H g a (SetX w a M n) := by
  have ⟨o, _, _, _, ho, _⟩ := R
  exact ⟨R, ⟨o, ho⟩, fun h1 h2 p k => p.at k⟩
theorem setX_get (I : Inv X pins σ H s) (ha : H a = some (SetX X.w a M n)) : SetT X.w s.heap a M n := (I.hok a _ ha).1
end
theorem inv_drawn {X : Cx} {pins : List (Addr × Obj)} {σ : L2.St} {H : Hp} {s : Shared} (I : Inv X pins σ H s) (dd : Drawn) : Inv X pins σ H { s with drawn := dd } :=
  I.step (h' := s.heap) (g' := s.gens) (t' := s.toks) (d' := dd) (ch := []) (fun _ z => nomatch z) (fun b o _ _ _ e _ => e) (fun b o _ _ _ e _ => ⟨o.slots, e⟩) (fun _ _ _ _ n => n) (fun b o _ e => ⟨o, e⟩) (fun _ _ e => e) (fun _ _ _ e => e) (fun b ps e => ⟨#[], by rw [e]; simp⟩) (fun m hm => hm) I.hok I.bare
def rSetX (K : PySem.W.Frag) (w : World) : List V → Hp → VK → Prop := fun xs H Q => ∃ (l : Addr) (ys : List Str) (t : Bool), xs = [.ref l] ∧ SqB K H t l (ys.map V.str) ∧ ys.length ≤ 1000 ∧ ∀ (p : Addr) (c : Nat), H p = none → c ≤ ys.length → Q (.ref p) (upd H p (SetX w p (fun k => k ∈ ys) c))
theorem vals_strs : ∀ {ys : List Str} {us : List Value}, Vals (ys.map V.str) us → ∀ (i : Nat) (v : Value), us[i]? = some v → ∃ k u, ys[i]? = some k ∧ v = .str k u
  | [], us, h, i, v, e => by cases h; simp at e
  | y :: ys, us, h, i, v, e => by
    cases h with
    | cons r rs =>
      obtain ⟨u, rfl⟩ := r
      cases i with
      | zero =>
        simp at e
        exact ⟨y, u, rfl, e.symm⟩
      | succ i => exact vals_strs rs i v (by simpa using e)
theorem cr_setX {X : Cx} (hc : X.calm = true) : CallR X (.type "set") (rSetX X.K X.w) := by
  intro pins s σ H xs us Q I r h
  obtain ⟨l, ys, t, rfl, hq, hl, q⟩ := h
  obtain ⟨its, rv, hs, _⟩ := sq_of I hq
  rw [Vals.ref1 r]
  have hlen : its.toArray.size = ys.length := by rw [List.size_toArray, ← rv.length, List.length_map]
  refine make ys (I.ok.hd hc) hs (fun i v e => vals_strs rv i v (by simpa using e)) hlen (by unfold scanBound; omega) fun g tk c R hcl hk => ?_
  exact ⟨.ref _, upd H s.heap.objs.size (SetX X.w s.heap.objs.size (fun k => k ∈ ys) c), I.laid (t' := tk) hk (Nat.le_refl _) (setX_new R), rfl, q _ c (I.hok.fresh (Nat.le_refl _)) hcl⟩
def rSortX (w : World) : List V → Hp → VK → Prop := fun xs H Q => ∃ (a : Addr) (M : Str → Prop) (c : Nat), xs = [.ref a] ∧ H a = some (SetX w a M c) ∧ c ≤ 1000 ∧ ∀ (bs : List Str) (p : Addr), bs.Nodup → (∀ k, k ∈ bs ↔ M k) → H p = none → Q (.ref p) (upd H p (.lst ((bs.mergeSort (PySem.W.dataLe false PyData.str)).map V.str)))
theorem each_vals : ∀ {out : List Value} {bs : List Str}, PySem.W.EachIs (fun v k => ∃ u, v = Value.str k u) out bs → Vals (bs.map V.str) out
  | _, _, .nil => .nil
  | _, _, .cons ⟨u, e⟩ t => .cons ⟨u, e⟩ (each_vals t)
theorem cr_sortX {X : Cx} (hc : X.calm = true) (hu : X.A.units + 2 < cLine) : CallR X (.builtin "sorted") (rSortX X.w) := by
  intro pins s σ H xs us Q I r h
  obtain ⟨a, M, c, rfl, ha, hcl, q⟩ := h
  rw [Vals.ref1 r]
  refine sorted_of (setX_get I ha) (I.ok.hd hc) (by omega) hu fun s' p out e bs k1 g1 o1 hp hob nd hm hbl oe => ?_
  obtain ⟨g, gg, dd, tk, os⟩ := s'
  have e1 : gg = s.gens := g1
  have e2 : os = s.os := o1
  subst e1 e2
  have rv := each_vals oe
  have hlen : ((bs.mergeSort (PySem.W.dataLe false PyData.str)).map V.str).length ≤ sizeLine := by rw [List.length_map, List.length_mergeSort, sizeLine_eq, hbl]; omega
  exact ⟨.ref p, upd H p (.lst ((bs.mergeSort (PySem.W.dataLe false PyData.str)).map V.str)), (inv_drawn I dd).laid (t' := tk) k1 hp ⟨hlen, out, e, rv, hob⟩, rfl, q bs p nd hm (I.hok.fresh hp)⟩
end SX

/-! DLx: sorted(set(..)) and len(set(..)) of texts. -/
namespace DL
open PySem PySem.Spec PyProof.Rows L2
/-- the texts of a list -/
def strsP : List P → Option (List Str)
  | [] => some []
  | .str x :: ps => (strsP ps).map (x :: ·)
  | _ :: _ => none
theorem strsP_of : ∀ {ps : List P} {ks : List Str}, strsP ps = some ks → ps = ks.map .str
  | [], ks, h => by cases h; rfl
  | .str x :: ps, ks, h => by
    unfold strsP at h
    obtain ⟨r, h1, rfl⟩ := Option.map_eq_some_iff.mp h
    rw [strsP_of h1]
    rfl
  | .int _ :: _, _, h => by cases h
  | .bl _ :: _, _, h => by cases h
  | .non :: _, _, h => by cases h
  | .lst _ :: _, _, h => by cases h
  | .frz _ :: _, _, h => by cases h
  | .tup _ :: _, _, h => by cases h
  | .dic _ _ :: _, _, h => by cases h
theorem strsP_map : ∀ ks : List Str, strsP (ks.map .str) = some ks
  | [] => rfl
  | k :: ks => by
    show (strsP (ks.map .str)).map (k :: ·) = _
    rw [strsP_map ks]
    rfl
def ddS : List Str → List Str
  | [] => []
  | x :: xs => if x ∈ xs then ddS xs else x :: ddS xs
theorem mem_ddS : ∀ {xs : List Str} {k : Str}, k ∈ ddS xs ↔ k ∈ xs
  | [], k => Iff.rfl
  | x :: xs, k => by
    unfold ddS
    split
    · rename_i h
      rw [mem_ddS, List.mem_cons]
      exact ⟨.inr, fun z => z.elim (fun e => e ▸ h) id⟩
    · rw [List.mem_cons, List.mem_cons, mem_ddS]
theorem nd_ddS : ∀ xs : List Str, (ddS xs).Nodup
  | [] => .nil
  | x :: xs => by
    unfold ddS
    split
    · exact nd_ddS xs
    · rename_i h
      exact List.nodup_cons.mpr ⟨fun z => h (mem_ddS.mp z), nd_ddS xs⟩
def txts : List P → Option (List Str)
  | [.lst ps] => match strsP ps with
    | some ks => if ks.length ≤ 1000 ∧ (ks.all PyData.strOk) = true then some ks else none
    | none => none
  | [.frz ps] => match strsP ps with
    | some ks => if ks.length ≤ 1000 ∧ (ks.all PyData.strOk) = true then some ks else none
    | none => none
  | [.tup ps] => match strsP ps with
    | some ks => if ks.length ≤ 1000 ∧ (ks.all PyData.strOk) = true then some ks else none
    | none => none
  | _ => none
noncomputable def bSortSet (ps : List P) : Option P := (txts ps).map fun ks => P.lst (srt ((ddS ks).map .str))
def bLenSet (ps : List P) : Option P := (txts ps).map fun ks => P.int (ddS ks).length
theorem is_strs {K : PySem.W.Frag} {G : Hp} : ∀ {ks : List Str} {xs : List V}, IsAll K G (ks.map .str) xs → xs = ks.map V.str
  | [], _, h => h
  | k :: ks, _, ⟨v, vs, h1, h2, h3⟩ => by
    subst h1
    have h2' : v = .str k := h2
    rw [h2', is_strs h3]
    rfl
theorem all_strs {K : PySem.W.Frag} {G : Hp} : ∀ ks : List Str, IsAll K G (ks.map .str) (ks.map V.str)
  | [] => rfl
  | k :: ks => ⟨_, _, rfl, rfl, all_strs ks⟩
theorem txts_is {K : PySem.W.Frag} {m : Mp} {H : Hp} {ps : List P} {ks : List Str} {vs : List V} (h : txts ps = some ks) (i : IsRs K m H ps vs) : ∃ a t, vs = [.ref a] ∧ ZS.SqB K H t a (ks.map V.str) ∧ ks.length ≤ 1000 ∧ ∀ k ∈ ks, PyData.strOk k = true := by
  unfold txts at h
  split at h
  · split at h
    · rename_i ks' e
      split at h
      · rename_i hc
        cases h
        obtain ⟨x, rfl, h0⟩ := i.one
        obtain ⟨a, ys, rfl, h1, h2⟩ := sq_r h0
        rw [strsP_of e] at h2
        rw [is_strs h2] at h1
        exact ⟨a, false, rfl, h1, hc.1, List.all_eq_true.mp hc.2⟩
      · cases h
    · cases h
  · split at h
    · rename_i ks' e
      split at h
      · rename_i hc
        cases h
        obtain ⟨x, rfl, h0⟩ := i.one
        obtain ⟨a, ys, rfl, h1, h2⟩ := sq_f h0
        rw [strsP_of e] at h2
        rw [is_strs h2] at h1
        exact ⟨a, false, rfl, h1, hc.1, List.all_eq_true.mp hc.2⟩
      · cases h
    · cases h
  · split at h
    · rename_i ks' e
      split at h
      · rename_i hc
        cases h
        obtain ⟨x, rfl, h0⟩ := i.one
        obtain ⟨a, ys, rfl, h1, h2⟩ := sq_t h0
        rw [strsP_of e] at h2
        rw [is_strs h2] at h1
        exact ⟨a, true, rfl, h1, hc.1, List.all_eq_true.mp hc.2⟩
      · cases h
    · cases h
  · cases h
theorem py_strs (k : Str) : pyOf (.str k) = PyData.str k := rfl
theorem sort_strs (bs : List Str) : (bs.mergeSort (PySem.W.dataLe false PyData.str)).map P.str = srt (bs.map .str) := by
  unfold srt
  exact List.map_mergeSort (fun a _ b _ => rfl)
theorem cmp_strs {ks : List Str} (h : ∀ k ∈ ks, PyData.strOk k = true) : Cmp (ks.map .str) := ⟨fun p hp => by
    obtain ⟨k, hk, rfl⟩ := List.mem_map.mp hp
    exact (pl_str (h k hk)).1, fun p hp q hq => by
    obtain ⟨k, hk, rfl⟩ := List.mem_map.mp hp
    obtain ⟨j, hj, rfl⟩ := List.mem_map.mp hq
    rw [py_strs, py_strs]
    simp [PySem.W.alike]⟩
theorem perm_nd {as bs : List Str} (h1 : as.Nodup) (h2 : bs.Nodup) (h : ∀ k, k ∈ as ↔ k ∈ bs) : as.Perm bs := by
  induction as generalizing bs with
  | nil =>
    cases bs with
    | nil => exact .nil
    | cons b bs => exact absurd ((h b).mpr (List.mem_cons_self ..)) (by simp)
  | cons a as ih =>
    have ha : a ∈ bs := (h a).mp (List.mem_cons_self ..)
    have p := List.perm_cons_erase ha
    refine (List.Perm.cons a (ih (List.nodup_cons.mp h1).2 (h2.erase a) fun k => ?_)).trans p.symm
    rw [h2.mem_erase_iff, ← h k, List.mem_cons]
    exact ⟨fun z => ⟨fun e => (List.nodup_cons.mp h1).1 (e ▸ z), .inr z⟩, fun ⟨n, z⟩ => z.elim (fun e => absurd e n) id⟩
section
variable {X : Cx} {e : Expr} {p p2 pos q : Pos} {g : FA}
theorem d_sortSet (hX : SX X) (hm : X.mg "sorted" = none) (hm2 : X.mg "set" = none) (ha : PAd X [e] g) (hg : Gl X "sorted" := by rfl) (hg2 : Gl X "set" := by rfl)
    (he : starEach [e] X.env = (false, eval e X.env) :: starEach [] X.env := by rfl)
    (he2 : starEach [.Call (.Name "set" p2) [e] [] q] X.env = (false, eval (.Call (.Name "set" p2) [e] [] q) X.env) :: starEach [] X.env := by rfl) :
    PEd X (.Call (.Name "sorted" p) [.Call (.Name "set" p2) [e] [] q] [] pos) (fCb bSortSet g) := by
  have hu := hX.units
  refine pe_weak (pe_callB (_root_.SX.cr_sortX hX.calm (by omega)) hg hm (by decide +kernel) (pa_cons (pe_callTy (_root_.SX.cr_setX hX.calm) hg2 hm2 (by decide +kernel) ha (by decide) (by decide) he rfl) pa_nil he2) (by decide) (by decide) he2 rfl) fun σ H Q ⟨m, env, S, R, E, d', S', e1, qq⟩ => ?_
  obtain ⟨ds, S1, k1, e2⟩ := Oc.bind_eq e1
  refine ⟨m, env, S, R, E, ds, S1, k1, fun vs m1 H1 st1 R1 i1 => ?_⟩
  cases h1 : deAll S1 ds with
  | none => simp [h1] at e2
  | some ps =>
    cases h2 : bSortSet ps with
    | none => simp [h1, h2] at e2
    | some u =>
      simp [h1, h2] at e2
      obtain ⟨rfl, rfl⟩ := e2
      unfold bSortSet at h2
      obtain ⟨ks, hk, rfl⟩ := Option.map_eq_some_iff.mp h2
      obtain ⟨a, t, rfl, hs, hl, hok⟩ := txts_is hk (deAll_is R1 h1 i1)
      refine ⟨a, ks, t, rfl, hs, hl, fun pp c hp hc => ?_⟩
      obtain ⟨R2, st2⟩ := R1.fresh (o := _root_.SX.SetX X.w pp (fun k => k ∈ ks) c) hp
      refine ⟨pp, _, c, rfl, upd_same, by omega, fun bs p3 nd hm3 hp3 => ?_⟩
      have pm : (bs.map P.str).Perm ((ddS ks).map .str) := (perm_nd nd (nd_ddS ks) fun k => by rw [hm3 k, mem_ddS]).map _
      have es : (bs.mergeSort (PySem.W.dataLe false PyData.str)).map P.str = srt ((ddS ks).map .str) := by
        rw [sort_strs]
        exact srt_eq pm (cmp_strs fun k hk' => hok k ((hm3 k).mp hk'))
      have iz : IsAll X.K (mask m1 (upd H1 pp (_root_.SX.SetX X.w pp (fun k => k ∈ ks) c))) (srt ((ddS ks).map .str)) ((bs.mergeSort (PySem.W.dataLe false PyData.str)).map V.str) := by
        rw [← es]
        exact all_strs _
      exact newLst R2 iz (fun v m3 H3 st3 R3 i3 => qq v m3 H3 ((st1.trans st2).trans st3) R3 i3) p3 hp3
end
/-! ### len(set(..)) -/
def rLenX (w : World) : List V → Hp → VK → Prop := fun xs H Q => ∃ (a : Addr) (M : Str → Prop) (c : Nat), xs = [.ref a] ∧ H a = some (_root_.SX.SetX w a M c) ∧ c ≤ 1000 ∧ ∀ bs : List Str, bs.Nodup → (∀ k, k ∈ bs ↔ M k) → Q (.int bs.length) H
theorem cr_lenX {X : Cx} : CallR X (.builtin "len") (rLenX X.w) := by
  intro pins s σ H xs us Q I r h
  obtain ⟨a, M, c, rfl, ha, hcl, q⟩ := h
  rw [Vals.ref1 r]
  obtain ⟨o, es, ep, t, ho, hex, hd, hg, nd, hm, hb, hf, hsz, hr, hl⟩ := _root_.SX.setX_get I ha
  refine call_len_set ho hex hd hf (by rw [hsz]; omega) ⟨.int es.size, H, I.tok _, ⟨_, rfl⟩, ?_⟩
  have z := q (es.toList.map _root_.SX.keyT) nd fun k => (hm k).symm
  rw [List.length_map, Array.length_toList] at z
  exact z
section
variable {X : Cx} {e : Expr} {p p2 pos q : Pos} {g : FA}
theorem d_lenSet (hX : SX X) (hm : X.mg "len" = none) (hm2 : X.mg "set" = none) (ha : PAd X [e] g) (hg : Gl X "len" := by rfl) (hg2 : Gl X "set" := by rfl)
    (he : starEach [e] X.env = (false, eval e X.env) :: starEach [] X.env := by rfl)
    (he2 : starEach [.Call (.Name "set" p2) [e] [] q] X.env = (false, eval (.Call (.Name "set" p2) [e] [] q) X.env) :: starEach [] X.env := by rfl) :
    PEd X (.Call (.Name "len" p) [.Call (.Name "set" p2) [e] [] q] [] pos) (fCb bLenSet g) := by
  refine pe_weak (pe_callB cr_lenX hg hm (by decide +kernel) (pa_cons (pe_callTy (_root_.SX.cr_setX hX.calm) hg2 hm2 (by decide +kernel) ha (by decide) (by decide) he rfl) pa_nil he2) (by decide) (by decide) he2 rfl) fun σ H Q ⟨m, env, S, R, E, d', S', e1, qq⟩ => ?_
  obtain ⟨ds, S1, k1, e2⟩ := Oc.bind_eq e1
  refine ⟨m, env, S, R, E, ds, S1, k1, fun vs m1 H1 st1 R1 i1 => ?_⟩
  cases h1 : deAll S1 ds with
  | none => simp [h1] at e2
  | some ps =>
    cases h2 : bLenSet ps with
    | none => simp [h1, h2] at e2
    | some u =>
      simp [h1, h2] at e2
      obtain ⟨rfl, rfl⟩ := e2
      unfold bLenSet at h2
      obtain ⟨ks, hk, rfl⟩ := Option.map_eq_some_iff.mp h2
      obtain ⟨a, t, rfl, hs, hl, hok⟩ := txts_is hk (deAll_is R1 h1 i1)
      refine ⟨a, ks, t, rfl, hs, hl, fun pp c hp hc => ?_⟩
      obtain ⟨R2, st2⟩ := R1.fresh (o := _root_.SX.SetX X.w pp (fun k => k ∈ ks) c) hp
      refine ⟨pp, _, c, rfl, upd_same, by omega, fun bs nd hm3 => ?_⟩
      have pm := perm_nd nd (nd_ddS ks) fun k => by rw [hm3 k, mem_ddS]
      rw [pm.length_eq]
      exact qq _ m1 _ (st1.trans st2) R2 rfl
end
/-! ### of names -/
theorem strs_nm (xs : List Nm) : xs.map nP = (xs.map (·.s)).map P.str := by
  rw [List.map_map]
  rfl
theorem txts_tN {xs : List Nm} (h : xs.length ≤ 1000) : txts [tN xs] = some (xs.map (·.s)) := by
  show (match strsP (xs.map nP) with | some ks => if ks.length ≤ 1000 ∧ (ks.all PyData.strOk) = true then some ks else none | none => none) = _
  rw [strs_nm, strsP_map]
  show (if _ then _ else _) = _
  rw [if_pos ⟨by simpa using h, List.all_eq_true.mpr fun k hk => by
    obtain ⟨x, _, rfl⟩ := List.mem_map.mp hk
    exact x.ok.1⟩]
theorem txts_lN {xs : List Nm} (h : xs.length ≤ 1000) : txts [lN xs] = some (xs.map (·.s)) := by
  show (match strsP (xs.map nP) with | some ks => if ks.length ≤ 1000 ∧ (ks.all PyData.strOk) = true then some ks else none | none => none) = _
  rw [strs_nm, strsP_map]
  show (if _ then _ else _) = _
  rw [if_pos ⟨by simpa using h, List.all_eq_true.mpr fun k hk => by
    obtain ⟨x, _, rfl⟩ := List.mem_map.mp hk
    exact x.ok.1⟩]
theorem so_ex (xs : List Nm) : ∃ ys : List Nm, ys.Nodup ∧ (∀ x, x ∈ ys ↔ x ∈ xs) ∧ srt ((ddS (xs.map (·.s))).map .str) = ys.map nP ∧ (ys.map nP).Pairwise (fun a b => PySem.W.dataLe false pyOf a b = true) := by
  have back : ∀ zs : List P, (∀ z ∈ zs, ∃ x ∈ xs, z = nP x) → ∃ ys : List Nm, (∀ y ∈ ys, y ∈ xs) ∧ zs = ys.map nP := by
    intro zs
    induction zs with
    | nil => exact fun _ => ⟨[], (fun _ h => nomatch h), rfl⟩
    | cons z zs ih =>
      intro h
      obtain ⟨x, hx, rfl⟩ := h z (List.mem_cons_self ..)
      obtain ⟨ys, hy, rfl⟩ := ih fun w hw => h w (List.mem_cons_of_mem _ hw)
      exact ⟨x :: ys, (fun y hy' => (List.mem_cons.mp hy').elim (fun e => e ▸ hx) (hy y)), rfl⟩
  have pm := srt_perm ((ddS (xs.map (·.s))).map .str)
  obtain ⟨ys, hy, e⟩ := back (srt ((ddS (xs.map (·.s))).map .str)) fun z hz => by
    obtain ⟨k, hk, rfl⟩ := List.mem_map.mp (pm.mem_iff.mp hz)
    obtain ⟨x, hx, rfl⟩ := List.mem_map.mp (mem_ddS.mp hk)
    exact ⟨x, hx, rfl⟩
  have hs := srt_sorted ((ddS (xs.map (·.s))).map .str)
  rw [e] at pm hs
  refine ⟨ys, ?_, fun x => ⟨hy x, fun hx => ?_⟩, e, hs⟩
  · have : (ys.map nP).Nodup := pm.nodup_iff.mpr (List.Pairwise.map _ (fun a b h z => h (P.str.inj z)) (nd_ddS _))
    exact List.Pairwise.of_map nP (fun a b h z => h (z ▸ rfl)) this
  · have h1 : nP x ∈ (ddS (xs.map (·.s))).map P.str := List.mem_map.mpr ⟨x.s, mem_ddS.mpr (List.mem_map.mpr ⟨x, hx, rfl⟩), rfl⟩
    obtain ⟨y, hy', e'⟩ := List.mem_map.mp (pm.mem_iff.mpr h1)
    rwa [nP_inj.mp e'] at hy'
/-- the distinct names, in order -/
noncomputable def so (xs : List Nm) : List Nm := (so_ex xs).choose
theorem so_nd (xs : List Nm) : (so xs).Nodup := (so_ex xs).choose_spec.1
theorem so_mem {xs : List Nm} {x : Nm} : x ∈ so xs ↔ x ∈ xs := (so_ex xs).choose_spec.2.1 x
theorem so_eq (xs : List Nm) : srt ((ddS (xs.map (·.s))).map .str) = (so xs).map nP := (so_ex xs).choose_spec.2.2.1
theorem so_len {xs : List Nm} {n : Nat} (h : ∀ ys : List Nm, ys.Nodup → (∀ y ∈ ys, y ∈ xs) → ys.length ≤ n) : (so xs).length ≤ n := h _ (so_nd xs) fun y hy => so_mem.mp hy
theorem o_soT {xs : List Nm} (h : xs.length ≤ 1000) : bSortSet [tN xs] = some (lN (so xs)) := by
  unfold bSortSet
  rw [txts_tN h, Option.map_some, so_eq]
theorem o_soL {xs : List Nm} (h : xs.length ≤ 1000) : bSortSet [lN xs] = some (lN (so xs)) := by
  unfold bSortSet
  rw [txts_lN h, Option.map_some, so_eq]
end DL

/-! DLy: comprehensions of two clauses. -/
namespace DL
open PySem PySem.Spec PyProof.Rows L2
open Classical in
noncomputable def lcF2 (own : Option Nat) (all : List P) (g : FG) (t : FT) (it1 : FI) (g1 : FG) (t1 : FT) (e : FE) (vs1 : List Nat) (env : Dnv) : List P → Sto → List P → Oc (List P)
  | [], S, acc => if OwnOk own all S then .ok acc S else .bad
  | p :: ps, S, acc => if OwnOk own all S then (g (.v p) env S).bind fun env1 S1 => (t env1 S1).bind fun b S2 => if b = true then (it1 env1 S2).bind fun r S3 => (lcF r.2 r.1 g1 t1 e (wipeE env1 vs1) r.1 S3 acc).bind fun acc1 S4 => lcF2 own all g t it1 g1 t1 e vs1 env ps S4 acc1 else lcF2 own all g t it1 g1 t1 e vs1 env ps S2 acc else .bad
noncomputable def fLc2 (it : FI) (g : FG) (t : FT) (it1 : FI) (g1 : FG) (t1 : FT) (e : FE) (vs vs1 : List Nat) : FE := fun env S => (it env S).bind fun r S1 => (lcF2 r.2 r.1 g t it1 g1 t1 e vs1 (wipeE env vs) r.1 S1 []).bind fun acc S2 => .ok (.v (.lst acc)) S2
section
variable {K : PySem.W.Frag}
theorem lc2_walk {it it1 : FI} {g g1 : FG} {t t1 : FT} {e : FE} {vs vs1 : List Nat} {σ : L2.St} {H : Hp} {Q : VK} {m : Mp} {env : Dnv} {S : Sto} (R : Rel K m H S) (E : EnvIs K m (mask m H) σ env) {ps : List P} {own : Option Nat} {S1 S2 : Sto} {acc : List P} (k1 : it env S = .ok (ps, own) S1)
    (k2 : lcF2 own ps g t it1 g1 t1 e vs1 (wipeE env vs) ps S1 [] = .ok acc S2)
    (q : ∀ p xs l2 H2, p ∉ m.h → Wk m H ⟨l2, p :: m.h⟩ H2 → (∀ b, b ∈ m.h → H2 b = H b) → Rel K ⟨l2, p :: m.h⟩ H2 S2 → H2 p = some (.lst xs) → IsAll K (mask ⟨l2, p :: m.h⟩ H2) acc xs → Q (.ref p) H2) : tLc2 (TDi K it) (TDw K vs g) (TDt K t) (TDi K it1) (TDw K vs1 g1) (TDt K t1) (TD K e) vs vs1 σ H Q := by
  refine ⟨m, env, S, R, E, ps, own, S1, k1, fun m1 H1 J st1 R1 T Dl hD => ?_⟩
  have R1h := R1.hide (o := .lst []) hD
  have emk := mask_hide (m := m1) (o := .lst []) hD
  have hDm := R1.out hD
  refine ⟨fun i k H2 => k + i = ps.length ∧ ∃ m2 S3 ac xs, m2.h = Dl :: m1.h ∧ Wk m1 H1 m2 H2 ∧ (∀ b, b ∈ m1.h → H2 b = H1 b) ∧ Rel K m2 H2 S3 ∧ H2 Dl = some (.lst xs) ∧ IsAll K (mask m2 H2) ac xs ∧ lcF2 own ps g t it1 g1 t1 e vs1 (wipeE env vs) (ps.drop i) S3 ac = .ok acc S2,
    ⟨ps.length, by omega, m1.hide Dl, S1, [], [], rfl, ⟨fun _ _ h => h, by rw [emk]; exact fun _ _ h => h⟩, fun b hb => upd_ne fun z => hDm (.inr (z ▸ hb)), R1h, upd_same, rfl, by simpa using k2⟩, ?_⟩
  rintro i k H2 ⟨hk, m2, S3, ac, xs, hh, w2, hk2, R2, eD, iac, k3⟩
  by_cases hi : i < ps.length
  · right
    rw [List.drop_eq_getElem_cons hi] at k3
    unfold lcF2 at k3
    split at k3
    · rename_i ho
      obtain ⟨env3, S4, k4, k5⟩ := Oc.bind_eq k3
      obtain ⟨b, S5, k6, k7⟩ := Oc.bind_eq k5
      obtain ⟨hgo, hy⟩ := T.go i _ m2 H2 S3 (List.getElem?_eq_getElem hi) w2 R2 ho
      refine ⟨hgo, fun H' => ∃ k', k' < k ∧ (k' + (i + 1) = ps.length ∧ ∃ m2 S3 ac xs, m2.h = Dl :: m1.h ∧ Wk m1 H1 m2 H' ∧ (∀ b, b ∈ m1.h → H' b = H1 b) ∧ Rel K m2 H' S3 ∧ H' Dl = some (.lst xs) ∧ IsAll K (mask m2 H') ac xs ∧ lcF2 own ps g t it1 g1 t1 e vs1 (wipeE env vs) (ps.drop (i + 1)) S3 ac = .ok acc S2), fun H' z => z, fun x H3 y => ?_⟩
      obtain ⟨R3, st3, i3, _⟩ := hy x H3 y
      have hDh : Dl ∈ m2.h := by rw [hh]; exact List.mem_cons_self ..
      have E2 : EnvIs K m2 (mask m2 H3) (L2.wipe σ vs) (wipeE env vs) := by
        have E1 := (E.step st1).wipe vs
        refine ⟨E1.len, fun j d z => ?_⟩
        obtain ⟨v, h1, h2⟩ := E1.get j d z
        exact ⟨v, h1, (h2.mono (w2.trans st3.wk).ext (w2.trans st3.wk).ex)⟩
      refine ⟨m2, wipeE env vs, S3, .v ps[i], R3, E2, i3, env3, S4, k4, fun m4 H4 σ4 st4 R4 E4 _ hw => ⟨by rw [hw, wipe_idem], m4, env3, S4, R4, E4, b, S5, k6, fun m5 H5 st5 R5 => ?_⟩⟩
      have stA := (st3.trans st4).trans st5
      have next : ∀ {m6 : Mp} {H6 : Hp} {S6 : Sto} {ac' : List P} {xs' : List V}, m6.h = Dl :: m1.h → Wk m1 H1 m6 H6 → (∀ b, b ∈ m1.h → H6 b = H1 b) → Rel K m6 H6 S6 → H6 Dl = some (.lst xs') → IsAll K (mask m6 H6) ac' xs' → lcF2 own ps g t it1 g1 t1 e vs1 (wipeE env vs) (ps.drop (i + 1)) S6 ac' = .ok acc S2 →
          ∃ k', k' < k ∧ (k' + (i + 1) = ps.length ∧ ∃ m2 S3 ac xs, m2.h = Dl :: m1.h ∧ Wk m1 H1 m2 H6 ∧ (∀ b, b ∈ m1.h → H6 b = H1 b) ∧ Rel K m2 H6 S3 ∧ H6 Dl = some (.lst xs) ∧ IsAll K (mask m2 H6) ac xs ∧ lcF2 own ps g t it1 g1 t1 e vs1 (wipeE env vs) (ps.drop (i + 1)) S3 ac = .ok acc S2) :=
        fun {m6 H6 S6 ac' xs'} h6 w6 b6 R6 e6 i6 k8 => ⟨k - 1, by omega, by omega, m6, S6, ac', xs', h6, w6, b6, R6, e6, i6, k8⟩
      have hk5 : ∀ {m6 : Mp} {H6 : Hp}, Stp m2 H2 m6 H6 → ∀ b, b ∈ m1.h → H6 b = H1 b := fun st b hb => (st.hk b (by rw [hh]; exact List.mem_cons_of_mem _ hb)).trans (hk2 b hb)
      have eD5 : H5 Dl = some (.lst xs) := by rw [stA.hk Dl hDh]; exact eD
      cases b with
      | false =>
        rw [if_neg (by decide)] at k7
        refine iteF ?_
        exact next (by rw [stA.hh, hh]) (w2.trans stA.wk) (hk5 stA) R5 eD5 (stA.all iac) k7
      | true =>
        rw [if_pos rfl] at k7
        refine iteT ?_
        obtain ⟨⟨qs, own1⟩, S6, k8, k9⟩ := Oc.bind_eq k7
        obtain ⟨acc1, S8, k10, k11⟩ := Oc.bind_eq k9
        refine ⟨m5, env3, S5, R5, E4.step st5, qs, own1, S6, k8, fun m6 H6 J1 st6 R6 T1 => ?_⟩
        have stB := stA.trans st6
        have eD6 : H6 Dl = some (.lst xs) := by rw [stB.hk Dl hDh]; exact eD
        have hD6 : m6.h = Dl :: m1.h := by rw [stB.hh, hh]
        refine ⟨fun j k1 H7 => k1 + j = qs.length ∧ ∃ m7 S7 ac7 xs7, m7.h = Dl :: m1.h ∧ Wk m6 H6 m7 H7 ∧ (∀ b, b ∈ m1.h → H7 b = H1 b) ∧ Rel K m7 H7 S7 ∧ H7 Dl = some (.lst xs7) ∧ IsAll K (mask m7 H7) ac7 xs7 ∧ lcF own1 qs g1 t1 e (wipeE env3 vs1) (qs.drop j) S7 ac7 = .ok acc1 S8,
          ⟨qs.length, by omega, m6, S6, ac, xs, hD6, ⟨fun _ _ h => h, fun _ _ h => h⟩, hk5 stB, R6, eD6, stB.all iac, by simpa using k10⟩, ?_⟩
        rintro j k1 H7 ⟨hk7, m7, S7, ac7, xs7, hh7, w7, hb7, R7, eD7, iac7, k12⟩
        by_cases hj : j < qs.length
        · right
          rw [List.drop_eq_getElem_cons hj] at k12
          unfold lcF at k12
          split at k12
          · rename_i ho1
            obtain ⟨env9, S9, k13, k14⟩ := Oc.bind_eq k12
            obtain ⟨b1, S10, k15, k16⟩ := Oc.bind_eq k14
            obtain ⟨hgo1, hy1⟩ := T1.go j _ m7 H7 S7 (List.getElem?_eq_getElem hj) w7 R7 ho1
            refine ⟨hgo1, fun H' => ∃ k', k' < k1 ∧ (k' + (j + 1) = qs.length ∧ ∃ m7 S7 ac7 xs7, m7.h = Dl :: m1.h ∧ Wk m6 H6 m7 H' ∧ (∀ b, b ∈ m1.h → H' b = H1 b) ∧ Rel K m7 H' S7 ∧ H' Dl = some (.lst xs7) ∧ IsAll K (mask m7 H') ac7 xs7 ∧ lcF own1 qs g1 t1 e (wipeE env3 vs1) (qs.drop (j + 1)) S7 ac7 = .ok acc1 S8), fun H' z => z, fun x1 H8 y1 => ?_⟩
            obtain ⟨R8, st8, i8, _⟩ := hy1 x1 H8 y1
            have hDh7 : Dl ∈ m7.h := by rw [hh7]; exact List.mem_cons_self ..
            have E8 : EnvIs K m7 (mask m7 H8) (L2.wipe σ4 vs1) (wipeE env3 vs1) := by
              have E1 := (E4.step (st5.trans st6)).wipe vs1
              refine ⟨E1.len, fun j d z => ?_⟩
              obtain ⟨v, h1, h2⟩ := E1.get j d z
              exact ⟨v, h1, (h2.mono (w7.trans st8.wk).ext (w7.trans st8.wk).ex)⟩
            refine ⟨m7, wipeE env3 vs1, S7, .v qs[j], R8, E8, i8, env9, S9, k13, fun m9 H9 σ9 st9 R9 E9 _ hw9 => ⟨by rw [hw9, wipe_idem], m9, env9, S9, R9, E9, b1, S10, k15, fun m10 H10 st10 R10 => ?_⟩⟩
            have stC := (st8.trans st9).trans st10
            have hk10 : ∀ {m6 : Mp} {H6 : Hp}, Stp m7 H7 m6 H6 → ∀ b, b ∈ m1.h → H6 b = H1 b := fun st b hb => (st.hk b (by rw [hh7]; exact List.mem_cons_of_mem _ hb)).trans (hb7 b hb)
            have eD10 : H10 Dl = some (.lst xs7) := by rw [stC.hk Dl hDh7]; exact eD7
            cases b1 with
            | false =>
              rw [if_neg (by decide)] at k16
              refine iteF ?_
              exact ⟨k1 - 1, by omega, by omega, m10, S10, ac7, xs7, by rw [stC.hh, hh7], w7.trans stC.wk, hk10 stC, R10, eD10, stC.all iac7, k16⟩
            | true =>
              rw [if_pos rfl] at k16
              refine iteT ?_
              obtain ⟨d, S11, k17, k18⟩ := Oc.bind_eq k16
              refine ⟨m10, env9, S10, R10, E9.step st10, d, S11, k17, fun v m11 H11 st11 R11 i11 => ?_⟩
              have stD := stC.trans st11
              split at k18
              · rename_i q'
                split at k18
                · rename_i hl
                  have eD11 : H11 Dl = some (.lst xs7) := by rw [stD.hk Dl hDh7]; exact eD7
                  have hDh11 : Dl ∈ m11.h := by rw [stD.hh]; exact hDh7
                  have em11 := mask_hid (m := m11) (H := H11) (o := .lst (xs7 ++ [v])) hDh11
                  refine ⟨xs7, eD11, size_lt (by rw [← iac7.len]; exact hl), ?_⟩
                  have R12 := R11.hidden (o := .lst (xs7 ++ [v])) hDh11
                  refine ⟨k1 - 1, by omega, by omega, m11, S11, ac7 ++ [q'], xs7 ++ [v], by rw [stD.hh, hh7], ⟨(w7.trans stD.wk).ext, by rw [em11]; exact (w7.trans stD.wk).ex⟩, fun b hb => ?_, R12, upd_same, by rw [em11]; exact (stD.all iac7).append (IsAll.one i11), k18⟩
                  have hne : b ≠ Dl := fun z => by
                    subst z
                    exact hDm (.inr hb)
                  rw [upd_ne hne]
                  exact hk10 stD b hb
                · cases k18
              · cases k18
          · cases k12
        · left
          have ed : qs.drop j = [] := List.drop_eq_nil_of_le (by omega)
          rw [ed] at k12
          unfold lcF at k12
          split at k12
          · rename_i ho1
            cases k12
            exact ⟨T1.stop j m7 H7 _ (by omega) w7 R7 ho1, next hh7 ((w2.trans stB.wk).trans w7) hb7 R7 eD7 iac7 k11⟩
          · cases k12
    · cases k3
  · left
    have ed : ps.drop i = [] := List.drop_eq_nil_of_le (by omega)
    rw [ed] at k3
    unfold lcF2 at k3
    split at k3
    · rename_i ho
      cases k3
      refine ⟨T.stop i m2 H2 _ (by omega) w2 R2 ho, ?_⟩
      obtain ⟨l2, h2⟩ := m2
      have hh' : h2 = Dl :: m1.h := hh
      subst hh'
      have hDn : Dl ∉ m1.h := fun z => hDm (.inr z)
      have e1 : m1.h = m.h := st1.hh
      rw [e1] at hDn w2 R2 iac
      exact q Dl xs l2 H2 hDn ⟨(st1.wk.trans w2).ext, (st1.wk.trans w2).ex⟩ (fun b hb => (hk2 b (by rw [e1]; exact hb)).trans (st1.hk b hb)) R2 eD iac
    · cases k3
theorem lc2_val {it it1 : FI} {g g1 : FG} {t t1 : FT} {e : FE} {vs vs1 : List Nat} {σ : L2.St} {H : Hp} {Q : VK} (h : TD K (fLc2 it g t it1 g1 t1 e vs vs1) σ H Q) : tLc2 (TDi K it) (TDw K vs g) (TDt K t) (TDi K it1) (TDw K vs1 g1) (TDt K t1) (TD K e) vs vs1 σ H Q := by
  obtain ⟨m, env, S, R, E, d, S', e1, q⟩ := h
  obtain ⟨⟨ps, own⟩, S1, k1, e2⟩ := Oc.bind_eq e1
  obtain ⟨acc, S2, k2, e3⟩ := Oc.bind_eq e2
  cases e3
  refine lc2_walk R E k1 k2 fun p xs l2 H2 hp w hk R2 e2 i2 => ?_
  obtain ⟨R3, ex3⟩ := R2.show' hp
  have hpl := (R2.hid p (List.mem_cons_self ..)).1
  refine q (.ref p) ⟨l2, m.h⟩ H2 ⟨w.ext, fun b o z => ex3 b o (w.ex b o z), rfl, hk⟩ R3 ⟨p, xs, rfl, ?_, IsAll.mono ex3 _ _ i2⟩
  exact (mask_out (m := ⟨l2, m.h⟩) (fun z => z.elim (fun q => hpl q) (fun q => hp q))).trans e2
end
section
variable {X : Cx} {elt tg iter tg1 iter1 : Expr} {ifs ifs1 : List Expr} {scope : Scope} {pos spos py : Pos} {it it1 : FI} {g g1 : FG} {t t1 : FT} {e : FE} {i : Nat} {y : Str}
theorem d_lc2 (hX : SX X) (own : List (Str × Nat)) (vs1 : List Nat) (hv : ∀ i ∈ vs1, i ∈ own.map (·.2)) (hi : PId X tg iter it) (ok : BlkOk X.N X.env.scope scope own) (hg : ∀ (s : Shared) (H : Hp) (C : Addr) (cl : List (Str × Addr)) (fp : List Addr), PG (X.blk s H scope (compEnvC scope cl C X.env) fp) tg (TDw X.K (own.map (·.2)) g))
    (ht : ∀ (s : Shared) (H : Hp) (C : Addr) (cl : List (Str × Addr)) (fp : List Addr), PTs (X.blk s H scope (compEnvC scope cl C X.env) fp) ifs (TDt X.K t)) (hi1 : ∀ (s : Shared) (H : Hp) (C : Addr) (cl : List (Str × Addr)) (fp : List Addr), PId (X.blk s H scope (compEnvC scope cl C X.env) fp) tg1 iter1 it1)
    (hg1 : ∀ (s : Shared) (H : Hp) (C : Addr) (cl : List (Str × Addr)) (fp : List Addr), PG (X.blk s H scope (compEnvC scope cl C X.env) fp) tg1 (TDw X.K vs1 g1)) (ht1 : ∀ (s : Shared) (H : Hp) (C : Addr) (cl : List (Str × Addr)) (fp : List Addr), PTs (X.blk s H scope (compEnvC scope cl C X.env) fp) ifs1 (TDt X.K t1))
    (he : ∀ (s : Shared) (H : Hp) (C : Addr) (cl : List (Str × Addr)) (fp : List Addr), PE (X.blk s H scope (compEnvC scope cl C X.env) fp) elt (TD X.K e)) (hs : ∀ x, foldedSetIterable iter X.env x = pure x := by intro _; rfl) (hs1 : ∀ env x, foldedSetIterable iter1 env x = pure x := by intro _ _; rfl) :
    PEd X (.ListComp elt [⟨tg, iter, ifs, 0⟩, ⟨tg1, iter1, ifs1, 0⟩] scope pos) (fLc2 it g t it1 g1 t1 e (own.map (·.2)) vs1) := pe_weak (pe_lc2 hX.calm hX.nd hi ok hv hg ht hi1 hg1 ht1 he hs hs1) fun _ _ _ => lc2_val
theorem s_setLc2 (hX : SX X) (own : List (Str × Nat)) (vs1 : List Nat) (hv : ∀ i ∈ vs1, i ∈ own.map (·.2)) (hsw : swapsWith (.ListComp elt [⟨tg, iter, ifs, 0⟩, ⟨tg1, iter1, ifs1, 0⟩] scope pos) (some (.Name y py)) spos.line X.env = pure true) (hi : PId X tg iter it) (ok : BlkOk X.N X.env.scope scope own) (hg : ∀ (s : Shared) (H : Hp) (C : Addr) (cl : List (Str × Addr)) (fp : List Addr), PG (X.blk s H scope (compEnvC scope cl C X.env) fp) tg (TDw X.K (own.map (·.2)) g))
    (ht : ∀ (s : Shared) (H : Hp) (C : Addr) (cl : List (Str × Addr)) (fp : List Addr), PTs (X.blk s H scope (compEnvC scope cl C X.env) fp) ifs (TDt X.K t)) (hi1 : ∀ (s : Shared) (H : Hp) (C : Addr) (cl : List (Str × Addr)) (fp : List Addr), PId (X.blk s H scope (compEnvC scope cl C X.env) fp) tg1 iter1 it1)
    (hg1 : ∀ (s : Shared) (H : Hp) (C : Addr) (cl : List (Str × Addr)) (fp : List Addr), PG (X.blk s H scope (compEnvC scope cl C X.env) fp) tg1 (TDw X.K vs1 g1)) (ht1 : ∀ (s : Shared) (H : Hp) (C : Addr) (cl : List (Str × Addr)) (fp : List Addr), PTs (X.blk s H scope (compEnvC scope cl C X.env) fp) ifs1 (TDt X.K t1))
    (he : ∀ (s : Shared) (H : Hp) (C : Addr) (cl : List (Str × Addr)) (fp : List Addr), PE (X.blk s H scope (compEnvC scope cl C X.env) fp) elt (TD X.K e))
    (hy : X.N[i]? = some y := by rfl) (hyl : X.env.scope.names.lookup y = some .local := by rfl) (hs : ∀ x, foldedSetIterable iter X.env x = pure x := by intro _; rfl) (hs1 : ∀ env x, foldedSetIterable iter1 env x = pure x := by intro _ _; rfl) :
    PSd X (.Assign [.Name y py] (.ListComp elt [⟨tg, iter, ifs, 0⟩, ⟨tg1, iter1, ifs1, 0⟩] scope pos) spos) (fSet (fLc2 it g t it1 g1 t1 e (own.map (·.2)) vs1) (gNm i)) := ps_weak (ps_setLc2 hX.calm hX.nd hy hyl hsw hi ok hv hg ht hi1 hg1 ht1 he hs hs1) fun _ _ _ => setnm_ok fun _ _ _ => lc2_val
end
/-! ### values found -/
section
variable {α β : Type} {it it1 : FI} {g g1 : FG} {t t1 : FT} {e : FE} {vs vs1 : List Nat} {env : Dnv} {S S1 : Sto} {own : Option Nat} {xs : List α} {ys : α → List β} {f : α → P} {h hh : α → β → P} {q : α → Bool} {q1 : α → β → Bool}
theorem lcF_from {all : List P} {f hh : β → P} {q1 : β → Bool} (ho : OwnOk own all S) : ∀ (ys : List β) (acc : List P), acc.length + ys.length < 100000 → (∀ y ∈ ys, BodyE g1 t1 e env S (f y) (q1 y) (hh y)) → lcF own all g1 t1 e env (ys.map f) S acc = .ok (acc ++ (ys.filter q1).map hh) S
  | [], acc, _, _ => by
    show lcF own all g1 t1 e env [] S acc = _
    unfold lcF
    rw [if_pos ho]
    simp
  | y :: ys, acc, hl, hs => by
    have hl : acc.length + (ys.length + 1) < 100000 := hl
    obtain ⟨env1, h1, h2, h3⟩ := (hs y (List.mem_cons_self ..)).ex
    show lcF own all g1 t1 e env (f y :: ys.map f) S acc = _
    unfold lcF
    rw [if_pos ho, h1]
    simp only [Oc.bind_ok]
    rw [h2]
    simp only [Oc.bind_ok]
    have ih := fun acc hl => lcF_from ho ys acc hl fun z hz => hs z (List.mem_cons_of_mem _ hz)
    cases hq : q1 y with
    | true =>
      rw [if_pos rfl, h3 hq]
      simp only [Oc.bind_ok]
      rw [if_pos (by omega), ih _ (by rw [List.length_append]; show acc.length + 1 + _ < _; omega)]
      simp [hq]
    | false =>
      rw [if_neg (by decide), ih _ (by omega)]
      simp [hq]
theorem e_lc2 {k : Nat} (hi : it env S = .ok (xs.map f, own) S1) (ho : OwnOk own (xs.map f) S1) (hk : ∀ x ∈ xs, (ys x).length ≤ k) (hl : xs.length * k < 100000)
    (hs : ∀ x ∈ xs, ∃ env1, g (.v (f x)) (wipeE env vs) S1 = .ok env1 S1 ∧ t env1 S1 = .ok (q x) S1 ∧ (q x = true → ∃ own1, it1 env1 S1 = .ok ((ys x).map (h x), own1) S1 ∧ OwnOk own1 ((ys x).map (h x)) S1 ∧ ∀ y ∈ ys x, BodyE g1 t1 e (wipeE env1 vs1) S1 (h x y) (q1 x y) (hh x y))) :
    fLc2 it g t it1 g1 t1 e vs vs1 env S = .ok (.v (.lst ((xs.filter q).flatMap fun x => ((ys x).filter (q1 x)).map (hh x)))) S1 := by
  unfold fLc2
  rw [hi]
  show (lcF2 own (xs.map f) g t it1 g1 t1 e vs1 (wipeE env vs) (xs.map f) S1 []).bind _ = _
  have main : ∀ (zs : List α) (acc : List P), (∀ z ∈ zs, z ∈ xs) → acc.length + zs.length * k < 100000 → lcF2 own (xs.map f) g t it1 g1 t1 e vs1 (wipeE env vs) (zs.map f) S1 acc = .ok (acc ++ (zs.filter q).flatMap fun x => ((ys x).filter (q1 x)).map (hh x)) S1 := by
    intro zs
    induction zs with
    | nil =>
      intro acc _ _
      show lcF2 own (xs.map f) g t it1 g1 t1 e vs1 (wipeE env vs) [] S1 acc = _
      unfold lcF2
      rw [if_pos ho]
      simp
    | cons z zs ih =>
      intro acc hz hl
      have hl : acc.length + (zs.length + 1) * k < 100000 := hl
      rw [Nat.add_mul, Nat.one_mul] at hl
      have hzk := hk z (hz z (List.mem_cons_self ..))
      obtain ⟨env1, h1, h2, h3⟩ := hs z (hz z (List.mem_cons_self ..))
      show lcF2 own (xs.map f) g t it1 g1 t1 e vs1 (wipeE env vs) (f z :: zs.map f) S1 acc = _
      unfold lcF2
      rw [if_pos ho, h1]
      simp only [Oc.bind_ok]
      rw [h2]
      simp only [Oc.bind_ok]
      have ih := fun acc hl => ih acc (fun y hy => hz y (List.mem_cons_of_mem _ hy)) hl
      cases hq : q z with
      | true =>
        obtain ⟨own1, h4, h5, h6⟩ := h3 hq
        rw [if_pos rfl, h4]
        simp only [Oc.bind_ok]
        rw [lcF_from h5 _ _ (by omega) h6]
        simp only [Oc.bind_ok]
        have hfl := List.length_filter_le (q1 z) (ys z)
        rw [ih _ (by rw [List.length_append, List.length_map]; omega)]
        simp [hq]
      | false =>
        rw [if_neg (by decide), ih _ (by omega)]
        simp [hq]
  rw [main xs [] (fun _ h => h) (by simpa using hl)]
  rfl
end
end DL

/-! DLw: tables of the module's top, with text keys. -/
namespace DL
open PySem PySem.Spec PyProof.Rows L2
/-- the values of a table -/
def valsT (K : PySem.W.Frag) (a : Addr) (kvs : List (Str × P)) : Bool := kvs.all fun q => match PySem.W.nsIn K a q.1 with
  | some (some u) => isB K q.2 u
  | _ => false
theorem valsT_ok {K : PySem.W.Frag} {a : Addr} {kvs : List (Str × P)} (h : valsT K a kvs = true) {q : Str × P} (hq : q ∈ kvs) : ∃ u, PySem.W.nsIn K a q.1 = some (some u) ∧ isB K q.2 u = true := by
  have h2 := List.all_eq_true.mp h q hq
  cases e : PySem.W.nsIn K a q.1 with
  | none => rw [e] at h2; cases h2
  | some r =>
    rw [e] at h2
    cases r with
    | none => cases h2
    | some u => exact ⟨u, rfl, h2⟩
structure TabOk (K : PySem.W.Frag) (w : World) (a : Addr) (kvs : List (Str × P)) : Prop where
  tab : He.dicW K a = some (He.keysIn w.params (kvs.map (·.1)))
  vals : valsT K a kvs = true
theorem dicW_keys {K : PySem.W.Frag} {w : World} {a : Addr} {ks : List Str} (h : He.dicW K a = some (He.keysIn w.params ks)) : ∃ es n, KDict K w a es n ∧ es.toList.map He.keyOf = He.keysIn w.params ks := by
  obtain ⟨es, n, D⟩ := He.dicW_ok h
  refine ⟨es, n, D, ?_⟩
  unfold He.dicW at h
  rw [D.at_] at h
  have h1 : (match decide (("dict" : String) = "dict") && ((#[] : Array Value).isEmpty && !(a == sysModules)) with
    | true => some (es.toList.map He.keyOf)
    | false => none) = some (He.keysIn w.params ks) := h
  rw [D.low] at h1
  exact Option.some.inj h1
/-! the hook -/
abbrev TabT := (PySem.W.Frag → Addr) × List (Str × P)
abbrev AlPT : Type := AlP × (List (Option (List (Option (Str × Int)))) × Bool)
def obsPT (fa : List He.Fa) (fn : List He.DefD) (cs : List CsT) (ts : List TabT) (K : PySem.W.Frag) : AlPT := (obsP fa fn cs K, (ts.map fun t => He.dicW K (t.1 K), ts.all fun t => valsT K (t.1 K) t.2))
def valPT (fn : List He.DefD) (ts : List TabT) (w : World) : AlPT := ((He.valD fn, true), (ts.map fun t => some (He.keysIn w.params (t.2.map (·.1))), true))
def SaysPT (fa : List He.Fa) (fn : List He.DefD) (cs : List CsT) (ts : List TabT) (w : World) (K : PySem.W.Frag) : Prop := obsPT fa fn cs ts K = valPT fn ts w
def obsPTG (n : Nat) (fa : List He.Fa) (fn : List He.DefD) (cs : List CsT) (ts : List TabT) (g : Addr → Option Obj) : AlPT := obsPT fa fn cs ts (He.frG g (He.asD g n))
def hookPT (n : Nat) (fa : List He.Fa) (fn : List He.DefD) (cs : List CsT) (ts : List TabT) : PySem.W.Hook where
  α := AlPT
  obs := fun s => obsPTG n fa fn cs ts s.heap.get?
  val := fun w => valPT fn ts w
  says := fun w h => ∃ K : PySem.W.Frag, K.In h ∧ SaysPT fa fn cs ts w K
  of := fun _ _ e => ⟨_, He.frG_in, e⟩
  keeps := fun _ _ _ ⟨K, hK, c⟩ k => ⟨K, PySem.W.Frag.In.keeps hK k, c⟩
theorem obsPTG_eq {n : Nat} {fa : List He.Fa} {fn : List He.DefD} {cs : List CsT} {ts : List TabT} {g : Addr → Option Obj} {s : Shared} (h : ∀ a, g a = s.heap.get? a) : obsPTG n fa fn cs ts g = (hookPT n fa fn cs ts).obs s := by
  have e : g = s.heap.get? := funext h
  rw [e] <;> rfl
section
variable {fa : List He.Fa} {fn : List He.DefD} {cs : List CsT} {ts : List TabT} {w : World} {K : PySem.W.Frag}
theorem SaysPT.p (c : SaysPT fa fn cs ts w K) : SaysP fa fn cs K := congrArg (fun z : AlPT => z.1) c
theorem SaysPT.t (c : SaysPT fa fn cs ts w K) (i : Nat) {t : TabT} (h : ts[i]? = some t := by rfl) : TabOk K w (t.1 K) t.2 := by
  have e : ts.map (fun t => He.dicW K (t.1 K)) = ts.map fun t => some (He.keysIn w.params (t.2.map (·.1))) := congrArg (fun z : AlPT => z.2.1) c
  have e2 : (ts.map fun t => He.dicW K (t.1 K))[i]? = (ts.map fun t => some (He.keysIn w.params (t.2.map (·.1))))[i]? := by rw [e]
  rw [List.getElem?_map, List.getElem?_map, h] at e2
  have e3 : (ts.all fun t => valsT K (t.1 K) t.2) = true := congrArg (fun z : AlPT => z.2.2) c
  exact ⟨Option.some.inj e2, List.all_eq_true.mp e3 t (List.mem_of_getElem? h)⟩
end
/-! d[k] -/
def fKix (kvs : List (Str × P)) (g : FE) : FE := fun env S => (g env S).bind fun d S1 => match deP S1 d with
  | some (.str k) => match kvs.find? fun q => decide (q.1 = k) with
    | some q => .ok (.v q.2) S1
    | none => .bad
  | _ => .bad
section
variable {X : Cx} {x : Str} {a : Addr} {kvs : List (Str × P)} {b : Expr} {g : FE} {pos npos q p p2 : Pos}
theorem d_kix (hm : X.mg x = some (.ref a)) (T : TabOk X.K X.w a kvs) (hb : PEd X b g) (hg : Gl X x := by rfl) (hd : (x == ("__debug__" : Str)) = false := by decide) (hs : PlainIx b := by intro _ _; rfl) : PEd X (.Subscript (.Name x npos) b pos) (fKix kvs g) := by
  have hn : PE X (.Name x npos) (tC (.ref a)) := pe_glob hg hm (v := .ref a) rfl hd
  refine pe_weak (pe_ix ix_kdict hn hb hs) fun σ H Q ⟨m, env, S, R, E, d', S', e1, qq⟩ => ?_
  obtain ⟨d, S1, k1, e2⟩ := Oc.bind_eq e1
  refine ⟨m, env, S, R, E, d, S1, k1, fun v m1 H1 st1 R1 i1 => ?_⟩
  split at e2
  · rename_i k hk
    split at e2
    · rename_i kp hf
      cases e2
      obtain ⟨es, n, D, _⟩ := dicW_keys T.tab
      obtain ⟨u, h1, h2⟩ := valsT_ok T.vals (List.mem_of_find?_eq_some hf)
      have e3 : kp.1 = k := by simpa using List.find?_some hf
      obtain ⟨v0, r0, hi⟩ := isB_ok _ _ h2
      have iv := isR_of R1 i1 hk
      have iv' : v = .str k := iv
      exact ⟨a, k, v0, rfl, iv', ⟨es, n, u, D.at_, D.lit, e3 ▸ h1, r0⟩, qq _ m1 H1 st1 R1 (hi _)⟩
    · cases e2
  · cases e2
/-! sorted(d) -/
def rSortK (K : PySem.W.Frag) (w : World) (ks : List Str) : List V → Hp → VK → Prop := fun xs H Q => ∃ (a : Addr) (es : Array DictEntry) (n : Nat), xs = [.ref a] ∧ KDict K w a es n ∧ es.toList.map He.keyOf = He.keysIn w.params ks ∧ ks.length ≤ 1000 ∧ ∀ p, H p = none → Q (.ref p) (upd H p (.lst ((ks.mergeSort (PySem.W.dataLe false PyData.str)).map V.str)))
theorem keys_strs {P : Params} : ∀ {l : List DictEntry} {ks : List Str}, l.map He.keyOf = He.keysIn P ks → ∀ {vs : List Value}, vs = l.map (·.key) → PySem.W.EachIs (fun v k => ∃ u, v = Value.str k u) vs ks
  | [], [], _, _, e => by subst e; exact .nil
  | [], _ :: _, h, _, _ => by cases h
  | _ :: _, [], h, _, _ => by cases h
  | e :: l, k :: ks, h, vs, ev => by
    subst ev
    have h1 : He.keyOf e :: l.map He.keyOf = some (k, PyData.keyHash P k) :: He.keysIn P ks := h
    injection h1 with h2 h3
    refine .cons ?_ (keys_strs h3 rfl)
    unfold He.keyOf at h2
    split at h2
    · rename_i y t q
      obtain ⟨h5, _⟩ := Prod.mk.inj (Option.some.inj h2)
      subst h5
      exact ⟨t, q⟩
    · cases h2
theorem cr_sortK {X : Cx} (hc : X.calm = true) (hu : X.A.units + 2 < cLine) {ks : List Str} : CallR X (.builtin "sorted") (rSortK X.K X.w ks) := by
  intro pins s σ H xs us Q I r h
  obtain ⟨a, es, n, rfl, D, hks, hkl, q⟩ := h
  rw [Vals.ref1 r]
  have hat := I.kIn a _ D.at_
  have hlen : es.size = ks.length := by
    have := congrArg List.length hks
    unfold He.keysIn at this
    simpa using this
  refine Calls.call_function_entry kind_sorted plain_sorted entry_sorted (args_sorted1 _) ?_
  unfold Builtin.«sorted»
  refine wpAny_bind (m := checkCount "sorted" 1 1 _) (wpAny_pure (wpAny_bind (PySem.W.kdu_collect (A := X.A.in1) (KdlSrc.rawDict (es := es) (ep := n) D.low) (by rw [Around.in1]; exact I.ok.hd hc) ⟨_, hat, ⟨rfl, rfl, rfl⟩, rfl⟩ (by rw [hlen, sizeLine_eq]; omega) fun h' tk acc hk hacc => ?_)))
  obtain ⟨hsz, hit⟩ := hacc
  have hvs : acc.toList = es.toList.map (·.key) := by
    refine List.ext_getElem? fun i => ?_
    rw [List.getElem?_map]
    rcases Nat.lt_or_ge i acc.size with z | z
    · have e1 : acc.toList[i]? = some acc[i] := by rw [Array.getElem?_toList]; exact Array.getElem?_eq_getElem z
      obtain ⟨hi, e2⟩ := hit i acc[i] (Array.getElem?_eq_getElem z)
      have e3 : es.toList[i]? = some es[i] := by rw [Array.getElem?_toList]; exact Array.getElem?_eq_getElem hi
      rw [e1, e3, e2]
      rfl
    · rw [List.getElem?_eq_none (by rw [Array.length_toList]; exact z), List.getElem?_eq_none (by rw [Array.length_toList]; omega)]
      rfl
  have hea := keys_strs hks hvs
  have hvl : acc.toList.length = ks.length := by rw [Array.length_toList, hsz, hlen]
  generalize acc.toList = vs at hea hvl
  have I1 : Inv X pins σ H { s with heap := h', toks := tk } := I.kept hk
  refine wpAny_bind (wpAny_newList ?_ (by rw [hvl, sizeLine_eq]; omega))
  have hoL : (h'.push (seqObj "list" vs.toArray 0)).get? h'.objs.size = some (seqObj "list" vs.toArray 0) := Heap.get?_push_size _ rfl
  have hal : PySem.W.AllAlike (ks.map PyData.str) := fun x hx y hy => by
    obtain ⟨i, _, rfl⟩ := List.mem_map.mp hx
    obtain ⟨j, _, rfl⟩ := List.mem_map.mp hy
    simp [PySem.W.alike]
  have hso : PySem.W.Sortable (ks.map PyData.str) := .inr fun x hx => by
    obtain ⟨i, _, rfl⟩ := List.mem_map.mp hx
    exact ⟨(by intro e; cases e), (by intro xs e; cases e)⟩
  refine wpAny_bind (wpAny_holding (PySem.W.list_sort_data (s := { s with heap := h'.push (seqObj "list" vs.toArray 0), toks := tk }) (enc := PyData.str) hoL hea (hea.mono fun v k ⟨u, e⟩ => ⟨[], e ▸ .str _ _, by simp⟩) hal hso (by show ks.length ≤ _; rw [sizeLine_eq]; omega) (fun b _ => by
    show X.A.in1.units + 1 + 0 < cLine
    have : X.A.in1.units ≤ X.A.units + 1 := (by simp)
    omega) fun out ol oe => ?_))
  obtain ⟨c, hc'⟩ := sortedHeap_at (vs := vs) (out := out.toArray) hoL
  have rv := _root_.SX.each_vals oe
  have hl2 : ((ks.mergeSort (PySem.W.dataLe false PyData.str)).map V.str).length ≤ sizeLine := by rw [List.length_map, List.length_mergeSort, sizeLine_eq]; omega
  refine wpAny_pure ⟨_, rfl, .ref h'.objs.size, upd H h'.objs.size (.lst ((ks.mergeSort (PySem.W.dataLe false PyData.str)).map V.str)), I1.laid (t' := tk) (fun b u e => ?_) (Nat.le_refl _) ⟨hl2, out, c, rv, hc'⟩, rfl, q _ (I1.hok.fresh (Nat.le_refl _))⟩
  have e' : h'.get? b = some u := e
  have hlt := Heap.lt_size e'
  show (sortedHeap (h'.push (seqObj "list" vs.toArray 0)) h'.objs.size vs out.toArray).get? b = some u
  rw [sortedHeap_old (Nat.ne_of_lt hlt) (by rw [Heap.size_push]; exact Nat.lt_succ_of_lt hlt)]
  exact Heap.get?_push_of_some _ e'
/-- the keys of a table, in order -/
noncomputable def fKsort (kvs : List (Str × P)) : FE := fun _ S => if kvs.length ≤ 1000 then .ok (.v (.lst (srt (kvs.map fun q => .str q.1)))) S else .bad
theorem d_ksort (hX : SX X) (hf : X.mg "sorted" = none) (hm : X.mg x = some (.ref a)) (T : TabOk X.K X.w a kvs) (hgs : Gl X "sorted" := by rfl) (hg : Gl X x := by rfl) (hd : (x == ("__debug__" : Str)) = false := by decide)
    (he : starEach [.Name x npos] X.env = (false, eval (.Name x npos) X.env) :: starEach [] X.env := by rfl) :
    PEd X (.Call (.Name "sorted" p) [.Name x npos] [] pos) (fKsort kvs) := by
  have hu := hX.units
  have hn : PE X (.Name x npos) (tC (.ref a)) := pe_glob hg hm (v := .ref a) rfl hd
  refine pe_weak (pe_callB (cr_sortK hX.calm (by omega) (ks := kvs.map (·.1))) hgs hf (by decide +kernel) (pa_cons hn pa_nil he) (by decide) (by decide) he rfl) fun σ H Q ⟨m, env, S, R, E, d', S', e1, qq⟩ => ?_
  unfold fKsort at e1
  split at e1
  · rename_i hl
    cases e1
    obtain ⟨es, n, D, hks⟩ := dicW_keys T.tab
    refine ⟨a, es, n, rfl, D, hks, by simpa using hl, fun p3 hp3 => ?_⟩
    have e2 : srt (kvs.map fun q => P.str q.1) = ((kvs.map (·.1)).mergeSort (PySem.W.dataLe false PyData.str)).map P.str := by
      rw [sort_strs, List.map_map]
      rfl
    have iz : IsAll X.K (mask m H) (srt (kvs.map fun q => P.str q.1)) (((kvs.map (·.1)).mergeSort (PySem.W.dataLe false PyData.str)).map V.str) := by
      rw [e2]
      exact all_strs _
    exact newLst R iz (fun v m3 H3 st3 R3 i3 => qq v m3 H3 st3 R3 i3) p3 hp3
  · cases e1
end
theorem e_kix {kvs : List (Str × P)} {g : FE} {env : Dnv} {S S1 : Sto} {d : D} {k : Str} {q : Str × P} (h1 : g env S = .ok d S1) (h2 : deP S1 d = some (.str k)) (h3 : (kvs.find? fun q => decide (q.1 = k)) = some q) : fKix kvs g env S = .ok (.v q.2) S1 := by
  unfold fKix
  rw [h1]
  simp only [Oc.bind_ok]
  rw [h2]
  show (match kvs.find? fun q => decide (q.1 = k) with | some q => .ok (.v q.2) S1 | none => .bad : Oc D) = _
  rw [h3]
end DL

/-! DLv: three names at once. -/
namespace DL
open PySem PySem.Spec PyProof.Rows L2
/-- a, b, c = x, y, z with plain local names -/
def fPar3 (i j l : Nat) (g : FA) : FS := fun env S => (g env S).fl fun ds S1 => match ds with
  | [d, e, f] => .nx (((env.set i (some d)).set j (some e)).set l (some f)) S1
  | _ => .bad
section
variable {X : Cx}
theorem s_par3 (hX : SX X) {i j l : Nat} {x y z : Str} {a b c : Expr} {g : FA} {px py pz pt pos : Pos} {kt k2 pt2} (ha : PAd X [a, b, c] g)
    (hw : swappedStores [.Tuple [.Name x px, .Name y py, .Name z pz] kt pt] (.Tuple [a, b, c] k2 pt2) X.env = pure (some [x, y, z]) := by rfl)
    (hi : X.N[i]? = some x := by rfl) (hj : X.N[j]? = some y := by rfl) (hl : X.N[l]? = some z := by rfl) (hij : i ≠ j := by decide) (hil : i ≠ l := by decide) (hjl : j ≠ l := by decide)
    (hx : X.env.scope.names.lookup x = some .local := by rfl) (hy : X.env.scope.names.lookup y = some .local := by rfl) (hz : X.env.scope.names.lookup z = some .local := by rfl)
    (hs : swapsWithSole [.Tuple [.Name x px, .Name y py, .Name z pz] kt pt] (.Tuple [a, b, c] k2 pt2) pos.line X.env = pure false := by rfl) :
    PSd X (.Assign [.Tuple [.Name x px, .Name y py, .Name z pz] kt pt] (.Tuple [a, b, c] k2 pt2) pos) (fPar3 i j l g) := ps_weak (ps_par3 hX.calm hX.nd hi hj hl hij hil hjl hx hy hz ha hw hs) fun D σ H ⟨m, env, S, R, E, q⟩ => by
  obtain ⟨ds, S1, k1, q⟩ := Oc.fl_ne q
  refine ⟨m, env, S, R, E, ds, S1, k1, fun vs m1 H1 st1 R1 i1 => ?_⟩
  split at q
  · obtain ⟨u, ws, rfl, h2, h3⟩ := i1
    obtain ⟨v, ws, rfl, h4, h5⟩ := h3
    obtain ⟨w, ws, rfl, h6, h7⟩ := h5
    have h7' : ws = [] := h7
    subst h7'
    exact ⟨u, v, w, rfl, q m1 H1 _ st1 R1 ((((E.step st1).set h2).set h4).set h6)⟩
  · exact q.elim
theorem s_par3C (hX : SX X) {i j l : Nat} {x y z : Str} {a b c : Expr} {g : FA} {px py pz pt pos : Pos} {kt k2 pt2} (ha : PAd X [a, b, c] g)
    (hi : X.N[i]? = some x := by rfl) (hj : X.N[j]? = some y := by rfl) (hl : X.N[l]? = some z := by rfl)
    (hx : Loc X.env.scope x := by first | exact .inl rfl | exact .inr rfl) (hy : Loc X.env.scope y := by first | exact .inl rfl | exact .inr rfl) (hz : Loc X.env.scope z := by first | exact .inl rfl | exact .inr rfl)
    (hfx : X.fn x = true ∨ X.env.scope.names.lookup x = some .local := by first | exact .inl rfl | exact .inr rfl | assumption) (hfy : X.fn y = true ∨ X.env.scope.names.lookup y = some .local := by first | exact .inl rfl | exact .inr rfl | assumption) (hfz : X.fn z = true ∨ X.env.scope.names.lookup z = some .local := by first | exact .inl rfl | exact .inr rfl | assumption)
    (hs : swapsWithSole [.Tuple [.Name x px, .Name y py, .Name z pz] kt pt] (.Tuple [a, b, c] k2 pt2) pos.line X.env = pure false := by rfl)
    (hw : swappedStores [.Tuple [.Name x px, .Name y py, .Name z pz] kt pt] (.Tuple [a, b, c] k2 pt2) X.env = pure none := by rfl) :
    PSd X (.Assign [.Tuple [.Name x px, .Name y py, .Name z pz] kt pt] (.Tuple [a, b, c] k2 pt2) pos) (fPar3 i j l g) :=
  ps_weak (ps_asg (pe_tup ha) (pg_tup hX.calm (pgs_cons (pg_name hX.nd hi hx hfx) (pgs_cons (pg_name hX.nd hj hy hfy) (pgs_cons (pg_name hX.nd hl hz hfz) pgs_nil)))) hs hw) fun D σ H ⟨m, env, S, R, E, q⟩ => by
  obtain ⟨ds, S1, k1, q⟩ := Oc.fl_ne q
  refine ⟨m, env, S, R, E, ds, S1, k1, fun vs m1 H1 st1 R1 i1 => ?_⟩
  split at q
  · obtain ⟨u, ws, rfl, h2, h3⟩ := i1
    obtain ⟨v, ws, rfl, h4, h5⟩ := h3
    obtain ⟨w, ws, rfl, h6, h7⟩ := h5
    have h7' : ws = [] := h7
    subst h7'
    refine ⟨size_of (show 3 ≤ 100000 by decide), fun p hp => ?_⟩
    obtain ⟨R2, st2⟩ := R1.fresh (o := .tup [u, v, w]) hp
    exact ⟨p, [u, v, w], rfl, .inl (.inl upd_same), rfl, u, [v, w], rfl, v, [w], rfl, w, [], rfl, rfl, q m1 _ _ (st1.trans st2) R2 ((((E.step (st1.trans st2)).set (st2.is h2)).set (st2.is h4)).set (st2.is h6))⟩
  · exact q.elim
end
section
variable {ga : FA} {env : Dnv} {S S1 : Sto} {E : FEn}
theorem s_Par3 {i j l : Nat} {d e f : D} (h1 : ga env S = .ok [d, e, f] S1) (h : E.nx (((env.set i (some d)).set j (some e)).set l (some f)) S1) : (fPar3 i j l ga env S).F E := by
  unfold fPar3
  rw [h1]
  exact h
end
end DL

/-! DD: dict(..) of a list of pairs. -/
namespace DL
open PySem PySem.Spec PyProof.Rows L2
def kvP : List P → Option (List (Key × P))
  | [] => some []
  | .tup [a, b] :: r => match pKey a, kvP r with
    | some k, some kvs => some ((k, b) :: kvs)
    | _, _ => none
  | _ :: _ => none
def bDict : List P → Option P
  | [.lst ps] => match kvP ps with
    | some kvs => if kvs.length ≤ 10000 then some (.dic (mergeP kvs).1 (mergeP kvs).2) else none
    | none => none
  | _ => none
def rDictP (K : PySem.W.Frag) : List V → Hp → VK → Prop := fun xs H Q => ∃ (a : Addr) (ps : List Addr) (kvs : List (Key × V)), xs = [.ref a] ∧ SqL K H a (ps.map V.ref) ∧ Paired (fun p kv => SqT K H p [kV kv.1, kv.2]) ps kvs ∧ ∀ p, H p = none → Q (.ref p) (upd H p (.dK (mergeK [] kvs)))
theorem kvP_is {K : PySem.W.Frag} {m : Mp} {H : Hp} : ∀ {ps : List P} {kvs : List (Key × P)} {xs : List V}, kvP ps = some kvs → IsAll K (mask m H) ps xs → ∃ (as : List Addr) (vs : List V), xs = as.map V.ref ∧ IsAll K (mask m H) (kvs.map (·.2)) vs ∧ Paired (fun p kv => SqT K H p [kV kv.1, kv.2]) as ((kvs.map (·.1)).zip vs)
  | [], kvs, xs, h, i => by
    cases h
    have : xs = [] := i
    subst this
    exact ⟨[], [], rfl, rfl, .nil⟩
  | p :: ps, kvs, xs, h, i => by
    obtain ⟨v, us, ex, h1, h2⟩ := i
    subst ex
    unfold kvP at h
    split at h
    · rename_i e0
      cases e0
    · rename_i a b r e
      cases e
      split at h
      · rename_i k kvs' hk hr
        cases h
        obtain ⟨as, vs, rfl, h3, h4⟩ := kvP_is hr h2
        obtain ⟨t, ys, rfl, h5, w1, ws, rfl, h6, w2, ws2, rfl, h7, h8⟩ := h1
        have h8' : ws2 = [] := h8
        subst h8'
        have ek := pKey_is (isR_val h6) hk
        subst ek
        exact ⟨t :: as, w2 :: vs, rfl, ⟨w2, vs, rfl, h7, h3⟩, .cons (sqT_mono (mask_ex m H) h5) h4⟩
      · cases h
    · cases h
theorem on_dict {K : PySem.W.Frag} : OpN K (rDictP K) bDict := by
  intro m H S ps u xs Q R h e k
  unfold bDict at e
  split at e
  · rename_i qs
    split at e
    · rename_i kvs hk
      split at e
      · cases e
        obtain ⟨x, rfl, h0⟩ := h.one
        obtain ⟨a, ys, rfl, h1, h2⟩ := sq_r h0
        obtain ⟨as, vs, rfl, h3, h4⟩ := kvP_is hk h2
        refine ⟨a, as, _, rfl, h1, h4, fun p hp => ?_⟩
        obtain ⟨zs, c1, c2, c3, c4⟩ := merge_is (kvs := kvs) (ks := []) (ps := []) (xs := []) h3 rfl .nil rfl
        have c1' : mergeK [] ((kvs.map (·.1)).zip vs) = (mergeP kvs).1.zip zs := c1
        rw [c1']
        obtain ⟨R2, st2⟩ := R.fresh (o := .dK ((mergeP kvs).1.zip zs)) hp
        refine k (.ref p) m _ st2 R2 ⟨p, zs, rfl, ?_, c2, c3, st2.all c4⟩
        rw [mask_upd (R.out hp)]
        exact upd_same
      · cases e
    · cases e
  · cases e
theorem bb_dict : bootBuiltins "dict" = some (.type "dict") := by decide +kernel
end DL

/-! DI: l.index(x). -/
namespace DL
open PySem PySem.Spec PyProof.Rows L2
def fMv (op : List P → List D → Sto → Option P) (fo : FE) (ga : FA) : FE := fun env S => (fo env S).bind fun o S1 => match o with
  | .v (.lst ps) => (ga env S1).bind fun ds S2 => match op ps ds S2 with
    | some u => .ok (.v u) S2
    | none => .bad
  | _ => .bad
def mIndex : List P → List D → Sto → Option P := fun ps ds _ => match ds with
  | [.v p] => match toPys ps, toPy p with
    | some es, some d => if SeqAt.shaped (.list es) = true ∧ SeqAt.shaped d = true then (es.findIdx? fun z => PyData.eqv z d).map fun j => .int (j : Nat) else none
    | _, _ => none
  | _ => none
section
variable {K : PySem.W.Frag}
theorem td_index {fo : FE} {ga : FA} {σ : L2.St} {H : Hp} {Q : VK} (h : TD K (fMv mIndex fo ga) σ H Q) : tBM K "list" (rIndexD K) (TD K fo) (TDa K ga) σ H Q := by
  obtain ⟨m, env, S, R, E, d', S', e1, q⟩ := h
  obtain ⟨o, S1, k1, e2⟩ := Oc.bind_eq e1
  refine ⟨m, env, S, R, E, o, S1, k1, fun v m1 H1 st1 R1 i1 => ?_⟩
  split at e2
  · rename_i ps
    have i1' : Is K (mask m1 H1) (.lst ps) v := i1
    obtain ⟨a, xs, rfl, h1, h2⟩ := id i1'
    obtain ⟨ds, S2, k2, e3⟩ := Oc.bind_eq e2
    refine ⟨.inl ⟨rfl, xs, sqL_mono (mask_ex m1 H1) (.of h1)⟩, m1, env, S1, R1, E.step st1, ds, S2, k2, fun vs m2 H2 st2 R2 i2 => ?_⟩
    split at e3
    · rename_i u hop
      cases e3
      unfold mIndex at hop
      split at hop
      · rename_i p
        obtain ⟨x, rfl, hx⟩ := one_v i2
        split at hop
        · rename_i es d he hd
          split at hop
          · rename_i hs
            obtain ⟨j, hj, rfl⟩ := Option.map_eq_some_iff.mp hop
            obtain ⟨hjl, hj1, hj2⟩ := List.findIdx?_eq_some_iff_getElem.mp hj
            have dl : Dp K H2 (.ref a) (.list es) := Is.dp (.lst ps) _ (.list es) (Is.mono (mask_ex m2 H2) _ _ (st2.val i1')) (by simp [toPy, he])
            have dx : Dp K H2 x d := Is.dp p _ d (Is.mono (mask_ex m2 H2) _ _ hx) hd
            refine ⟨a, x, d, es, j, es[j], rfl, rfl, dl, dx, hs.1, hs.2, List.getElem?_eq_getElem hjl, hj1, fun k z' hk hz => ?_, q _ m2 H2 (st1.trans st2) R2 rfl⟩
            have hkl := lt_of_at hz
            rw [List.getElem?_eq_getElem hkl] at hz
            cases hz
            have := hj2 k hk
            simpa using this
          · cases hop
        · cases hop
      · cases hop
    · cases e3
  · cases e2
end
section
variable {X : Cx} {o e : Expr} {fo : FE} {ga : FA} {apos cpos : Pos}
theorem d_index (hX : SX X) (ho : PEd X o fo) (ha : PAd X [e] ga) (hbase : attributeBase o "index" X.env (eval o X.env) = eval o X.env := by rfl)
    (hfew : ((backTo cpos (starEach [e] X.env)).all (fun x => !x.1) && (backToKw cpos (keywordEach [] X.env)).all (fun x => x.1.isSome)
      && decide ([e].length + ([] : List Keyword).length + (if ([] : List Keyword).isEmpty then 0 else 1) < 30)) = true := by rfl)
    (hline : (apos.endLine == cpos.line) = true := by rfl) (hs : starEach [e] X.env = (false, eval e X.env) :: starEach [] X.env := by rfl) : PEd X (.Call (.Attribute o "index" apos) [e] [] cpos) (fMv mIndex fo ga) :=
  pe_weak (pe_bm PySem.F.plainAttrs_list PySem.F.slot_list_index PySem.F.type_list_index (mt_indexD (by have := hX.units; omega)) ho ha hbase hfew hline hs) fun _ _ _ => td_index
end
/-! running it -/
section
variable {fo : FE} {ga : FA} {env : Dnv} {S S1 S2 : Sto} {ps : List P} {ds : List D} {u : P} {op : List P → List D → Sto → Option P}
theorem e_mv (h1 : fo env S = .ok (.v (.lst ps)) S1) (h2 : ga env S1 = .ok ds S2) (h3 : op ps ds S2 = some u) : fMv op fo ga env S = .ok (.v u) S2 := by
  unfold fMv
  rw [h1]
  show ((ga env S1).bind fun ds S2 => match op ps ds S2 with
    | some u => .ok (.v u) S2
    | none => .bad : Oc D) = _
  rw [h2]
  show (match op ps ds S2 with
    | some u => .ok (.v u) S2
    | none => .bad : Oc D) = _
  rw [h3]
end
end DL

/-! LU: a, b = a list. -/
namespace LU
open PySem PyProof.Rows
section
variable {prog : Program} {w : World} {A : Around} {E : Value → Shared → Prop} {s : Shared}
theorem draw_list {it t : Addr} {items : Array Value} (hne : t ≠ it) : ∀ (n i : Nat) (s : Shared) (Q : List Value → Shared → Prop), s.heap.IsListIter it t i → s.heap.IsList t items → i + n ≤ items.size →
    (∀ h', h'.IsListIter it t (i + n) → Heap.SameBut it s.heap h' → Q ((items.toList.drop i).take n) { s with heap := h' }) → wpAny (model prog w) A (draw (.ref it) n) Q E s
  | 0, i, s, Q, hit, _, _, hQ => by
    show wpAny _ _ (pure []) Q E s
    exact wpAny_pure (by simpa using hQ s.heap hit (Heap.SameBut.refl ..))
  | n + 1, i, s, Q, hit, ht, hle, hQ => by
    have hlt : i < items.size := by omega
    show wpAny _ _ (pyNext (.ref it) >>= _) Q E s
    refine wpAny_bind (wpAny_pyNext_list_item hit ht (x := items[i]) (by simp [hlt]) fun h₁ hit₁ hs₁ => ?_)
    refine wpAny_bind (wpAny_holding (draw_list hne n (i + 1) _ _ hit₁ (ht.extBut hs₁.extBut hne) (by omega) fun h₂ hit₂ hs₂ => wpAny_pure ?_))
    have hd : items.toList.drop i = items[i] :: items.toList.drop (i + 1) := by simp [List.drop_eq_getElem_cons, hlt]
    have := hQ h₂ (by rw [show i + (n + 1) = i + 1 + n by omega]; exact hit₂) (hs₁.trans hs₂)
    rw [hd, List.take_succ_cons] at this
    exact this
theorem unpackItems_list {t : Addr} {items : Array Value} {Q : List Value → Shared → Prop} (hh : A.handled = none) (ht : s.heap.IsList t items)
    (hQ : ∀ h', Heap.ExtBut s.heap.objs.size s.heap h' → Q items.toList { s with heap := h' }) : wpAny (model prog w) A (unpackItems (.ref t) items.size none) Q E s := by
  have hlt : t ≠ s.heap.objs.size := by obtain ⟨o, ho, _⟩ := ht; exact Nat.ne_of_lt (Heap.lt_size ho)
  unfold unpackItems
  refine wpAny_bind ?_
  · unfold notIterableAtAll
    refine wpAny_bind (wpAny_specialOf ht.typeIs slot_list_iter.lookup ?_)
    refine wpAny_pure ?_
    simp only [Bool.false_eq_true, if_false]
    refine wpAny_bind (wpAny_holding (wpAny_pyIter_list ht ?_))
    have htp : (s.heap.push { cls := .type "list_iterator", data := .fields #[.ref t, .int 0 0] }).IsList t items := by
      obtain ⟨o, ho, r⟩ := ht
      exact ⟨o, Heap.get?_push_of_some _ ho, r⟩
    refine wpAny_bind (wpAny_holding (draw_list hlt items.size 0 _ _ ⟨_, Heap.get?_push_size _ rfl, rfl, rfl⟩ htp (by omega) fun h₁ hit₁ hs₁ => ?_))
    have hall : List.take items.size (List.drop 0 items.toList) = items.toList := by
      rw [List.drop_zero]; exact List.take_of_length_le (by simp)
    rw [hall]
    rw [if_neg (by simp)]
    have ht₁ : h₁.IsList t items := htp.extBut hs₁.extBut hlt
    refine wpAny_bind (wpAny_holding (wpAny_pyNext_list_end hh hit₁ ht₁ (by simp) fun h₂ he₂ => ?_))
    simp only [Option.isSome_none, Bool.false_eq_true, if_false]
    refine wpAny_pure (hQ h₂ fun b o hb e => he₂ b o hb (hs₁.extBut b o hb (Heap.get?_push_of_some _ e)))
theorem assign_Tuple_list {env : Env} {elts : List Expr} {x1} {pos : Pos} {t : Addr} {items : Array Value} {Q : Unit → Shared → Prop} (hh : A.handled = none) (ht : s.heap.IsList t items)
    (hn : (assignEach elts env).length = items.size) (hstar : (assignEach elts env).findIdx? (·.1) = none)
    (h : ∀ h', Heap.ExtBut s.heap.objs.size s.heap h' → wpAny (model prog w) A (assignInOrder ((assignEach elts env).map (·.2)) items.toList) Q E { s with heap := h' }) :
    wpAny (model prog w) A (assign (.Tuple elts x1 pos) env (.ref t)) Q E s := by
  rw [assign_Tuple]
  refine wpAny_bind (wpAny_standAt ?_)
  unfold unpack
  rw [hn, hstar]
  exact wpAny_bind (wpAny_holding (unpackItems_list hh ht h))
end
end LU
namespace DL
open PySem PySem.Spec PyProof.Rows L2
def gTupL (K : PySem.W.Frag) (n : Nat) (t : TGs) : TG := fun v σ H Q => ∃ a xs, v = .ref a ∧ SqL K H a xs ∧ xs.length = n ∧ t xs σ H Q
theorem pg_tupL {X : Cx} {pos : Pos} {es : List Expr} {k : Nat} {t : TGs} {n : Nat} (hc : X.calm = true) (h : PGs X es t)
    (hn : (assignEach es X.env).length = n := by rfl) (hst : (assignEach es X.env).findIdx? (·.1) = none := by rfl) : PG X (.Tuple es k pos) (gTupL X.K n t) := by
  refine ⟨fun pins s σ H v u Q I r hw => ?_⟩
  obtain ⟨a, xs, e1, hq, hl, hw⟩ := hw
  subst e1
  cases r
  obtain ⟨its, rv, ht, hz⟩ := I.list hq
  refine LU.assign_Tuple_list (I.ok.hd hc) ht.isList (by simp [hn, ← hl, rv.length]) hst fun h' hx => ?_
  have I1 : Inv X pins σ H { s with heap := h' } := I.kept (t' := s.toks) fun b o e => hx b o (Nat.ne_of_lt (Heap.lt_size e)) e
  exact h.run pins _ σ H xs _ Q I1 (by simpa using rv) hw
def gTpL (n : Nat) (k : FGs) : FG := fun d env S => match d with
  | .v (.lst ps) => if ps.length = n then k ps env S else .bad
  | _ => .bad
theorem g_tpL {X : Cx} {pos : Pos} (hX : SX X) {es : List Expr} {k : Nat} {t : FGs} {n : Nat} (h : PGsd X es t) (hn : (assignEach es X.env).length = n := by rfl) (hst : (assignEach es X.env).findIdx? (·.1) = none := by rfl) : PGd X (.Tuple es k pos) (gTpL n t) :=
  pg_weak (pg_tupL hX.calm h hn hst) fun v σ H Q ⟨m, env, S, d, R, E, i1, env', S', e1, q⟩ => by
  unfold gTpL at e1
  split at e1
  · rename_i ps
    split at e1
    · rename_i hl
      obtain ⟨a, xs, rfl, h1, h2⟩ := i1
      exact ⟨a, xs, rfl, sqL_mono (mask_ex m H) (.of h1), by rw [← h2.len]; exact hl, m, env, S, ps, R, E, h2, env', S', e1, q⟩
    · cases e1
  · cases e1
end DL

/-! SK: sorted(xs, key=f[, reverse=b]) where f's call keeps an invariant of the whole state and the two lists of the sorting; keys are whole numbers. -/
namespace SK
open PySem PySem.Calls PyProof.Rows PySem.W
def hole (h : Heap) (k : Addr) : Heap := h.update k fun o => { o with data := .freed }
theorem hole_at (h : Heap) (k : Addr) : (hole h k).get? k = none := by
  cases h with
  | mk objs l =>
    show (match (objs.modify k _)[k]? with | some ⟨_, _, .freed, _⟩ => none | o => o) = none
    rw [Array.getElem?_modify]
    rw [if_pos rfl]
    cases hh : objs[k]? with
    | none => rfl
    | some o => rfl
theorem hole_ne {h : Heap} {k b : Addr} (hb : b ≠ k) : (hole h k).get? b = h.get? b := Heap.get?_update_ne _ _ _ _ hb

section
variable {prog : Program} {w : World} {A : Around} {E : Value → Shared → Prop} {s : Shared} {a kS : Addr} {b : Bool} {vs : List Value} {e e1 : Nat} {P : PySem.Fin → Shared → Prop} {kz : List Int} {I : Shared → Prop}
theorem ints_alike (kz : List Int) : AllAlike (kz.map PyData.int) := fun d hd d' hd' => by
  obtain ⟨i, _, rfl⟩ := List.mem_map.mp hd
  obtain ⟨j, _, rfl⟩ := List.mem_map.mp hd'
  rfl
theorem ints_sortable (kz : List Int) : Sortable (kz.map PyData.int) := by
  exact Sortable.others fun i => ⟨fun q => (by cases q), fun xs q => (by cases q)⟩
theorem keyI_rest {f : Value} (hI : I s) (nk : s.heap.get? kS = some (seqObj "list" #[] 0)) (na : s.heap.get? a = some (seqObj "list" #[] e1)) (hka : kS ≠ a)
    (hlen : kz.length = vs.length) (hZ : vs.length ≤ sizeLine) (hu : A.units < cLine)
    (up : ∀ s' g tk, I s' → (∀ c o, c ≠ a → c ≠ kS → s'.heap.get? c = some o → g.get? c = some o) → I { s' with heap := g, toks := tk })
    (turn : ∀ (i : Nat) (v : Value) (k : Int), vs[i]? = some v → kz[i]? = some k → ∀ s', I s' → (∃ xs n, s'.heap.get? kS = some (seqObj "list" xs n)) → (∃ xs n, s'.heap.get? a = some (seqObj "list" xs n)) →
      wpAny (model prog w) A (call f [v]) (fun u s'' => (∃ t, u = .int k t) ∧ I s'' ∧ (∀ c o, (c = a ∨ c = kS) → s'.heap.get? c = some o → s''.heap.get? c = some o)) (fun _ _ => False) s')
    (h : ∀ s' out c, I s' → s'.heap.get? a = some (seqObj "list" (List.toArray out) c) → KeyedOut b (kz.map PyData.int) vs out → P (.done (.ret .none)) s') :
    wpAny (model prog w) A (ksk_rest a f b vs.toArray e1 (.ref kS)) P E s := by
  unfold ksk_rest
  refine wpAny_bind (wpAny_rule ?_)
  first
    | rw [List.forIn_toArray]
    | (rw [← Array.forIn_toList]; simp only [List.toList_toArray])
    | rw [← Array.forIn_toList]
  refine wpAny_bind (ksk_fold (fun i s' => ∃ kA e, I s' ∧ s'.heap.get? kS = some (seqObj "list" kA e) ∧ s'.heap.get? a = some (seqObj "list" #[] e1) ∧ EachIs (fun v k => ∃ t, v = Value.int k t) kA.toList (kz.take i)) vs 0 s
    ⟨#[], 0, hI, nk, na, by rw [List.take_zero]; exact EachIs.nil⟩ ?step ?done)
  case step =>
    rintro j x s' hx ⟨kA, e, I', nk', na', hk⟩
    simp only [Nat.zero_add] at hk ⊢
    have hj : j < vs.length := (List.getElem?_eq_some_iff.mp hx).1
    obtain ⟨k, hkj⟩ : ∃ k, kz[j]? = some k := ⟨_, List.getElem?_eq_getElem (by omega)⟩
    have hz : kA.size ≤ vs.length := by
      have h1 := hk.length
      rw [Array.length_toList, List.length_take] at h1
      omega
    refine wpAny_bind (wpAny_attempt (wpAny_mono (turn j x k hx hkj s' I' ⟨_, _, nk'⟩ ⟨_, _, na'⟩) (fun v s'' he => ?_) fun _ _ hF => hF.elim))
    obtain ⟨⟨t, rfl⟩, I2, hg⟩ := he
    try dsimp only
    have nk2 : s''.heap.get? kS = some (seqObj "list" kA e) := hg _ _ (.inr rfl) nk'
    have na2 : s''.heap.get? a = some (seqObj "list" #[] e1) := hg _ _ (.inl rfl) na'
    have s1 := Heap.SameBut.update s''.heap kS (Obj.mapSeq (·.push (Value.int k t)))
    obtain ⟨c2, hc2⟩ : ∃ c2, (s''.heap.update kS (Obj.mapSeq (·.push (Value.int k t)))).get? kS = some (seqObj "list" (kA.push (Value.int k t)) c2) := ⟨_, get?_update_seq nk2 (·.push (Value.int k t))⟩
    have ek : kz.take (j + 1) = kz.take j ++ [k] := by rw [List.take_add_one, hkj]; simp
    have ea : (kA.push (Value.int k t)).toList = kA.toList ++ [Value.int k t] := by simp
    refine wpAny_bind (listUpdate_at nk2 rfl ?_ (Nat.le_trans hz hZ) (Nat.le_trans (Nat.le_of_eq (Array.size_push ..)) (Nat.succ_le_succ (Nat.le_trans hz hZ))))
    refine wpAny_pure ⟨rfl, kA.push (Value.int k t), c2, up s'' _ s''.toks I2 (fun c o _ hc q => (s1.2 c hc).trans q), hc2, (s1.2 a hka.symm).trans na2, ?_⟩
    rw [ea, ek]
    exact each_snoc ⟨t, rfl⟩ hk
  case done =>
    rintro s' ⟨kA, e, I', nk', na', hk⟩
    have e3 : kz.take (0 + vs.length) = kz := List.take_of_length_le (by omega)
    rw [e3] at hk
    have hk' : EachIs (fun v k => ∃ as, Reads s'.heap v k as) kA.toList (kz.map PyData.int) := by
      have : ∀ {xs : List Value} {ks : List Int}, EachIs (fun v k => ∃ t, v = Value.int k t) xs ks → EachIs (fun v k => ∃ as, Reads s'.heap v k as) xs (ks.map PyData.int) := by
        intro xs ks q
        induction q with
        | nil => exact EachIs.nil
        | cons q1 _ ih =>
          obtain ⟨t, rfl⟩ := q1
          exact EachIs.cons ⟨[], .int _ t⟩ ih
      exact this hk
    have hsz : kA.size = vs.length := by
      have h1 := hk'.length
      rw [Array.length_toList, List.length_map] at h1
      omega
    try dsimp only
    refine wpAny_bind (listItems_at nk' rfl ?_)
    have kp : KeepsBut a (hole s'.heap kS) s'.heap := fun c o _ q => by
      have hc : c ≠ kS := by
        rintro rfl
        rw [hole_at] at q
        cases q
      rw [hole_ne hc] at q
      exact q
    exact keyH_end (κ := dataKind s'.heap (kz.map PyData.int)) (h₁ := hole s'.heap kS) kp (hole_at _ _) nk' na' hka (SortsAt.data hk' (ints_alike kz) (ints_sortable kz) (fun d hd => by
      obtain ⟨i, _, rfl⟩ := List.mem_map.mp hd
      exact hu)) hsz hZ fun h3 tk3 c k3 n3 => h { s' with heap := h3, toks := tk3 } _ c
        (up s' h3 tk3 I' fun c o hc hc' q => k3 c o hc (by rw [hole_ne hc']; exact q)) n3 ⟨s'.heap, kA.toList, ints_alike kz, rfl, hk'⟩
theorem keyI_tree {f : Value} {n : Nat} (ho : s.heap.get? a = some (seqObj "list" vs.toArray n)) (hlen : kz.length = vs.length) (hZ : vs.length ≤ sizeLine) (hu : A.units < cLine)
    (hI : I { s with heap := sortingHeap s.heap a vs })
    (up : ∀ s' g tk, I s' → (∀ c o, c ≠ a → c ≠ s.heap.objs.size + 1 → s'.heap.get? c = some o → g.get? c = some o) → I { s' with heap := g, toks := tk })
    (turn : ∀ (i : Nat) (v : Value) (k : Int), vs[i]? = some v → kz[i]? = some k → ∀ s', I s' → (∃ xs n, s'.heap.get? (s.heap.objs.size + 1) = some (seqObj "list" xs n)) → (∃ xs n, s'.heap.get? a = some (seqObj "list" xs n)) →
      wpAny (model prog w) A (call f [v]) (fun u s'' => (∃ t, u = .int k t) ∧ I s'' ∧ (∀ c o, (c = a ∨ c = s.heap.objs.size + 1) → s'.heap.get? c = some o → s''.heap.get? c = some o)) (fun _ _ => False) s')
    (h : ∀ s' out c, I s' → s'.heap.get? a = some (seqObj "list" (List.toArray out) c) → KeyedOut b (kz.map PyData.int) vs out → P (.done (.ret .none)) s') :
    wpAny (model prog w) A (ksk_tree a f b) P E s := by
  have ha : a < s.heap.objs.size := Heap.lt_size ho
  obtain ⟨e1, ho1⟩ : ∃ e1, (s.heap.update a (Obj.mapSeq fun _ => (#[] : Array Value))).get? a = some (seqObj "list" #[] e1) := ⟨_, get?_update_seq ho fun _ => #[]⟩
  have hkS : ((s.heap.update a (Obj.mapSeq fun _ => (#[] : Array Value))).push (seqObj "tuple" vs.toArray 0)).objs.size = s.heap.objs.size + 1 := by rw [size_push', Heap.size_update]
  unfold ksk_tree
  refine wpAny_bind (listItems_at ho rfl ?_)
  refine wpAny_bind (listUpdate_at ho rfl ?_ (by rw [List.size_toArray]; exact hZ) (Nat.zero_le _))
  refine wpAny_bind (seqEpoch_at ho1 rfl ?_)
  refine wpAny_bind (wpAny_newTuple ?_ (by show vs.length ≤ _; exact hZ))
  refine wpAny_bind (wpAny_newList ?_ (Nat.zero_le _))
  refine wpAny_holding ?_
  refine keyI_rest (kz := kz) (I := I) (s := { s with heap := ((s.heap.update a (Obj.mapSeq fun _ => (#[] : Array Value))).push (seqObj "tuple" vs.toArray 0)).push (seqObj "list" #[] 0) }) (kS := ((s.heap.update a (Obj.mapSeq fun _ => (#[] : Array Value))).push (seqObj "tuple" vs.toArray 0)).objs.size)
    hI (Heap.get?_push_size _ rfl) (Heap.get?_push_of_some _ (Heap.get?_push_of_some _ ho1)) (by rw [hkS]; exact Nat.ne_of_gt (Nat.lt_succ_of_lt ha)) hlen hZ hu ?_ ?_ h
  · rw [hkS]; exact up
  · rw [hkS]; exact turn
end
end SK
namespace SK
open PySem PySem.Spec PyProof.Rows L2 DL
/-! ### one list of ours becomes data -/
theorem adopt {X : Cx} {pins : List (Addr × Obj)} {σ : L2.St} {H : Hp} {s : Shared} {T : Addr} {ob : HO} (I : Inv X pins σ H s) (f : FpOk X pins H T) (new : ObjOk X.prog X.w (upd H T ob) s.heap T ob) : Inv X pins σ (upd H T ob) s := by
  have hn : H T = none := f.1
  have nT : ∀ b, b ∉ [T] → b ≠ T := fun b z q => z (by simp [q])
  refine I.step (g' := s.gens) (d' := s.drawn) (h' := s.heap) (t' := s.toks) (ch := [T]) (fun b hb => ?_) (fun b o _ _ hc e _ => e) (fun b o _ _ hc e _ => ⟨o.slots, e⟩)
    (fun b o hc e n => ?_) (fun b o hc e => ⟨o, e⟩) (fun b xs e => ?_) (fun b o u e => ?_) (fun b ps e => ⟨#[], ?_⟩) (fun m hm => hm) (fun b u e => ?_) I.bare
  · have : b = T := by simpa using hb
    subst this
    exact ⟨f.2.2.2.1, f.2.1, f.2.2.2.2.1, f.2.2.2.2.2⟩
  · rw [upd_ne (nT b hc)]; exact n
  · rw [upd_ne (ne_of_none e hn)]; exact e
  · rw [upd_ne (ne_of_none e hn)]; exact e
  · rw [upd_ne (ne_of_none e hn), e]; simp
  · by_cases hb : b = T
    · subst hb
      rw [upd_same] at e
      cases e
      exact new
    · rw [upd_ne hb] at e
      exact (I.hok b u e).stay (fun c v hc q => q) (fun c q => by rw [upd_ne (ne_of_none q hn)]; exact q) fun c xs q => by rw [upd_ne (ne_of_none q hn)]; exact q
/-- a key: what the call of fv computes of an item -/
structure KeyR (X : Cx) (fv : Value) (kf : P → Sto → Option Int) : Prop where
  run : ∀ (pins : List (Addr × Obj)) (s : Shared) (σ : L2.St) (H : Hp) (m : Mp) (S : Sto) (p : P) (x : V) (v : Value) (k : Int), Inv X pins σ H s → Rel X.K m H S → Is X.K (mask m H) p x → RelV x v → kf p S = some k →
    wpAny (model X.prog X.w) X.A.in1.in1 (call fv [v]) (EP X pins σ (fun y H' => y = .int k ∧ ∃ m', Stp m H m' H' ∧ Rel X.K m' H' S)) (fun _ _ => False) s
noncomputable def kfOf (F : FF) (p : P) (S : Sto) : Option Int := match F [.v p] S with
  | .ok (.v (.int k)) S' => open Classical in if S' = S then some k else none
  | _ => none
theorem kfOf_is {F : FF} {p : P} {S : Sto} {k : Int} (h : F [.v p] S = .ok (.v (.int k)) S) : kfOf F p S = some k := by
  unfold kfOf
  rw [h]
  exact if_pos rfl
theorem kfOf_of {F : FF} {p : P} {S : Sto} {k : Int} (h : kfOf F p S = some k) : F [.v p] S = .ok (.v (.int k)) S := by
  unfold kfOf at h
  split at h
  · rename_i k' S' e
    split at h
    · rename_i eS
      cases h
      rw [eS] at e
      exact e
    · cases h
  · cases h
theorem room2 {k : Nat} {A : Around} (r : Room (k + 1) A) : Room k A.in1.in1 :=
  ⟨r.hd, by have := r.dp; show A.depth + 3 * k + 5 < _; omega, by have := r.un; show A.units + 1 + 1 + 16 * k + 200 < _; omega⟩
theorem key_fn {X : Cx} {k : Nat} {f : Addr} {fd : FuncData} {ps : List Str} {F : FF} (G : FnG X.prog X.w X.K X.mg X.base k f fd ps F) (hr : Room (k + 1) X.A) (hX : SX X) (hb : Binds X.K fd ps []) (hl : ps.length = 1) : KeyR X (.ref f) (kfOf F) := by
  refine ⟨fun pins s σ H m S p x v k I R h r hk => ?_⟩
  have e0 : Env0 X.prog X.w X.K X.mg X.base X.A.in1.in1 X.stack s H := ⟨I.ok.frames, I.ok.mod, I.bs, Nat.le_trans I.ok.bsz I.sz, I.stack, I.stkFree, I.hok, I.bare⟩
  have rv : Vals [x] [v] := .cons r .nil
  have sp : SpD X.K ps.length F [x] H (fun y H' => y = .int k ∧ ∃ m', Stp m H m' H' ∧ Rel X.K m' H' S) :=
    ⟨m, S, [.v p], .v (.int k), S, R, ⟨x, [], rfl, h, rfl⟩, by rw [hl]; rfl, kfOf_of hk, fun y m' H' st R' i => ⟨i, m', st, R'⟩⟩
  refine wpAny_call (codeAny_mono (G.run X.A.in1.in1 X.stack s H ⟨[v], []⟩ [v] [x] _ (room2 hr) hX.guards e0 (by
    have q := hb s [v] I.kIn (by rw [hl]; rfl)
    rw [List.append_nil] at q
    exact q) rv sp) fun r s' hq => ?_)
  cases r with
  | error e => exact False.elim hq
  | ok fl =>
    cases fl with
    | ret u => exact I.after hq
    | next => exact False.elim hq
    | brk => exact False.elim hq
    | cont => exact False.elim hq
/-- key=len -/
def kfLen (p : P) (S : Sto) : Option Int := match p with
  | .tup ps => some ps.length
  | _ => none
theorem key_len {X : Cx} (hX : SX X) : KeyR X (.builtin "len") kfLen := by
  refine ⟨fun pins s σ H m S p x v k I R h r hk => ?_⟩
  unfold kfLen at hk
  split at hk
  · rename_i qs
    cases hk
    obtain ⟨a, xs, rfl, h2, h3⟩ := h
    obtain ⟨its, r', pl, hz⟩ := I.tuple (sqT_mono (mask_ex m H) h2)
    have hn := line63
    have hlen := r'.length
    cases r
    exact len_tuple pl (by simp only [List.size_toArray] <;> omega) ⟨.int xs.length, H, I.tok _, ⟨s.toks + 1, by rw [List.size_toArray, hlen]⟩, by rw [h3.len], m, Stp.refl m H, R⟩
  · cases hk

/-! ### sorted(xs, key=f[, reverse=b]) -/
section
variable {X : Cx} {fv : Value} {kf : P → Sto → Option Int} {pins : List (Addr × Obj)} {σ : L2.St} {H : Hp} {s : Shared} {a : Addr} {ys : List V} {m : Mp} {S : Sto} {ps : List P} {b : Bool} {kw : List (Str × Value)} {Q : VK}
theorem run_sortK (hX : SX X) (hk : KeyR X fv kf) (I : Inv X pins σ H s) (hs : SqL X.K H a ys) (R : Rel X.K m H S) (hi : IsAll X.K (mask m H) ps ys) (ks : P → Int) (hks : ∀ p ∈ ps, kf p S = some (ks p))
    (ha1 : argsOk "sorted" ⟨[.ref a], kw⟩) (ha2 : ∀ x, argsOk "list.sort" ⟨[.ref x], kw⟩) (ht : ∀ x, Builtin.«list.sort» ⟨[.ref x], kw⟩ = ksk_tree x fv b)
    (q : ∀ m' H' zs, Stp m H m' H' → Rel X.K m' H' S → IsAll X.K (mask m' H') (ps.mergeSort (PySem.W.dataLe b fun p => .int (ks p))) zs → ∀ c, H' c = none → Q (.ref c) (upd H' c (.lst zs))) :
    wpAny (model X.prog X.w) X.A (call (.builtin "sorted") [.ref a] kw) (EP X pins σ Q) X.xe s := by
  obtain ⟨its, rv, hl, hz⟩ := I.list hs
  have e := each_of hi rv
  have hlen : (ps.map ks).length = its.length := by rw [List.length_map]; exact e.length.symm
  have hz' : its.length ≤ sizeLine := by rw [← rv.length]; exact hz
  have hu := hX.units
  refine PySem.W.sorted_of_sort hl.isList hz' ha1 ha2 fun E' => ?_
  rw [ht]
  have n1 : H (s.heap.objs.size + 1) = none := I.hok.fresh (Nat.le_succ _)
  have hsz : s.heap.objs.size + 1 ≤ (PySem.W.copyHeap s.heap its).objs.size + 1 := Nat.succ_le_succ (Nat.le_of_lt (Nat.lt_of_succ_lt (Heap.lt_size (PySem.W.copyHeap_at s.heap its))))
  have n2 : H ((PySem.W.copyHeap s.heap its).objs.size + 1) = none := I.hok.fresh (Nat.le_trans (Nat.le_succ _) hsz)
  refine keyI_tree (kz := ps.map ks) (vs := its) (s := { s with heap := PySem.W.copyHeap s.heap its }) (I := fun s' => ∃ m' H', Inv X pins σ H' s' ∧ Stp m H m' H' ∧ Rel X.K m' H' S ∧ FpOk X pins H' (s.heap.objs.size + 1) ∧ FpOk X pins H' ((PySem.W.copyHeap s.heap its).objs.size + 1))
    (PySem.W.copyHeap_at s.heap its) hlen hz' (show X.A.units + 1 + 1 < cLine by omega) ?I0 ?up ?turn ?fin
  case I0 =>
    refine ⟨m, H, I.kept (t' := s.toks) fun b u hb => PySem.W.sortingHeap_old (Nat.ne_of_lt (Nat.lt_succ_of_lt (Heap.lt_size hb))) (PySem.W.copyHeap_old hb), Stp.refl m H, R, I.fpOk (Nat.le_succ _) n1, I.fpOk (Nat.le_trans (Nat.le_succ _) hsz) n2⟩
  case up =>
    rintro s' g tk ⟨m', H', I', st, R', f1, f2⟩ k
    refine ⟨m', H', I'.turnedL (ch := [s.heap.objs.size + 1, (PySem.W.copyHeap s.heap its).objs.size + 1]) (fun c o hc e => k c o (fun z => hc (by simp [z])) (fun z => hc (by simp [z])) e) (fun c hc => ?_), st, R', f1, f2⟩
    rcases List.mem_cons.mp hc with z | z
    · rw [z]; exact f1
    · have z' := List.mem_singleton.mp z
      rw [z']; exact f2
  case turn =>
    rintro i v k hv hki s' ⟨m', H', I', st, R', f1, f2⟩ ⟨xs, n, e1⟩ ⟨xs', n', e2⟩
    obtain ⟨p, hp, rfl⟩ : ∃ p, ps[i]? = some p ∧ ks p = k := by
      rw [List.getElem?_map] at hki
      exact Option.map_eq_some_iff.mp hki
    have hzp : (v, p) ∈ its.zip ps := List.mem_of_getElem? (i := i) (by rw [List.getElem?_zip_eq_some]; exact ⟨hv, hp⟩)
    obtain ⟨x, r, hx⟩ := e.zip _ hzp
    have I2 : Inv X ((s.heap.objs.size + 1, seqObj "list" xs' n') :: ((PySem.W.copyHeap s.heap its).objs.size + 1, seqObj "list" xs n) :: pins) σ H' s' := I'.pins_of fun q hq => by
      rcases List.mem_cons.mp hq with z | hq
      · subst z
        exact ⟨e2, f1.1, f1.2.1, f1.2.2.1, fun v z => by cases z⟩
      · rcases List.mem_cons.mp hq with z | hq
        · subst z
          exact ⟨e1, f2.1, f2.2.1, f2.2.2.1, fun v z => by cases z⟩
        · exact I'.pin q (List.mem_append_right _ hq)
    refine wpAny_mono (hk.run _ s' σ H' m' S p x v (ks p) I2 R' (st.val hx) r (hks p (List.mem_of_getElem? hp))) (fun u s'' hu => ?_) fun _ _ z => z
    obtain ⟨y, H2, J, ry, rfl, m2, st2, R2⟩ := hu
    have p1 := J.pin _ (List.mem_append_right _ (List.mem_cons_self ..))
    have p2 := J.pin _ (List.mem_append_right _ (List.mem_cons_of_mem _ (List.mem_cons_self ..)))
    refine ⟨ry, ⟨m2, H2, J.pins_of fun q hq => J.pin q (List.mem_append_right _ (List.mem_cons_of_mem _ (List.mem_cons_of_mem _ hq))), st.trans st2, R2, ⟨p1.2.1, f1.2⟩, ⟨p2.2.1, f2.2⟩⟩, fun c o hc eo => ?_⟩
    rcases hc with z | z
    · subst z
      have : some o = some (seqObj "list" xs' n') := eo.symm.trans e2
      rw [this]
      exact p1.1
    · subst z
      have : some o = some (seqObj "list" xs n) := eo.symm.trans e1
      rw [this]
      exact p2.1
  case fin =>
    rintro s' out c ⟨m', H', I', st, R', f1, f2⟩ ha ko
    rw [List.map_map] at ko
    have eo := PySem.W.keyedOut_each (fun p => PyData.int (ks p)) ko e
    obtain ⟨zs, iz, rz⟩ := all_of_each eo
    have hlo : zs.length ≤ sizeLine := by
      rw [← iz.len, List.length_mergeSort, hi.len]
      exact hz
    exact ⟨rfl, .ref _, upd H' (s.heap.objs.size + 1) (.lst zs), adopt I' f1 ⟨hlo, out, c, rz, ha⟩, rfl, q m' H' zs st R' (st.all iz) _ f1.1⟩
end

def sortKP (kf : P → Sto → Option Int) (b : Bool) (S : Sto) : List P → Option P
  | [.lst ps] => if (ps.all fun p => (kf p S).isSome) = true then some (.lst (ps.mergeSort (PySem.W.dataLe b fun p => .int ((kf p S).getD 0)))) else none
  | _ => none
noncomputable def fSortK (kf : P → Sto → Option Int) (b : Bool) (g : FA) : FE := fun env S => (g env S).bind fun ds S1 => match deAll S1 ds with
  | some ps => oP (sortKP kf b S1 ps) S1
  | none => .bad
noncomputable def fSortKB (kf : P → Sto → Option Int) (b : Bool) (g : FA) : FE := fun env S => (g env S).bind fun ds S1 => match deAll S1 ds with
  | some ps => oB (sortKP kf b S1 ps) S1
  | none => .bad
/-- the key's expression gives the value fv -/
def KeyE (X : Cx) (ke : Expr) (fv : Value) : Prop := ∀ (pins : List (Addr × Obj)) (s : Shared) (σ : L2.St) (H : Hp) (E : Value → Shared → Prop) (Q : Value → Shared → Prop), Inv X pins σ H s → Q fv s → wpAny (model X.prog X.w) X.A (eval ke X.env) Q E s
section
variable {X : Cx} {ke e : Expr} {fv : Value} {kf : P → Sto → Option Int} {b : Bool} {g : FA} {p p1 p2 p3 pos : Pos} {j : Nat}
theorem keyE_glob {x : Str} {u : Value} (hm : X.mg x = some u) (hg : Gl X x := by rfl) (hdb : (x == ("__debug__" : Str)) = false := by decide) : KeyE X (.Name x p) u := fun pins s σ H E Q I h => ld_glob I hg hm h hdb
theorem keyE_len (hm : X.mg "len" = none) (hg : Gl X "len" := by rfl) : KeyE X (.Name "len" p) (.builtin "len") := fun pins s σ H E Q I h => ld_blt I hg hm PySem.boot_len h (by decide) (by decide)
theorem sortK_core (hX : SX X) (hk : KeyR X fv kf) {kw : List (Str × Value)} (ha1 : ∀ a, argsOk "sorted" ⟨[.ref a], kw⟩) (ha2 : ∀ x, argsOk "list.sort" ⟨[.ref x], kw⟩) (ht : ∀ x, Builtin.«list.sort» ⟨[.ref x], kw⟩ = ksk_tree x fv b)
    {pins : List (Addr × Obj)} {σ : L2.St} {H : Hp} {s : Shared} {m : Mp} {S : Sto} {ps : List P} {qs : P} {vs : List V} {us : List Value} {Q : VK} (I : Inv X pins σ H s) (R : Rel X.K m H S) (rv : Vals vs us) (hi : IsRs X.K m H ps vs) (e1 : sortKP kf b S ps = some qs)
    (q : ∀ m' H' ps' zs, qs = .lst ps' → Stp m H m' H' → Rel X.K m' H' S → IsAll X.K (mask m' H') ps' zs → ∀ c, H' c = none → Q (.ref c) (upd H' c (.lst zs))) :
    wpAny (model X.prog X.w) X.A (call (.builtin "sorted") us kw) (EP X pins σ Q) X.xe s := by
  unfold sortKP at e1
  split at e1
  · rename_i ps0
    split at e1
    · rename_i hall
      cases e1
      obtain ⟨x, rfl, h0⟩ := hi.one
      obtain ⟨a, ys, rfl, h1, h2⟩ := sq_r h0
      obtain rfl := Vals.ref1 rv
      exact run_sortK hX hk I h1 R h2 (fun p => (kf p S).getD 0) (fun p hp => by
        obtain ⟨k, hk⟩ := Option.isSome_iff_exists.mp (List.all_eq_true.mp hall p hp)
        rw [hk]; rfl) (ha1 _) ha2 ht fun m' H' zs st R' i' c hc => q m' H' _ zs rfl st R' i' c hc
    · cases e1
  · cases e1
theorem d_sortKR (hX : SX X) (hk : KeyR X fv kf) (hke : KeyE X ke fv) (ht : ∀ x, Builtin.«list.sort» ⟨[.ref x], [(Str.ofString "key", fv), (Str.ofString "reverse", .bool b)]⟩ = ksk_tree x fv b) (hm : X.mg "sorted" = none) (ha : PAd X [e] g) (hg : Gl X "sorted" := by rfl)
    (he : backTo pos (starEach [e] X.env) = (false, eval e X.env) :: backTo pos (starEach [] X.env) := by rfl) (hpl : (backTo pos (starEach [e] X.env)).any (·.1) = false := by rfl) :
    PEd X (.Call (.Name "sorted" p) [e] [⟨some (Str.ofString "key"), ke, p1⟩, ⟨some (Str.ofString "reverse"), .Constant (.bool b) j p2, p3⟩] pos) (fSortK kf b g) := by
  refine ⟨fun pins s σ H Q I h => ?_⟩
  obtain ⟨m, env, S, R, E, d, S', e1, q⟩ := h
  obtain ⟨ds, S1, k1, e2⟩ := Oc.bind_eq e1
  refine wpAny_Call_Name_kw (ld_blt I hg hm PyProof.Rows.boot_sorted ?_ (by decide) (by decide))
  refine PyProof.Rows.callWith_kw (thn (ha.run pos pins s σ H (fun vs H1 => ∃ m1, Stp m H m1 H1 ∧ Rel X.K m1 H1 S1 ∧ IsDs X.K m1 (mask m1 H1) ds vs) I ⟨m, env, S, R, E, ds, S1, k1, fun vs m1 H1 st1 R1 i1 => ⟨m1, st1, R1, i1⟩⟩) fun us s1 ⟨vs, H1, I1, r1, m1, st1, R1, i1⟩ => ?_) he hpl rfl rfl
  show wpAny _ _ (evalAll [(do let v ← eval ke X.env; standAt pos; pure v), (do let v ← eval (.Constant (.bool b) j p2) X.env; standAt pos; pure v)]) _ _ s1
  refine wpAny_evalAll_cons (wpAny_bind (hke pins s1 σ H1 X.xe _ I1 (wpAny_bind (wpAny_standAt (wpAny_pure ?_)))))
  refine wpAny_evalAll_cons (wpAny_bind (Constant_bool (wpAny_bind (wpAny_standAt (wpAny_pure ?_)))))
  refine wpAny_evalAll_nil ?_
  show wpAny _ _ (call (.builtin "sorted") us [(Str.ofString "key", fv), (Str.ofString "reverse", .bool b)]) _ _ s1
  cases h1 : deAll S1 ds with
  | none => simp [h1] at e2
  | some ps =>
    cases h2 : sortKP kf b S1 ps with
    | none => simp [h1, h2] at e2
    | some u =>
      simp [h1, h2] at e2
      obtain ⟨rfl, rfl⟩ := e2
      refine sortK_core hX hk (fun a => PyProof.Rows.ksk_s2 _ _ _) (fun x => PyProof.Rows.ksk_l2 _ _ _) ht I1 R1 r1 (deAll_is R1 h1 i1) h2 ?_
      rintro m2 H2 ps' zs rfl st2 R2 iz
      exact newLst R2 iz fun v m3 H3 st3 R3 i3 => q v m3 H3 ((st1.trans st2).trans st3) R3 i3
end
end SK

/-! MN: min(xs), xs a list of data of one kind (texts, tuples of texts). -/
namespace MN
open PySem PySem.Spec PyProof.Rows L2 DL
def minP (x : P) (xs : List P) : P := xs.foldl (fun a y => if PySem.W.dataLt (pyOf y) (pyOf a) = true then y else a) x
theorem minD_minP (x : P) : ∀ xs : List P, PySem.W.minD (pyOf x) (xs.map pyOf) = pyOf (minP x xs) := fun xs => by
  unfold PySem.W.minD minP
  induction xs generalizing x with
  | nil => rfl
  | cons y ys ih =>
    rw [List.map_cons, List.foldl_cons, List.foldl_cons, ← ih]
    congr 1
    split <;> rfl
theorem minP_mem (x : P) : ∀ xs : List P, minP x xs ∈ x :: xs := fun xs => by
  unfold minP
  induction xs generalizing x with
  | nil => exact List.mem_cons_self ..
  | cons y ys ih =>
    rw [List.foldl_cons]
    split
    · exact List.mem_cons_of_mem _ (ih y)
    · rcases List.mem_cons.mp (ih x) with h | h
      · rw [h]; exact List.mem_cons_self ..
      · exact List.mem_cons_of_mem _ (List.mem_cons_of_mem _ h)
theorem le_refl (p : P) : PySem.W.dataLe false pyOf p p = true := (Bool.or_self _).symm.trans (le_total p p)
theorem le_lt (a b : P) : PySem.W.dataLe false pyOf a b = !PySem.W.dataLt (pyOf b) (pyOf a) := by
  rw [PySem.W.dataLe_eq]
  rfl
theorem minP_le (x : P) : ∀ xs : List P, ∀ y ∈ x :: xs, PySem.W.dataLe false pyOf (minP x xs) y = true := fun xs => by
  unfold minP
  induction xs generalizing x with
  | nil =>
    intro y hy
    rw [List.mem_singleton.mp hy]
    exact le_refl x
  | cons z zs ih =>
    intro y hy
    rw [List.foldl_cons]
    split
    · rename_i h
      have hzx : PySem.W.dataLe false pyOf z x = true := by
        have := le_total z x
        rw [le_lt x z, h, Bool.not_true, Bool.or_false] at this
        exact this
      rcases List.mem_cons.mp hy with rfl | hy
      · exact le_trans _ _ _ (ih z z (List.mem_cons_self ..)) hzx
      · exact ih z y hy
    · rename_i h
      have hxz : PySem.W.dataLe false pyOf x z = true := by
        rw [le_lt, Bool.not_eq_true']
        exact Bool.eq_false_iff.mpr h
      rcases List.mem_cons.mp hy with rfl | hy
      · exact ih y y (List.mem_cons_self ..)
      · rcases List.mem_cons.mp hy with rfl | hy
        · exact le_trans _ _ _ (ih x x (List.mem_cons_self ..)) hxz
        · exact ih x y (List.mem_cons_of_mem _ hy)
/-- the least one is it -/
theorem minP_is {x : P} {xs : List P} (hc : Cmp (x :: xs)) {m : P} (hm : m ∈ x :: xs) (h : ∀ y ∈ x :: xs, PySem.W.dataLe false pyOf m y = true) : minP x xs = m := by
  have h1 := minP_mem x xs
  exact le_anti (hc.1 _ h1) (hc.1 _ hm) (hc.2 _ h1 _ hm) (minP_le x xs m hm) (h _ h1)
def someD : PyData → Bool
  | .none => false
  | _ => true
def bMin1 : List P → Option P
  | [.lst (x :: xs)] => if ((x :: xs).all pl) = true ∧ alikeB ((x :: xs).map pyOf) = true ∧ (((x :: xs).map pyOf).all fun d => decide (d.depth ≤ 64)) = true ∧ (((x :: xs).map pyOf).all someD) = true then some (minP x xs) else none
  | _ => none
theorem depthAll_le {n : Nat} : ∀ {ds : List PyData}, (∀ d ∈ ds, d.depth ≤ n) → PyData.depthAll ds ≤ n
  | [], _ => Nat.zero_le _
  | d :: ds, h => by
    show max d.depth (PyData.depthAll ds) ≤ n
    exact Nat.max_le.mpr ⟨h d (List.mem_cons_self ..), depthAll_le fun e he => h e (List.mem_cons_of_mem _ he)⟩
def rMin1 (K : PySem.W.Frag) : List V → Hp → VK → Prop := fun xs H Q => ∃ a ys m ps u, xs = [.ref a] ∧ SqL K H a ys ∧ IsAll K (mask m H) ps ys ∧ bMin1 [.lst ps] = some u ∧ ∀ v, Is K (mask m H) u v → Q v H
theorem isAll_at {K : PySem.W.Frag} {G : Hp} : ∀ {ps : List P} {vs : List V} {i : Nat} {v : V}, IsAll K G ps vs → vs[i]? = some v → ∃ p, ps[i]? = some p ∧ Is K G p v
  | [], _, _, _, h, e => by
    have h' : _ = [] := h
    subst h'
    simp at e
  | p :: ps, _, 0, v, ⟨x, xs, h1, h2, h3⟩, e => by
    subst h1
    cases e
    exact ⟨p, rfl, h2⟩
  | p :: ps, _, i + 1, v, ⟨x, xs, h1, h2, h3⟩, e => by
    subst h1
    have e' : xs[i]? = some v := e
    obtain ⟨q, h4, h5⟩ := isAll_at (ps := ps) h3 e'
    exact ⟨q, h4, h5⟩
theorem cr_min1 {X : Cx} (hc : X.calm = true) (hX : SX X) : CallR X (.builtin "min") (rMin1 X.K) := by
  intro pins s σ H vs us Q I r h
  obtain ⟨a, ys, m, ps, u, rfl, hs, hi, hb, q⟩ := h
  obtain ⟨its, rv, hl, hz⟩ := I.list hs
  rw [Vals.ref1 r]
  unfold bMin1 at hb
  split at hb
  · rename_i x xs hxs
    injection hxs with hxs _
    injection hxs with hxs
    subst hxs
    split at hb
    · rename_i hcd
      obtain ⟨c1, c2, c3, c4⟩ := hcd
      cases hb
      have hpl : ∀ p ∈ x :: xs, pl p = true := List.all_eq_true.mp c1
      have he := each_of hi rv
      obtain ⟨as, hr⟩ := PySem.W.each_readsAll pyOf (each_reads I (fun p hp => py_of (hpl p hp)) he)
      have hal := alike_of c2
      have hu := hX.units
      have hd : PyData.depthAll ((x :: xs).map pyOf) ≤ 64 := depthAll_le fun d hd => of_decide_eq_true (List.all_eq_true.mp c3 d hd)
      refine PySem.W.min_list_data (x := pyOf x) (xs := xs.map pyOf) (I.ok.hd hc) hl.isList hr ⟨fun d hd e he => hal d hd e he, fun d hd e => ?_⟩ (by
        have : PyData.depthAll (pyOf x :: xs.map pyOf) ≤ 64 := hd
        omega) fun i v h' tk bs hv rd k => ?_
      · have := List.all_eq_true.mp c4 d hd
        rw [e] at this
        cases this
      · have hv' : its[i]? = some v := by simpa using hv
        rw [minD_minP] at rd
        obtain ⟨y, hy, ry⟩ : ∃ y, ys[i]? = some y ∧ RelV y v := by
          have hlt : i < ys.length := by
            rw [rv.length]
            exact (List.getElem?_eq_some_iff.mp hv').1
          obtain ⟨u, hu1, hu2⟩ := Vals.get rv (List.getElem?_eq_getElem hlt)
          rw [hu1] at hv'
          cases hv'
          exact ⟨_, List.getElem?_eq_getElem hlt, hu2⟩
        obtain ⟨p, hp, ip⟩ := isAll_at hi hy
        have hpm := List.mem_of_getElem? hp
        have I2 : Inv X pins σ H { s with heap := h', toks := tk } := I.kept k
        have rd2 : ∃ bs, Reads h' v (pyOf p) bs := by
          obtain ⟨as2, r2⟩ := Dp.reads I _ y _ (Is.dp _ y _ (Is.mono (mask_ex m H) _ _ ip) (py_of (hpl p hpm))) ry
          exact ⟨as2, PyProof.Rows.Reads.keeps k r2⟩
        obtain ⟨bs2, rd2⟩ := rd2
        have hl0 : (pyOf p).canLay0 = true := by
          obtain ⟨d, d1, d2, _⟩ := pl_py p (hpl p hpm)
          have : pyOf p = d := by unfold pyOf; rw [d1]; rfl
          rw [this]; exact d2
        have eq : pyOf p = pyOf (minP x xs) := PySem.SeqAt.Reads.unique _ _ _ _ _ hl0 rd2 rd
        have hmm := minP_mem x xs
        have e1 : PySem.W.dataLe false pyOf p (minP x xs) = true := by
          rw [le_lt, eq, ← le_lt (minP x xs) (minP x xs)]
          exact le_refl _
        have e2 : PySem.W.dataLe false pyOf (minP x xs) p = true := by
          rw [le_lt, eq, ← le_lt (minP x xs) (minP x xs)]
          exact le_refl _
        have epm : p = minP x xs := le_anti (hpl p hpm) (hpl _ hmm) (hal _ (List.mem_map_of_mem hpm) _ (List.mem_map_of_mem hmm)) e1 e2
        rw [← epm] at q
        exact ⟨y, H, I2, ry, q y ip⟩
    · cases hb
  · cases hb
theorem on_min1 {K : PySem.W.Frag} : OpN K (rMin1 K) bMin1 := by
  intro m H S ps u xs Q R h e k
  have e0 := e
  unfold bMin1 at e
  split at e
  · obtain ⟨x, rfl, h0⟩ := h.one
    obtain ⟨a, ys, rfl, h1, h2⟩ := sq_r h0
    exact ⟨a, ys, m, _, u, rfl, h1, h2, e0, fun v i => k v m H (Stp.refl m H) R i⟩
  · cases e
/-- min of tuples of names, of names -/
theorem o_min {x : P} {xs : List P} (hc : Cmp (x :: xs)) (hd : ∀ p ∈ x :: xs, (pyOf p).depth ≤ 64) (hs : ∀ p ∈ x :: xs, someD (pyOf p) = true) {m : P} (hm : m ∈ x :: xs) (h : ∀ y ∈ x :: xs, PySem.W.dataLe false pyOf m y = true) : bMin1 [.lst (x :: xs)] = some m := by
  have h1 : alikeB ((x :: xs).map pyOf) = true := by
    unfold alikeB
    rw [List.all_eq_true]
    intro d hd'
    rw [List.all_eq_true]
    intro e he
    obtain ⟨p, hp, rfl⟩ := List.mem_map.mp hd'
    obtain ⟨q, hq, rfl⟩ := List.mem_map.mp he
    exact hc.2 p hp q hq
  have h2 : (((x :: xs).map pyOf).all fun d => decide (d.depth ≤ 64)) = true := by
    rw [List.all_eq_true]
    intro d hd'
    obtain ⟨p, hp, rfl⟩ := List.mem_map.mp hd'
    exact decide_eq_true (hd p hp)
  have h3 : (((x :: xs).map pyOf).all someD) = true := by
    rw [List.all_eq_true]
    intro d hd'
    obtain ⟨p, hp, rfl⟩ := List.mem_map.mp hd'
    exact hs p hp
  show (if _ then _ else _ : Option P) = _
  rw [if_pos ⟨List.all_eq_true.mpr hc.1, h1, h2, h3⟩, minP_is hc hm h]
end MN

/-! RM: xs.remove(x), xs a list of texts in which x stands. -/
namespace RM
open PySem PySem.Spec PyProof.Rows L2 DL
theorem first_atS : ∀ {ns : List Str} {k : Str}, k ∈ ns → ∃ j, j < ns.length ∧ ns[j]? = some k ∧ (∀ i, i < j → ns[i]? ≠ some k) ∧ ns.eraseIdx j = ns.erase k
  | [], k, h => absurd h (by simp)
  | a :: r, k, h => by
    by_cases e : a = k
    · refine ⟨0, Nat.succ_pos _, by rw [e] <;> rfl, fun i hi => absurd hi (Nat.not_lt_zero _), ?_⟩
      rw [e, List.erase_cons_head] <;> rfl
    · have hr : k ∈ r := by
        rcases List.mem_cons.mp h with z | z
        · exact absurd z.symm e
        · exact z
      obtain ⟨j, h1, h2, h3, h4⟩ := first_atS hr
      refine ⟨j + 1, Nat.succ_lt_succ h1, h2, fun i hi => ?_, ?_⟩
      · cases i with
        | zero =>
          intro z
          exact e (Option.some.inj z)
        | succ i => exact h3 i (Nat.lt_of_succ_lt_succ hi)
      · rw [List.erase_cons_tail (by rw [beq_iff_eq]; exact e), ← h4] <;> rfl
theorem map_eraseIdxS {α β : Type} (f : α → β) : ∀ (ns : List α) (j : Nat), (ns.map f).eraseIdx j = (ns.eraseIdx j).map f
  | [], _ => rfl
  | _ :: _, 0 => rfl
  | n :: r, j + 1 => by
    show f n :: (r.map f).eraseIdx j = f n :: (r.eraseIdx j).map f
    rw [map_eraseIdxS f r j]
theorem strsAre_of : ∀ {ys : List Str} {us : List Value}, Vals (ys.map V.str) us → StrsAre us ys
  | [], _, r => by
    cases r
    exact .nil
  | y :: ys, _, r => by
    cases r with
    | cons h t =>
      obtain ⟨tk, rfl⟩ := h
      exact .cons _ _ (strsAre_of t)
def rRemS : V → List V → Hp → VK → Prop := fun x vs H Q => ∃ (l : Addr) (ns : List Str) (k : Str), x = .ref l ∧ vs = [.str k] ∧ H l = some (.lst (ns.map V.str)) ∧ k ∈ ns ∧ Q .non (upd H l (.lst ((ns.erase k).map V.str)))
theorem mt_remS {X : Cx} : MtM X "list.remove" rRemS := by
  intro pins s σ H x vs v us Q I rx rv h
  obtain ⟨l, ns, k, rfl, rfl, hH, hk, q⟩ := h
  cases rx
  obtain ⟨u, rfl, ru⟩ := rv.one
  obtain ⟨t, rfl⟩ := ru
  obtain ⟨z, its, n, r, hl, e0⟩ := I.lstM hH
  have hi : StrsAre its ns := strsAre_of r
  have heq := eq_isStrOf k t hi
  have hnl : ns.length = its.length := by rw [← hl, List.length_map]
  have hsz : its.toArray.size ≤ sizeLine := by rw [List.size_toArray, ← hl]; exact z
  obtain ⟨j, j1, j2, j3, j4⟩ := first_atS hk
  have hj : j < its.length := by omega
  refine call_meets PySem.F.slot_list_remove ⟨_, e0, rfl⟩ PySem.F.entry_list_remove (PySem.F.args_list_remove_2 _ _)
    (MeetsSeq.list_remove l its.toArray n (.str k t) (isStrOf k) (fun y hy => heq y (by simpa using hy)) j (by rw [List.size_toArray]; exact hj) ?hit (fun i hi2 hlt => ?hno) hsz) ⟨e0, ?_⟩
  case hit =>
    show isStrOf k its[j] = true
    rw [PySem.SeqAt.isStrOf_at k hi j hj (by omega)]
    rw [List.getElem?_eq_getElem (by omega)] at j2
    rw [Option.some.inj j2]
    exact beq_self_eq_true k
  case hno =>
    have hi3 : i < its.length := by rw [List.size_toArray] at hi2; exact hi2
    show isStrOf k its[i] = false
    rw [PySem.SeqAt.isStrOf_at k hi i hi3 (by omega), beq_eq_false_iff_ne]
    intro w
    exact j3 i hlt (by rw [List.getElem?_eq_getElem (by omega), w])
  have r2 : Vals ((ns.erase k).map V.str) (its.eraseIdx j) := by
    have w := r.eraseIdx j
    rw [map_eraseIdxS, j4] at w
    exact w
  refine ⟨.non, _, I.lset (its' := its.eraseIdx j) hH e0 ?_ r2 ?_, rfl, q⟩
  · show its.toArray.eraseIdxIfInBounds j = (its.eraseIdx j).toArray
    rw [List.eraseIdxIfInBounds_toArray]
  · rw [List.length_map]
    have := List.length_erase_le (a := k) (l := ns)
    rw [List.length_map] at z
    omega
def strOf : P → Option Str
  | .str x => some x
  | _ => none
def mRemove : MOp := fun ps ds _ => match ds with
  | [.v (.str k)] => match ps.mapM strOf with
    | some ns => if k ∈ ns then some (.non, (ns.erase k).map .str) else none
    | none => none
  | _ => none
theorem mapM_str : ∀ {ps : List P} {ns : List Str}, ps.mapM strOf = some ns → ps = ns.map .str
  | [], ns, h => by
    have : ns = [] := by simpa using h.symm
    subst this
    rfl
  | p :: ps, ns, h => by
    rw [List.mapM_cons] at h
    cases hp : strOf p with
    | none => simp [hp] at h
    | some x =>
      cases hq : ps.mapM strOf with
      | none => simp [hp, hq] at h
      | some xs =>
        simp [hp, hq] at h
        subst h
        have e1 : p = .str x := by
          unfold strOf at hp
          split at hp
          · cases hp; rfl
          · cases hp
        rw [e1, mapM_str hq]
        rfl
theorem mapM_of : ∀ ns : List Str, (ns.map P.str).mapM strOf = some ns
  | [] => rfl
  | n :: ns => by
    rw [List.map_cons, List.mapM_cons, mapM_of ns]
    rfl
theorem all_strs {K : PySem.W.Frag} {G : Hp} : ∀ {ns : List Str} {vs : List V}, IsAll K G (ns.map P.str) vs → vs = ns.map V.str
  | [], _, h => h
  | n :: ns, _, ⟨v, vs, h1, h2, h3⟩ => by
    subst h1
    have h2' : v = .str n := h2
    rw [h2', all_strs h3]
    rfl
theorem strs_all {K : PySem.W.Frag} {G : Hp} : ∀ ns : List Str, IsAll K G (ns.map P.str) (ns.map V.str)
  | [] => rfl
  | n :: ns => ⟨.str n, ns.map V.str, rfl, rfl, strs_all ns⟩
theorem om_remove {K : PySem.W.Frag} : OpM K rRemS mRemove := by
  intro m H S n a ps ds u qs xs Q R hm hS hd e k
  unfold mRemove at e
  split at e
  · rename_i x
    split at e
    · rename_i ns hns
      split at e
      · rename_i hmem
        cases e
        obtain ⟨y, rfl, hy⟩ := one_v hd
        have hy' : y = .str x := hy
        subst hy'
        have hps := mapM_str hns
        subst hps
        obtain ⟨ys, h1, h2⟩ := R.ob n a _ hm hS
        have hys := all_strs h2
        subst hys
        obtain ⟨R3, st3⟩ := R.write (o := .lst ((ns.erase x).map V.str)) (x := .lst ((ns.erase x).map P.str)) hm fun H' s' e' => ⟨_, e', strs_all _⟩
        exact ⟨a, ns, x, rfl, rfl, h1, hmem, k _ _ _ st3 R3 rfl⟩
      · cases e
    · cases e
  · cases e
section
variable {X : Cx} {o e : Expr} {fo : FE} {ga : FA} {apos cpos : Pos}
theorem d_remove (ho : PEd X o fo) (ha : PAd X [e] ga) (hbase : attributeBase o "remove" X.env (eval o X.env) = eval o X.env := by rfl)
    (hfew : ((backTo cpos (starEach [e] X.env)).all (fun x => !x.1) && (backToKw cpos (keywordEach [] X.env)).all (fun x => x.1.isSome)
      && decide ([e].length + ([] : List Keyword).length + (if ([] : List Keyword).isEmpty then 0 else 1) < 30)) = true := by rfl)
    (hline : (apos.endLine == cpos.line) = true := by rfl) (hs : starEach [e] X.env = (false, eval e X.env) :: starEach [] X.env := by rfl) : PEd X (.Call (.Attribute o "remove" apos) [e] [] cpos) (fMt mRemove fo ga) :=
  pe_weak (pe_bm PySem.F.plainAttrs_list PySem.F.slot_list_remove PySem.F.type_list_remove mt_remS ho ha hbase hfew hline hs) fun _ _ _ => td_mt om_remove
end
end RM

namespace GA
open PySem PySem.Spec PyProof.Rows L2 DL
/-- the value of a text, found -/
local macro_rules | `(tactic| array_get_dec) => `(tactic| first
  | (focus ((with_reducible (show deP _ _ = _)); exact rfl))
  | (focus ((with_reducible (show seqOf _ _ = _)); exact rfl))
  | (focus ((with_reducible (show truP _ = _)); exact rfl))
  | (focus ((with_reducible (show pIx _ _ = _)); exact rfl))
  | (focus ((with_reducible (show pKey _ = _)); exact rfl))
  | (focus ((with_reducible (show bLen _ = _)); exact rfl))
  | (focus ((with_reducible (show bInt _ = _)); exact rfl))
  | (focus ((with_reducible (show bList _ = _)); exact rfl))
  | (focus ((with_reducible (show pAdd (.int _) (.int _) = _)); exact rfl))
  | (focus ((with_reducible (show pSub (.int _) (.int _) = _)); exact rfl))
  | (focus ((with_reducible (show pLt (.int _) (.int _) = _)); exact rfl))
  | (focus ((with_reducible (show pLe (.int _) (.int _) = _)); exact rfl))
  | (focus ((with_reducible (show pGt (.int _) (.int _) = _)); exact rfl))
  | (focus ((with_reducible (show pGe (.int _) (.int _) = _)); exact rfl))
  | (focus ((with_reducible (show List.length _ = _)); exact rfl))
  | (focus ((with_reducible (show pSl _ _ _ = _)); exact rfl))
  | (focus ((with_reducible (show pIsN _ _ = _)); exact rfl))
  | (focus ((with_reducible (show pNotN _ _ = _)); exact rfl))
  | (focus ((with_reducible (show pNeg _ = _)); exact rfl))
  | (focus ((with_reducible (show setD _ _ _ _ = _)); exact rfl))
  | with_reducible exact rfl)
local macro_rules | `(tactic| array_get_dec) => `(tactic| first
  | (focus ((with_reducible show _ = _); with_reducible assumption))
  | (focus (with_reducible apply e_l2))
  | with_reducible exact o_eqN
  | with_reducible exact o_neN
  | with_reducible exact o_eqT
  | with_reducible exact o_neT
  | with_reducible exact o_eqT0
  | with_reducible exact o_neT0
  | with_reducible exact o_eqLs0
  | with_reducible exact o_neLs0
  | with_reducible exact o_inT
  | with_reducible exact o_inLs
  | with_reducible exact o_niT
  | with_reducible exact o_niLs
  | with_reducible exact o_eqI
  | with_reducible exact o_neI
  | with_reducible exact o_eqL (by decide +kernel)
  | with_reducible exact o_neL (by decide +kernel)
  | with_reducible exact o_inW (by decide +kernel)
  | with_reducible exact o_niW (by decide +kernel)
  | with_reducible exact o_in1 (by decide +kernel)
  | with_reducible exact o_in2 (by decide +kernel) (by decide +kernel)
  | with_reducible exact o_in3 (by decide +kernel) (by decide +kernel) (by decide +kernel)
  | with_reducible exact o_ni1 (by decide +kernel)
  | with_reducible exact o_ni2 (by decide +kernel) (by decide +kernel)
  | with_reducible exact o_addT1 (by first | omega | (simp; omega))
  | with_reducible exact o_addT (by first | omega | (simp; omega))
  | with_reducible exact o_addLs (by first | omega | (simp; omega))
  | with_reducible exact o_addTp (by first | omega | (simp; omega))
  | with_reducible exact o_tupleN
  | with_reducible exact o_tuple)
local macro_rules | `(tactic| array_get_dec) => `(tactic| first
  | with_reducible exact e_c
  | ((with_reducible apply e_var); (exact rfl))
  | with_reducible apply e_f2
  | with_reducible exact e_nil
  | with_reducible apply e_cons
  | with_reducible apply e_tup
  | with_reducible apply e_lst
  | with_reducible apply e_lstB
  | with_reducible apply e_cb
  | with_reducible apply e_cbB
  | with_reducible apply e_tru
  | with_reducible exact e_yes
  | with_reducible apply e_and
  | with_reducible apply e_or
  | with_reducible apply e_not
  | with_reducible apply e_iteB
  | with_reducible apply e_ite
  | with_reducible apply e_andV
  | with_reducible apply e_orV
  | with_reducible apply e_notV
  | with_reducible apply e_f1
  | with_reducible apply e_call
  | with_reducible apply e_callN
  | with_reducible apply e_sl
  | with_reducible exact e_oNo
  | with_reducible apply e_oAt
  | with_reducible apply e_iv
  | with_reducible apply e_lcA
  | with_reducible apply e_lc
  | with_reducible apply e_lcB
  | with_reducible apply e_rg
  | with_reducible apply e_rg2
  | ((with_reducible apply e_mt); (exact rfl); (exact rfl))
  | with_reducible exact e_gNm
  | with_reducible exact e_gNl
  | with_reducible apply e_gCn
  | (focus ((with_reducible (show gTp _ _ _ _ _ = _)); (apply e_gTp); (exact rfl)))
  | (with_reducible (intro _ _; apply e_body))
  | with_reducible exact v_nil
  | with_reducible apply v_cons
  | with_reducible exact a_nil
  | ((with_reducible apply a_cons); (first | exact deP_bx rfl | exact deP_bxD rfl | exact rfl))
  | with_reducible exact deP_bx rfl
  | with_reducible exact deP_bxD rfl
  | with_reducible exact own_none
  | with_reducible exact own_bx rfl
  | (focus (show _ ≤ (100000 : Nat); first | decide | omega | (simp; done) | (simp; omega)))
  | (focus (show _ < (100000 : Nat); first | omega | (simp; omega) | (refine Nat.lt_of_le_of_lt (List.length_filter_le _ _) ?_; omega)))
  | with_reducible exact o_app (by first | omega | (simp; omega))
  | with_reducible exact o_ext rfl (by first | omega | (simp; omega))
  | (with_reducible intro _))
/-- the running of a text over values that are found -/
local macro_rules | `(tactic| get_elem_tactic_extensible) => `(tactic| first
  | with_reducible refine s_Seq ?_
  | with_reducible refine s_Nx ?_
  | with_reducible apply e_closeT
  | ((with_reducible apply e_closeLT); (exact rfl))
  | with_reducible apply s_SetE
  | with_reducible apply s_DropE
  | with_reducible apply s_RetE
  | with_reducible apply s_IfE
  | with_reducible apply s_Par2
  | with_reducible apply s_ForE)

noncomputable def B_rows_by_step : FS :=
 (fRet (fDc (iVal (fVar 0)) (gNm 1) fYes (f2 pIx (fVar 1) (fC (.v (.int 0)))) (fVar 1) [1]))
noncomputable def F_rows_by_step : FF := runF 2 false B_rows_by_step
noncomputable def L_require_steps_0 : FS :=
 (fIf (fTru (f2 pNotIn (fVar 3) (fVar 2)))
   fNever
   fNext)
noncomputable def B_require_steps : FS :=
 (fSeq (fSet (fCall F_rows_by_step [] (fCons (fVar 0) fNil)) (gNm 2))
 (fFor (iVal (fVar 1)) (gNm 3) L_require_steps_0))
noncomputable def F_require_steps : FF := runF 4 false B_require_steps
noncomputable def B_reasons_in : FS :=
 (fSeq (fSet (fCall F_rows_by_step [] (fCons (fVar 0) fNil)) (gNm 3))
 (fSeq (fSet (f2 pIx (fVar 3) (fVar 2)) (gTp 4 (gCn (gNm 4) (gCn (gNm 5) (gCn (gNm 6) (gCn (gNm 7) gNl))))))
 (fSeq (fSet (fIte (fTru (f2 pIn (fC (.v (.str "undo"))) (fVar 7))) (fLstB fNil) (fLstB (fCons (fTup (fCons (fC (.v (.str "ability"))) fNil)) fNil))) (gNm 8))
 (fSeq (fDrop (fMt mExtend (fVar 8) (fCons (fLc (iVal (fVar 1)) (gNm 9) (fTru (f2 pIn (fVar 2) (f2 pIx (f2 pIx (fVar 3) (fVar 9)) (fC (.v (.int 1)))))) (fTup (fCons (fC (.v (.str "needed"))) (fCons (fVar 9) fNil))) [9]) fNil)))
 (fSeq (fDrop (fMt mExtend (fVar 8) (fCons (fLc (iVal (fVar 6)) (gNm 9) (fTru (f2 pIn (fVar 9) (fVar 1))) (fTup (fCons (fC (.v (.str "seal"))) (fCons (fVar 9) fNil))) [9]) fNil)))
 (fRet (fCb bTuple (fCons (fCb bSorted (fCons (fVar 8) fNil)) fNil))))))))
noncomputable def F_reasons_in : FF := runF 10 false B_reasons_in
noncomputable def B_free_steps : FS :=
 (fSeq (fDrop (fCall F_require_steps [] (fCons (fVar 0) (fCons (fVar 1) fNil))))
 (fRet (fCb bTuple (fCons (fLc (iVal (fVar 1)) (gNm 2) (fTru (f2 pEq (fCall F_reasons_in [] (fCons (fVar 0) (fCons (fVar 1) (fCons (fVar 2) fNil)))) (fTup fNil))) (fVar 2) [2]) fNil))))
noncomputable def F_free_steps : FF := runF 3 false B_free_steps
noncomputable def B_without : FS :=
 (fRet (fCb bTuple (fCons (fLc (iVal (fVar 0)) (gNm 2) (fTru (f2 pNe (fVar 2) (fVar 1))) (fVar 2) [2]) fNil)))
noncomputable def F_without : FF := runF 3 false B_without
noncomputable def L_removal_0 : FS :=
 (fSeq (fDrop (fMt mAppend (fVar 3) (fCons (f2 pIx (fVar 5) (fC (.v (.int 0)))) fNil)))
  (fSeq (fSet (fCall F_without [] (fCons (fVar 4) (fCons (f2 pIx (fVar 5) (fC (.v (.int 0)))) fNil))) (gNm 4))
  (fSet (fLc (iVal (fCall F_free_steps [] (fCons (fVar 0) (fCons (fVar 4) fNil)))) (gNm 6) (fTru (f2 pNotIn (fVar 6) (fVar 2))) (fVar 6) [6]) (gNm 5))))
noncomputable def B_removal : FS :=
 (fSeq (fPar 3 4 (fCons (fLstB fNil) (fCons (fVar 1) fNil)))
 (fSeq (fSet (fLc (iVal (fCall F_free_steps [] (fCons (fVar 0) (fCons (fVar 4) fNil)))) (gNm 6) (fTru (f2 pNotIn (fVar 6) (fVar 2))) (fVar 6) [6]) (gNm 5))
 (fSeq (fWhile (fTru (f2 pNe (fVar 5) (fLst fNil))) L_removal_0)
 (fRet (fTup (fCons (fCb bTuple (fCons (fVar 3) fNil)) (fCons (fVar 4) fNil)))))))
noncomputable def F_removal : FF := runF 7 false B_removal
noncomputable def B_core_of : FS :=
 (fSeq (fDrop (fCall F_require_steps [] (fCons (fVar 0) (fCons (fVar 1) fNil))))
 (fSeq (fDrop (fCall F_require_steps [] (fCons (fVar 0) (fCons (fVar 2) fNil))))
 (fSeq (fSet (fCall F_removal [] (fCons (fVar 0) (fCons (fVar 1) (fCons (fVar 2) fNil)))) (gTp 2 (gCn (gNm 3) (gCn (gNm 4) gNl))))
 (fRet (fVar 4)))))
noncomputable def F_core_of : FF := runF 5 false B_core_of
noncomputable def B_held_by : FS :=
 (fSeq (fDrop (fCall F_require_steps [] (fCons (fVar 0) (fCons (fVar 1) fNil))))
 (fSeq (fDrop (fCall F_require_steps [] (fCons (fVar 0) (fCons (fTup (fCons (fVar 2) fNil)) fNil))))
 (fRet (fIte (fTru (f2 pIn (fVar 2) (fVar 1))) (fCall F_reasons_in [] (fCons (fVar 0) (fCons (fVar 1) (fCons (fVar 2) fNil)))) (fTup fNil)))))
noncomputable def F_held_by : FF := runF 3 false B_held_by
/-- a row of a work -/
structure Rw where
  x : Nm
  ne : List Nm
  se : List Nm
  ab : List Nm
deriving DecidableEq
instance : Inhabited Rw := ⟨⟨default, [], [], []⟩⟩
abbrev rwP (r : Rw) : P := .tup [nP r.x, tN r.ne, tN r.se, tN r.ab]
abbrev wkP (rs : List Rw) : P := .tup (rs.map rwP)
def nm (rs : List Rw) : List Nm := rs.map (·.x)
structure WOk (rs : List Rw) : Prop where
  len : rs.length ≤ 500
  ne : ∀ r ∈ rs, r.ne.length ≤ 500
  se : ∀ r ∈ rs, r.se.length ≤ 500
  ab : ∀ r ∈ rs, r.ab.length ≤ 500
  nd : (nm rs).Nodup
abbrev dcP (rs : List Rw) : P := .dic (rs.map fun r => .inr r.x.s) (rs.map rwP)
def rowOf (rs : List Rw) (x : Nm) : Rw := (rs.find? fun q => decide (q.x = x)).getD default
theorem mem_nm {rs : List Rw} {x : Nm} : x ∈ nm rs ↔ ∃ r ∈ rs, r.x = x := by
  unfold nm
  rw [List.mem_map]
theorem rowOf_mem {rs : List Rw} {x : Nm} (h : x ∈ nm rs) : rowOf rs x ∈ rs ∧ (rowOf rs x).x = x := by
  obtain ⟨r, hr, rfl⟩ := mem_nm.mp h
  unfold rowOf
  cases e : rs.find? fun q => decide (q.x = r.x) with
  | none => exact absurd (List.find?_eq_none.mp e r hr) (by simp)
  | some q => exact ⟨List.mem_of_find?_eq_some e, by simpa using List.find?_some e⟩
theorem row_uniq {rs : List Rw} (hn : (nm rs).Nodup) {r q : Rw} (hr : r ∈ rs) (hq : q ∈ rs) (e : r.x = q.x) : r = q := by
  induction rs with
  | nil => cases hr
  | cons a rs ih =>
    obtain ⟨h1, h2⟩ := List.nodup_cons.mp (show (a.x :: nm rs).Nodup from hn)
    rcases List.mem_cons.mp hr with e1 | hr1
    · rcases List.mem_cons.mp hq with e2 | hq1
      · rw [e1, e2]
      · exact absurd (mem_nm.mpr ⟨q, hq1, by rw [← e, e1]⟩) h1
    · rcases List.mem_cons.mp hq with e2 | hq1
      · exact absurd (mem_nm.mpr ⟨r, hr1, by rw [e, e2]⟩) h1
      · exact ih h2 hr1 hq1
theorem rowOf_eq {rs : List Rw} (hn : (nm rs).Nodup) {r : Rw} (hr : r ∈ rs) : rowOf rs r.x = r := by
  have h := rowOf_mem (mem_nm.mpr ⟨r, hr, rfl⟩)
  exact row_uniq hn h.1 hr h.2
theorem look_find {rs : List Rw} {x : Nm} : look (rs.map fun r => (.inr r.x.s : Key)) (rs.map rwP) (.inr x.s) = (rs.find? fun q => decide (q.x = x)).map rwP := by
  unfold look
  induction rs with
  | nil => rfl
  | cons r rs ih =>
    simp only [List.map_cons, List.zip_cons_cons, List.find?_cons]
    have e : decide ((Sum.inr r.x.s : Key) = .inr x.s) = decide (r.x = x) := by
      simp only [Sum.inr.injEq, Nm.eq_iff]
    rw [e]
    cases hq : decide (r.x = x) with
    | true => simp
    | false => exact ih
theorem o_row {rs : List Rw} {x : Nm} (h : x ∈ nm rs) : pIx (dcP rs) (nP x) = some (rwP (rowOf rs x)) := by
  show look (rs.map fun r => (.inr r.x.s : Key)) (rs.map rwP) (.inr x.s) = _
  rw [look_find]
  obtain ⟨r, hr, rfl⟩ := mem_nm.mp h
  unfold rowOf
  cases e : rs.find? fun q => decide (q.x = r.x) with
  | none => exact absurd (List.find?_eq_none.mp e r hr) (by simp)
  | some q => rfl
theorem o_inD {rs : List Rw} {x : Nm} : pIn (nP x) (dcP rs) = some (.bl (decide (x ∈ nm rs))) := by
  have e : (look (rs.map fun r => (.inr r.x.s : Key)) (rs.map rwP) (.inr x.s)).isSome = decide (x ∈ nm rs) := by
    rw [look_find]
    refine boolE ?_
    rw [Option.isSome_map, List.find?_isSome, mem_nm]
    simp
  show some (P.bl (look _ _ _).isSome) = _
  rw [e]
theorem o_niD {rs : List Rw} {x : Nm} : pNotIn (nP x) (dcP rs) = some (.bl (!decide (x ∈ nm rs))) := notIn_of o_inD
theorem o_r0 {r : Rw} : pIx (rwP r) (.int 0) = some (nP r.x) := rfl
theorem o_r1 {r : Rw} : pIx (rwP r) (.int 1) = some (tN r.ne) := rfl
theorem o_r2 {r : Rw} : pIx (rwP r) (.int 2) = some (tN r.se) := rfl
theorem o_r3 {r : Rw} : pIx (rwP r) (.int 3) = some (tN r.ab) := rfl
local macro_rules | `(tactic| array_get_dec) => `(tactic| first
  | with_reducible exact o_inD
  | with_reducible exact o_niD
  | with_reducible exact o_row (by assumption)
  | with_reducible exact o_r0
  | with_reducible exact o_r1
  | with_reducible exact o_r2
  | with_reducible exact o_r3)
theorem rows_by {o : Ob} {T : Sto} {rs : List Rw} (h : WOk rs) : F_rows_by_step [.v (wkP rs)] (o :: T) = .ok (.v (dcP rs)) (o :: T) := by
  have hl := h.len
  have hn : ((rs.filter fun _ => true).map fun r => (.inr r.x.s : Key)).Nodup := by
    rw [filter_yes]
    have := h.nd
    unfold nm at this
    have h2 : ((rs.map (·.x)).map fun x : Nm => (.inr x.s : Key)).Nodup := List.Pairwise.map _ (fun a b h e => h (Nm.inj (Sum.inr.inj e))) this
    rw [List.map_map] at h2
    exact h2
  refine e_run ?_
  show (B_rows_by_step [some (.v (wkP rs)), none] _).F _
  unfold B_rows_by_step
  refine s_RetE (S1 := o :: (T ++ [])) (e_dc (xs := rs) (f := rwP) (q := fun _ => true) (kp := fun r => nP r.x) (kk := fun r => .inr r.x.s) (hh := rwP) (own := none) ?_ own_none (by omega) ?_ hn) ?_
  · repeat' array_get_dec
  · intro r hr
    apply e_bodyD
    repeat' array_get_dec
  · rw [filter_yes]
    exact e_close
local macro_rules | `(tactic| array_get_dec) => `(tactic| (focus ((with_reducible (show F_rows_by_step _ _ = _)); exact rows_by (by assumption))))
theorem require {o : Ob} {T : Sto} {rs : List Rw} {ms : List Nm} (h : WOk rs) (hm : ∀ m ∈ ms, m ∈ nm rs) : F_require_steps [.v (wkP rs), .v (tN ms)] (o :: T) = .ok (.v .non) (o :: T) := by
  refine e_run ?_
  show (B_require_steps [some (.v (wkP rs)), some (.v (tN ms)), none, none] _).F _
  unfold B_require_steps
  repeat' (first | get_elem_tactic_extensible | array_get_dec)
  refine s_Loop (fun i env S => ∃ e3 : Option D, env = [some (.v (wkP rs)), some (.v (tN ms)), some (.v (dcP rs)), e3] ∧ S = o :: (T ++ [])) ⟨none, rfl, rfl⟩ (fun _ _ _ _ => own_none) ?_ ?_
  · rintro i p env S hi ⟨e3, rfl, rfl⟩
    have hi' : (ms.map nP)[i]? = some p := hi
    rw [List.getElem?_map] at hi'
    obtain ⟨x, hx, rfl⟩ := Option.map_eq_some_iff.mp hi'
    have hxm := hm x (List.mem_of_getElem? hx)
    refine P_of e_gNm ?_
    unfold L_require_steps_0
    refine s_IfE (k := !decide (x ∈ nm rs)) (by repeat' array_get_dec) (fun z => ?_) fun _ => ⟨_, rfl, rfl⟩
    simp [hxm] at z
  · rintro env S ⟨e3, rfl, rfl⟩
    exact e_close
end GA

namespace GA
open PySem PySem.Spec PyProof.Rows L2 DL
/-- the value of a text, found -/
local macro_rules | `(tactic| array_get_dec) => `(tactic| first
  | (focus ((with_reducible (show deP _ _ = _)); exact rfl))
  | (focus ((with_reducible (show seqOf _ _ = _)); exact rfl))
  | (focus ((with_reducible (show truP _ = _)); exact rfl))
  | (focus ((with_reducible (show pIx _ _ = _)); exact rfl))
  | (focus ((with_reducible (show pKey _ = _)); exact rfl))
  | (focus ((with_reducible (show bLen _ = _)); exact rfl))
  | (focus ((with_reducible (show bInt _ = _)); exact rfl))
  | (focus ((with_reducible (show bList _ = _)); exact rfl))
  | (focus ((with_reducible (show pAdd (.int _) (.int _) = _)); exact rfl))
  | (focus ((with_reducible (show pSub (.int _) (.int _) = _)); exact rfl))
  | (focus ((with_reducible (show pLt (.int _) (.int _) = _)); exact rfl))
  | (focus ((with_reducible (show pLe (.int _) (.int _) = _)); exact rfl))
  | (focus ((with_reducible (show pGt (.int _) (.int _) = _)); exact rfl))
  | (focus ((with_reducible (show pGe (.int _) (.int _) = _)); exact rfl))
  | (focus ((with_reducible (show List.length _ = _)); exact rfl))
  | (focus ((with_reducible (show pSl _ _ _ = _)); exact rfl))
  | (focus ((with_reducible (show pIsN _ _ = _)); exact rfl))
  | (focus ((with_reducible (show pNotN _ _ = _)); exact rfl))
  | (focus ((with_reducible (show pNeg _ = _)); exact rfl))
  | (focus ((with_reducible (show setD _ _ _ _ = _)); exact rfl))
  | with_reducible exact rfl)
local macro_rules | `(tactic| array_get_dec) => `(tactic| first
  | (focus ((with_reducible show _ = _); with_reducible assumption))
  | (focus (with_reducible apply e_l2))
  | with_reducible exact o_eqN
  | with_reducible exact o_neN
  | with_reducible exact o_eqT
  | with_reducible exact o_neT
  | with_reducible exact o_eqT0
  | with_reducible exact o_neT0
  | with_reducible exact o_eqLs0
  | with_reducible exact o_neLs0
  | with_reducible exact o_inT
  | with_reducible exact o_inLs
  | with_reducible exact o_niT
  | with_reducible exact o_niLs
  | with_reducible exact o_eqI
  | with_reducible exact o_neI
  | with_reducible exact o_eqL (by decide +kernel)
  | with_reducible exact o_neL (by decide +kernel)
  | with_reducible exact o_inW (by decide +kernel)
  | with_reducible exact o_niW (by decide +kernel)
  | with_reducible exact o_in1 (by decide +kernel)
  | with_reducible exact o_in2 (by decide +kernel) (by decide +kernel)
  | with_reducible exact o_in3 (by decide +kernel) (by decide +kernel) (by decide +kernel)
  | with_reducible exact o_ni1 (by decide +kernel)
  | with_reducible exact o_ni2 (by decide +kernel) (by decide +kernel)
  | with_reducible exact o_addT1 (by first | omega | (simp; omega))
  | with_reducible exact o_addT (by first | omega | (simp; omega))
  | with_reducible exact o_addLs (by first | omega | (simp; omega))
  | with_reducible exact o_addTp (by first | omega | (simp; omega))
  | with_reducible exact o_tupleN
  | with_reducible exact o_tuple)
local macro_rules | `(tactic| array_get_dec) => `(tactic| first
  | with_reducible exact e_c
  | ((with_reducible apply e_var); (exact rfl))
  | with_reducible apply e_f2
  | with_reducible exact e_nil
  | with_reducible apply e_cons
  | with_reducible apply e_tup
  | with_reducible apply e_lst
  | with_reducible apply e_lstB
  | with_reducible apply e_cb
  | with_reducible apply e_cbB
  | with_reducible apply e_tru
  | with_reducible exact e_yes
  | with_reducible apply e_and
  | with_reducible apply e_or
  | with_reducible apply e_not
  | with_reducible apply e_iteB
  | with_reducible apply e_ite
  | with_reducible apply e_andV
  | with_reducible apply e_orV
  | with_reducible apply e_notV
  | with_reducible apply e_f1
  | with_reducible apply e_call
  | with_reducible apply e_callN
  | with_reducible apply e_sl
  | with_reducible exact e_oNo
  | with_reducible apply e_oAt
  | with_reducible apply e_iv
  | with_reducible apply e_lcA
  | with_reducible apply e_lc
  | with_reducible apply e_lcB
  | with_reducible apply e_rg
  | with_reducible apply e_rg2
  | ((with_reducible apply e_mt); (exact rfl); (exact rfl))
  | with_reducible exact e_gNm
  | with_reducible exact e_gNl
  | with_reducible apply e_gCn
  | (focus ((with_reducible (show gTp _ _ _ _ _ = _)); (apply e_gTp); (exact rfl)))
  | (with_reducible (intro _ _; apply e_body))
  | with_reducible exact v_nil
  | with_reducible apply v_cons
  | with_reducible exact a_nil
  | ((with_reducible apply a_cons); (first | exact deP_bx rfl | exact deP_bxD rfl | exact rfl))
  | with_reducible exact deP_bx rfl
  | with_reducible exact deP_bxD rfl
  | with_reducible exact own_none
  | with_reducible exact own_bx rfl
  | (focus (show _ ≤ (100000 : Nat); first | decide | omega | (simp; done) | (simp; omega)))
  | (focus (show _ < (100000 : Nat); first | omega | (simp; omega) | (refine Nat.lt_of_le_of_lt (List.length_filter_le _ _) ?_; omega)))
  | with_reducible exact o_app (by first | omega | (simp; omega))
  | with_reducible exact o_ext rfl (by first | omega | (simp; omega))
  | (with_reducible intro _))
/-- the running of a text over values that are found -/
local macro_rules | `(tactic| get_elem_tactic_extensible) => `(tactic| first
  | with_reducible refine s_Seq ?_
  | with_reducible refine s_Nx ?_
  | with_reducible apply e_closeT
  | ((with_reducible apply e_closeLT); (exact rfl))
  | with_reducible apply s_SetE
  | with_reducible apply s_DropE
  | with_reducible apply s_RetE
  | with_reducible apply s_IfE
  | with_reducible apply s_Par2
  | with_reducible apply s_ForE)

local macro_rules | `(tactic| array_get_dec) => `(tactic| first
  | with_reducible exact o_inD
  | with_reducible exact o_niD
  | with_reducible exact o_row (by first | assumption | solve_by_elim)
  | with_reducible exact o_r0
  | with_reducible exact o_r1
  | with_reducible exact o_r2
  | with_reducible exact o_r3
  | (focus ((with_reducible (show F_rows_by_step _ _ = _)); exact rows_by (by assumption)))
  | (focus ((with_reducible (show F_require_steps _ _ = _)); exact require (by assumption) (by assumption))))
/-- why a step is held -/
inductive Rs where
  | ab
  | nd (x : Nm)
  | sl (x : Nm)
deriving DecidableEq
def rsS : Rs → List Str
  | .ab => ["ability"]
  | .nd x => ["needed", x.s]
  | .sl x => ["seal", x.s]
abbrev rsP (r : Rs) : P := stP (rsS r)
theorem rsS_inj {a b : Rs} (h : rsS a = rsS b) : a = b := by
  have h1 : ("needed" : Str) ≠ "seal" := by decide +kernel
  cases a <;> cases b <;> simp [rsS] at h ⊢
  · exact Nm.inj h
  · exact absurd h.1 h1
  · exact absurd h.1.symm h1
  · exact Nm.inj h
theorem rsS_ok (r : Rs) : rsS r ≠ [] ∧ (rsS r).length ≤ 2 ∧ ∀ x ∈ rsS r, OkS x := by
  have h1 : OkS "ability" ∧ OkS "needed" ∧ OkS "seal" := by
    have : ∀ x ∈ (["ability", "needed", "seal"] : List Str), PyData.strOk x = true ∧ PyData.strOk (reprText x) = true ∧ (reprText x).length ≤ 20 := by decide +kernel
    exact ⟨this _ (by simp), this _ (by simp), this _ (by simp)⟩
  cases r with
  | ab => exact ⟨by simp [rsS], by simp [rsS], by simpa [rsS] using h1.1⟩
  | nd x => exact ⟨by simp [rsS], by simp [rsS], by simpa [rsS] using ⟨h1.2.1, x.ok⟩⟩
  | sl x => exact ⟨by simp [rsS], by simp [rsS], by simpa [rsS] using ⟨h1.2.2, x.ok⟩⟩
def abil (r : Rw) : List Rs := if has "undo" r.ab = true then [] else [.ab]
def raw (rs : List Rw) (ms : List Nm) (x : Nm) : List Rs := abil (rowOf rs x) ++ (ms.filter fun m => decide (x ∈ (rowOf rs m).ne)).map .nd ++ ((rowOf rs x).se.filter fun y => decide (y ∈ ms)).map .sl
noncomputable def RS (rs : List Rw) (ms : List Nm) (x : Nm) : List P := srt ((raw rs ms x).map rsP)
theorem srt_rs {l : List Rs} (hl : l.length ≤ 100000) : bSorted [.lst (l.map rsP)] = some (.lst (srt (l.map rsP))) := by
  have := sorted_st (xss := l.map rsS) (fun xs hx x hxx => by
    obtain ⟨r, _, rfl⟩ := List.mem_map.mp hx
    exact ((rsS_ok r).2.2 x hxx).1) (fun xs hx => by
    obtain ⟨r, _, rfl⟩ := List.mem_map.mp hx
    exact (rsS_ok r).1) (by simpa using hl)
  rw [List.map_map] at this
  exact this
theorem srt_rs_perm {l k : List Rs} (h : l.Perm k) : srt (l.map rsP) = srt (k.map rsP) := by
  refine srt_eq (h.map rsP) ?_
  have := cmp_st (xss := l.map rsS) fun xs hx x hxx => by
    obtain ⟨r, _, rfl⟩ := List.mem_map.mp hx
    exact ((rsS_ok r).2.2 x hxx).1
  rw [List.map_map] at this
  exact this
theorem srt_nil {ps : List P} : srt ps = [] ↔ ps = [] := by
  rw [← List.length_eq_zero_iff, (srt_perm ps).length_eq, List.length_eq_zero_iff]
structure MOk (rs : List Rw) (ms : List Nm) : Prop where
  sub : ∀ m ∈ ms, m ∈ nm rs
  nd : ms.Nodup
theorem MOk.len {rs : List Rw} {ms : List Nm} (h : WOk rs) (hm : MOk rs ms) : ms.length ≤ 500 := by
  have h1 : ms.length ≤ (nm rs).length := hm.nd.length_le_of_subset hm.sub
  unfold nm at h1
  rw [List.length_map] at h1
  have := h.len
  omega
theorem MOk.filter {rs : List Rw} {ms : List Nm} (hm : MOk rs ms) (q : Nm → Bool) : MOk rs (ms.filter q) := ⟨fun m h => hm.sub m (List.mem_filter.mp h).1, hm.nd.sublist List.filter_sublist⟩
theorem MOk.subl {rs : List Rw} {ms xs : List Nm} (hm : MOk rs ms) (h : xs.Sublist ms) : MOk rs xs := ⟨fun m k => hm.sub m (h.subset k), hm.nd.sublist h⟩
theorem raw_len {rs : List Rw} {ms : List Nm} {x : Nm} (h : WOk rs) (hm : ms.length ≤ 1000) (hx : x ∈ nm rs) : (raw rs ms x).length ≤ 2000 := by
  have h1 := List.length_filter_le (fun m => decide (x ∈ (rowOf rs m).ne)) ms
  have h2 := List.length_filter_le (fun y => decide (y ∈ ms)) (rowOf rs x).se
  have h3 := h.se _ (rowOf_mem hx).1
  have h5 : (abil (rowOf rs x)).length ≤ 1 := by
    unfold abil
    split <;> simp
  unfold raw
  simp only [List.length_append, List.length_map]
  omega
theorem reasons_in {o : Ob} {T : Sto} {rs : List Rw} {ms : List Nm} {x : Nm} (h : WOk rs) (hl : ms.length ≤ 1000) (hm : ∀ m ∈ ms, m ∈ nm rs) (hx : x ∈ nm rs) : F_reasons_in [.v (wkP rs), .v (tN ms), .v (nP x)] (o :: T) = .ok (.v (.tup (RS rs ms x))) (o :: T) := by
  have hsl := h.se _ (rowOf_mem hx).1
  have hrl := raw_len h hl hx
  have h1 := List.length_filter_le (fun m => decide (x ∈ (rowOf rs m).ne)) ms
  have h2 := List.length_filter_le (fun y => decide (y ∈ ms)) (rowOf rs x).se
  have e1 : (if has "undo" (rowOf rs x).ab = true then ([] : List P) else [.tup [.str "ability"]]) = (abil (rowOf rs x)).map rsP := by
    unfold abil
    split <;> rfl
  have h5 : (abil (rowOf rs x)).length ≤ 1 := by
    unfold abil
    split <;> simp
  refine e_run ?_
  show (B_reasons_in [some (.v (wkP rs)), some (.v (tN ms)), some (.v (nP x)), none, none, none, none, none, none, none] _).F _
  unfold B_reasons_in
  refine s_Seq (s_SetE (rows_by h) e_gNm ?_)
  refine s_Seq (s_SetE (d := .v (rwP (rowOf rs x))) (by repeat' array_get_dec) (by repeat' array_get_dec) ?_)
  refine s_Seq (s_SetE (S1 := o :: (T ++ ([] ++ [.lst ((abil (rowOf rs x)).map rsP)]))) (d := .r (bx T 0)) (e1 ▸ e_iteB (ps := []) (qs := [.tup [.str "ability"]]) (by repeat' array_get_dec) (fun _ => by repeat' array_get_dec) (fun _ => by repeat' array_get_dec)) e_gNm ?_)
  repeat' (first | get_elem_tactic_extensible | array_get_dec)
  · refine (congrArg (fun l => bSorted [P.lst l]) ?_).trans (srt_rs (l := raw rs ms x) (by omega))
    unfold raw
    rw [List.map_append, List.map_append, List.map_map, List.map_map]
    rfl
  exact o_tuple
local macro_rules | `(tactic| array_get_dec) => `(tactic| first
  | (focus ((with_reducible (show F_reasons_in _ _ = _)); exact reasons_in (by assumption) (by first | assumption | omega) (by assumption) (by first | assumption | solve_by_elim))))
noncomputable def HB (rs : List Rw) (ms : List Nm) (x : Nm) : P := if decide (x ∈ ms) = true then .tup (RS rs ms x) else .tup []
theorem held_by {o : Ob} {T : Sto} {rs : List Rw} {ms : List Nm} {x : Nm} (h : WOk rs) (hl : ms.length ≤ 1000) (hm : ∀ m ∈ ms, m ∈ nm rs) (hx : x ∈ nm rs) : F_held_by [.v (wkP rs), .v (tN ms), .v (nP x)] (o :: T) = .ok (.v (HB rs ms x)) (o :: T) := by
  refine e_run ?_
  show (B_held_by [some (.v (wkP rs)), some (.v (tN ms)), some (.v (nP x))] _).F _
  unfold B_held_by
  refine s_Seq (s_DropE (e_call (e_cons (e_var rfl) (e_cons (e_var rfl) e_nil)) (require h hm)) ?_)
  refine s_Seq (s_DropE (S1 := o :: (T ++ [])) (d := .v .non) (e_call (ds := [.v (wkP rs), .v (tN [x])]) (by repeat' (first | array_get_dec | exact rfl)) (require (ms := [x]) h (by simpa using hx))) ?_)
  repeat' (first | get_elem_tactic_extensible | array_get_dec)
def free (rs : List Rw) (ms : List Nm) : List Nm := ms.filter fun m => decide (raw rs ms m = [])
theorem RS_nil {rs : List Rw} {ms : List Nm} {x : Nm} : RS rs ms x = [] ↔ raw rs ms x = [] := by
  unfold RS
  rw [srt_nil, List.map_eq_nil_iff]
theorem RS_pl {rs : List Rw} {ms : List Nm} {x : Nm} : ∀ q ∈ RS rs ms x, Pl 1 q := fun q hq => by
  obtain ⟨r, _, rfl⟩ := List.mem_map.mp ((srt_perm _).mem_iff.mp hq)
  exact pl_st fun y hy => ((rsS_ok r).2.2 y hy).1
theorem o_eqR {rs : List Rw} {ms : List Nm} {x : Nm} : pEq (.tup (RS rs ms x)) (.tup []) = some (.bl (decide (raw rs ms x = []))) := eqP (pl_tup RS_pl) (pl_tup (n := 0) (ps := []) (by simp)) (by rw [P.tup.injEq, RS_nil])
theorem free_steps {o : Ob} {T : Sto} {rs : List Rw} {ms : List Nm} (h : WOk rs) (hl : ms.length ≤ 1000) (hm : ∀ m ∈ ms, m ∈ nm rs) : F_free_steps [.v (wkP rs), .v (tN ms)] (o :: T) = .ok (.v (tN (free rs ms))) (o :: T) := by
  refine e_run ?_
  show (B_free_steps [some (.v (wkP rs)), some (.v (tN ms)), none] _).F _
  unfold B_free_steps
  have e := fun x : Nm => @o_eqR rs ms x
  repeat' (first | get_elem_tactic_extensible | array_get_dec | exact e _)
theorem without {o : Ob} {T : Sto} {xs : List Nm} {x : Nm} (hl : xs.length ≤ 1000) : F_without [.v (tN xs), .v (nP x)] (o :: T) = .ok (.v (tN (xs.filter fun y => !decide (y = x)))) (o :: T) := by
  refine e_run ?_
  show (B_without [some (.v (tN xs)), some (.v (nP x)), none] _).F _
  unfold B_without
  repeat' (first | get_elem_tactic_extensible | array_get_dec)
end GA

namespace GA
open PySem PySem.Spec PyProof.Rows L2 DL
/-- the value of a text, found -/
local macro_rules | `(tactic| array_get_dec) => `(tactic| first
  | (focus ((with_reducible (show deP _ _ = _)); exact rfl))
  | (focus ((with_reducible (show seqOf _ _ = _)); exact rfl))
  | (focus ((with_reducible (show truP _ = _)); exact rfl))
  | (focus ((with_reducible (show pIx _ _ = _)); exact rfl))
  | (focus ((with_reducible (show pKey _ = _)); exact rfl))
  | (focus ((with_reducible (show bLen _ = _)); exact rfl))
  | (focus ((with_reducible (show bInt _ = _)); exact rfl))
  | (focus ((with_reducible (show bList _ = _)); exact rfl))
  | (focus ((with_reducible (show pAdd (.int _) (.int _) = _)); exact rfl))
  | (focus ((with_reducible (show pSub (.int _) (.int _) = _)); exact rfl))
  | (focus ((with_reducible (show pLt (.int _) (.int _) = _)); exact rfl))
  | (focus ((with_reducible (show pLe (.int _) (.int _) = _)); exact rfl))
  | (focus ((with_reducible (show pGt (.int _) (.int _) = _)); exact rfl))
  | (focus ((with_reducible (show pGe (.int _) (.int _) = _)); exact rfl))
  | (focus ((with_reducible (show List.length _ = _)); exact rfl))
  | (focus ((with_reducible (show pSl _ _ _ = _)); exact rfl))
  | (focus ((with_reducible (show pIsN _ _ = _)); exact rfl))
  | (focus ((with_reducible (show pNotN _ _ = _)); exact rfl))
  | (focus ((with_reducible (show pNeg _ = _)); exact rfl))
  | (focus ((with_reducible (show setD _ _ _ _ = _)); exact rfl))
  | with_reducible exact rfl)
local macro_rules | `(tactic| array_get_dec) => `(tactic| first
  | (focus ((with_reducible show _ = _); with_reducible assumption))
  | (focus (with_reducible apply e_l2))
  | with_reducible exact o_eqN
  | with_reducible exact o_neN
  | with_reducible exact o_eqT
  | with_reducible exact o_neT
  | with_reducible exact o_eqT0
  | with_reducible exact o_neT0
  | with_reducible exact o_eqLs0
  | with_reducible exact o_neLs0
  | with_reducible exact o_inT
  | with_reducible exact o_inLs
  | with_reducible exact o_niT
  | with_reducible exact o_niLs
  | with_reducible exact o_eqI
  | with_reducible exact o_neI
  | with_reducible exact o_eqL (by decide +kernel)
  | with_reducible exact o_neL (by decide +kernel)
  | with_reducible exact o_inW (by decide +kernel)
  | with_reducible exact o_niW (by decide +kernel)
  | with_reducible exact o_in1 (by decide +kernel)
  | with_reducible exact o_in2 (by decide +kernel) (by decide +kernel)
  | with_reducible exact o_in3 (by decide +kernel) (by decide +kernel) (by decide +kernel)
  | with_reducible exact o_ni1 (by decide +kernel)
  | with_reducible exact o_ni2 (by decide +kernel) (by decide +kernel)
  | with_reducible exact o_addT1 (by first | omega | (simp; omega))
  | with_reducible exact o_addT (by first | omega | (simp; omega))
  | with_reducible exact o_addLs (by first | omega | (simp; omega))
  | with_reducible exact o_addTp (by first | omega | (simp; omega))
  | with_reducible exact o_tupleN
  | with_reducible exact o_tuple)
local macro_rules | `(tactic| array_get_dec) => `(tactic| first
  | with_reducible exact e_c
  | ((with_reducible apply e_var); (exact rfl))
  | with_reducible apply e_f2
  | with_reducible exact e_nil
  | with_reducible apply e_cons
  | with_reducible apply e_tup
  | with_reducible apply e_lst
  | with_reducible apply e_lstB
  | with_reducible apply e_cb
  | with_reducible apply e_cbB
  | with_reducible apply e_tru
  | with_reducible exact e_yes
  | with_reducible apply e_and
  | with_reducible apply e_or
  | with_reducible apply e_not
  | with_reducible apply e_iteB
  | with_reducible apply e_ite
  | with_reducible apply e_andV
  | with_reducible apply e_orV
  | with_reducible apply e_notV
  | with_reducible apply e_f1
  | with_reducible apply e_call
  | with_reducible apply e_callN
  | with_reducible apply e_sl
  | with_reducible exact e_oNo
  | with_reducible apply e_oAt
  | with_reducible apply e_iv
  | with_reducible apply e_lcA
  | with_reducible apply e_lc
  | with_reducible apply e_lcB
  | with_reducible apply e_rg
  | with_reducible apply e_rg2
  | ((with_reducible apply e_mt); (exact rfl); (exact rfl))
  | with_reducible exact e_gNm
  | with_reducible exact e_gNl
  | with_reducible apply e_gCn
  | (focus ((with_reducible (show gTp _ _ _ _ _ = _)); (apply e_gTp); (exact rfl)))
  | (with_reducible (intro _ _; apply e_body))
  | with_reducible exact v_nil
  | with_reducible apply v_cons
  | with_reducible exact a_nil
  | ((with_reducible apply a_cons); (first | exact deP_bx rfl | exact deP_bxD rfl | exact rfl))
  | with_reducible exact deP_bx rfl
  | with_reducible exact deP_bxD rfl
  | with_reducible exact own_none
  | with_reducible exact own_bx rfl
  | (focus (show _ ≤ (100000 : Nat); first | decide | omega | (simp; done) | (simp; omega)))
  | (focus (show _ < (100000 : Nat); first | omega | (simp; omega) | (refine Nat.lt_of_le_of_lt (List.length_filter_le _ _) ?_; omega)))
  | with_reducible exact o_app (by first | omega | (simp; omega))
  | with_reducible exact o_ext rfl (by first | omega | (simp; omega))
  | (with_reducible intro _))
/-- the running of a text over values that are found -/
local macro_rules | `(tactic| get_elem_tactic_extensible) => `(tactic| first
  | with_reducible refine s_Seq ?_
  | with_reducible refine s_Nx ?_
  | with_reducible apply e_closeT
  | ((with_reducible apply e_closeLT); (exact rfl))
  | with_reducible apply s_SetE
  | with_reducible apply s_DropE
  | with_reducible apply s_RetE
  | with_reducible apply s_IfE
  | with_reducible apply s_Par2
  | with_reducible apply s_ForE)

local macro_rules | `(tactic| array_get_dec) => `(tactic| first
  | with_reducible exact o_inD
  | with_reducible exact o_niD
  | with_reducible exact o_row (by first | assumption | solve_by_elim)
  | with_reducible exact o_r0
  | with_reducible exact o_r1
  | with_reducible exact o_r2
  | with_reducible exact o_r3
  | (focus ((with_reducible (show F_rows_by_step _ _ = _)); exact rows_by (by assumption)))
  | (focus ((with_reducible (show F_require_steps _ _ = _)); exact require (by assumption) (by assumption)))
  | (focus ((with_reducible (show F_free_steps _ _ = _)); exact free_steps (by assumption) (by first | assumption | omega) (by assumption)))
  | (focus ((with_reducible (show F_without _ _ = _)); exact without (by first | assumption | omega))))
/-! ### the core -/
theorem free_iff {rs : List Rw} {ms : List Nm} {x : Nm} : raw rs ms x = [] ↔ has "undo" (rowOf rs x).ab = true ∧ (∀ m ∈ ms, x ∉ (rowOf rs m).ne) ∧ ∀ y ∈ (rowOf rs x).se, y ∉ ms := by
  unfold raw
  rw [List.append_eq_nil_iff, List.append_eq_nil_iff, List.map_eq_nil_iff, List.map_eq_nil_iff, List.filter_eq_nil_iff, List.filter_eq_nil_iff, and_assoc]
  simp only [decide_eq_true_eq]
  have : abil (rowOf rs x) = [] ↔ has "undo" (rowOf rs x).ab = true := by
    unfold abil
    split
    · rename_i h
      simp [h]
    · rename_i h
      simp [h]
  rw [this]
theorem raw_mono {rs : List Rw} {L M : List Nm} {x : Nm} (h : ∀ m ∈ M, m ∈ L) (hr : raw rs M x ≠ []) : raw rs L x ≠ [] := fun e => hr (by
  rw [free_iff] at e ⊢
  exact ⟨e.1, fun m hm => e.2.1 m (h m hm), fun y hy hm => e.2.2 y hy (h y hm)⟩)
theorem raw_iff {rs : List Rw} {L M : List Nm} {x : Nm} (h : ∀ m, m ∈ M ↔ m ∈ L) : raw rs M x = [] ↔ raw rs L x = [] := by
  rw [free_iff, free_iff]
  simp only [h]
/-- every step is kept or has a reason -/
def Stable (rs : List Rw) (kept L : List Nm) : Prop := ∀ m ∈ L, m ∈ kept ∨ raw rs L m ≠ []
/-- what belongs to some stable part -/
def InCore (rs : List Rw) (kept ms : List Nm) (m : Nm) : Prop := ∃ M : List Nm, (∀ x ∈ M, x ∈ ms) ∧ Stable rs kept M ∧ m ∈ M
open Classical in
noncomputable def core (rs : List Rw) (kept ms : List Nm) : List Nm := ms.filter fun m => decide (InCore rs kept ms m)
theorem mem_core {rs : List Rw} {kept ms : List Nm} {m : Nm} : m ∈ core rs kept ms ↔ InCore rs kept ms m := by
  unfold core
  simp only [List.mem_filter, decide_eq_true_eq]
  exact ⟨fun h => h.2, fun h => ⟨by obtain ⟨M, h1, _, h3⟩ := h; exact h1 _ h3, h⟩⟩
theorem core_sub {rs : List Rw} {kept ms : List Nm} : (core rs kept ms).Sublist ms := List.filter_sublist
theorem core_stable {rs : List Rw} {kept ms : List Nm} : Stable rs kept (core rs kept ms) := fun m hm => by
  obtain ⟨M, h1, h2, h3⟩ := mem_core.mp hm
  rcases h2 m h3 with h | h
  · exact .inl h
  · exact .inr (raw_mono (fun x hx => mem_core.mpr ⟨M, h1, h2, hx⟩) h)
theorem core_max {rs : List Rw} {kept ms M : List Nm} (h : ∀ x ∈ M, x ∈ ms) (hs : Stable rs kept M) : ∀ m ∈ M, m ∈ core rs kept ms := fun m hm => mem_core.mpr ⟨M, h, hs, hm⟩
theorem sub_eq {A ms : List Nm} (h : A.Sublist ms) (hn : ms.Nodup) : A = ms.filter fun m => decide (m ∈ A) := by
  induction h with
  | slnil => rfl
  | @cons l₁ l₂ a h ih =>
    obtain ⟨h1, h2⟩ := List.nodup_cons.mp hn
    rw [List.filter_cons, if_neg (by
      rw [decide_eq_true_eq]
      exact fun z => h1 (h.subset z))]
    exact ih h2
  | @cons_cons l₁ l₂ a h ih =>
    obtain ⟨h1, h2⟩ := List.nodup_cons.mp hn
    rw [List.filter_cons, if_pos (by simp)]
    congr 1
    refine (ih h2).trans (List.filter_congr fun m hm => ?_)
    have hne : m ≠ a := fun e => h1 (e ▸ hm)
    simp [hne]
theorem sub_uniq {A B ms : List Nm} (ha : A.Sublist ms) (hb : B.Sublist ms) (hn : ms.Nodup) (h : ∀ m, m ∈ A ↔ m ∈ B) : A = B := by
  rw [sub_eq ha hn, sub_eq hb hn]
  exact List.filter_congr fun m _ => by simp [h]
theorem core_is {rs : List Rw} {kept ms L : List Nm} (hn : ms.Nodup) (h1 : L.Sublist ms) (h2 : Stable rs kept L) (h3 : ∀ m, InCore rs kept ms m → m ∈ L) : L = core rs kept ms :=
  sub_uniq h1 core_sub hn fun m => ⟨core_max (fun x hx => h1.subset hx) h2 m, fun hm => h3 m (mem_core.mp hm)⟩
/-- a step that is free and not kept is no member of a stable part -/
theorem free_out {rs : List Rw} {kept L M : List Nm} (hs : Stable rs kept M) (hM : ∀ m ∈ M, m ∈ L) {x : Nm} (hk : x ∉ kept) (hf : raw rs L x = []) : x ∉ M := fun hm => by
  rcases hs x hm with h | h
  · exact hk h
  · exact raw_mono hM h hf
def fr (rs : List Rw) (kept L : List Nm) : List Nm := (free rs L).filter fun m => !decide (m ∈ kept)
theorem mem_fr {rs : List Rw} {kept L : List Nm} {x : Nm} : x ∈ fr rs kept L ↔ x ∈ L ∧ raw rs L x = [] ∧ x ∉ kept := by
  unfold fr free
  rw [List.mem_filter, List.mem_filter]
  simp [and_assoc]
theorem fr_sub {rs : List Rw} {kept L : List Nm} : (fr rs kept L).Sublist L := List.filter_sublist.trans List.filter_sublist
abbrev wo (L : List Nm) (x : Nm) : List Nm := L.filter fun y => !decide (y = x)
theorem mem_wo {L : List Nm} {x y : Nm} : y ∈ wo L x ↔ y ∈ L ∧ y ≠ x := by simp [wo]
theorem wo_len {L : List Nm} {x : Nm} (hn : L.Nodup) (hx : x ∈ L) : (wo L x).length + 1 = L.length := by
  have h1 : (wo L x) = L.erase x := by
    rw [hn.erase_eq_filter]
    exact List.filter_congr fun y _ => rfl
  rw [h1, List.length_erase_of_mem hx]
  have := List.length_pos_of_mem hx
  omega
/-- the order that takes the first free step each time -/
def ordF (rs : List Rw) (kept : List Nm) : Nat → List Nm → List Nm
  | 0, _ => []
  | n + 1, L => match fr rs kept L with
    | [] => []
    | x :: _ => x :: ordF rs kept n (wo L x)
def ord (rs : List Rw) (kept ms : List Nm) : List Nm := ordF rs kept ms.length ms
theorem removal {o0 : Ob} {T : Sto} {rs : List Rw} {ms kept : List Nm} (h : WOk rs) (hm : MOk rs ms) : F_removal [.v (wkP rs), .v (tN ms), .v (tN kept)] (o0 :: T) = .ok (.v (.tup [tN (ord rs kept ms), tN (core rs kept ms)])) (o0 :: T) := by
  have hml := hm.len h
  have hs := hm.sub
  refine e_run ?_
  show (B_removal [some (.v (wkP rs)), some (.v (tN ms)), some (.v (tN kept)), none, none, none, none] _).F _
  unfold B_removal
  have step : ∀ {o : Ob} {T : Sto} {L : List Nm} {e5 e6 : Option D} {u : D}, MOk rs L → L.length ≤ 500 → (fLc (iVal (fCall F_free_steps [] (fCons (fVar 0) (fCons (fVar 4) fNil)))) (gNm 6) (fTru (f2 pNotIn (fVar 6) (fVar 2))) (fVar 6) [6])
      [some (.v (wkP rs)), some (.v (tN ms)), some (.v (tN kept)), some u, some (.v (tN L)), e5, e6] (o :: T) = .ok (.v (lN (fr rs kept L))) (o :: T) := by
    intro o T L e5 e6 u hL hl
    have hs := hL.sub
    refine (e_lc (xs := free rs L) (f := nP) (q := fun m => !decide (m ∈ kept)) (hh := nP) (own := none) (S1 := o :: T) ?_ own_none ?_ ?_).trans rfl
    · repeat' array_get_dec
    · have := List.length_filter_le (fun m => decide (raw rs L m = [])) L
      unfold free
      omega
    · repeat' array_get_dec
  refine s_Seq (s_Par2 (d := .r (bx T 0)) (e := .v (tN ms)) (S1 := o0 :: (T ++ ([] ++ [.lst []]))) (by repeat' (first | array_get_dec | exact e_lstB e_nil v_nil (by decide))) ?_)
  refine s_Seq (s_SetE (step hm hml) e_gNm ?_)
  refine s_Seq ?_
  refine s_While (fun n env S => ∃ (ac L : List Nm) (e6 : Option D), env = [some (.v (wkP rs)), some (.v (tN ms)), some (.v (tN kept)), some (.r (bx T 0)), some (.v (tN L)), some (.v (lN (fr rs kept L))), e6] ∧ S = o0 :: (T ++ [.lst (ac.map nP)]) ∧
      L.length = n ∧ ac.length + n ≤ 500 ∧ L.Sublist ms ∧ ac ++ ordF rs kept n L = ord rs kept ms ∧ ∀ m, InCore rs kept ms m → m ∈ L) ms.length (by omega)
    ⟨[], ms, _, rfl, rfl, rfl, by simpa using hml, List.Sublist.refl _, rfl, fun m ⟨M, h1, _, h3⟩ => h1 _ h3⟩ ?_
  rintro n env S ⟨ac, L, e6, rfl, rfl, hLn, hol, hLs, hord, hmax⟩
  have hL : MOk rs L := hm.subl hLs
  have hLl := hL.len h
  refine P_of (a := !decide (fr rs kept L = [])) (by repeat' array_get_dec) ⟨fun z => ?_, fun z => ?_⟩
  · have hne : fr rs kept L ≠ [] := by simpa using z
    obtain ⟨x, rest, hfx⟩ := List.exists_cons_of_ne_nil hne
    have hx := mem_fr.mp (show x ∈ fr rs kept L by rw [hfx]; exact List.mem_cons_self ..)
    have eix : pIx (lN (fr rs kept L)) (.int 0) = some (nP x) := by
      rw [hfx]
      exact at_nn (j := 0) rfl rfl
    have hwl := wo_len hL.nd hx.1
    have hL2 : MOk rs (wo L x) := hL.filter _
    obtain ⟨k, rfl⟩ : ∃ k, n = k + 1 := ⟨(wo L x).length, by omega⟩
    unfold L_removal_0
    refine s_Seq (s_DropE (S1 := o0 :: (T ++ [.lst ((ac ++ [x]).map nP)])) (d := .v .non) ?_ ?_)
    · rw [List.map_append]
      refine e_mt (j := 0) rfl rfl (ds := [.v (nP x)]) (by repeat' array_get_dec) ?_
      exact o_app (by rw [List.length_map]; omega)
    refine s_Seq (s_SetE (d := .v (tN (wo L x))) (S1 := o0 :: (T ++ [.lst ((ac ++ [x]).map nP)])) (by repeat' array_get_dec) e_gNm ?_)
    refine s_SetE (step hL2 (by omega)) e_gNm ?_
    refine ⟨k, by omega, ac ++ [x], wo L x, _, rfl, rfl, by omega, by rw [List.length_append]; show ac.length + 1 + _ ≤ 500; omega, List.filter_sublist.trans hLs, ?_, fun m hmm => ?_⟩
    · rw [← hord]
      simp only [ordF, hfx, List.append_assoc, List.singleton_append]
    · refine mem_wo.mpr ⟨hmax m hmm, fun e => ?_⟩
      obtain ⟨M, h1, h2, h3⟩ := hmm
      exact free_out h2 (fun y hy => hmax y ⟨M, h1, h2, hy⟩) (e ▸ hx.2.2) (e ▸ hx.2.1) h3
  · have hfn : fr rs kept L = [] := by simpa using z
    have hord2 : ac = ord rs kept ms := by
      rw [← hord]
      cases n with
      | zero => simp [ordF]
      | succ n => simp [ordF, hfn]
    have hcore : L = core rs kept ms := core_is hm.nd hLs (fun m hmm => by
      rcases Classical.em (m ∈ kept) with hk | hk
      · exact .inl hk
      · refine .inr fun e => ?_
        have := mem_fr.mpr ⟨hmm, e, hk⟩
        rw [hfn] at this
        cases this) hmax
    rw [← hord2, ← hcore]
    repeat' (first | get_elem_tactic_extensible | array_get_dec)
theorem core_of {o : Ob} {T : Sto} {rs : List Rw} {ms kept : List Nm} (h : WOk rs) (hm : MOk rs ms) (hk : ∀ k ∈ kept, k ∈ nm rs) : F_core_of [.v (wkP rs), .v (tN ms), .v (tN kept)] (o :: T) = .ok (.v (tN (core rs kept ms))) (o :: T) := by
  have hs := hm.sub
  refine e_run ?_
  show (B_core_of [some (.v (wkP rs)), some (.v (tN ms)), some (.v (tN kept)), none, none] _).F _
  unfold B_core_of
  refine s_Seq (s_DropE (e_call (e_cons (e_var rfl) (e_cons (e_var rfl) e_nil)) (require h hs)) ?_)
  refine s_Seq (s_DropE (e_call (e_cons (e_var rfl) (e_cons (e_var rfl) e_nil)) (require h hk)) ?_)
  refine s_Seq (s_SetE (e_call (e_cons (e_var rfl) (e_cons (e_var rfl) (e_cons (e_var rfl) e_nil))) (removal h hm)) (by repeat' array_get_dec) ?_)
  repeat' (first | get_elem_tactic_extensible | array_get_dec)
end GA

namespace GA
open PySem PySem.Spec PyProof.Rows L2 DL
/-- the value of a text, found -/
local macro_rules | `(tactic| array_get_dec) => `(tactic| first
  | (focus ((with_reducible (show deP _ _ = _)); exact rfl))
  | (focus ((with_reducible (show seqOf _ _ = _)); exact rfl))
  | (focus ((with_reducible (show truP _ = _)); exact rfl))
  | (focus ((with_reducible (show pIx _ _ = _)); exact rfl))
  | (focus ((with_reducible (show pKey _ = _)); exact rfl))
  | (focus ((with_reducible (show bLen _ = _)); exact rfl))
  | (focus ((with_reducible (show bInt _ = _)); exact rfl))
  | (focus ((with_reducible (show bList _ = _)); exact rfl))
  | (focus ((with_reducible (show pAdd (.int _) (.int _) = _)); exact rfl))
  | (focus ((with_reducible (show pSub (.int _) (.int _) = _)); exact rfl))
  | (focus ((with_reducible (show pLt (.int _) (.int _) = _)); exact rfl))
  | (focus ((with_reducible (show pLe (.int _) (.int _) = _)); exact rfl))
  | (focus ((with_reducible (show pGt (.int _) (.int _) = _)); exact rfl))
  | (focus ((with_reducible (show pGe (.int _) (.int _) = _)); exact rfl))
  | (focus ((with_reducible (show List.length _ = _)); exact rfl))
  | (focus ((with_reducible (show pSl _ _ _ = _)); exact rfl))
  | (focus ((with_reducible (show pIsN _ _ = _)); exact rfl))
  | (focus ((with_reducible (show pNotN _ _ = _)); exact rfl))
  | (focus ((with_reducible (show pNeg _ = _)); exact rfl))
  | (focus ((with_reducible (show setD _ _ _ _ = _)); exact rfl))
  | with_reducible exact rfl)
local macro_rules | `(tactic| array_get_dec) => `(tactic| first
  | (focus ((with_reducible show _ = _); with_reducible assumption))
  | (focus (with_reducible apply e_l2))
  | with_reducible exact o_eqN
  | with_reducible exact o_neN
  | with_reducible exact o_eqT
  | with_reducible exact o_neT
  | with_reducible exact o_eqT0
  | with_reducible exact o_neT0
  | with_reducible exact o_eqLs0
  | with_reducible exact o_neLs0
  | with_reducible exact o_inT
  | with_reducible exact o_inLs
  | with_reducible exact o_niT
  | with_reducible exact o_niLs
  | with_reducible exact o_eqI
  | with_reducible exact o_neI
  | with_reducible exact o_eqL (by decide +kernel)
  | with_reducible exact o_neL (by decide +kernel)
  | with_reducible exact o_inW (by decide +kernel)
  | with_reducible exact o_niW (by decide +kernel)
  | with_reducible exact o_in1 (by decide +kernel)
  | with_reducible exact o_in2 (by decide +kernel) (by decide +kernel)
  | with_reducible exact o_in3 (by decide +kernel) (by decide +kernel) (by decide +kernel)
  | with_reducible exact o_ni1 (by decide +kernel)
  | with_reducible exact o_ni2 (by decide +kernel) (by decide +kernel)
  | with_reducible exact o_addT1 (by first | omega | (simp; omega))
  | with_reducible exact o_addT (by first | omega | (simp; omega))
  | with_reducible exact o_addLs (by first | omega | (simp; omega))
  | with_reducible exact o_addTp (by first | omega | (simp; omega))
  | with_reducible exact o_tupleN
  | with_reducible exact o_tuple)
local macro_rules | `(tactic| array_get_dec) => `(tactic| first
  | with_reducible exact e_c
  | ((with_reducible apply e_var); (exact rfl))
  | with_reducible apply e_f2
  | with_reducible exact e_nil
  | with_reducible apply e_cons
  | with_reducible apply e_tup
  | with_reducible apply e_lst
  | with_reducible apply e_lstB
  | with_reducible apply e_cb
  | with_reducible apply e_cbB
  | with_reducible apply e_tru
  | with_reducible exact e_yes
  | with_reducible apply e_and
  | with_reducible apply e_or
  | with_reducible apply e_not
  | with_reducible apply e_iteB
  | with_reducible apply e_ite
  | with_reducible apply e_andV
  | with_reducible apply e_orV
  | with_reducible apply e_notV
  | with_reducible apply e_f1
  | with_reducible apply e_call
  | with_reducible apply e_callN
  | with_reducible apply e_sl
  | with_reducible exact e_oNo
  | with_reducible apply e_oAt
  | with_reducible apply e_iv
  | with_reducible apply e_lcA
  | with_reducible apply e_lc
  | with_reducible apply e_lcB
  | with_reducible apply e_rg
  | with_reducible apply e_rg2
  | ((with_reducible apply e_mt); (exact rfl); (exact rfl))
  | with_reducible exact e_gNm
  | with_reducible exact e_gNl
  | with_reducible apply e_gCn
  | (focus ((with_reducible (show gTp _ _ _ _ _ = _)); (apply e_gTp); (exact rfl)))
  | (with_reducible (intro _ _; apply e_body))
  | with_reducible exact v_nil
  | with_reducible apply v_cons
  | with_reducible exact a_nil
  | ((with_reducible apply a_cons); (first | exact deP_bx rfl | exact deP_bxD rfl | exact rfl))
  | with_reducible exact deP_bx rfl
  | with_reducible exact deP_bxD rfl
  | with_reducible exact own_none
  | with_reducible exact own_bx rfl
  | (focus (show _ ≤ (100000 : Nat); first | decide | omega | (simp; done) | (simp; omega)))
  | (focus (show _ < (100000 : Nat); first | omega | (simp; omega) | (refine Nat.lt_of_le_of_lt (List.length_filter_le _ _) ?_; omega)))
  | with_reducible exact o_app (by first | omega | (simp; omega))
  | with_reducible exact o_ext rfl (by first | omega | (simp; omega))
  | (with_reducible intro _))
/-- the running of a text over values that are found -/
local macro_rules | `(tactic| get_elem_tactic_extensible) => `(tactic| first
  | with_reducible refine s_Seq ?_
  | with_reducible refine s_Nx ?_
  | with_reducible apply e_closeT
  | ((with_reducible apply e_closeLT); (exact rfl))
  | with_reducible apply s_SetE
  | with_reducible apply s_DropE
  | with_reducible apply s_RetE
  | with_reducible apply s_IfE
  | with_reducible apply s_Par2
  | with_reducible apply s_ForE)

noncomputable def B_steps_with : FS :=
 (fRet (fCb bTuple (fCons (fLc (iZpS (fCons (fVar 0) (fCons (fVar 1) fNil)) (fCons (fC (.v (.bl true))) fNil)) (gTp 2 (gCn (gNm 3) (gCn (gNm 4) gNl))) (fTru (f2 pIn (fVar 4) (fVar 2))) (f2 pIx (fVar 3) (fC (.v (.int 0)))) [3, 4]) fNil)))
noncomputable def F_steps_with : FF := runF 5 false B_steps_with
noncomputable def B_asked_steps : FS :=
 (fRet (fCb bTuple (fCons (fLc (iZpS (fCons (fVar 0) (fCons (fVar 1) fNil)) (fCons (fC (.v (.bl true))) fNil)) (gTp 2 (gCn (gNm 2) (gCn (gNm 3) gNl))) (fAnd (fTru (f2 pEq (fVar 3) (fC (.v (.str "maybe"))))) (fTru (f2 pIn (fC (.v (.str "ask"))) (f2 pIx (fVar 2) (fC (.v (.int 3))))))) (f2 pIx (fVar 2) (fC (.v (.int 0)))) [2, 3]) fNil)))
noncomputable def F_asked_steps : FF := runF 4 false B_asked_steps
noncomputable def B_relevant_steps : FS :=
 (fSeq (fSet (fCall F_steps_with [] (fCons (fVar 0) (fCons (fVar 1) (fCons (fTup (fCons (fC (.v (.str "done"))) (fCons (fC (.v (.str "maybe"))) fNil))) fNil)))) (gNm 3))
 (fSeq (fIf (fTru (fVar 2))
  (fRet (fVar 3))
  fNext)
 (fSeq (fSet (fCall F_asked_steps [] (fCons (fVar 0) (fCons (fVar 1) fNil))) (gNm 4))
 (fRet (fCb bTuple (fCons (fLc (iVal (fVar 3)) (gNm 5) (fTru (f2 pNotIn (fVar 5) (fVar 4))) (fVar 5) [5]) fNil))))))
noncomputable def F_relevant_steps : FF := runF 6 false B_relevant_steps
noncomputable def B_lower_core : FS :=
 (fRet (fCall F_core_of [D.v (.tup [])] (fCons (fVar 0) (fCons (fCall F_relevant_steps [] (fCons (fVar 0) (fCons (fVar 1) (fCons (fC (.v (.bl false))) fNil)))) fNil))))
noncomputable def F_lower_core : FF := runF 2 false B_lower_core
noncomputable def B_returns_somehow : FS :=
 (fRet (f2 pEq (fCall F_lower_core [] (fCons (fVar 0) (fCons (fVar 1) fNil))) (fTup fNil)))
noncomputable def F_returns_somehow : FF := runF 2 false B_returns_somehow
noncomputable def B_upper_core : FS :=
 (fRet (fCall F_core_of [D.v (.tup [])] (fCons (fVar 0) (fCons (fCall F_relevant_steps [] (fCons (fVar 0) (fCons (fVar 1) (fCons (fC (.v (.bl true))) fNil)))) fNil))))
noncomputable def F_upper_core : FF := runF 2 false B_upper_core
noncomputable def B_returns_surely : FS :=
 (fRet (f2 pEq (fCall F_upper_core [] (fCons (fVar 0) (fCons (fVar 1) fNil))) (fTup fNil)))
noncomputable def F_returns_surely : FF := runF 2 false B_returns_surely
local macro_rules | `(tactic| array_get_dec) => `(tactic| first
  | with_reducible exact o_r0
  | with_reducible exact o_r1
  | with_reducible exact o_r2
  | with_reducible exact o_r3)
/-- the steps whose row and status satisfy q -/
def sel (rs : List Rw) (ps : List Nm) (q : Rw × Nm → Bool) : List Nm := ((rs.zip ps).filter q).map fun z => z.1.x
theorem fst_sub : ∀ (rs : List Rw) (ps : List Nm), ((rs.zip ps).map Prod.fst).Sublist rs
  | [], _ => by simp
  | r :: rs, [] => by simp
  | r :: rs, p :: ps => by
    rw [List.zip_cons_cons, List.map_cons]
    exact (fst_sub rs ps).cons_cons r
theorem sel_sub {rs : List Rw} {ps : List Nm} {q : Rw × Nm → Bool} : (sel rs ps q).Sublist (nm rs) := by
  have h2 := (fst_sub rs ps).map fun r : Rw => r.x
  rw [List.map_map] at h2
  exact (List.filter_sublist.map _).trans h2
theorem sel_ok {rs : List Rw} {ps : List Nm} {q : Rw × Nm → Bool} (h : WOk rs) : MOk rs (sel rs ps q) := ⟨fun m hm => sel_sub.subset hm, h.nd.sublist sel_sub⟩
theorem sel_mem {rs : List Rw} {ps : List Nm} {q : Rw × Nm → Bool} {m : Nm} : m ∈ sel rs ps q ↔ ∃ z ∈ rs.zip ps, q z = true ∧ z.1.x = m := by
  unfold sel
  rw [List.mem_map]
  exact ⟨fun ⟨z, h, e⟩ => ⟨z, (List.mem_filter.mp h).1, (List.mem_filter.mp h).2, e⟩, fun ⟨z, h1, h2, e⟩ => ⟨z, List.mem_filter.mpr ⟨h1, h2⟩, e⟩⟩
theorem zip_uniq {rs : List Rw} (hn : (nm rs).Nodup) {ps : List Nm} {z y : Rw × Nm} (hz : z ∈ rs.zip ps) (hy : y ∈ rs.zip ps) (e : z.1.x = y.1.x) : z = y := by
  obtain ⟨i, hi, ei⟩ := List.getElem_of_mem hz
  obtain ⟨j, hj, ej⟩ := List.getElem_of_mem hy
  have li : i < rs.length := by rw [List.length_zip] at hi; omega
  have lj : j < rs.length := by rw [List.length_zip] at hj; omega
  have e1 : z.1 = rs[i] := by rw [← ei, List.getElem_zip]
  have e2 : y.1 = rs[j] := by rw [← ej, List.getElem_zip]
  have e3 : (nm rs)[i]'(by unfold nm; rw [List.length_map]; exact li) = (nm rs)[j]'(by unfold nm; rw [List.length_map]; exact lj) := by
    unfold nm
    rw [List.getElem_map, List.getElem_map, ← e1, ← e2]
    exact e
  have : i = j := (List.getElem_inj hn).mp e3
  subst this
  rw [← ei, ← ej]
theorem sel_mem_of {rs : List Rw} (hn : (nm rs).Nodup) {ps : List Nm} {q : Rw × Nm → Bool} {z : Rw × Nm} (hz : z ∈ rs.zip ps) : z.1.x ∈ sel rs ps q ↔ q z = true := by
  rw [sel_mem]
  exact ⟨fun ⟨y, hy, hq, e⟩ => zip_uniq hn hy hz e ▸ hq, fun h => ⟨z, hz, h, rfl⟩⟩
theorem sel_filter {rs : List Rw} (hn : (nm rs).Nodup) {ps : List Nm} {q r : Rw × Nm → Bool} {f : Nm → Bool} (h : ∀ z ∈ rs.zip ps, f z.1.x = r z) : (sel rs ps q).filter f = sel rs ps fun z => q z && r z := by
  unfold sel
  rw [List.filter_map, List.filter_filter]
  congr 1
  refine List.filter_congr fun z hz => ?_
  rw [Function.comp, h z hz, Bool.and_comm]
theorem sel_congr {rs : List Rw} {ps : List Nm} {q r : Rw × Nm → Bool} (h : ∀ z ∈ rs.zip ps, q z = r z) : sel rs ps q = sel rs ps r := by
  unfold sel
  rw [List.filter_congr h]
abbrev isD (z : Rw × Nm) : Bool := decide (z.2.s = "done")
abbrev isM (z : Rw × Nm) : Bool := decide (z.2.s = "maybe")
abbrev isO (z : Rw × Nm) : Bool := decide (z.2.s = "open")
abbrev isX (z : Rw × Nm) : Bool := decide (z.2.s = "dead")
/-- the steps that are done or may be -/
def upS (rs : List Rw) (ps : List Nm) : List Nm := sel rs ps fun z => decide (z.2.s = "done" ∨ z.2.s = "maybe")
def loS (rs : List Rw) (ps : List Nm) : List Nm := sel rs ps fun z => decide (z.2.s = "done" ∨ z.2.s = "maybe") && !(isM z && has "ask" z.1.ab)
theorem zip_len {rs : List Rw} {ps : List Nm} (h : WOk rs) : (rs.zip ps).length ≤ 500 := by
  have := h.len
  rw [List.length_zip]
  omega
section
variable {o : Ob} {T : Sto} {rs : List Rw} {ps : List Nm}
theorem steps_with1 {l1 : Str} (h : WOk rs) (hl : rs.length = ps.length) (h1 : PyData.strOk l1 = true) : F_steps_with [.v (wkP rs), .v (tN ps), .v (.tup [.str l1])] (o :: T) = .ok (.v (tN (sel rs ps fun z => decide (z.2.s = l1)))) (o :: T) := by
  have hz := zip_len (ps := ps) h
  have e : ∀ x : Nm, pIn (nP x) (.tup [.str l1]) = some (.bl (decide (x.s = l1))) := fun x => o_in1 h1
  refine e_run ?_
  show (B_steps_with [some (.v (wkP rs)), some (.v (tN ps)), some (.v (.tup [.str l1])), none, none] _).F _
  unfold B_steps_with
  refine s_RetE (e_cb (S1 := o :: (T ++ [])) (e_cons (e_lc (xs := rs.zip ps) (f := fun z => .tup [rwP z.1, nP z.2]) (own := none) (q := fun z => decide (z.2.s = l1)) (hh := fun z => nP z.1.x) (S1 := o :: (T ++ [])) (e_zpS (by repeat' array_get_dec) (by repeat' array_get_dec) (t1 := true) (t2 := true) rfl hl) own_none (by omega) fun z hz => ?_) e_nil) (a_cons rfl a_nil) o_tuple) (e_closeT ?_)
  · apply e_body
    · repeat' array_get_dec
    · repeat' (first | array_get_dec | (with_reducible exact e _))
    · repeat' array_get_dec
  · unfold sel
    rw [tN, List.map_map]
    rfl
theorem steps_with2 {l1 l2 : Str} (h : WOk rs) (hl : rs.length = ps.length) (h1 : PyData.strOk l1 = true) (h2 : PyData.strOk l2 = true) : F_steps_with [.v (wkP rs), .v (tN ps), .v (.tup [.str l1, .str l2])] (o :: T) = .ok (.v (tN (sel rs ps fun z => decide (z.2.s = l1 ∨ z.2.s = l2)))) (o :: T) := by
  have hz := zip_len (ps := ps) h
  have e : ∀ x : Nm, pIn (nP x) (.tup [.str l1, .str l2]) = some (.bl (decide (x.s = l1 ∨ x.s = l2))) := fun x => o_in2 h1 h2
  refine e_run ?_
  show (B_steps_with [some (.v (wkP rs)), some (.v (tN ps)), some (.v (.tup [.str l1, .str l2])), none, none] _).F _
  unfold B_steps_with
  refine s_RetE (e_cb (S1 := o :: (T ++ [])) (e_cons (e_lc (xs := rs.zip ps) (f := fun z => .tup [rwP z.1, nP z.2]) (own := none) (q := fun z => decide (z.2.s = l1 ∨ z.2.s = l2)) (hh := fun z => nP z.1.x) (S1 := o :: (T ++ [])) (e_zpS (by repeat' array_get_dec) (by repeat' array_get_dec) (t1 := true) (t2 := true) rfl hl) own_none (by omega) fun z hz => ?_) e_nil) (a_cons rfl a_nil) o_tuple) (e_closeT ?_)
  · apply e_body
    · repeat' array_get_dec
    · repeat' (first | array_get_dec | (with_reducible exact e _))
    · repeat' array_get_dec
  · unfold sel
    rw [tN, List.map_map]
    rfl
theorem asked_steps (h : WOk rs) (hl : rs.length = ps.length) : F_asked_steps [.v (wkP rs), .v (tN ps)] (o :: T) = .ok (.v (tN (sel rs ps fun z => isM z && has "ask" z.1.ab))) (o :: T) := by
  have hz := zip_len (ps := ps) h
  refine e_run ?_
  show (B_asked_steps [some (.v (wkP rs)), some (.v (tN ps)), none, none] _).F _
  unfold B_asked_steps
  refine s_RetE (e_cb (S1 := o :: (T ++ [])) (e_cons (e_lc (xs := rs.zip ps) (f := fun z => .tup [rwP z.1, nP z.2]) (own := none) (q := fun z => isM z && has "ask" z.1.ab) (hh := fun z => nP z.1.x) (S1 := o :: (T ++ [])) (e_zpS (by repeat' array_get_dec) (by repeat' array_get_dec) (t1 := true) (t2 := true) rfl hl) own_none (by omega) fun z hz => ?_) e_nil) (a_cons rfl a_nil) o_tuple) (e_closeT ?_)
  · apply e_body
    · repeat' array_get_dec
    · repeat' array_get_dec
    · repeat' array_get_dec
  · unfold sel
    rw [tN, List.map_map]
    rfl
theorem relevant (h : WOk rs) (hl : rs.length = ps.length) (sure : Bool) : F_relevant_steps [.v (wkP rs), .v (tN ps), .v (.bl sure)] (o :: T) = .ok (.v (tN (if sure = true then upS rs ps else loS rs ps))) (o :: T) := by
  have hz := zip_len (ps := ps) h
  have hu : (upS rs ps).length ≤ 500 := by
    unfold upS sel
    rw [List.length_map]
    exact Nat.le_trans (List.length_filter_le _ _) hz
  refine e_run ?_
  show (B_relevant_steps [some (.v (wkP rs)), some (.v (tN ps)), some (.v (.bl sure)), none, none, none] _).F _
  unfold B_relevant_steps
  refine s_Seq (s_SetE (d := .v (tN (upS rs ps))) (S1 := o :: (T ++ [])) (e_call (ds := [.v (wkP rs), .v (tN ps), .v (.tup [.str "done", .str "maybe"])]) (by repeat' array_get_dec) (steps_with2 h hl (by decide +kernel) (by decide +kernel))) e_gNm ?_)
  refine s_Seq (s_IfE (k := sure) (e_tru (e_var rfl) rfl rfl) (fun z => ?_) fun z => ?_)
  · subst z
    exact s_RetE (e_var rfl) e_close
  · subst z
    refine s_Nx ?_
    refine s_Seq (s_SetE (d := .v (tN (sel rs ps fun z => isM z && has "ask" z.1.ab))) (S1 := o :: (T ++ [])) (e_call (e_cons (e_var rfl) (e_cons (e_var rfl) e_nil)) (asked_steps h hl)) e_gNm ?_)
    have e : (upS rs ps).filter (fun n => !decide (n ∈ sel rs ps fun z => isM z && has "ask" z.1.ab)) = loS rs ps := by
      unfold upS loS
      refine sel_filter h.nd fun z hz => ?_
      congr 1
      exact (boolE (sel_mem_of h.nd hz).symm).symm
    repeat' (first | get_elem_tactic_extensible | array_get_dec | exact congrArg tN e)
theorem upper_core (h : WOk rs) (hl : rs.length = ps.length) : F_upper_core [.v (wkP rs), .v (tN ps)] (o :: T) = .ok (.v (tN (core rs [] (upS rs ps)))) (o :: T) := by
  refine e_run ?_
  show (B_upper_core [some (.v (wkP rs)), some (.v (tN ps))] _).F _
  unfold B_upper_core
  refine s_RetE (d := .v (tN (core rs [] (upS rs ps)))) (S1 := o :: (T ++ [])) (e_call (ds := [.v (wkP rs), .v (tN (upS rs ps))]) (e_cons (e_var rfl) (e_cons (e_call (e_cons (e_var rfl) (e_cons (e_var rfl) (e_cons e_c e_nil))) (relevant h hl true)) e_nil)) (core_of (kept := []) h (sel_ok h) (by simp))) e_close
theorem lower_core (h : WOk rs) (hl : rs.length = ps.length) : F_lower_core [.v (wkP rs), .v (tN ps)] (o :: T) = .ok (.v (tN (core rs [] (loS rs ps)))) (o :: T) := by
  refine e_run ?_
  show (B_lower_core [some (.v (wkP rs)), some (.v (tN ps))] _).F _
  unfold B_lower_core
  refine s_RetE (d := .v (tN (core rs [] (loS rs ps)))) (S1 := o :: (T ++ [])) (e_call (ds := [.v (wkP rs), .v (tN (loS rs ps))]) (e_cons (e_var rfl) (e_cons (e_call (e_cons (e_var rfl) (e_cons (e_var rfl) (e_cons e_c e_nil))) (relevant h hl false)) e_nil)) (core_of (kept := []) h (sel_ok h) (by simp))) e_close
theorem returns_surely (h : WOk rs) (hl : rs.length = ps.length) : F_returns_surely [.v (wkP rs), .v (tN ps)] (o :: T) = .ok (.v (.bl (decide (core rs [] (upS rs ps) = [])))) (o :: T) := by
  refine e_run ?_
  show (B_returns_surely [some (.v (wkP rs)), some (.v (tN ps))] _).F _
  unfold B_returns_surely
  exact s_RetE (S1 := o :: (T ++ [])) (e_f2 (e_call (e_cons (e_var rfl) (e_cons (e_var rfl) e_nil)) (upper_core h hl)) (e_tup e_nil v_nil (by decide)) (e_l2 rfl rfl o_eqT0)) e_close
theorem returns_somehow (h : WOk rs) (hl : rs.length = ps.length) : F_returns_somehow [.v (wkP rs), .v (tN ps)] (o :: T) = .ok (.v (.bl (decide (core rs [] (loS rs ps) = [])))) (o :: T) := by
  refine e_run ?_
  show (B_returns_somehow [some (.v (wkP rs)), some (.v (tN ps))] _).F _
  unfold B_returns_somehow
  exact s_RetE (S1 := o :: (T ++ [])) (e_f2 (e_call (e_cons (e_var rfl) (e_cons (e_var rfl) e_nil)) (lower_core h hl)) (e_tup e_nil v_nil (by decide)) (e_l2 rfl rfl o_eqT0)) e_close
end
end GA

namespace GA
open PySem PySem.Spec PyProof.Rows L2 DL
/-- the value of a text, found -/
local macro_rules | `(tactic| array_get_dec) => `(tactic| first
  | (focus ((with_reducible (show deP _ _ = _)); exact rfl))
  | (focus ((with_reducible (show seqOf _ _ = _)); exact rfl))
  | (focus ((with_reducible (show truP _ = _)); exact rfl))
  | (focus ((with_reducible (show pIx _ _ = _)); exact rfl))
  | (focus ((with_reducible (show pKey _ = _)); exact rfl))
  | (focus ((with_reducible (show bLen _ = _)); exact rfl))
  | (focus ((with_reducible (show bInt _ = _)); exact rfl))
  | (focus ((with_reducible (show bList _ = _)); exact rfl))
  | (focus ((with_reducible (show pAdd (.int _) (.int _) = _)); exact rfl))
  | (focus ((with_reducible (show pSub (.int _) (.int _) = _)); exact rfl))
  | (focus ((with_reducible (show pLt (.int _) (.int _) = _)); exact rfl))
  | (focus ((with_reducible (show pLe (.int _) (.int _) = _)); exact rfl))
  | (focus ((with_reducible (show pGt (.int _) (.int _) = _)); exact rfl))
  | (focus ((with_reducible (show pGe (.int _) (.int _) = _)); exact rfl))
  | (focus ((with_reducible (show List.length _ = _)); exact rfl))
  | (focus ((with_reducible (show pSl _ _ _ = _)); exact rfl))
  | (focus ((with_reducible (show pIsN _ _ = _)); exact rfl))
  | (focus ((with_reducible (show pNotN _ _ = _)); exact rfl))
  | (focus ((with_reducible (show pNeg _ = _)); exact rfl))
  | (focus ((with_reducible (show setD _ _ _ _ = _)); exact rfl))
  | with_reducible exact rfl)
local macro_rules | `(tactic| array_get_dec) => `(tactic| first
  | (focus ((with_reducible show _ = _); with_reducible assumption))
  | (focus (with_reducible apply e_l2))
  | with_reducible exact o_eqN
  | with_reducible exact o_neN
  | with_reducible exact o_eqT
  | with_reducible exact o_neT
  | with_reducible exact o_eqT0
  | with_reducible exact o_neT0
  | with_reducible exact o_eqLs0
  | with_reducible exact o_neLs0
  | with_reducible exact o_inT
  | with_reducible exact o_inLs
  | with_reducible exact o_niT
  | with_reducible exact o_niLs
  | with_reducible exact o_eqI
  | with_reducible exact o_neI
  | with_reducible exact o_eqL (by decide +kernel)
  | with_reducible exact o_neL (by decide +kernel)
  | with_reducible exact o_inW (by decide +kernel)
  | with_reducible exact o_niW (by decide +kernel)
  | with_reducible exact o_in1 (by decide +kernel)
  | with_reducible exact o_in2 (by decide +kernel) (by decide +kernel)
  | with_reducible exact o_in3 (by decide +kernel) (by decide +kernel) (by decide +kernel)
  | with_reducible exact o_ni1 (by decide +kernel)
  | with_reducible exact o_ni2 (by decide +kernel) (by decide +kernel)
  | with_reducible exact o_addT1 (by first | omega | (simp; omega))
  | with_reducible exact o_addT (by first | omega | (simp; omega))
  | with_reducible exact o_addLs (by first | omega | (simp; omega))
  | with_reducible exact o_addTp (by first | omega | (simp; omega))
  | with_reducible exact o_tupleN
  | with_reducible exact o_tuple)
local macro_rules | `(tactic| array_get_dec) => `(tactic| first
  | with_reducible exact e_c
  | ((with_reducible apply e_var); (exact rfl))
  | with_reducible apply e_f2
  | with_reducible exact e_nil
  | with_reducible apply e_cons
  | with_reducible apply e_tup
  | with_reducible apply e_lst
  | with_reducible apply e_lstB
  | with_reducible apply e_cb
  | with_reducible apply e_cbB
  | with_reducible apply e_tru
  | with_reducible exact e_yes
  | with_reducible apply e_and
  | with_reducible apply e_or
  | with_reducible apply e_not
  | with_reducible apply e_iteB
  | with_reducible apply e_ite
  | with_reducible apply e_andV
  | with_reducible apply e_orV
  | with_reducible apply e_notV
  | with_reducible apply e_f1
  | with_reducible apply e_call
  | with_reducible apply e_callN
  | with_reducible apply e_sl
  | with_reducible exact e_oNo
  | with_reducible apply e_oAt
  | with_reducible apply e_iv
  | with_reducible apply e_lcA
  | with_reducible apply e_lc
  | with_reducible apply e_lcB
  | with_reducible apply e_rg
  | with_reducible apply e_rg2
  | ((with_reducible apply e_mt); (exact rfl); (exact rfl))
  | with_reducible exact e_gNm
  | with_reducible exact e_gNl
  | with_reducible apply e_gCn
  | (focus ((with_reducible (show gTp _ _ _ _ _ = _)); (apply e_gTp); (exact rfl)))
  | (with_reducible (intro _ _; apply e_body))
  | with_reducible exact v_nil
  | with_reducible apply v_cons
  | with_reducible exact a_nil
  | ((with_reducible apply a_cons); (first | exact deP_bx rfl | exact deP_bxD rfl | exact rfl))
  | with_reducible exact deP_bx rfl
  | with_reducible exact deP_bxD rfl
  | with_reducible exact own_none
  | with_reducible exact own_bx rfl
  | (focus (show _ ≤ (100000 : Nat); first | decide | omega | (simp; done) | (simp; omega)))
  | (focus (show _ < (100000 : Nat); first | omega | (simp; omega) | (refine Nat.lt_of_le_of_lt (List.length_filter_le _ _) ?_; omega)))
  | with_reducible exact o_app (by first | omega | (simp; omega))
  | with_reducible exact o_ext rfl (by first | omega | (simp; omega))
  | (with_reducible intro _))
/-- the running of a text over values that are found -/
local macro_rules | `(tactic| get_elem_tactic_extensible) => `(tactic| first
  | with_reducible refine s_Seq ?_
  | with_reducible refine s_Nx ?_
  | with_reducible apply e_closeT
  | ((with_reducible apply e_closeLT); (exact rfl))
  | with_reducible apply s_SetE
  | with_reducible apply s_DropE
  | with_reducible apply s_RetE
  | with_reducible apply s_IfE
  | with_reducible apply s_Par2
  | with_reducible apply s_ForE)

noncomputable def B_undo_order : FS :=
 (fSeq (fDrop (fCall F_require_steps [] (fCons (fVar 0) (fCons (fVar 1) fNil))))
 (fSeq (fDrop (fCall F_require_steps [] (fCons (fVar 0) (fCons (fVar 2) fNil))))
 (fSeq (fSet (fCall F_removal [] (fCons (fVar 0) (fCons (fVar 1) (fCons (fVar 2) fNil)))) (gTp 2 (gCn (gNm 3) (gCn (gNm 4) gNl))))
 (fRet (fVar 3)))))
noncomputable def F_undo_order : FF := runF 5 false B_undo_order
theorem undo_order {o : Ob} {T : Sto} {rs : List Rw} {ms kept : List Nm} (h : WOk rs) (hm : MOk rs ms) (hk : ∀ k ∈ kept, k ∈ nm rs) : F_undo_order [.v (wkP rs), .v (tN ms), .v (tN kept)] (o :: T) = .ok (.v (tN (ord rs kept ms))) (o :: T) := by
  have hs := hm.sub
  refine e_run ?_
  show (B_undo_order [some (.v (wkP rs)), some (.v (tN ms)), some (.v (tN kept)), none, none] _).F _
  unfold B_undo_order
  refine s_Seq (s_DropE (e_call (e_cons (e_var rfl) (e_cons (e_var rfl) e_nil)) (require h hs)) ?_)
  refine s_Seq (s_DropE (e_call (e_cons (e_var rfl) (e_cons (e_var rfl) e_nil)) (require h hk)) ?_)
  refine s_Seq (s_SetE (e_call (e_cons (e_var rfl) (e_cons (e_var rfl) (e_cons (e_var rfl) e_nil))) (removal h hm)) (by repeat' array_get_dec) ?_)
  repeat' (first | get_elem_tactic_extensible | array_get_dec)
theorem core_of0 {o : Ob} {T : Sto} {rs : List Rw} {ms : List Nm} (h : WOk rs) (hm : MOk rs ms) : F_core_of [.v (wkP rs), .v (tN ms), .v (.tup [])] (o :: T) = .ok (.v (tN (core rs [] ms))) (o :: T) := core_of (kept := []) h hm fun _ z => nomatch z
theorem undo_order0 {o : Ob} {T : Sto} {rs : List Rw} {ms : List Nm} (h : WOk rs) (hm : MOk rs ms) : F_undo_order [.v (wkP rs), .v (tN ms), .v (.tup [])] (o :: T) = .ok (.v (tN (ord rs [] ms))) (o :: T) := undo_order (kept := []) h hm fun _ z => nomatch z
section
variable {rs : List Rw} {kept ms L : List Nm} {x : Nm}
/-- what stays when a free step that is not kept is taken away -/
theorem core_step (h : ∀ m, InCore rs kept ms m → m ∈ L) (hx : x ∈ fr rs kept L) : ∀ m, InCore rs kept ms m → m ∈ wo L x := fun m hmm => by
  have hx := mem_fr.mp hx
  refine mem_wo.mpr ⟨h m hmm, fun e => ?_⟩
  obtain ⟨M, h1, h2, h3⟩ := hmm
  exact free_out h2 (fun y hy => h y ⟨M, h1, h2, hy⟩) (e ▸ hx.2.2) (e ▸ hx.2.1) h3
theorem core_end (hn : ms.Nodup) (hs : L.Sublist ms) (h : ∀ m, InCore rs kept ms m → m ∈ L) (hf : fr rs kept L = []) : L = core rs kept ms := core_is hn hs (fun m hmm => by
  rcases Classical.em (m ∈ kept) with hk | hk
  · exact .inl hk
  · refine .inr fun e => ?_
    have := mem_fr.mpr ⟨hmm, e, hk⟩
    rw [hf] at this
    cases this) h
theorem all_in : ∀ m, InCore rs kept ms m → m ∈ ms := fun m ⟨M, h1, _, h3⟩ => h1 _ h3
theorem ordF_at : ∀ (n : Nat) (L : List Nm) (i : Nat) (x : Nm), (ordF rs kept n L)[i]? = some x → x ∈ fr rs kept (((ordF rs kept n L).take i).foldl wo L)
  | 0, L, i, x, h => by simp [ordF] at h
  | n + 1, L, i, x, h => by
    unfold ordF at h ⊢
    cases hf : fr rs kept L with
    | nil => rw [hf] at h; simp at h
    | cons y r =>
      rw [hf] at h
      cases i with
      | zero =>
        simp at h
        subst h
        show y ∈ fr rs kept L
        rw [hf]
        exact List.mem_cons_self ..
      | succ i => exact ordF_at n (wo L y) i x (by simpa using h)
theorem ordF_core (hn : ms.Nodup) : ∀ (n : Nat) (L : List Nm), L.length ≤ n → L.Sublist ms → (∀ m, InCore rs kept ms m → m ∈ L) → (ordF rs kept n L).foldl wo L = core rs kept ms
  | 0, L, hl, hs, h => by
    have e : L = [] := List.length_eq_zero_iff.mp (by omega)
    subst e
    exact core_end hn hs h rfl
  | n + 1, L, hl, hs, h => by
    unfold ordF
    cases hf : fr rs kept L with
    | nil => exact core_end hn hs h hf
    | cons y r =>
      have hy : y ∈ fr rs kept L := by rw [hf]; exact List.mem_cons_self ..
      have hw := wo_len (hn.sublist hs) (mem_fr.mp hy).1
      exact ordF_core hn n (wo L y) (by omega) (List.filter_sublist.trans hs) (core_step h hy)
theorem ord_at {i : Nat} (h : (ord rs kept ms)[i]? = some x) : x ∈ fr rs kept (((ord rs kept ms).take i).foldl wo ms) := ordF_at _ _ _ _ h
theorem ord_core (hn : ms.Nodup) : (ord rs kept ms).foldl wo ms = core rs kept ms := ordF_core hn _ _ (Nat.le_refl _) (List.Sublist.refl _) all_in
theorem wos_sub : ∀ (xs L : List Nm), (xs.foldl wo L).Sublist L
  | [], L => List.Sublist.refl _
  | x :: xs, L => (wos_sub xs (wo L x)).trans List.filter_sublist
theorem core_core : core rs kept (core rs kept ms) = core rs kept ms ∨ ¬ ms.Nodup := by
  rcases Classical.em ms.Nodup with hn | hn
  · exact .inl (core_is (hn.sublist core_sub) (List.Sublist.refl _) core_stable fun m ⟨M, h1, _, h3⟩ => h1 _ h3).symm
  · exact .inr hn
theorem stable_kept {k2 : List Nm} (h : ∀ k ∈ kept, k ∈ k2) (hs : GA.Stable rs kept L) : GA.Stable rs k2 L := fun m hm => (hs m hm).imp (h m) id
theorem core_kept {k2 : List Nm} (h : ∀ k ∈ kept, k ∈ k2) : ∀ m ∈ core rs kept ms, m ∈ core rs k2 ms := core_max (fun x hx => core_sub.subset hx) (stable_kept h core_stable)
theorem core_larger {ns : List Nm} (h : ∀ m ∈ ms, m ∈ ns) : ∀ m ∈ core rs kept ms, m ∈ core rs kept ns := core_max (fun x hx => h x (core_sub.subset hx)) core_stable
theorem core_union {as bs : List Nm} (hL : L.Nodup) (h : ∀ m, m ∈ L ↔ m ∈ core rs kept as ∨ m ∈ core rs kept bs) : core rs kept L = L := by
  refine (core_is hL (List.Sublist.refl _) (fun m hm => ?_) fun m ⟨M, h1, _, h3⟩ => h1 _ h3).symm
  rcases (h m).mp hm with z | z
  · exact (core_stable m z).imp id (raw_mono fun x hx => (h x).mpr (.inl hx))
  · exact (core_stable m z).imp id (raw_mono fun x hx => (h x).mpr (.inr hx))
end
end GA

namespace DL
open PySem PySem.Spec PyProof.Rows L2
/-! the source of the laws k17 to k33: a dict -/
theorem put_hit {ks : List Key} {ps : List P} {k : Key} {p : P} {i : Nat} (hn : ks.Nodup) (h1 : ks[i]? = some k) (hl : ks.length = ps.length) : putP ks ps k p = (ks, ps.set i p) := by
  induction ks generalizing ps i with
  | nil => simp at h1
  | cons j ks ih =>
    cases ps with
    | nil => simp at hl
    | cons q ps =>
      obtain ⟨hn1, hn2⟩ := List.nodup_cons.mp hn
      cases i with
      | zero =>
        simp at h1
        subst h1
        unfold putP
        rw [if_pos rfl]
        rfl
      | succ i =>
        have h1' : ks[i]? = some k := by simpa using h1
        have hne : j ≠ k := fun e => hn1 (e ▸ List.mem_of_getElem? h1')
        unfold putP
        rw [if_neg hne, ih hn2 h1' (by simpa using hl)]
        rfl
theorem ix_at {ks : List Key} {ps : List P} {x : Str} {p : P} (i : Nat) (hn : ks.Nodup) (h1 : ks[i]? = some (.inr x)) (h2 : ps[i]? = some p) : pIx (.dic ks ps) (.str x) = some p := look_hit hn h1 h2
theorem sb_at {env : Dnv} {T : Sto} {Q : Dnv → Sto → Prop} {ks : List Key} {ps : List P} {x : Str} {p : P} (i : Nat) (hn : ks.Nodup) (h1 : ks[i]? = some (.inr x)) (hl : ks.length = ps.length) (h3 : ks.length < 10000) (q : Q env (.dic ks (ps.set i p) :: T)) :
    (sbE (.r 0) (.v (.str x)) (.v p) env (.dic ks ps :: T)).P Q := by
  refine p_sbD (ks := ks) (ps := ps) (k := .inr x) rfl rfl h3 ?_
  rw [put_hit hn h1 hl]
  exact q
def kB : List Key := [.inr "cells", .inr "at", .inr "left", .inr "count"]
theorem kB_nd : kB.Nodup := by decide +kernel
theorem kB_0 {a b c d : P} : pIx (.dic kB [a, b, c, d]) (.str "cells") = some a := ix_at 0 kB_nd rfl rfl
theorem kB_1 {a b c d : P} : pIx (.dic kB [a, b, c, d]) (.str "at") = some b := ix_at 1 kB_nd rfl rfl
theorem kB_2 {a b c d : P} : pIx (.dic kB [a, b, c, d]) (.str "left") = some c := ix_at 2 kB_nd rfl rfl
theorem kB_3 {a b c d : P} : pIx (.dic kB [a, b, c, d]) (.str "count") = some d := ix_at 3 kB_nd rfl rfl
section
variable {a b c d p : P} {env : Dnv} {T : Sto} {Q : Dnv → Sto → Prop}
theorem kB_s1 (q : Q env (.dic kB [a, p, c, d] :: T)) : (sbE (.r 0) (.v (.str "at")) (.v p) env (.dic kB [a, b, c, d] :: T)).P Q := sb_at 1 kB_nd rfl rfl (by decide) q
theorem kB_s2 (q : Q env (.dic kB [a, b, p, d] :: T)) : (sbE (.r 0) (.v (.str "left")) (.v p) env (.dic kB [a, b, c, d] :: T)).P Q := sb_at 2 kB_nd rfl rfl (by decide) q
theorem kB_s3 (q : Q env (.dic kB [a, b, c, p] :: T)) : (sbE (.r 0) (.v (.str "count")) (.v p) env (.dic kB [a, b, c, d] :: T)).P Q := sb_at 3 kB_nd rfl rfl (by decide) q
end
/-- the running of a text on data -/
local macro_rules | `(tactic| trivial) => `(tactic| first
  | with_reducible refine s_Seq ?_
  | with_reducible refine s_Set ?_
  | with_reducible refine s_If ?_
  | with_reducible refine s_Drop ?_
  | with_reducible refine s_Ret ?_
  | with_reducible refine s_Par ?_
  | with_reducible refine s_For ?_
  | with_reducible refine s_Nx ?_
  | with_reducible refine p_f2 ?_
  | ((with_reducible apply p_var); (exact rfl))
  | with_reducible refine p_c ?_
  | with_reducible refine p_gNm ?_
  | with_reducible refine p_gSb ?_
  | with_reducible refine p_tru ?_
  | with_reducible refine p_and ?_
  | with_reducible refine p_or ?_
  | with_reducible refine p_not ?_
  | with_reducible refine p_yes ?_
  | with_reducible refine p_ite ?_
  | with_reducible refine p_cons ?_
  | with_reducible refine p_nil ?_
  | with_reducible refine p_cb ?_
  | with_reducible refine p_cbB ?_
  | with_reducible refine p_tup ?_
  | with_reducible refine p_lst ?_
  | with_reducible refine p_lstB ?_
  | with_reducible refine p_lc ?_
  | with_reducible refine p_dc ?_
  | with_reducible refine p_sl ?_
  | with_reducible refine p_oNo ?_
  | with_reducible refine c_oAt ?_
  | with_reducible refine c_atE ?_
  | ((with_reducible apply p_slE); (first | exact rfl | exact deP_bx rfl); (exact rfl))
  | with_reducible refine p_call ?_
  | with_reducible refine p_callN ?_
  | with_reducible refine s_ParE ?_
  | with_reducible refine c_iv ?_
  | with_reducible refine c_rg ?_
  | ((with_reducible apply c_mt); (exact rfl); (exact rfl))
  | with_reducible refine c_ret ?_
  | with_reducible refine p_closeV ?_
  | with_reducible refine p_closeK ?_
  | with_reducible refine ff ?_
  | with_reducible refine tt ?_
  | with_reducible refine nff ?_
  | with_reducible refine ntt ?_
  | with_reducible refine ndt (fun _ => ?_) (fun _ => ?_)
  | with_reducible refine dt (fun _ => ?_) (fun _ => ?_)
  | ((with_reducible apply p_l2); (first | exact rfl | exact deP_bx rfl); (first | exact rfl | exact deP_bx rfl); (first | assumption | exact rfl | exact mod_ok (by omega) | exact fdiv_ok (by omega) (by omega) | exact mul_ok (by omega) (by omega) | exact pow_ok (by omega) (by omega) (by omega)))
  | ((with_reducible apply p_truE); (first | exact rfl | exact deP_bx rfl); (exact rfl))
  | ((with_reducible apply p_cbE); (repeat (first | exact a_nil | (apply a_cons; first | exact rfl | exact deP_bx rfl))); (first | assumption | exact rfl))
  | ((with_reducible apply c_cbB); (repeat (first | exact a_nil | (apply a_cons; first | exact rfl | exact deP_bx rfl))); (first | assumption | exact rfl))
  | ((with_reducible apply p_lstE); (repeat (first | exact v_nil | apply v_cons)); (focus (show _ ≤ (100000 : Nat); first | decide | (simp; done) | (simp; omega))))
  | ((with_reducible apply p_tupE); (repeat (first | exact v_nil | apply v_cons)); (focus (show _ ≤ (100000 : Nat); first | decide | (simp; done) | (simp; omega))))
  | ((with_reducible apply c_lstB); (repeat (first | exact v_nil | apply v_cons)); (focus (show _ ≤ (100000 : Nat); first | decide | (simp; done) | (simp; omega))))
  | ((with_reducible apply c_ivE); (first | exact rfl | exact seq_bx rfl))
  | ((with_reducible apply p_sbL); (exact rfl); (exact rfl)))


local macro_rules | `(tactic| trivial) => `(tactic| first
  | ((with_reducible apply p_l2); (exact rfl); (exact rfl); (first | exact kB_0 | exact kB_1 | exact kB_2 | exact kB_3))
  | with_reducible refine kB_s1 ?_
  | with_reducible refine kB_s2 ?_
  | with_reducible refine kB_s3 ?_)
noncomputable def drawBB : FS :=
 (fSeq (fSet (f2 pAdd (f2 pIx (fVar 0) (fC (.v (.str "count")))) (fC (.v (.int 1)))) (gNm 2))
 (fSeq (fSet (fVar 2) (gSb (fVar 0) (fC (.v (.str "count")))))
 (fSeq (fIf (fTru (f2 pGt (f2 pIx (fVar 0) (fC (.v (.str "left")))) (fC (.v (.int 0)))))
  (fSeq (fSet (f2 pMod (f2 pIx (fVar 0) (fC (.v (.str "left")))) (fVar 1)) (gNm 3))
  (fSeq (fSet (f2 pFdiv (f2 pIx (fVar 0) (fC (.v (.str "left")))) (fVar 1)) (gSb (fVar 0) (fC (.v (.str "left")))))
  (fRet (fVar 3))))
  fNext)
 (fSeq (fSet (f2 pIx (fVar 0) (fC (.v (.str "at")))) (gNm 4))
 (fSeq (fSet (f2 pAdd (fVar 4) (fC (.v (.int 1)))) (gSb (fVar 0) (fC (.v (.str "at")))))
 (fSeq (fSet (fIte (fTru (f2 pNe (f2 pIx (fVar 0) (fC (.v (.str "cells")))) (fLst fNil))) (f2 pIx (f2 pIx (fVar 0) (fC (.v (.str "cells")))) (f2 pMod (fVar 4) (fCb bLen (fCons (f2 pIx (fVar 0) (fC (.v (.str "cells")))) fNil)))) (fC (.v (.int 41)))) (gNm 5))
 (fSeq (fIf (fAnd (fTru (f2 pGe (fVar 5) (f2 pPow (fC (.v (.int 10))) (fC (.v (.int 18)))))) (fTru (f2 pLt (fVar 4) (fCb bLen (fCons (f2 pIx (fVar 0) (fC (.v (.str "cells")))) fNil)))))
  (fSeq (fSet (f2 pFdiv (fVar 5) (fVar 1)) (gSb (fVar 0) (fC (.v (.str "left")))))
  (fRet (f2 pMod (fVar 5) (fVar 1))))
  fNext)
 (fSeq (fSet (f2 pMod (f2 pAdd (f2 pAdd (f2 pAdd (f2 pMod (fVar 5) (fC (.v (.int 1000003301)))) (f2 pMul (f2 pMul (fC (.v (.int 571))) (fVar 2)) (fVar 2))) (f2 pMul (fC (.v (.int 37))) (fVar 2))) (fC (.v (.int 11)))) (fC (.v (.int 2147483563)))) (gNm 6))
 (fSeq (fSet (f2 pMod (f2 pAdd (f2 pAdd (f2 pPow (fVar 6) (fC (.v (.int 5)))) (f2 pMul (fC (.v (.int 90031))) (fVar 2))) (fC (.v (.int 3)))) (fC (.v (.int 2147483549)))) (gNm 6))
 (fRet (f2 pMod (f2 pFdiv (f2 pMod (f2 pAdd (f2 pPow (fVar 6) (fC (.v (.int 5)))) (f2 pMul (fC (.v (.int 17))) (fVar 6))) (fC (.v (.int 2147483543)))) (fC (.v (.int 32)))) (fVar 1))))))))))))
noncomputable def drawBF : FF := runF 7 false drawBB

def SOB (b : Int) (o : Ob) : Prop := ∃ (ns : List Int) (at' c k : Int), o = .dic kB [.lst (ns.map P.int), .int at', .int c, .int k] ∧ 0 ≤ k ∧ k ≤ b ∧ ns.length ≤ 63
theorem SOB.mono {b b' : Int} {o : Ob} (h : SOB b o) (hb : b ≤ b') : SOB b' o := by
  obtain ⟨ns, at', c, k, e, h1, h2, h3⟩ := h
  exact ⟨ns, at', c, k, e, h1, by omega, h3⟩
theorem drawB_raw {n at' c k : Int} {ns : List Int} {T : Sto} (hk : 0 ≤ k) (hb : k ≤ 1000000) (h0 : 0 < n) (hn : n < 1000000) (hl : ns.length ≤ 63) :
    (drawBF [.r 0, .v (.int n)] (.dic kB [.lst (ns.map P.int), .int at', .int c, .int k] :: T)).P fun d S => ∃ v at2 c2, d = .v (.int v) ∧ S = .dic kB [.lst (ns.map P.int), .int at2, .int c2, .int (k + 1)] :: T ∧ 0 ≤ v ∧ v < n := by
  have fin : ∀ {at2 c2 v : Int} {S1 : Sto}, S1.take (T.length + 1) = .dic kB [.lst (ns.map P.int), .int at2, .int c2, .int (k + 1)] :: T → 0 ≤ v → v < n →
      ∃ v2 at3 c3, D.v (.int v) = .v (.int v2) ∧ S1.take ((Ob.dic kB [.lst (ns.map P.int), .int at', .int c, .int k] :: T).length) = .dic kB [.lst (ns.map P.int), .int at3, .int c3, .int (k + 1)] :: T ∧ 0 ≤ v2 ∧ v2 < n :=
    fun h1 h2 h3 => ⟨_, _, _, rfl, h1, h2, h3⟩
  have hlen : (List.map P.int ns).length = ns.length := List.length_map ..
  refine p_run ?_
  show (drawBB [some (.r 0), some (.v (.int n)), none, none, none, none, none] _).F _
  unfold drawBB
  repeat' trivial
  · exact fin (by simp; exact ⟨rfl, rfl⟩) (Int.emod_nonneg _ (by omega)) (Int.emod_lt_of_pos _ h0)
  obtain ⟨bb, e1, e2⟩ := ne_nil (ps := ns.map P.int) (n := 0) (fun q hq => by
      obtain ⟨i, _, rfl⟩ := List.mem_map.mp hq
      exact pl_int) (by omega)
  refine p_l2 rfl rfl e1 ?_
  have nb : ∀ i : Int, (i % 2147483563).natAbs < 2 ^ 64 := fun i => by
    have := Int.emod_nonneg i (show (2147483563 : Int) ≠ 0 by decide)
    have := Int.emod_lt_of_pos i (show (0 : Int) < 2147483563 by decide)
    omega
  have nb2 : ∀ i : Int, (i % 2147483549).natAbs < 2 ^ 64 := fun i => by
    have := Int.emod_nonneg i (show (2147483549 : Int) ≠ 0 by decide)
    have := Int.emod_lt_of_pos i (show (0 : Int) < 2147483549 by decide)
    omega
  repeat' trivial
  refine bt e2 (fun hne => ?_) fun hne => ?_
  · have hz : 0 < ns.length := by
      cases ns with
      | nil => exact absurd rfl hne
      | cons x r => exact Nat.succ_pos _
    have hi : ∃ x : Int, pIx (.lst (ns.map P.int)) (.int (at' % ((ns.map P.int).length : Int))) = some (.int x) := by
      rw [hlen]
      have h1 := Int.emod_nonneg at' (show (ns.length : Int) ≠ 0 by omega)
      have h2 := Int.emod_lt_of_pos at' (show (0 : Int) < (ns.length : Int) by omega)
      have hj : (at' % (ns.length : Int)).toNat < ns.length := by omega
      exact ⟨ns[(at' % (ns.length : Int)).toNat], at_nn (j := (at' % (ns.length : Int)).toNat) (by omega) (by rw [List.getElem?_map, List.getElem?_eq_getElem hj]; rfl)⟩
    obtain ⟨cell, hi⟩ := hi
    repeat' trivial
    all_goals exact fin (by simp; exact ⟨rfl, rfl⟩) (Int.emod_nonneg _ (by omega)) (Int.emod_lt_of_pos _ h0)
  · repeat' trivial
    all_goals exact fin (by simp; exact ⟨rfl, rfl⟩) (Int.emod_nonneg _ (by omega)) (Int.emod_lt_of_pos _ h0)
theorem drawB_ok {b n : Int} {o : Ob} {T : Sto} (h : SOB b o) (hb : b ≤ 1000000) (h0 : 0 < n) (hn : n < 1000000) : (drawBF [.r 0, .v (.int n)] (o :: T)).P fun d S => ∃ v o', d = .v (.int v) ∧ S = o' :: T ∧ 0 ≤ v ∧ v < n ∧ SOB (b + 1) o' := by
  obtain ⟨ns, at', c, k, rfl, h1, h2, h3⟩ := h
  refine (drawB_raw h1 (by omega) h0 hn h3).mono ?_
  rintro d S ⟨v, a2, c2, rfl, rfl, k1, k2⟩
  exact ⟨v, _, rfl, rfl, k1, k2, ns, a2, c2, k + 1, rfl, by omega, by omega, h3⟩
end DL

namespace FB
open PySem PySem.Spec PyProof.Rows L2 DL
/-- the running of a text on data -/
local macro_rules | `(tactic| trivial) => `(tactic| first
  | with_reducible refine s_Seq ?_
  | with_reducible refine s_Set ?_
  | with_reducible refine s_If ?_
  | with_reducible refine s_Drop ?_
  | with_reducible refine s_Ret ?_
  | with_reducible refine s_Par ?_
  | with_reducible refine s_For ?_
  | with_reducible refine s_Nx ?_
  | with_reducible refine p_f2 ?_
  | ((with_reducible apply p_var); (exact rfl))
  | with_reducible refine p_c ?_
  | with_reducible refine p_gNm ?_
  | with_reducible refine p_gSb ?_
  | with_reducible refine p_tru ?_
  | with_reducible refine p_and ?_
  | with_reducible refine p_or ?_
  | with_reducible refine p_not ?_
  | with_reducible refine p_yes ?_
  | with_reducible refine p_ite ?_
  | with_reducible refine p_cons ?_
  | with_reducible refine p_nil ?_
  | with_reducible refine p_cb ?_
  | with_reducible refine p_cbB ?_
  | with_reducible refine p_tup ?_
  | with_reducible refine p_lst ?_
  | with_reducible refine p_lstB ?_
  | with_reducible refine p_lc ?_
  | with_reducible refine p_dc ?_
  | with_reducible refine p_sl ?_
  | with_reducible refine p_oNo ?_
  | with_reducible refine c_oAt ?_
  | with_reducible refine c_atE ?_
  | ((with_reducible apply p_slE); (first | exact rfl | exact deP_bx rfl); (exact rfl))
  | with_reducible refine p_call ?_
  | with_reducible refine p_callN ?_
  | with_reducible refine s_ParE ?_
  | with_reducible refine c_iv ?_
  | with_reducible refine c_rg ?_
  | ((with_reducible apply c_mt); (exact rfl); (exact rfl))
  | with_reducible refine c_ret ?_
  | with_reducible refine p_closeV ?_
  | with_reducible refine p_closeK ?_
  | with_reducible refine ff ?_
  | with_reducible refine tt ?_
  | with_reducible refine nff ?_
  | with_reducible refine ntt ?_
  | with_reducible refine ndt (fun _ => ?_) (fun _ => ?_)
  | with_reducible refine dt (fun _ => ?_) (fun _ => ?_)
  | ((with_reducible apply p_l2); (first | exact rfl | exact deP_bx rfl); (first | exact rfl | exact deP_bx rfl); (first | assumption | exact rfl | exact mod_ok (by omega) | exact fdiv_ok (by omega) (by omega) | exact mul_ok (by omega) (by omega) | exact pow_ok (by omega) (by omega) (by omega)))
  | ((with_reducible apply p_truE); (first | exact rfl | exact deP_bx rfl); (exact rfl))
  | ((with_reducible apply p_cbE); (repeat (first | exact a_nil | (apply a_cons; first | exact rfl | exact deP_bx rfl))); (first | assumption | exact rfl))
  | ((with_reducible apply c_cbB); (repeat (first | exact a_nil | (apply a_cons; first | exact rfl | exact deP_bx rfl))); (first | assumption | exact rfl))
  | ((with_reducible apply p_lstE); (repeat (first | exact v_nil | apply v_cons)); (focus (show _ ≤ (100000 : Nat); first | decide | (simp; done) | (simp; omega))))
  | ((with_reducible apply p_tupE); (repeat (first | exact v_nil | apply v_cons)); (focus (show _ ≤ (100000 : Nat); first | decide | (simp; done) | (simp; omega))))
  | ((with_reducible apply c_lstB); (repeat (first | exact v_nil | apply v_cons)); (focus (show _ ≤ (100000 : Nat); first | decide | (simp; done) | (simp; omega))))
  | ((with_reducible apply c_ivE); (first | exact rfl | exact seq_bx rfl))
  | ((with_reducible apply p_sbL); (exact rfl); (exact rfl)))


noncomputable def B__law_draw : FS :=
 (fSeq (fSet (f2 pAdd (f2 pIx (fVar 0) (fC (.v (.str "count")))) (fC (.v (.int 1)))) (gNm 2))
 (fSeq (fSet (fVar 2) (gSb (fVar 0) (fC (.v (.str "count")))))
 (fSeq (fIf (fTru (f2 pGt (f2 pIx (fVar 0) (fC (.v (.str "left")))) (fC (.v (.int 0)))))
  (fSeq (fSet (f2 pMod (f2 pIx (fVar 0) (fC (.v (.str "left")))) (fVar 1)) (gNm 3))
  (fSeq (fSet (f2 pFdiv (f2 pIx (fVar 0) (fC (.v (.str "left")))) (fVar 1)) (gSb (fVar 0) (fC (.v (.str "left")))))
  (fRet (fVar 3))))
  fNext)
 (fSeq (fSet (f2 pIx (fVar 0) (fC (.v (.str "at")))) (gNm 4))
 (fSeq (fSet (f2 pAdd (fVar 4) (fC (.v (.int 1)))) (gSb (fVar 0) (fC (.v (.str "at")))))
 (fSeq (fSet (fIte (fTru (f2 pNe (f2 pIx (fVar 0) (fC (.v (.str "cells")))) (fLst fNil))) (f2 pIx (f2 pIx (fVar 0) (fC (.v (.str "cells")))) (f2 pMod (fVar 4) (fCb bLen (fCons (f2 pIx (fVar 0) (fC (.v (.str "cells")))) fNil)))) (fC (.v (.int 41)))) (gNm 5))
 (fSeq (fIf (fAnd (fTru (f2 pGe (fVar 5) (f2 pPow (fC (.v (.int 10))) (fC (.v (.int 18)))))) (fTru (f2 pLt (fVar 4) (fCb bLen (fCons (f2 pIx (fVar 0) (fC (.v (.str "cells")))) fNil)))))
  (fSeq (fSet (f2 pFdiv (fVar 5) (fVar 1)) (gSb (fVar 0) (fC (.v (.str "left")))))
  (fRet (f2 pMod (fVar 5) (fVar 1))))
  fNext)
 (fSeq (fSet (f2 pMod (f2 pAdd (f2 pAdd (f2 pAdd (f2 pMod (fVar 5) (fC (.v (.int 1000003301)))) (f2 pMul (f2 pMul (fC (.v (.int 571))) (fVar 2)) (fVar 2))) (f2 pMul (fC (.v (.int 37))) (fVar 2))) (fC (.v (.int 11)))) (fC (.v (.int 2147483563)))) (gNm 6))
 (fSeq (fSet (f2 pMod (f2 pAdd (f2 pAdd (f2 pPow (fVar 6) (fC (.v (.int 5)))) (f2 pMul (fC (.v (.int 90031))) (fVar 2))) (fC (.v (.int 3)))) (fC (.v (.int 2147483549)))) (gNm 6))
 (fRet (f2 pMod (f2 pFdiv (f2 pMod (f2 pAdd (f2 pPow (fVar 6) (fC (.v (.int 5)))) (f2 pMul (fC (.v (.int 17))) (fVar 6))) (fC (.v (.int 2147483543)))) (fC (.v (.int 32)))) (fVar 1))))))))))))
noncomputable def F__law_draw : FF := runF 7 false B__law_draw
noncomputable def B__law_feed : FS :=
 (fRet (fDicB [((fC (.v (.str "cells"))), (fCb bList (fCons (fSl (fVar 0) oNo (oAt (fC (.v (.int 63))))) fNil))), ((fC (.v (.str "at"))), (fC (.v (.int 0)))), ((fC (.v (.str "left"))), (fC (.v (.int 0)))), ((fC (.v (.str "count"))), (fC (.v (.int 0))))]))
noncomputable def F__law_feed : FF := runF 1 true B__law_feed
noncomputable def B__law_subset : FS :=
 (fRet (fCb bTuple (fCons (fLc (iVal (fVar 1)) (gNm 2) (fTru (f2 pEq (fCall F__law_draw [] (fCons (fVar 0) (fCons (fC (.v (.int 2))) fNil))) (fC (.v (.int 0))))) (fVar 2) [2]) fNil)))
noncomputable def F__law_subset : FF := runF 3 false B__law_subset
noncomputable def L__law_names_0 : FS :=
 (fDrop (fMt mPopAt (fVar 2) (fCons (fCall F__law_draw [] (fCons (fVar 0) (fCons (fCb bLen (fCons (fVar 2) fNil)) fNil))) fNil)))
noncomputable def B__law_names : FS :=
 (fSeq (fSet (fLstB (fCons (fC (.v (.str "a"))) (fCons (fC (.v (.str "bb"))) (fCons (fC (.v (.str "call"))) (fCons (fC (.v (.str "ham"))) (fCons (fC (.v (.str "pay"))) (fCons (fC (.v (.str "ship"))) (fCons (fC (.v (.str "t"))) (fCons (fC (.v (.str "zzzzzzzz"))) fNil))))))))) (gNm 2))
 (fSeq (fSet (f2 pAdd (fC (.v (.int 1))) (fCall F__law_draw [] (fCons (fVar 0) (fCons (fVar 1) fNil)))) (gNm 3))
 (fSeq (fWhile (fTru (f2 pGt (fCb bLen (fCons (fVar 2) fNil)) (fVar 3))) L__law_names_0)
 (fRet (fVar 2)))))
noncomputable def F__law_names : FF := runF 4 false B__law_names
noncomputable def B__law_abilities : FS :=
 (fSeq (fSet (fLstB fNil) (gNm 1))
 (fSeq (fIf (fTru (f2 pEq (fCall F__law_draw [] (fCons (fVar 0) (fCons (fC (.v (.int 2))) fNil))) (fC (.v (.int 0)))))
  (fDrop (fMt mAppend (fVar 1) (fCons (fC (.v (.str "again"))) fNil)))
  fNext)
 (fSeq (fIf (fTru (f2 pEq (fCall F__law_draw [] (fCons (fVar 0) (fCons (fC (.v (.int 2))) fNil))) (fC (.v (.int 0)))))
  (fDrop (fMt mAppend (fVar 1) (fCons (fC (.v (.str "ask"))) fNil)))
  fNext)
 (fSeq (fIf (fAnd (fTru (f2 pIn (fC (.v (.str "again"))) (fVar 1))) (fTru (f2 pEq (fCall F__law_draw [] (fCons (fVar 0) (fCons (fC (.v (.int 2))) fNil))) (fC (.v (.int 0))))))
  (fDrop (fMt mAppend (fVar 1) (fCons (fC (.v (.str "repeat"))) fNil)))
  fNext)
 (fSeq (fIf (fTru (f2 pGt (fCall F__law_draw [] (fCons (fVar 0) (fCons (fC (.v (.int 4))) fNil))) (fC (.v (.int 0)))))
  (fDrop (fMt mAppend (fVar 1) (fCons (fC (.v (.str "undo"))) fNil)))
  fNext)
 (fRet (fCb bTuple (fCons (fVar 1) fNil))))))))
noncomputable def F__law_abilities : FF := runF 2 false B__law_abilities
noncomputable def L__law_job_0 : FS :=
 (fSet (fMt mPopAt (fVar 4) (fCons (fCall F__law_draw [] (fCons (fVar 0) (fCons (fCb bLen (fCons (fVar 4) fNil)) fNil))) fNil)) (gSb (fVar 3) (fVar 5)))
noncomputable def L__law_job_1 : FS :=
 (fSeq (fSet (fLc (iVal (fVar 2)) (gNm 9) (fAnd (fTru (f2 pLt (f2 pIx (fVar 3) (fVar 9)) (f2 pIx (fVar 3) (fVar 5)))) (fTru (f2 pEq (fCall F__law_draw [] (fCons (fVar 0) (fCons (fVar 7) fNil))) (fC (.v (.int 0)))))) (fVar 9) [9]) (gNm 8))
  (fSeq (fSet (fLc (iVal (fVar 2)) (gNm 9) (fAnd (fTru (f2 pNe (fVar 9) (fVar 5))) (fTru (f2 pEq (fCall F__law_draw [] (fCons (fVar 0) (fCons (f2 pAdd (fVar 7) (fC (.v (.int 1)))) fNil))) (fC (.v (.int 0)))))) (fVar 9) [9]) (gNm 10))
  (fDrop (fMt mAppend (fVar 6) (fCons (fTup (fCons (fVar 5) (fCons (fCb bTuple (fCons (fVar 8) fNil)) (fCons (fCb bTuple (fCons (fVar 10) fNil)) (fCons (fCall F__law_abilities [] (fCons (fVar 0) fNil)) fNil))))) fNil)))))
noncomputable def B__law_job : FS :=
 (fSeq (fPar 2 3 (fCons (fCall F__law_names [] (fCons (fVar 0) (fCons (fVar 1) fNil))) (fCons fDic0B fNil)))
 (fSeq (fSet (fRg true (fCb bLen (fCons (fVar 2) fNil))) (gNm 4))
 (fSeq (fFor (iVal (fVar 2)) (gNm 5) L__law_job_0)
 (fSeq (fPar 6 7 (fCons (fLstB fNil) (fCons (f2 pAdd (fC (.v (.int 2))) (fCall F__law_draw [] (fCons (fVar 0) (fCons (fC (.v (.int 3))) fNil)))) fNil)))
 (fSeq (fFor (iVal (fVar 2)) (gNm 5) L__law_job_1)
 (fRet (fCb bTuple (fCons (fVar 6) fNil))))))))
noncomputable def F__law_job : FF := runF 11 false B__law_job
noncomputable def B__law_all : FS :=
 (fRet (fCb bTuple (fCons (fLc (iVal (fVar 0)) (gNm 1) fYes (f2 pIx (fVar 1) (fC (.v (.int 0)))) [1]) fNil)))
noncomputable def F__law_all : FF := runF 2 false B__law_all
noncomputable def B__law_row : FS :=
 (fRet (f2 pIx (fLc (iVal (fVar 0)) (gNm 2) (fTru (f2 pEq (f2 pIx (fVar 2) (fC (.v (.int 0)))) (fVar 1))) (fVar 2) [2]) (fC (.v (.int 0)))))
noncomputable def F__law_row : FF := runF 3 false B__law_row
noncomputable def B__law_reasons : FS :=
 (fSeq (fSet (fCall F__law_row [] (fCons (fVar 0) (fCons (fVar 2) fNil))) (gTp 4 (gCn (gNm 3) (gCn (gNm 4) (gCn (gNm 5) (gCn (gNm 6) gNl))))))
 (fSeq (fSet (fLc (iVal (fVar 0)) (gNm 8) (fAnd (fTru (f2 pIn (fVar 2) (f2 pIx (fVar 8) (fC (.v (.int 1)))))) (fTru (f2 pIn (f2 pIx (fVar 8) (fC (.v (.int 0)))) (fVar 1)))) (fTup (fCons (fC (.v (.str "needed"))) (fCons (f2 pIx (fVar 8) (fC (.v (.int 0)))) fNil))) [8]) (gNm 7))
 (fSeq (fSet (f2 pAdd (fVar 7) (fLc (iVal (fVar 5)) (gNm 9) (fTru (f2 pIn (fVar 9) (fVar 1))) (fTup (fCons (fC (.v (.str "seal"))) (fCons (fVar 9) fNil))) [9])) (gNm 7))
 (fRet (fCb bSorted (fCons (f2 pAdd (fVar 7) (f2 pMul (fLst (fCons (fTup (fCons (fC (.v (.str "ability"))) fNil)) fNil)) (fCb bInt (fCons (f2 pNotIn (fC (.v (.str "undo"))) (fVar 6)) fNil)))) fNil))))))
noncomputable def F__law_reasons : FF := runF 10 false B__law_reasons
noncomputable def B_rows_by_step : FS :=
 (fRet (fDc (iVal (fVar 0)) (gNm 1) fYes (f2 pIx (fVar 1) (fC (.v (.int 0)))) (fVar 1) [1]))
noncomputable def F_rows_by_step : FF := runF 2 false B_rows_by_step
noncomputable def L_require_steps_0 : FS :=
 (fIf (fTru (f2 pNotIn (fVar 3) (fVar 2)))
   fNever
   fNext)
noncomputable def B_require_steps : FS :=
 (fSeq (fSet (fCall F_rows_by_step [] (fCons (fVar 0) fNil)) (gNm 2))
 (fFor (iVal (fVar 1)) (gNm 3) L_require_steps_0))
noncomputable def F_require_steps : FF := runF 4 false B_require_steps
noncomputable def B_reasons_in : FS :=
 (fSeq (fSet (fCall F_rows_by_step [] (fCons (fVar 0) fNil)) (gNm 3))
 (fSeq (fSet (f2 pIx (fVar 3) (fVar 2)) (gTp 4 (gCn (gNm 4) (gCn (gNm 5) (gCn (gNm 6) (gCn (gNm 7) gNl))))))
 (fSeq (fSet (fIte (fTru (f2 pIn (fC (.v (.str "undo"))) (fVar 7))) (fLstB fNil) (fLstB (fCons (fTup (fCons (fC (.v (.str "ability"))) fNil)) fNil))) (gNm 8))
 (fSeq (fDrop (fMt mExtend (fVar 8) (fCons (fLc (iVal (fVar 1)) (gNm 9) (fTru (f2 pIn (fVar 2) (f2 pIx (f2 pIx (fVar 3) (fVar 9)) (fC (.v (.int 1)))))) (fTup (fCons (fC (.v (.str "needed"))) (fCons (fVar 9) fNil))) [9]) fNil)))
 (fSeq (fDrop (fMt mExtend (fVar 8) (fCons (fLc (iVal (fVar 6)) (gNm 9) (fTru (f2 pIn (fVar 9) (fVar 1))) (fTup (fCons (fC (.v (.str "seal"))) (fCons (fVar 9) fNil))) [9]) fNil)))
 (fRet (fCb bTuple (fCons (fCb bSorted (fCons (fVar 8) fNil)) fNil))))))))
noncomputable def F_reasons_in : FF := runF 10 false B_reasons_in
noncomputable def B_held_by : FS :=
 (fSeq (fDrop (fCall F_require_steps [] (fCons (fVar 0) (fCons (fVar 1) fNil))))
 (fSeq (fDrop (fCall F_require_steps [] (fCons (fVar 0) (fCons (fTup (fCons (fVar 2) fNil)) fNil))))
 (fRet (fIte (fTru (f2 pIn (fVar 2) (fVar 1))) (fCall F_reasons_in [] (fCons (fVar 0) (fCons (fVar 1) (fCons (fVar 2) fNil)))) (fTup fNil)))))
noncomputable def F_held_by : FF := runF 3 false B_held_by
noncomputable def B_free_steps : FS :=
 (fSeq (fDrop (fCall F_require_steps [] (fCons (fVar 0) (fCons (fVar 1) fNil))))
 (fRet (fCb bTuple (fCons (fLc (iVal (fVar 1)) (gNm 2) (fTru (f2 pEq (fCall F_reasons_in [] (fCons (fVar 0) (fCons (fVar 1) (fCons (fVar 2) fNil)))) (fTup fNil))) (fVar 2) [2]) fNil))))
noncomputable def F_free_steps : FF := runF 3 false B_free_steps

theorem draw {b n : Int} {o : Ob} {T : Sto} (h : SOB b o) (hb : b ≤ 1000000) (h0 : 0 < n) (hn : n < 1000000) : (F__law_draw [.r 0, .v (.int n)] (o :: T)).P fun d S => ∃ v o', d = .v (.int v) ∧ S = o' :: T ∧ 0 ≤ v ∧ v < n ∧ SOB (b + 1) o' := drawB_ok h hb h0 hn
/-- a row of a work -/
structure Rw where
  x : Str
  ne : List Str
  se : List Str
  ab : List Str
instance : Inhabited Rw := ⟨⟨"", [], [], []⟩⟩
def rw' (r : Rw) : P := .tup [.str r.x, stP r.ne, stP r.se, stP r.ab]
def wk (rs : List Rw) : P := .tup (rs.map rw')
def nm (rs : List Rw) : List Str := rs.map (·.x)
def Okx (x : Str) : Prop := PyData.strOk x = true ∧ PyData.strOk (reprText x) = true ∧ (reprText x).length ≤ 20
structure RwOk (r : Rw) : Prop where
  x : Okx r.x
  ne : ∀ y ∈ r.ne, Okx y
  nl : r.ne.length ≤ 8
  se : ∀ y ∈ r.se, Okx y
  sl : r.se.length ≤ 8
  ab : ∀ y ∈ r.ab, Okx y
  al : r.ab.length ≤ 8
structure WOk (rs : List Rw) : Prop where
  rows : ∀ r ∈ rs, RwOk r
  len : rs.length ≤ 8
  nd : (nm rs).Nodup
theorem feed {ns : List Int} (hn : ns.length ≤ 63) : (F__law_feed [.v (.frz (ns.map P.int))] []).P fun d S => ∃ o, d = .r 0 ∧ S = [o] ∧ SOB 0 o := by
  have e : kvF [((fC (.v (.str "cells"))), (fCb bList (fCons (fSl (fVar 0) oNo (oAt (fC (.v (.int 63))))) fNil))), ((fC (.v (.str "at"))), (fC (.v (.int 0)))), ((fC (.v (.str "left"))), (fC (.v (.int 0)))), ((fC (.v (.str "count"))), (fC (.v (.int 0))))]
      [some (.v (.frz (ns.map P.int)))] [] = .ok [(.inr "cells", .lst (cutL (ns.map P.int) none (some 63))), (.inr "at", .int 0), (.inr "left", .int 0), (.inr "count", .int 0)] [] := rfl
  have em : mergeP [(.inr "cells", P.lst (cutL (ns.map P.int) none (some 63))), (.inr "at", .int 0), (.inr "left", .int 0), (.inr "count", .int 0)] = (kB, [P.lst (cutL (ns.map P.int) none (some 63)), .int 0, .int 0, .int 0]) := by
    unfold mergeP
    simp only [List.foldl_cons, List.foldl_nil]
    have k1 : (Sum.inr "cells" : Key) ≠ .inr "at" := by decide +kernel
    have k2 : (Sum.inr "cells" : Key) ≠ .inr "left" := by decide +kernel
    have k3 : (Sum.inr "cells" : Key) ≠ .inr "count" := by decide +kernel
    have k4 : (Sum.inr "at" : Key) ≠ .inr "left" := by decide +kernel
    have k5 : (Sum.inr "at" : Key) ≠ .inr "count" := by decide +kernel
    have k6 : (Sum.inr "left" : Key) ≠ .inr "count" := by decide +kernel
    simp only [putP, if_neg k1, if_neg k2, if_neg k3, if_neg k4, if_neg k5, if_neg k6]
    rfl
  refine p_run ?_
  show (B__law_feed [some (.v (.frz (ns.map P.int)))] _).F _
  unfold B__law_feed
  repeat' trivial
  refine P_of (a := .r 0) (S := [.dic kB [.lst (cutL (ns.map P.int) none (some 63)), .int 0, .int 0, .int 0]]) ?_ ?_
  · unfold fDicB
    rw [e]
    simp only [Oc.bind_ok]
    rw [em]
    rfl
  show (closeD true 0 _ _).P _
  refine p_closeK ?_
  refine ⟨_, rfl, rfl, cutL ns none (some 63), 0, 0, 0, ?_, by decide, by decide, Nat.le_trans cut_len hn⟩
  rw [← cut_map]
end FB

namespace FN
open PySem PySem.Spec PyProof.Rows L2 DL GA
open FB (F__law_draw F__law_subset F__law_names F__law_abilities F__law_job F__law_all F__law_row F__law_reasons B__law_subset B__law_names B__law_abilities B__law_job B__law_all B__law_row B__law_reasons L__law_names_0 L__law_job_0 L__law_job_1)
/-- the running of a text on data -/
local macro_rules | `(tactic| trivial) => `(tactic| first
  | with_reducible refine s_Seq ?_
  | with_reducible refine s_Set ?_
  | with_reducible refine s_If ?_
  | with_reducible refine s_Drop ?_
  | with_reducible refine s_Ret ?_
  | with_reducible refine s_Par ?_
  | with_reducible refine s_For ?_
  | with_reducible refine s_Nx ?_
  | with_reducible refine p_f2 ?_
  | ((with_reducible apply p_var); (exact rfl))
  | with_reducible refine p_c ?_
  | with_reducible refine p_gNm ?_
  | with_reducible refine p_gSb ?_
  | with_reducible refine p_tru ?_
  | with_reducible refine p_and ?_
  | with_reducible refine p_or ?_
  | with_reducible refine p_not ?_
  | with_reducible refine p_yes ?_
  | with_reducible refine p_ite ?_
  | with_reducible refine p_cons ?_
  | with_reducible refine p_nil ?_
  | with_reducible refine p_cb ?_
  | with_reducible refine p_cbB ?_
  | with_reducible refine p_tup ?_
  | with_reducible refine p_lst ?_
  | with_reducible refine p_lstB ?_
  | with_reducible refine p_lc ?_
  | with_reducible refine p_dc ?_
  | with_reducible refine p_sl ?_
  | with_reducible refine p_oNo ?_
  | with_reducible refine c_oAt ?_
  | with_reducible refine c_atE ?_
  | ((with_reducible apply p_slE); (first | exact rfl | exact deP_bx rfl); (exact rfl))
  | with_reducible refine p_call ?_
  | with_reducible refine p_callN ?_
  | with_reducible refine s_ParE ?_
  | with_reducible refine c_iv ?_
  | with_reducible refine c_rg ?_
  | ((with_reducible apply c_mt); (exact rfl); (exact rfl))
  | with_reducible refine c_ret ?_
  | with_reducible refine p_closeV ?_
  | with_reducible refine p_closeK ?_
  | with_reducible refine ff ?_
  | with_reducible refine tt ?_
  | with_reducible refine nff ?_
  | with_reducible refine ntt ?_
  | with_reducible refine ndt (fun _ => ?_) (fun _ => ?_)
  | with_reducible refine dt (fun _ => ?_) (fun _ => ?_)
  | ((with_reducible apply p_l2); (first | exact rfl | exact deP_bx rfl); (first | exact rfl | exact deP_bx rfl); (first | assumption | exact rfl | exact mod_ok (by omega) | exact fdiv_ok (by omega) (by omega) | exact mul_ok (by omega) (by omega) | exact pow_ok (by omega) (by omega) (by omega)))
  | ((with_reducible apply p_truE); (first | exact rfl | exact deP_bx rfl); (exact rfl))
  | ((with_reducible apply p_cbE); (repeat (first | exact a_nil | (apply a_cons; first | exact rfl | exact deP_bx rfl))); (first | assumption | exact rfl))
  | ((with_reducible apply c_cbB); (repeat (first | exact a_nil | (apply a_cons; first | exact rfl | exact deP_bx rfl))); (first | assumption | exact rfl))
  | ((with_reducible apply p_lstE); (repeat (first | exact v_nil | apply v_cons)); (focus (show _ ≤ (100000 : Nat); first | decide | (simp; done) | (simp; omega))))
  | ((with_reducible apply p_tupE); (repeat (first | exact v_nil | apply v_cons)); (focus (show _ ≤ (100000 : Nat); first | decide | (simp; done) | (simp; omega))))
  | ((with_reducible apply c_lstB); (repeat (first | exact v_nil | apply v_cons)); (focus (show _ ≤ (100000 : Nat); first | decide | (simp; done) | (simp; omega))))
  | ((with_reducible apply c_ivE); (first | exact rfl | exact seq_bx rfl))
  | ((with_reducible apply p_sbL); (exact rfl); (exact rfl)))


/-- the value of a text, found -/
local macro_rules | `(tactic| array_get_dec) => `(tactic| first
  | (focus ((with_reducible (show deP _ _ = _)); exact rfl))
  | (focus ((with_reducible (show seqOf _ _ = _)); exact rfl))
  | (focus ((with_reducible (show truP _ = _)); exact rfl))
  | (focus ((with_reducible (show pIx _ _ = _)); exact rfl))
  | (focus ((with_reducible (show pKey _ = _)); exact rfl))
  | (focus ((with_reducible (show bLen _ = _)); exact rfl))
  | (focus ((with_reducible (show bInt _ = _)); exact rfl))
  | (focus ((with_reducible (show bList _ = _)); exact rfl))
  | (focus ((with_reducible (show pAdd (.int _) (.int _) = _)); exact rfl))
  | (focus ((with_reducible (show pSub (.int _) (.int _) = _)); exact rfl))
  | (focus ((with_reducible (show pLt (.int _) (.int _) = _)); exact rfl))
  | (focus ((with_reducible (show pLe (.int _) (.int _) = _)); exact rfl))
  | (focus ((with_reducible (show pGt (.int _) (.int _) = _)); exact rfl))
  | (focus ((with_reducible (show pGe (.int _) (.int _) = _)); exact rfl))
  | (focus ((with_reducible (show List.length _ = _)); exact rfl))
  | (focus ((with_reducible (show pSl _ _ _ = _)); exact rfl))
  | (focus ((with_reducible (show pIsN _ _ = _)); exact rfl))
  | (focus ((with_reducible (show pNotN _ _ = _)); exact rfl))
  | (focus ((with_reducible (show pNeg _ = _)); exact rfl))
  | (focus ((with_reducible (show setD _ _ _ _ = _)); exact rfl))
  | with_reducible exact rfl)
local macro_rules | `(tactic| array_get_dec) => `(tactic| first
  | (focus ((with_reducible show _ = _); with_reducible assumption))
  | (focus (with_reducible apply e_l2))
  | with_reducible exact o_eqN
  | with_reducible exact o_neN
  | with_reducible exact o_eqT
  | with_reducible exact o_neT
  | with_reducible exact o_eqT0
  | with_reducible exact o_neT0
  | with_reducible exact o_eqLs0
  | with_reducible exact o_neLs0
  | with_reducible exact o_inT
  | with_reducible exact o_inLs
  | with_reducible exact o_niT
  | with_reducible exact o_niLs
  | with_reducible exact o_eqI
  | with_reducible exact o_neI
  | with_reducible exact o_eqL (by decide +kernel)
  | with_reducible exact o_neL (by decide +kernel)
  | with_reducible exact o_inW (by decide +kernel)
  | with_reducible exact o_niW (by decide +kernel)
  | with_reducible exact o_in1 (by decide +kernel)
  | with_reducible exact o_in2 (by decide +kernel) (by decide +kernel)
  | with_reducible exact o_in3 (by decide +kernel) (by decide +kernel) (by decide +kernel)
  | with_reducible exact o_ni1 (by decide +kernel)
  | with_reducible exact o_ni2 (by decide +kernel) (by decide +kernel)
  | with_reducible exact o_addT1 (by first | omega | (simp; omega))
  | with_reducible exact o_addT (by first | omega | (simp; omega))
  | with_reducible exact o_addLs (by first | omega | (simp; omega))
  | with_reducible exact o_addTp (by first | omega | (simp; omega))
  | with_reducible exact o_tupleN
  | with_reducible exact o_tuple)
local macro_rules | `(tactic| array_get_dec) => `(tactic| first
  | with_reducible exact e_c
  | ((with_reducible apply e_var); (exact rfl))
  | with_reducible apply e_f2
  | with_reducible exact e_nil
  | with_reducible apply e_cons
  | with_reducible apply e_tup
  | with_reducible apply e_lst
  | with_reducible apply e_lstB
  | with_reducible apply e_cb
  | with_reducible apply e_cbB
  | with_reducible apply e_tru
  | with_reducible exact e_yes
  | with_reducible apply e_and
  | with_reducible apply e_or
  | with_reducible apply e_not
  | with_reducible apply e_iteB
  | with_reducible apply e_ite
  | with_reducible apply e_andV
  | with_reducible apply e_orV
  | with_reducible apply e_notV
  | with_reducible apply e_f1
  | with_reducible apply e_call
  | with_reducible apply e_callN
  | with_reducible apply e_sl
  | with_reducible exact e_oNo
  | with_reducible apply e_oAt
  | with_reducible apply e_iv
  | with_reducible apply e_lcA
  | with_reducible apply e_lc
  | with_reducible apply e_lcB
  | with_reducible apply e_rg
  | with_reducible apply e_rg2
  | ((with_reducible apply e_mt); (exact rfl); (exact rfl))
  | with_reducible exact e_gNm
  | with_reducible exact e_gNl
  | with_reducible apply e_gCn
  | (focus ((with_reducible (show gTp _ _ _ _ _ = _)); (apply e_gTp); (exact rfl)))
  | (with_reducible (intro _ _; apply e_body))
  | with_reducible exact v_nil
  | with_reducible apply v_cons
  | with_reducible exact a_nil
  | ((with_reducible apply a_cons); (first | exact deP_bx rfl | exact deP_bxD rfl | exact rfl))
  | with_reducible exact deP_bx rfl
  | with_reducible exact deP_bxD rfl
  | with_reducible exact own_none
  | with_reducible exact own_bx rfl
  | (focus (show _ ≤ (100000 : Nat); first | decide | omega | (simp; done) | (simp; omega)))
  | (focus (show _ < (100000 : Nat); first | omega | (simp; omega) | (refine Nat.lt_of_le_of_lt (List.length_filter_le _ _) ?_; omega)))
  | with_reducible exact o_app (by first | omega | (simp; omega))
  | with_reducible exact o_ext rfl (by first | omega | (simp; omega))
  | (with_reducible intro _))
/-- the running of a text over values that are found -/
local macro_rules | `(tactic| get_elem_tactic_extensible) => `(tactic| first
  | with_reducible refine s_Seq ?_
  | with_reducible refine s_Nx ?_
  | with_reducible apply e_closeT
  | ((with_reducible apply e_closeLT); (exact rfl))
  | with_reducible apply s_SetE
  | with_reducible apply s_DropE
  | with_reducible apply s_RetE
  | with_reducible apply s_IfE
  | with_reducible apply s_Par2
  | with_reducible apply s_ForE)

theorem draw {b n : Int} {o : Ob} {T : Sto} {Q : D → Sto → Prop} (h : SOB b o) (hb : b ≤ 1000000) (h0 : 0 < n) (hn : n < 1000000) (q : ∀ (v : Int) (o' : Ob), 0 ≤ v → v < n → SOB (b + 1) o' → Q (.v (.int v)) (o' :: T)) : (F__law_draw [.r 0, .v (.int n)] (o :: T)).P Q := (FB.draw h hb h0 hn).mono fun d S ⟨v, o', e1, e2, h1, h2, h3⟩ => by
  subst e1 e2
  exact q v o' h1 h2 h3
theorem subset {b : Int} {o : Ob} {T : Sto} {xs : List Nm} {Q : D → Sto → Prop} (h : SOB b o) (hb : b ≤ 900000) (hl : xs.length ≤ 100) (q : ∀ (ys : List Nm) (o' : Ob), ys.Sublist xs → SOB (b + 100) o' → Q (.v (tN ys)) (o' :: T)) : (F__law_subset [.r 0, .v (tN xs)] (o :: T)).P Q := by
  refine p_runC ?_
  show (B__law_subset [some (.r 0), some (.v (tN xs)), none] _).F _
  unfold B__law_subset
  repeat' trivial
  refine lc_some (f := nP) (hh := nP) (xs := xs) (fun i S => ∃ o, S = o :: (T ++ []) ∧ SOB (b + i) o) ⟨o, rfl, by simpa using h⟩ (fun _ _ _ => own_none) (by omega) ?_ ?_
  · rintro i x S hx ⟨o, rfl, hs⟩
    have := lt_of_at hx
    repeat' trivial
    refine draw hs (by omega) (by decide) (by decide) fun v o' v0 v1 hs' => ?_
    have hs' : SOB (b + ((i + 1 : Nat) : Int)) o' := by
      rw [show b + ((i + 1 : Nat) : Int) = b + i + 1 by omega]
      exact hs'
    refine p_c (P_of (e_l2 rfl rfl o_eqI) ?_)
    repeat' trivial
    · exact ⟨rfl, o', rfl, hs'⟩
    · exact ⟨o', rfl, hs'⟩
  · rintro ys S hsub ⟨o, rfl, hs⟩
    repeat' trivial
    exact q ys o hsub (hs.mono (by omega))
def poolN : List Nm := [lit "a", lit "bb", lit "call", lit "ham", lit "pay", lit "ship", lit "t", lit "zzzzzzzz"]
theorem pool_nd : poolN.Nodup := by
  have h : ∀ i j : Fin 8, i < j → (poolN[i]).s ≠ (poolN[j]).s := by decide +kernel
  refine List.pairwise_iff_getElem.mpr fun i j hi hj hij e => ?_
  exact h ⟨i, hi⟩ ⟨j, hj⟩ hij (congrArg Nm.s e)
theorem names {b m : Int} {o : Ob} {T : Sto} {Q : D → Sto → Prop} (h : SOB b o) (hb : b ≤ 900000) (hm0 : 0 < m) (hm : m ≤ 8) (q : ∀ (xs : List Nm) (o' : Ob), xs.Sublist poolN → 1 ≤ xs.length → xs.length ≤ m → SOB (b + 20) o' → Q (.v (.lst (xs.map nP))) (o' :: T)) : (F__law_names [.r 0, .v (.int m)] (o :: T)).P Q := by
  refine p_runC ?_
  show (B__law_names [some (.r 0), some (.v (.int m)), none, none] _).F _
  unfold B__law_names
  refine s_Seq (s_SetE (d := .r (bx T 0)) (S1 := o :: (T ++ [.lst (poolN.map nP)])) (e_lstB (T := T) (B := []) (ps := poolN.map nP) (ds := poolN.map fun x => .v (nP x)) rfl rfl (by decide)) e_gNm ?_)
  repeat' trivial
  refine draw h (by omega) hm0 (by omega) fun v o v0 v1 hs => ?_
  repeat' trivial
  refine s_While (fun n env S => ∃ (o : Ob) (xs : List Nm), env = [some (.r 0), some (.v (.int m)), some (.r (bx T 0)), some (.v (.int (1 + v)))] ∧ S = o :: (T ++ [.lst (xs.map nP)]) ∧ xs.Sublist poolN ∧ xs.length = n ∧ 1 + v ≤ n ∧ SOB (b + 1 + (8 - n)) o) 8 (by decide)
    ⟨o, poolN, rfl, rfl, List.Sublist.refl _, rfl, by omega, by simpa using hs⟩ ?_
  rintro i env S ⟨o, xs, rfl, rfl, hsub, hl, hvn, hs⟩
  have hxl : xs.length ≤ 8 := hsub.length_le
  have hml : (List.map nP xs).length = xs.length := List.length_map ..
  repeat' trivial
  · unfold L__law_names_0
    repeat' trivial
    rename_i hgt
    refine draw hs (by omega) (by omega) (by omega) fun w o' w0 w1 hs' => ?_
    repeat' trivial
    obtain ⟨x, e⟩ := o_popN (xs := xs) (S := o' :: (T ++ [.lst (xs.map nP)])) w0 w1 (by omega)
    refine c_mtE rfl e ?_
    have hlt : w.toNat < xs.length := by omega
    have hlen := List.length_eraseIdx_of_lt hlt
    refine ⟨xs.length - 1, by omega, o', xs.eraseIdx w.toNat, rfl, rfl, (List.eraseIdx_sublist ..).trans hsub, hlen, by omega, hs'.mono (by omega)⟩
  · rename_i hgt
    refine c_retL rfl ?_
    exact q xs o hsub (by omega) (by omega) (hs.mono (by omega))
def cnd (b : Bool) (x : Nm) : List Nm := if b = true then [x] else []
def abOf (b1 b2 b3 b4 : Bool) : List Nm := cnd b1 nAgain ++ cnd b2 nAsk ++ cnd b3 nRepeat ++ cnd b4 nUndo
def AbOk (ab : List Nm) : Prop := ∃ b1 b2 b3 b4 : Bool, (b3 = true → b1 = true) ∧ ab = abOf b1 b2 b3 b4
theorem cnd_len (b : Bool) (x : Nm) : (cnd b x).length ≤ 1 := by cases b <;> simp [cnd]
theorem stage {t : FT} {y : Nm} {ys : List Nm} {o : Ob} {T : Sto} {env : Dnv} {E : FEn} {R : Bool → Sto → Prop} (hl : ys.length ≤ 10) (henv : env[1]? = some (some (.r (bx T 0))))
    (ht : (t env (o :: (T ++ [.lst (ys.map nP)]))).P R) (hR : ∀ b S, R b S → ∃ o', S = o' :: (T ++ [.lst (ys.map nP)])) (k : ∀ (o' : Ob) (b : Bool), R b (o' :: (T ++ [.lst (ys.map nP)])) → E.nx env (o' :: (T ++ [.lst ((ys ++ cnd b y).map nP)]))) :
    (fIf t (fDrop (fMt mAppend (fVar 1) (fCons (fC (.v (nP y))) fNil))) fNext env (o :: (T ++ [.lst (ys.map nP)]))).F E := by
  refine s_If (ht.mono ?_)
  intro kb S hr
  obtain ⟨o', rfl⟩ := hR kb S hr
  refine ⟨fun hk => ?_, fun hk => ?_⟩
  · refine s_Drop (P_of (e_mt henv rfl (e_cons e_c e_nil) (o_app (by rw [List.length_map]; omega))) ?_)
    have := k o' kb hr
    rw [hk] at this
    simpa [cnd] using this
  · have := k o' kb hr
    rw [hk] at this
    refine s_Nx ?_
    simpa [cnd] using this
theorem abilities {b : Int} {o : Ob} {T : Sto} {Q : D → Sto → Prop} (h : SOB b o) (hb : b ≤ 900000) (q : ∀ (xs : List Nm) (o' : Ob), AbOk xs → SOB (b + 4) o' → Q (.v (tN xs)) (o' :: T)) : (F__law_abilities [.r 0] (o :: T)).P Q := by
  refine p_runC ?_
  show (B__law_abilities [some (.r 0), none] _).F _
  unfold B__law_abilities
  refine s_Seq (s_SetE (S1 := o :: (T ++ [.lst (([] : List Nm).map nP)])) (d := .r (bx T 0)) (e_lstB e_nil v_nil (by decide)) e_gNm ?_)
  refine s_Seq (stage (y := nAgain) (R := fun _ S => ∃ o', S = o' :: (T ++ [.lst (([] : List Nm).map nP)]) ∧ SOB (b + 1) o') (by decide) rfl ?_ (fun _ _ ⟨o', e, _⟩ => ⟨o', e⟩) ?_)
  · repeat' trivial
    refine draw h (by omega) (by decide) (by decide) fun v o' v0 v1 hs' => ?_
    refine p_c (P_of (e_l2 rfl rfl o_eqI) ?_)
    repeat' trivial
    exact ⟨o', rfl, hs'⟩
  rintro o b1 ⟨_, e, hs⟩
  cases e
  have l1 := cnd_len b1 nAgain
  refine s_Seq (stage (y := nAsk) (ys := [] ++ cnd b1 nAgain) (R := fun _ S => ∃ o', S = o' :: (T ++ [.lst (([] ++ cnd b1 nAgain).map nP)]) ∧ SOB (b + 2) o') (by simp; omega) rfl ?_ (fun _ _ ⟨o', e, _⟩ => ⟨o', e⟩) ?_)
  · repeat' trivial
    refine draw hs (by omega) (by decide) (by decide) fun v o' v0 v1 hs' => ?_
    refine p_c (P_of (e_l2 rfl rfl o_eqI) ?_)
    repeat' trivial
    exact ⟨o', rfl, hs'.mono (by omega)⟩
  rintro o b2 ⟨_, e, hs⟩
  cases e
  have l2 := cnd_len b2 nAsk
  refine s_Seq (stage (y := nRepeat) (ys := [] ++ cnd b1 nAgain ++ cnd b2 nAsk) (R := fun b3 S => (b3 = true → b1 = true) ∧ ∃ o', S = o' :: (T ++ [.lst (([] ++ cnd b1 nAgain ++ cnd b2 nAsk).map nP)]) ∧ SOB (b + 3) o') (by simp; omega) rfl ?_ (fun _ _ ⟨_, o', e, _⟩ => ⟨o', e⟩) ?_)
  · refine p_and ?_
    have hin : pIn (nP nAgain) (lN ([] ++ cnd b1 nAgain ++ cnd b2 nAsk)) = some (.bl b1) := by
      rw [o_inLs]
      have h1 : nAgain ≠ nAsk := fun e => absurd (congrArg Nm.s e) (show ("again" : Str) ≠ "ask" by decide +kernel)
      congr 2
      cases b1 <;> cases b2 <;> simp [cnd, h1]
    refine P_of (e_tru (S1 := o :: (T ++ [.lst (([] ++ cnd b1 nAgain ++ cnd b2 nAsk).map nP)])) (e_f2 e_c (e_var rfl) (e_l2 rfl (deP_bx rfl) hin)) rfl rfl) ⟨fun hb1 => ?_, fun _ => ⟨(fun z => by cases z), o, rfl, hs.mono (by omega)⟩⟩
    repeat' trivial
    refine draw hs (by omega) (by decide) (by decide) fun v o' v0 v1 hs' => ?_
    refine p_c (P_of (e_l2 rfl rfl o_eqI) ?_)
    repeat' trivial
    exact ⟨fun _ => hb1, o', rfl, hs'.mono (by omega)⟩
  rintro o b3 ⟨hb3, _, e, hs⟩
  cases e
  have l3 := cnd_len b3 nRepeat
  refine s_Seq (stage (y := nUndo) (ys := [] ++ cnd b1 nAgain ++ cnd b2 nAsk ++ cnd b3 nRepeat) (R := fun _ S => ∃ o', S = o' :: (T ++ [.lst (([] ++ cnd b1 nAgain ++ cnd b2 nAsk ++ cnd b3 nRepeat).map nP)]) ∧ SOB (b + 4) o') (by simp; omega) rfl ?_ (fun _ _ ⟨o', e, _⟩ => ⟨o', e⟩) ?_)
  · repeat' trivial
    refine draw hs (by omega) (by decide) (by decide) fun v o' v0 v1 hs' => ?_
    repeat' trivial
    · exact ⟨o', rfl, hs'.mono (by omega)⟩
  rintro o b4 ⟨_, e, hs⟩
  cases e
  refine s_RetE (e_cb (e_cons (e_var rfl) e_nil) (a_cons (deP_bx rfl) a_nil) o_tuple) ?_
  refine c_ret ?_
  exact q _ o ⟨b1, b2, b3, b4, hb3, by simp [abOf]⟩ hs
end FN

namespace FN
open PySem PySem.Spec PyProof.Rows L2 DL GA
open FB (F__law_draw F__law_subset F__law_names F__law_abilities F__law_job F__law_all F__law_row F__law_reasons B__law_subset B__law_names B__law_abilities B__law_job B__law_all B__law_row B__law_reasons L__law_names_0 L__law_job_0 L__law_job_1)
/-- the running of a text on data -/
local macro_rules | `(tactic| trivial) => `(tactic| first
  | with_reducible refine s_Seq ?_
  | with_reducible refine s_Set ?_
  | with_reducible refine s_If ?_
  | with_reducible refine s_Drop ?_
  | with_reducible refine s_Ret ?_
  | with_reducible refine s_Par ?_
  | with_reducible refine s_For ?_
  | with_reducible refine s_Nx ?_
  | with_reducible refine p_f2 ?_
  | ((with_reducible apply p_var); (exact rfl))
  | with_reducible refine p_c ?_
  | with_reducible refine p_gNm ?_
  | with_reducible refine p_gSb ?_
  | with_reducible refine p_tru ?_
  | with_reducible refine p_and ?_
  | with_reducible refine p_or ?_
  | with_reducible refine p_not ?_
  | with_reducible refine p_yes ?_
  | with_reducible refine p_ite ?_
  | with_reducible refine p_cons ?_
  | with_reducible refine p_nil ?_
  | with_reducible refine p_cb ?_
  | with_reducible refine p_cbB ?_
  | with_reducible refine p_tup ?_
  | with_reducible refine p_lst ?_
  | with_reducible refine p_lstB ?_
  | with_reducible refine p_lc ?_
  | with_reducible refine p_dc ?_
  | with_reducible refine p_sl ?_
  | with_reducible refine p_oNo ?_
  | with_reducible refine c_oAt ?_
  | with_reducible refine c_atE ?_
  | ((with_reducible apply p_slE); (first | exact rfl | exact deP_bx rfl); (exact rfl))
  | with_reducible refine p_call ?_
  | with_reducible refine p_callN ?_
  | with_reducible refine s_ParE ?_
  | with_reducible refine c_iv ?_
  | with_reducible refine c_rg ?_
  | ((with_reducible apply c_mt); (exact rfl); (exact rfl))
  | with_reducible refine c_ret ?_
  | with_reducible refine p_closeV ?_
  | with_reducible refine p_closeK ?_
  | with_reducible refine ff ?_
  | with_reducible refine tt ?_
  | with_reducible refine nff ?_
  | with_reducible refine ntt ?_
  | with_reducible refine ndt (fun _ => ?_) (fun _ => ?_)
  | with_reducible refine dt (fun _ => ?_) (fun _ => ?_)
  | ((with_reducible apply p_l2); (first | exact rfl | exact deP_bx rfl); (first | exact rfl | exact deP_bx rfl); (first | assumption | exact rfl | exact mod_ok (by omega) | exact fdiv_ok (by omega) (by omega) | exact mul_ok (by omega) (by omega) | exact pow_ok (by omega) (by omega) (by omega)))
  | ((with_reducible apply p_truE); (first | exact rfl | exact deP_bx rfl); (exact rfl))
  | ((with_reducible apply p_cbE); (repeat (first | exact a_nil | (apply a_cons; first | exact rfl | exact deP_bx rfl))); (first | assumption | exact rfl))
  | ((with_reducible apply c_cbB); (repeat (first | exact a_nil | (apply a_cons; first | exact rfl | exact deP_bx rfl))); (first | assumption | exact rfl))
  | ((with_reducible apply p_lstE); (repeat (first | exact v_nil | apply v_cons)); (focus (show _ ≤ (100000 : Nat); first | decide | (simp; done) | (simp; omega))))
  | ((with_reducible apply p_tupE); (repeat (first | exact v_nil | apply v_cons)); (focus (show _ ≤ (100000 : Nat); first | decide | (simp; done) | (simp; omega))))
  | ((with_reducible apply c_lstB); (repeat (first | exact v_nil | apply v_cons)); (focus (show _ ≤ (100000 : Nat); first | decide | (simp; done) | (simp; omega))))
  | ((with_reducible apply c_ivE); (first | exact rfl | exact seq_bx rfl))
  | ((with_reducible apply p_sbL); (exact rfl); (exact rfl)))


/-- the value of a text, found -/
local macro_rules | `(tactic| array_get_dec) => `(tactic| first
  | (focus ((with_reducible (show deP _ _ = _)); exact rfl))
  | (focus ((with_reducible (show seqOf _ _ = _)); exact rfl))
  | (focus ((with_reducible (show truP _ = _)); exact rfl))
  | (focus ((with_reducible (show pIx _ _ = _)); exact rfl))
  | (focus ((with_reducible (show pKey _ = _)); exact rfl))
  | (focus ((with_reducible (show bLen _ = _)); exact rfl))
  | (focus ((with_reducible (show bInt _ = _)); exact rfl))
  | (focus ((with_reducible (show bList _ = _)); exact rfl))
  | (focus ((with_reducible (show pAdd (.int _) (.int _) = _)); exact rfl))
  | (focus ((with_reducible (show pSub (.int _) (.int _) = _)); exact rfl))
  | (focus ((with_reducible (show pLt (.int _) (.int _) = _)); exact rfl))
  | (focus ((with_reducible (show pLe (.int _) (.int _) = _)); exact rfl))
  | (focus ((with_reducible (show pGt (.int _) (.int _) = _)); exact rfl))
  | (focus ((with_reducible (show pGe (.int _) (.int _) = _)); exact rfl))
  | (focus ((with_reducible (show List.length _ = _)); exact rfl))
  | (focus ((with_reducible (show pSl _ _ _ = _)); exact rfl))
  | (focus ((with_reducible (show pIsN _ _ = _)); exact rfl))
  | (focus ((with_reducible (show pNotN _ _ = _)); exact rfl))
  | (focus ((with_reducible (show pNeg _ = _)); exact rfl))
  | (focus ((with_reducible (show setD _ _ _ _ = _)); exact rfl))
  | with_reducible exact rfl)
local macro_rules | `(tactic| array_get_dec) => `(tactic| first
  | (focus ((with_reducible show _ = _); with_reducible assumption))
  | (focus (with_reducible apply e_l2))
  | with_reducible exact o_eqN
  | with_reducible exact o_neN
  | with_reducible exact o_eqT
  | with_reducible exact o_neT
  | with_reducible exact o_eqT0
  | with_reducible exact o_neT0
  | with_reducible exact o_eqLs0
  | with_reducible exact o_neLs0
  | with_reducible exact o_inT
  | with_reducible exact o_inLs
  | with_reducible exact o_niT
  | with_reducible exact o_niLs
  | with_reducible exact o_eqI
  | with_reducible exact o_neI
  | with_reducible exact o_eqL (by decide +kernel)
  | with_reducible exact o_neL (by decide +kernel)
  | with_reducible exact o_inW (by decide +kernel)
  | with_reducible exact o_niW (by decide +kernel)
  | with_reducible exact o_in1 (by decide +kernel)
  | with_reducible exact o_in2 (by decide +kernel) (by decide +kernel)
  | with_reducible exact o_in3 (by decide +kernel) (by decide +kernel) (by decide +kernel)
  | with_reducible exact o_ni1 (by decide +kernel)
  | with_reducible exact o_ni2 (by decide +kernel) (by decide +kernel)
  | with_reducible exact o_addT1 (by first | omega | (simp; omega))
  | with_reducible exact o_addT (by first | omega | (simp; omega))
  | with_reducible exact o_addLs (by first | omega | (simp; omega))
  | with_reducible exact o_addTp (by first | omega | (simp; omega))
  | with_reducible exact o_tupleN
  | with_reducible exact o_tuple)
local macro_rules | `(tactic| array_get_dec) => `(tactic| first
  | with_reducible exact e_c
  | ((with_reducible apply e_var); (exact rfl))
  | with_reducible apply e_f2
  | with_reducible exact e_nil
  | with_reducible apply e_cons
  | with_reducible apply e_tup
  | with_reducible apply e_lst
  | with_reducible apply e_lstB
  | with_reducible apply e_cb
  | with_reducible apply e_cbB
  | with_reducible apply e_tru
  | with_reducible exact e_yes
  | with_reducible apply e_and
  | with_reducible apply e_or
  | with_reducible apply e_not
  | with_reducible apply e_iteB
  | with_reducible apply e_ite
  | with_reducible apply e_andV
  | with_reducible apply e_orV
  | with_reducible apply e_notV
  | with_reducible apply e_f1
  | with_reducible apply e_call
  | with_reducible apply e_callN
  | with_reducible apply e_sl
  | with_reducible exact e_oNo
  | with_reducible apply e_oAt
  | with_reducible apply e_iv
  | with_reducible apply e_lcA
  | with_reducible apply e_lc
  | with_reducible apply e_lcB
  | with_reducible apply e_rg
  | with_reducible apply e_rg2
  | ((with_reducible apply e_mt); (exact rfl); (exact rfl))
  | with_reducible exact e_gNm
  | with_reducible exact e_gNl
  | with_reducible apply e_gCn
  | (focus ((with_reducible (show gTp _ _ _ _ _ = _)); (apply e_gTp); (exact rfl)))
  | (with_reducible (intro _ _; apply e_body))
  | with_reducible exact v_nil
  | with_reducible apply v_cons
  | with_reducible exact a_nil
  | ((with_reducible apply a_cons); (first | exact deP_bx rfl | exact deP_bxD rfl | exact rfl))
  | with_reducible exact deP_bx rfl
  | with_reducible exact deP_bxD rfl
  | with_reducible exact own_none
  | with_reducible exact own_bx rfl
  | (focus (show _ ≤ (100000 : Nat); first | decide | omega | (simp; done) | (simp; omega)))
  | (focus (show _ < (100000 : Nat); first | omega | (simp; omega) | (refine Nat.lt_of_le_of_lt (List.length_filter_le _ _) ?_; omega)))
  | with_reducible exact o_app (by first | omega | (simp; omega))
  | with_reducible exact o_ext rfl (by first | omega | (simp; omega))
  | (with_reducible intro _))
/-- the running of a text over values that are found -/
local macro_rules | `(tactic| get_elem_tactic_extensible) => `(tactic| first
  | with_reducible refine s_Seq ?_
  | with_reducible refine s_Nx ?_
  | with_reducible apply e_closeT
  | ((with_reducible apply e_closeLT); (exact rfl))
  | with_reducible apply s_SetE
  | with_reducible apply s_DropE
  | with_reducible apply s_RetE
  | with_reducible apply s_IfE
  | with_reducible apply s_Par2
  | with_reducible apply s_ForE)

structure JOk (rs : List Rw) : Prop where
  names : (nm rs).Sublist poolN
  ne : ∀ r ∈ rs, r.ne.Sublist (nm rs)
  se : ∀ r ∈ rs, r.se.Sublist (nm rs) ∧ r.x ∉ r.se
  rank : ∃ rk : Nm → Int, ∀ r ∈ rs, ∀ y ∈ r.ne, rk y < rk r.x
  ab : ∀ r ∈ rs, AbOk r.ab
theorem JOk.len {rs : List Rw} (h : JOk rs) : rs.length ≤ 8 := by
  have := h.names.length_le
  unfold nm at this
  rw [List.length_map] at this
  exact this
theorem JOk.nd {rs : List Rw} (h : JOk rs) : (nm rs).Nodup := h.names.nodup pool_nd
theorem JOk.nml {rs : List Rw} (h : JOk rs) : (nm rs).length ≤ 8 := h.names.length_le
theorem AbOk.len {ab : List Nm} (h : AbOk ab) : ab.length ≤ 4 := by
  obtain ⟨b1, b2, b3, b4, _, rfl⟩ := h
  have := cnd_len b1 nAgain
  have := cnd_len b2 nAsk
  have := cnd_len b3 nRepeat
  have := cnd_len b4 nUndo
  unfold abOf
  simp only [List.length_append]
  omega
theorem JOk.wok {rs : List Rw} (h : JOk rs) : WOk rs where
  len := Nat.le_trans h.len (by decide)
  ne := fun r hr => Nat.le_trans (Nat.le_trans (h.ne r hr).length_le h.nml) (by decide)
  se := fun r hr => Nat.le_trans (Nat.le_trans (h.se r hr).1.length_le h.nml) (by decide)
  ab := fun r hr => Nat.le_trans (h.ab r hr).len (by decide)
  nd := h.nd
local macro_rules | `(tactic| trivial) => `(tactic| first
  | ((with_reducible apply p_l2); (first | exact rfl | exact deP_bxD rfl); (exact rfl); (assumption))
  | with_reducible refine c_dic0B ?_)
theorem job {b m : Int} {o : Ob} {T : Sto} {Q : D → Sto → Prop} (h : SOB b o) (hb : b ≤ 800000) (hm0 : 0 < m) (hm8 : m ≤ 8) (q : ∀ (rs : List Rw) (o' : Ob), JOk rs → 1 ≤ rs.length → rs.length ≤ m → SOB (b + 1000) o' → Q (.v (wkP rs)) (o' :: T)) : (F__law_job [.r 0, .v (.int m)] (o :: T)).P Q := by
  refine p_runC ?_
  show (B__law_job [some (.r 0), some (.v (.int m)), none, none, none, none, none, none, none, none, none] _).F _
  unfold B__law_job
  repeat' trivial
  refine names h (by omega) hm0 hm8 fun xs o hsub hx1 hx2 hs => ?_
  have hxl : xs.length ≤ 8 := hsub.length_le
  have hxn : xs.Nodup := hsub.nodup pool_nd
  have hml : (List.map nP xs).length = xs.length := List.length_map ..
  repeat' trivial
  refine c_rgT (n := (List.map nP xs).length) (by repeat' trivial) (by omega) (by omega) ?_
  rw [show (((List.map nP xs).length : Int)).toNat = xs.length by omega]
  obtain ⟨vs0, ev, hv0⟩ : ∃ vs : List Int, rgP xs.length = vs.map P.int ∧ vs.length = xs.length := ⟨(List.range xs.length).map fun i : Nat => (i : Int), by unfold rgP; rw [List.map_map]; rfl, by simp⟩
  rw [ev]
  repeat' trivial
  refine s_Loop (fun i env S => ∃ (o : Ob) (vs ws : List Int) (e5 : Option D), env = [some (.r 0), some (.v (.int m)), some (.v (.lst (xs.map nP))), some (.r (bx T 0)), some (.r (bx T 1)), e5, none, none, none, none, none] ∧
      S = o :: (T ++ [.dic (kxN (xs.take i)) (vs.map P.int), .lst (ws.map P.int)]) ∧ vs.length = (xs.take i).length ∧ ws.length + i = xs.length ∧ SOB (b + 20 + i) o)
    ⟨o, [], vs0, none, rfl, rfl, rfl, by omega, by simpa using hs⟩ (fun _ _ _ _ => own_none) ?_ ?_
  · rintro i p env S hi ⟨o, vs, ws, e5, rfl, rfl, hvl, hwl, hs⟩
    have hi' : (xs.map nP)[i]? = some p := hi
    rw [List.getElem?_map] at hi'
    obtain ⟨x, hx, rfl⟩ := Option.map_eq_some_iff.mp hi'
    have hil := lt_of_at hx
    have hmw : (List.map P.int ws).length = ws.length := List.length_map ..
    unfold L__law_job_0
    repeat' trivial
    refine draw hs (by omega) (by omega) (by omega) fun v o' v0 v1 hs' => ?_
    repeat' trivial
    obtain ⟨y, e, _⟩ := o_popI (vs := ws) (S := o' :: (T ++ [.dic (kxN (xs.take i)) (vs.map P.int), .lst (ws.map P.int)])) v0 v1 (by omega)
    refine c_mtE rfl e ?_
    have hlt : v.toNat < ws.length := by omega
    have e2 : xs.take (i + 1) = xs.take i ++ [x] := by
      rw [List.take_add_one, hx]
      rfl
    have hnew : (Sum.inr x.s : Key) ∉ kxN (xs.take i) := fun hmm => by
      have hz := kxN_mem.mp hmm
      have hxn := hxn
      rw [← List.take_append_drop i xs] at hxn
      refine (List.nodup_append.mp hxn).2.2 x hz x ?_ rfl
      rw [List.drop_eq_getElem_cons hil]
      rw [List.getElem?_eq_getElem hil] at hx
      cases hx
      exact List.mem_cons_self ..
    repeat' trivial
    refine sbD_bxN rfl hnew (by unfold kxN; rw [List.length_map, List.length_map, hvl]) (by unfold kxN; rw [List.length_map, List.length_take]; omega) ?_
    refine ⟨o', vs ++ [y], ws.eraseIdx v.toNat, _, rfl, ?_, by rw [e2]; simp [hvl], by rw [List.length_eraseIdx_of_lt hlt]; omega, by simpa [Int.add_assoc] using hs'⟩
    rw [e2]
    simp [kxN]
  rintro env S ⟨o, vs, ws, e5, rfl, rfl, hvl, hwl, hs⟩
  have etk : xs.take (xs.map nP).length = xs := by rw [hml, List.take_length]
  have hs : SOB (b + 30) o := hs.mono (by
    show b + 20 + (((xs.map nP).length : Nat) : Int) ≤ _
    omega)
  have hvl : vs.length = xs.length := by
    have : vs.length = (xs.take (xs.map nP).length).length := hvl
    rw [etk] at this
    exact this
  rw [show xs.take (xs.map nP, (none : Option Nat)).1.length = xs from etk]
  obtain ⟨rk, hrk⟩ : ∃ rk : Nm → Int, ∀ x ∈ xs, pIx (.dic (kxN xs) (vs.map P.int)) (nP x) = some (.int (rk x)) := by
    have h1 : ∀ x : Nm, ∃ v : Int, x ∈ xs → pIx (.dic (kxN xs) (vs.map P.int)) (nP x) = some (.int v) := fun x => by
      rcases Classical.em (x ∈ xs) with hx | hx
      · obtain ⟨i, hi, e⟩ := List.getElem_of_mem hx
        exact ⟨vs[i], fun _ => o_kx hxn (by rw [List.getElem?_eq_getElem hi, e]) (by rw [List.getElem?_map, List.getElem?_eq_getElem (by omega)]; rfl)⟩
      · exact ⟨0, fun h => absurd h hx⟩
    exact ⟨fun x => (h1 x).choose, fun x hx => (h1 x).choose_spec hx⟩
  repeat' trivial
  refine draw hs (by omega) (by decide) (by decide) fun rare o r0 r1 hs => ?_
  repeat' trivial
  refine s_Loop (fun i env S => ∃ (o : Ob) (rows : List Rw) (e5 e8 e9 e10 : Option D), env = [some (.r 0), some (.v (.int m)), some (.v (.lst (xs.map nP))), some (.r (bx T 0)), some (.r (bx T 1)), e5, some (.r (bx T 2)), some (.v (.int (2 + rare))), e8, e9, e10] ∧
      S = o :: (T ++ [.dic (kxN xs) (vs.map P.int), .lst (ws.map P.int), .lst (rows.map rwP)]) ∧ nm rows = xs.take i ∧ (∀ r ∈ rows, r.ne.Sublist xs ∧ r.se.Sublist xs ∧ r.x ∉ r.se ∧ (∀ y ∈ r.ne, rk y < rk r.x) ∧ AbOk r.ab) ∧ SOB (b + 40 + 50 * i) o)
    ⟨o, [], _, _, _, _, rfl, rfl, rfl, (fun _ h => by cases h), hs.mono (by simp; omega)⟩ (fun _ _ _ _ => own_none) ?_ ?_
  · rintro i p env S hi ⟨o, rows, e5, e8, e9, e10, rfl, rfl, hrx, hro, hs⟩
    have hi' : (xs.map nP)[i]? = some p := hi
    rw [List.getElem?_map] at hi'
    obtain ⟨x, hx, rfl⟩ := Option.map_eq_some_iff.mp hi'
    have hil := lt_of_at hx
    have hxm := List.mem_of_getElem? hx
    have evx := hrk x hxm
    unfold L__law_job_1
    repeat' trivial
    refine lc_someQ (f := nP) (hh := nP) (xs := xs) (fun y => rk y < rk x) (fun j S => ∃ o, S = o :: (T ++ [.dic (kxN xs) (vs.map P.int), .lst (ws.map P.int), .lst (rows.map rwP)]) ∧ SOB (b + 40 + 50 * i + j) o) ⟨o, rfl, by simpa using hs⟩ (fun _ _ _ => own_none) (by omega) ?_ ?_
    · rintro j y S hy ⟨o, rfl, hs⟩
      have hjl := lt_of_at hy
      have evy := hrk y (List.mem_of_getElem? hy)
      repeat' trivial
      · rename_i hlt
        refine draw hs (by omega) (by omega) (by omega) fun v o' v0 v1 hs' => ?_
        have hs' : SOB (b + 40 + 50 * i + ((j + 1 : Nat) : Int)) o' := by
          rw [show b + 40 + 50 * (i : Int) + ((j + 1 : Nat) : Int) = b + 40 + 50 * i + j + 1 by omega]
          exact hs'
        refine p_c (P_of (e_l2 rfl rfl o_eqI) ?_)
        repeat' trivial
        · exact ⟨rfl, hlt, o', rfl, hs'⟩
        · exact ⟨o', rfl, hs'⟩
      · exact ⟨o, rfl, hs.mono (by omega)⟩
    rintro ns S hns hnr ⟨o, rfl, hs⟩
    repeat' trivial
    refine lc_someQ (f := nP) (hh := nP) (xs := xs) (fun y => y ≠ x) (fun j S => ∃ o, S = o :: (T ++ [.dic (kxN xs) (vs.map P.int), .lst (ws.map P.int), .lst (rows.map rwP)]) ∧ SOB (b + 40 + 50 * i + 10 + j) o) ⟨o, rfl, hs.mono (by omega)⟩ (fun _ _ _ => own_none) (by omega) ?_ ?_
    · rintro j y S hy ⟨o, rfl, hs⟩
      have hjl := lt_of_at hy
      have e1 := @o_neN y x
      repeat' trivial
      · rename_i hne
        refine draw hs (by omega) (by omega) (by omega) fun v o' v0 v1 hs' => ?_
        have hs' : SOB (b + 40 + 50 * i + 10 + ((j + 1 : Nat) : Int)) o' := by
          rw [show b + 40 + 50 * (i : Int) + 10 + ((j + 1 : Nat) : Int) = b + 40 + 50 * i + 10 + j + 1 by omega]
          exact hs'
        refine p_c (P_of (e_l2 rfl rfl o_eqI) ?_)
        repeat' trivial
        · exact ⟨rfl, hne, o', rfl, hs'⟩
        · exact ⟨o', rfl, hs'⟩
      · exact ⟨o, rfl, hs.mono (by omega)⟩
    rintro ss S hss hsn ⟨o, rfl, hs⟩
    repeat' trivial
    refine abilities hs (by omega) fun ab o hab hs => ?_
    repeat' trivial
    have hrl : rows.length = i := by
      have := congrArg List.length hrx
      unfold nm at this
      rw [List.length_map, List.length_take] at this
      omega
    refine c_mtE rfl (o_app (by rw [List.length_map]; omega)) ?_
    refine ⟨o, rows ++ [⟨x, ns, ss, ab⟩], _, _, _, _, rfl, by simp, ?_, fun r hr => ?_, hs.mono (by omega)⟩
    · unfold nm at hrx ⊢
      rw [List.map_append, hrx, List.take_add_one, hx]
      rfl
    · rcases List.mem_append.mp hr with h | h
      · exact hro r h
      · rw [List.mem_singleton.mp h]
        exact ⟨hns, hss, fun hz => hsn x hz rfl, hnr, hab⟩
  rintro env S ⟨o, rows, e5, e8, e9, e10, rfl, rfl, hrx, hro, hs⟩
  have hrx : nm rows = xs := by
    have : nm rows = xs.take (xs.map nP).length := hrx
    rw [etk] at this
    exact this
  have hrl : rows.length = xs.length := by
    have := congrArg List.length hrx
    unfold nm at this
    rw [List.length_map] at this
    exact this
  repeat' trivial
  refine q rows o ⟨hrx ▸ hsub, fun r hr => hrx ▸ (hro r hr).1, fun r hr => ⟨hrx ▸ (hro r hr).2.1, (hro r hr).2.2.1⟩, ⟨rk, fun r hr => (hro r hr).2.2.2.1⟩, fun r hr => (hro r hr).2.2.2.2⟩ (by omega) (by omega) (hs.mono ?_)
  show b + 40 + 50 * (((xs.map nP).length : Nat) : Int) ≤ _
  omega
end FN

namespace FN
open PySem PySem.Spec PyProof.Rows L2 DL GA
open FB (F__law_draw F__law_subset F__law_names F__law_abilities F__law_job F__law_all F__law_row F__law_reasons B__law_subset B__law_names B__law_abilities B__law_job B__law_all B__law_row B__law_reasons)
/-- the value of a text, found -/
local macro_rules | `(tactic| array_get_dec) => `(tactic| first
  | (focus ((with_reducible (show deP _ _ = _)); exact rfl))
  | (focus ((with_reducible (show seqOf _ _ = _)); exact rfl))
  | (focus ((with_reducible (show truP _ = _)); exact rfl))
  | (focus ((with_reducible (show pIx _ _ = _)); exact rfl))
  | (focus ((with_reducible (show pKey _ = _)); exact rfl))
  | (focus ((with_reducible (show bLen _ = _)); exact rfl))
  | (focus ((with_reducible (show bInt _ = _)); exact rfl))
  | (focus ((with_reducible (show bList _ = _)); exact rfl))
  | (focus ((with_reducible (show pAdd (.int _) (.int _) = _)); exact rfl))
  | (focus ((with_reducible (show pSub (.int _) (.int _) = _)); exact rfl))
  | (focus ((with_reducible (show pLt (.int _) (.int _) = _)); exact rfl))
  | (focus ((with_reducible (show pLe (.int _) (.int _) = _)); exact rfl))
  | (focus ((with_reducible (show pGt (.int _) (.int _) = _)); exact rfl))
  | (focus ((with_reducible (show pGe (.int _) (.int _) = _)); exact rfl))
  | (focus ((with_reducible (show List.length _ = _)); exact rfl))
  | (focus ((with_reducible (show pSl _ _ _ = _)); exact rfl))
  | (focus ((with_reducible (show pIsN _ _ = _)); exact rfl))
  | (focus ((with_reducible (show pNotN _ _ = _)); exact rfl))
  | (focus ((with_reducible (show pNeg _ = _)); exact rfl))
  | (focus ((with_reducible (show setD _ _ _ _ = _)); exact rfl))
  | with_reducible exact rfl)
local macro_rules | `(tactic| array_get_dec) => `(tactic| first
  | (focus ((with_reducible show _ = _); with_reducible assumption))
  | (focus (with_reducible apply e_l2))
  | with_reducible exact o_eqN
  | with_reducible exact o_neN
  | with_reducible exact o_eqT
  | with_reducible exact o_neT
  | with_reducible exact o_eqT0
  | with_reducible exact o_neT0
  | with_reducible exact o_eqLs0
  | with_reducible exact o_neLs0
  | with_reducible exact o_inT
  | with_reducible exact o_inLs
  | with_reducible exact o_niT
  | with_reducible exact o_niLs
  | with_reducible exact o_eqI
  | with_reducible exact o_neI
  | with_reducible exact o_eqL (by decide +kernel)
  | with_reducible exact o_neL (by decide +kernel)
  | with_reducible exact o_inW (by decide +kernel)
  | with_reducible exact o_niW (by decide +kernel)
  | with_reducible exact o_in1 (by decide +kernel)
  | with_reducible exact o_in2 (by decide +kernel) (by decide +kernel)
  | with_reducible exact o_in3 (by decide +kernel) (by decide +kernel) (by decide +kernel)
  | with_reducible exact o_ni1 (by decide +kernel)
  | with_reducible exact o_ni2 (by decide +kernel) (by decide +kernel)
  | with_reducible exact o_addT1 (by first | omega | (simp; omega))
  | with_reducible exact o_addT (by first | omega | (simp; omega))
  | with_reducible exact o_addLs (by first | omega | (simp; omega))
  | with_reducible exact o_addTp (by first | omega | (simp; omega))
  | with_reducible exact o_tupleN
  | with_reducible exact o_tuple)
local macro_rules | `(tactic| array_get_dec) => `(tactic| first
  | with_reducible exact e_c
  | ((with_reducible apply e_var); (exact rfl))
  | with_reducible apply e_f2
  | with_reducible exact e_nil
  | with_reducible apply e_cons
  | with_reducible apply e_tup
  | with_reducible apply e_lst
  | with_reducible apply e_lstB
  | with_reducible apply e_cb
  | with_reducible apply e_cbB
  | with_reducible apply e_tru
  | with_reducible exact e_yes
  | with_reducible apply e_and
  | with_reducible apply e_or
  | with_reducible apply e_not
  | with_reducible apply e_iteB
  | with_reducible apply e_ite
  | with_reducible apply e_andV
  | with_reducible apply e_orV
  | with_reducible apply e_notV
  | with_reducible apply e_f1
  | with_reducible apply e_call
  | with_reducible apply e_callN
  | with_reducible apply e_sl
  | with_reducible exact e_oNo
  | with_reducible apply e_oAt
  | with_reducible apply e_iv
  | with_reducible apply e_lcA
  | with_reducible apply e_lc
  | with_reducible apply e_lcB
  | with_reducible apply e_rg
  | with_reducible apply e_rg2
  | ((with_reducible apply e_mt); (exact rfl); (exact rfl))
  | with_reducible exact e_gNm
  | with_reducible exact e_gNl
  | with_reducible apply e_gCn
  | (focus ((with_reducible (show gTp _ _ _ _ _ = _)); (apply e_gTp); (exact rfl)))
  | (with_reducible (intro _ _; apply e_body))
  | with_reducible exact v_nil
  | with_reducible apply v_cons
  | with_reducible exact a_nil
  | ((with_reducible apply a_cons); (first | exact deP_bx rfl | exact deP_bxD rfl | exact rfl))
  | with_reducible exact deP_bx rfl
  | with_reducible exact deP_bxD rfl
  | with_reducible exact own_none
  | with_reducible exact own_bx rfl
  | (focus (show _ ≤ (100000 : Nat); first | decide | omega | (simp; done) | (simp; omega)))
  | (focus (show _ < (100000 : Nat); first | omega | (simp; omega) | (refine Nat.lt_of_le_of_lt (List.length_filter_le _ _) ?_; omega)))
  | with_reducible exact o_app (by first | omega | (simp; omega))
  | with_reducible exact o_ext rfl (by first | omega | (simp; omega))
  | (with_reducible intro _))
/-- the running of a text over values that are found -/
local macro_rules | `(tactic| get_elem_tactic_extensible) => `(tactic| first
  | with_reducible refine s_Seq ?_
  | with_reducible refine s_Nx ?_
  | with_reducible apply e_closeT
  | ((with_reducible apply e_closeLT); (exact rfl))
  | with_reducible apply s_SetE
  | with_reducible apply s_DropE
  | with_reducible apply s_RetE
  | with_reducible apply s_IfE
  | with_reducible apply s_Par2
  | with_reducible apply s_ForE)

noncomputable def L__law_core_0 : FS :=
 (fSet (fLc (iVal (fVar 3)) (gNm 5) (fOr (fTru (f2 pIn (fVar 5) (fVar 2))) (fTru (f2 pNe (fCall F__law_reasons [] (fCons (fVar 0) (fCons (fVar 3) (fCons (fVar 5) fNil)))) (fLst fNil)))) (fVar 5) [5]) (gNm 3))
noncomputable def B__law_core : FS :=
 (fSeq (fSet (fCb bList (fCons (fVar 1) fNil)) (gNm 3))
 (fSeq (fFor (iR1 (fCons (fCb bLen (fCons (fVar 1) fNil)) fNil)) (gNm 4) L__law_core_0)
 (fRet (fCb bTuple (fCons (fVar 3) fNil)))))
noncomputable def F__law_core : FF := runF 6 false B__law_core
local macro_rules | `(tactic| array_get_dec) => `(tactic| first
  | with_reducible exact o_r0
  | with_reducible exact o_r1
  | with_reducible exact o_r2
  | with_reducible exact o_r3)
theorem law_all {o : Ob} {T : Sto} {rs : List Rw} (h : rs.length ≤ 500) : F__law_all [.v (wkP rs)] (o :: T) = .ok (.v (tN (nm rs))) (o :: T) := by
  refine e_run ?_
  show (B__law_all [some (.v (wkP rs)), none] _).F _
  unfold B__law_all
  have e : (rs.map fun r => nP r.x) = (nm rs).map nP := by
    unfold nm
    rw [List.map_map]
    rfl
  repeat' (first | get_elem_tactic_extensible | array_get_dec | exact congrArg P.tup e)
theorem first_row {rs : List Rw} (hn : (nm rs).Nodup) {x : Nm} (hx : x ∈ nm rs) : rs.filter (fun r => decide (r.x = x)) = [rowOf rs x] := by
  obtain ⟨h1, h2⟩ := rowOf_mem hx
  have h3 : ∀ r ∈ rs, decide (r.x = x) = decide (r = rowOf rs x) := fun r hr => by
    refine boolE ?_
    rw [decide_eq_true_eq]
    exact ⟨fun e => row_uniq hn hr h1 (e.trans h2.symm), fun e => e ▸ h2⟩
  have hnd : rs.Nodup := List.Pairwise.of_map (fun r : Rw => r.x) (fun _ _ hne e => hne (congrArg _ e)) hn
  rw [List.filter_congr h3]
  clear h3
  generalize rowOf rs x = q at h1 h2
  clear hx hn h2
  induction rs with
  | nil => cases h1
  | cons a rs ih =>
    obtain ⟨n1, n2⟩ := List.nodup_cons.mp hnd
    rcases List.mem_cons.mp h1 with e | h
    · subst e
      have : rs.filter (fun r => decide (r = q)) = [] := List.filter_eq_nil_iff.mpr fun r hr => by
        rw [decide_eq_true_eq]
        exact fun e => n1 (e ▸ hr)
      rw [List.filter_cons, if_pos (by simp), this]
    · rw [List.filter_cons, if_neg (by
        rw [decide_eq_true_eq]
        exact fun e => n1 (e ▸ h))]
      exact ih n2 h
theorem law_row {o : Ob} {T : Sto} {rs : List Rw} {x : Nm} (h : WOk rs) (hx : x ∈ nm rs) : F__law_row [.v (wkP rs), .v (nP x)] (o :: T) = .ok (.v (rwP (rowOf rs x))) (o :: T) := by
  have hl := h.len
  have e : pIx (.lst ((rs.filter fun r => decide (r.x = x)).map rwP)) (.int 0) = some (rwP (rowOf rs x)) := by
    rw [first_row h.nd hx]
    exact at_nn (j := 0) rfl rfl
  refine e_run ?_
  show (B__law_row [some (.v (wkP rs)), some (.v (nP x)), none] _).F _
  unfold B__law_row
  refine s_RetE (d := .v (rwP (rowOf rs x))) (S1 := o :: (T ++ [])) (e_f2 (d := .v (.lst ((rs.filter fun r => decide (r.x = x)).map rwP))) (S1 := o :: (T ++ [])) ?_ e_c (e_l2 rfl rfl e)) e_close
  repeat' array_get_dec
/-- the reasons in the law's order -/
def rawF (rs : List Rw) (ms : List Nm) (x : Nm) : List Rs := (rs.filter fun q => decide (x ∈ q.ne) && decide (q.x ∈ ms)).map (fun q => .nd q.x) ++ ((rowOf rs x).se.filter fun y => decide (y ∈ ms)).map .sl ++ abil (rowOf rs x)
theorem rawF_perm {rs : List Rw} {ms : List Nm} {x : Nm} (h : WOk rs) (hm : MOk rs ms) : (rawF rs ms x).Perm (raw rs ms x) := by
  have e : ((rs.filter fun q => decide (x ∈ q.ne) && decide (q.x ∈ ms)).map fun q => (.nd q.x : Rs)).Perm ((ms.filter fun m => decide (x ∈ (rowOf rs m).ne)).map .nd) := by
    have e1 : ((rs.filter fun q => decide (x ∈ q.ne) && decide (q.x ∈ ms)).map fun q => (.nd q.x : Rs)) = ((rs.filter fun q => decide (x ∈ q.ne) && decide (q.x ∈ ms)).map (·.x)).map .nd := by
      rw [List.map_map]
      rfl
    rw [e1]
    refine List.Perm.map _ ?_
    have n1 : ((rs.filter fun q => decide (x ∈ q.ne) && decide (q.x ∈ ms)).map (·.x)).Nodup := h.nd.sublist (List.filter_sublist.map _)
    refine (List.perm_ext_iff_of_nodup n1 (hm.nd.sublist List.filter_sublist)).mpr fun m => ?_
    rw [List.mem_map, List.mem_filter, decide_eq_true_eq]
    constructor
    · rintro ⟨q, hq, rfl⟩
      obtain ⟨h1, h2⟩ := List.mem_filter.mp hq
      rw [Bool.and_eq_true, decide_eq_true_eq, decide_eq_true_eq] at h2
      exact ⟨h2.2, by rw [rowOf_eq h.nd h1]; exact h2.1⟩
    · rintro ⟨h1, h2⟩
      obtain ⟨r1, r2⟩ := rowOf_mem (hm.sub m h1)
      exact ⟨rowOf rs m, List.mem_filter.mpr ⟨r1, by rw [Bool.and_eq_true, decide_eq_true_eq, decide_eq_true_eq, r2]; exact ⟨h2, h1⟩⟩, r2⟩
  unfold rawF raw
  refine ((e.append_right _).append_right _).trans ?_
  rw [List.append_assoc (abil _)]
  exact List.perm_append_comm
theorem law_reasonsG {o : Ob} {T : Sto} {rs : List Rw} {ms : List Nm} {x : Nm} {mv : P} (h : WOk rs) (hm : MOk rs ms) (hx : x ∈ nm rs) (hin : ∀ y : Nm, pIn (nP y) mv = some (.bl (decide (y ∈ ms)))) : F__law_reasons [.v (wkP rs), .v mv, .v (nP x)] (o :: T) = .ok (.v (.lst (RS rs ms x))) (o :: T) := by
  have hl := h.len
  have hsl := h.se _ (rowOf_mem hx).1
  have h1 := List.length_filter_le (fun q : Rw => decide (x ∈ q.ne) && decide (q.x ∈ ms)) rs
  have h2 := List.length_filter_le (fun y => decide (y ∈ ms)) (rowOf rs x).se
  have hpl := (rawF_perm (x := x) h hm).length_eq
  have hrl := raw_len (ms := ms) h (by have := hm.len h; omega) hx
  refine e_run ?_
  show (B__law_reasons [some (.v (wkP rs)), some (.v mv), some (.v (nP x)), none, none, none, none, none, none, none] _).F _
  unfold B__law_reasons
  refine s_Seq (s_SetE (d := .v (rwP (rowOf rs x))) (S1 := o :: (T ++ [])) (e_call (e_cons (e_var rfl) (e_cons (e_var rfl) e_nil)) (law_row h hx)) (by repeat' array_get_dec) ?_)
  have em : pMul (.lst [.tup [.str "ability"]]) (.int (if (!has "undo" (rowOf rs x).ab) = true then 1 else 0)) = some (.lst ((abil (rowOf rs x)).map rsP)) := by
    unfold abil
    cases has "undo" (rowOf rs x).ab <;> rfl
  have h5 : (abil (rowOf rs x)).length ≤ 1 := by
    unfold abil
    split <;> simp
  have es := srt_rs (l := rawF rs ms x) (by omega)
  have er : srt ((rawF rs ms x).map rsP) = RS rs ms x := srt_rs_perm (rawF_perm h hm)
  rw [er] at es
  unfold rawF at es
  rw [List.map_append, List.map_append, List.map_map, List.map_map] at es
  repeat' (first | get_elem_tactic_extensible | array_get_dec | (with_reducible exact hin _) | exact es)
theorem law_reasons {o : Ob} {T : Sto} {rs : List Rw} {ms : List Nm} {x : Nm} (h : WOk rs) (hm : MOk rs ms) (hx : x ∈ nm rs) : F__law_reasons [.v (wkP rs), .v (tN ms), .v (nP x)] (o :: T) = .ok (.v (.lst (RS rs ms x))) (o :: T) := law_reasonsG h hm hx fun _ => o_inT
theorem law_reasonsL {o : Ob} {T : Sto} {rs : List Rw} {ms : List Nm} {x : Nm} (h : WOk rs) (hm : MOk rs ms) (hx : x ∈ nm rs) : F__law_reasons [.v (wkP rs), .v (lN ms), .v (nP x)] (o :: T) = .ok (.v (.lst (RS rs ms x))) (o :: T) := law_reasonsG h hm hx fun _ => o_inLs
theorem RS_emp {rs : List Rw} {ms : List Nm} {x : Nm} : pNe (.lst (RS rs ms x)) (.lst []) = some (.bl (!decide (raw rs ms x = []))) := neP (pl_lst RS_pl) (pl_lst (n := 0) (ps := []) (by simp)) (by rw [P.lst.injEq, RS_nil])
theorem RS_eqL {rs : List Rw} {ms : List Nm} {x : Nm} : pEq (.lst (RS rs ms x)) (.lst []) = some (.bl (decide (raw rs ms x = []))) := eqP (pl_lst RS_pl) (pl_lst (n := 0) (ps := []) (by simp)) (by rw [P.lst.injEq, RS_nil])
theorem law_core {o : Ob} {T : Sto} {rs : List Rw} {ms kept : List Nm} (h : WOk rs) (hm : MOk rs ms) : F__law_core [.v (wkP rs), .v (tN ms), .v (tN kept)] (o :: T) = .ok (.v (tN (core rs kept ms))) (o :: T) := by
  have hml := hm.len h
  have hlen : (ms.map nP).length = ms.length := List.length_map ..
  refine e_run ?_
  show (B__law_core [some (.v (wkP rs)), some (.v (tN ms)), some (.v (tN kept)), none, none, none] _).F _
  unfold B__law_core
  refine s_Seq (s_SetE (d := .v (lN ms)) (S1 := o :: (T ++ [])) (by repeat' array_get_dec) e_gNm ?_)
  refine s_Seq (s_ForE (e_rg (n := (ms.map nP).length) (by repeat' array_get_dec) (by omega) (by omega)) ?_)
  rw [show (((List.map nP ms).length : Int)).toNat = ms.length by omega]
  refine s_Loop (fun i env S => ∃ (L : List Nm) (e4 e5 : Option D), env = [some (.v (wkP rs)), some (.v (tN ms)), some (.v (tN kept)), some (.v (lN L)), e4, e5] ∧ S = o :: (T ++ []) ∧ L.Sublist ms ∧ (GA.Stable rs kept L ∨ L.length + i ≤ ms.length) ∧ ∀ m, InCore rs kept ms m → m ∈ L)
    ⟨ms, _, _, rfl, rfl, List.Sublist.refl _, .inr (by omega), fun m ⟨M, h1, _, h3⟩ => h1 _ h3⟩ (fun _ _ _ _ => own_none) ?_ ?_
  · rintro i p env S hi ⟨L, e4, e5, rfl, rfl, hLs, hst, hmax⟩
    have hi : ((List.range ms.length).map fun i : Nat => P.int (i : Int))[i]? = some p := hi
    have hL : MOk rs L := hm.subl hLs
    have hs := hL.sub
    have hLl := hL.len h
    refine P_of e_gNm ?_
    unfold L__law_core_0
    have et : ∀ (x : Nm), x ∈ L → F__law_reasons [.v (wkP rs), .v (lN L), .v (nP x)] (o :: (T ++ [])) = .ok (.v (.lst (RS rs L x))) (o :: (T ++ [])) := fun x hx => law_reasonsL h hL (hs x hx)
    refine s_SetE (d := .v (lN (L.filter fun m => decide (m ∈ kept) || !decide (raw rs L m = [])))) (S1 := o :: (T ++ [])) ?_ e_gNm ?_
    · refine e_lc (xs := L) (f := nP) (q := fun m => decide (m ∈ kept) || !decide (raw rs L m = [])) (hh := nP) (own := none) (S1 := o :: (T ++ [])) (by repeat' array_get_dec) own_none (by omega) fun x hx => ?_
      apply e_body
      · repeat' array_get_dec
      · repeat' (first | array_get_dec | exact et x hx | exact RS_emp)
      · repeat' array_get_dec
    refine ⟨_, _, _, rfl, rfl, List.filter_sublist.trans hLs, ?_, fun m hmm => List.mem_filter.mpr ⟨hmax m hmm, ?_⟩⟩
    · rcases Classical.em (GA.Stable rs kept L) with hS | hS
      · left
        have e : (L.filter fun m => decide (m ∈ kept) || !decide (raw rs L m = [])) = L := List.filter_eq_self.mpr fun m hm2 => by
          have := hS m hm2
          simpa using this
        rw [e]
        exact hS
      · right
        have hle := hst.resolve_left hS
        have : (L.filter fun m => decide (m ∈ kept) || !decide (raw rs L m = [])).length < L.length := by
          refine List.length_filter_lt_length_iff_exists.mpr ?_
          unfold GA.Stable at hS
          obtain ⟨m, hm2⟩ := Classical.not_forall.mp hS
          obtain ⟨h1, h2⟩ := Classical.not_imp.mp hm2
          exact ⟨m, h1, by simpa using h2⟩
        omega
    · obtain ⟨M, h1, h2, h3⟩ := hmm
      rcases h2 m h3 with hk | hr
      · simp [hk]
      · have := raw_mono (L := L) (fun y hy => hmax y ⟨M, h1, h2, hy⟩) hr
        simp [this]
  · rintro env S ⟨L, e4, e5, rfl, rfl, hLs, hst, hmax⟩
    have hS : GA.Stable rs kept L := by
      rcases hst with hS | hle
      · exact hS
      · have hle : L.length + ((List.range ms.length).map fun i : Nat => P.int (i : Int)).length ≤ ms.length := hle
        rw [List.length_map, List.length_range] at hle
        have : L = [] := List.eq_nil_of_length_eq_zero (by omega)
        rw [this]
        exact fun m h => by cases h
    rw [← core_is hm.nd hLs hS hmax]
    repeat' (first | get_elem_tactic_extensible | array_get_dec)
end FN

namespace FN
open PySem PySem.Spec PyProof.Rows L2 DL GA
open FB (F__law_draw F__law_subset F__law_names F__law_abilities F__law_job F__law_all F__law_row F__law_reasons)
/-- the running of a text on data -/
local macro_rules | `(tactic| trivial) => `(tactic| first
  | with_reducible refine s_Seq ?_
  | with_reducible refine s_Set ?_
  | with_reducible refine s_If ?_
  | with_reducible refine s_Drop ?_
  | with_reducible refine s_Ret ?_
  | with_reducible refine s_Par ?_
  | with_reducible refine s_For ?_
  | with_reducible refine s_Nx ?_
  | with_reducible refine p_f2 ?_
  | ((with_reducible apply p_var); (exact rfl))
  | with_reducible refine p_c ?_
  | with_reducible refine p_gNm ?_
  | with_reducible refine p_gSb ?_
  | with_reducible refine p_tru ?_
  | with_reducible refine p_and ?_
  | with_reducible refine p_or ?_
  | with_reducible refine p_not ?_
  | with_reducible refine p_yes ?_
  | with_reducible refine p_ite ?_
  | with_reducible refine p_cons ?_
  | with_reducible refine p_nil ?_
  | with_reducible refine p_cb ?_
  | with_reducible refine p_cbB ?_
  | with_reducible refine p_tup ?_
  | with_reducible refine p_lst ?_
  | with_reducible refine p_lstB ?_
  | with_reducible refine p_lc ?_
  | with_reducible refine p_dc ?_
  | with_reducible refine p_sl ?_
  | with_reducible refine p_oNo ?_
  | with_reducible refine c_oAt ?_
  | with_reducible refine c_atE ?_
  | ((with_reducible apply p_slE); (first | exact rfl | exact deP_bx rfl); (exact rfl))
  | with_reducible refine p_call ?_
  | with_reducible refine p_callN ?_
  | with_reducible refine s_ParE ?_
  | with_reducible refine c_iv ?_
  | with_reducible refine c_rg ?_
  | ((with_reducible apply c_mt); (exact rfl); (exact rfl))
  | with_reducible refine c_ret ?_
  | with_reducible refine p_closeV ?_
  | with_reducible refine p_closeK ?_
  | with_reducible refine ff ?_
  | with_reducible refine tt ?_
  | with_reducible refine nff ?_
  | with_reducible refine ntt ?_
  | with_reducible refine ndt (fun _ => ?_) (fun _ => ?_)
  | with_reducible refine dt (fun _ => ?_) (fun _ => ?_)
  | ((with_reducible apply p_l2); (first | exact rfl | exact deP_bx rfl); (first | exact rfl | exact deP_bx rfl); (first | assumption | exact rfl | exact mod_ok (by omega) | exact fdiv_ok (by omega) (by omega) | exact mul_ok (by omega) (by omega) | exact pow_ok (by omega) (by omega) (by omega)))
  | ((with_reducible apply p_truE); (first | exact rfl | exact deP_bx rfl); (exact rfl))
  | ((with_reducible apply p_cbE); (repeat (first | exact a_nil | (apply a_cons; first | exact rfl | exact deP_bx rfl))); (first | assumption | exact rfl))
  | ((with_reducible apply c_cbB); (repeat (first | exact a_nil | (apply a_cons; first | exact rfl | exact deP_bx rfl))); (first | assumption | exact rfl))
  | ((with_reducible apply p_lstE); (repeat (first | exact v_nil | apply v_cons)); (focus (show _ ≤ (100000 : Nat); first | decide | (simp; done) | (simp; omega))))
  | ((with_reducible apply p_tupE); (repeat (first | exact v_nil | apply v_cons)); (focus (show _ ≤ (100000 : Nat); first | decide | (simp; done) | (simp; omega))))
  | ((with_reducible apply c_lstB); (repeat (first | exact v_nil | apply v_cons)); (focus (show _ ≤ (100000 : Nat); first | decide | (simp; done) | (simp; omega))))
  | ((with_reducible apply c_ivE); (first | exact rfl | exact seq_bx rfl))
  | ((with_reducible apply p_sbL); (exact rfl); (exact rfl)))


/-- the value of a text, found -/
local macro_rules | `(tactic| array_get_dec) => `(tactic| first
  | (focus ((with_reducible (show deP _ _ = _)); exact rfl))
  | (focus ((with_reducible (show seqOf _ _ = _)); exact rfl))
  | (focus ((with_reducible (show truP _ = _)); exact rfl))
  | (focus ((with_reducible (show pIx _ _ = _)); exact rfl))
  | (focus ((with_reducible (show pKey _ = _)); exact rfl))
  | (focus ((with_reducible (show bLen _ = _)); exact rfl))
  | (focus ((with_reducible (show bInt _ = _)); exact rfl))
  | (focus ((with_reducible (show bList _ = _)); exact rfl))
  | (focus ((with_reducible (show pAdd (.int _) (.int _) = _)); exact rfl))
  | (focus ((with_reducible (show pSub (.int _) (.int _) = _)); exact rfl))
  | (focus ((with_reducible (show pLt (.int _) (.int _) = _)); exact rfl))
  | (focus ((with_reducible (show pLe (.int _) (.int _) = _)); exact rfl))
  | (focus ((with_reducible (show pGt (.int _) (.int _) = _)); exact rfl))
  | (focus ((with_reducible (show pGe (.int _) (.int _) = _)); exact rfl))
  | (focus ((with_reducible (show List.length _ = _)); exact rfl))
  | (focus ((with_reducible (show pSl _ _ _ = _)); exact rfl))
  | (focus ((with_reducible (show pIsN _ _ = _)); exact rfl))
  | (focus ((with_reducible (show pNotN _ _ = _)); exact rfl))
  | (focus ((with_reducible (show pNeg _ = _)); exact rfl))
  | (focus ((with_reducible (show setD _ _ _ _ = _)); exact rfl))
  | with_reducible exact rfl)
local macro_rules | `(tactic| array_get_dec) => `(tactic| first
  | (focus ((with_reducible show _ = _); with_reducible assumption))
  | (focus (with_reducible apply e_l2))
  | with_reducible exact o_eqN
  | with_reducible exact o_neN
  | with_reducible exact o_eqT
  | with_reducible exact o_neT
  | with_reducible exact o_eqT0
  | with_reducible exact o_neT0
  | with_reducible exact o_eqLs0
  | with_reducible exact o_neLs0
  | with_reducible exact o_inT
  | with_reducible exact o_inLs
  | with_reducible exact o_niT
  | with_reducible exact o_niLs
  | with_reducible exact o_eqI
  | with_reducible exact o_neI
  | with_reducible exact o_eqL (by decide +kernel)
  | with_reducible exact o_neL (by decide +kernel)
  | with_reducible exact o_inW (by decide +kernel)
  | with_reducible exact o_niW (by decide +kernel)
  | with_reducible exact o_in1 (by decide +kernel)
  | with_reducible exact o_in2 (by decide +kernel) (by decide +kernel)
  | with_reducible exact o_in3 (by decide +kernel) (by decide +kernel) (by decide +kernel)
  | with_reducible exact o_ni1 (by decide +kernel)
  | with_reducible exact o_ni2 (by decide +kernel) (by decide +kernel)
  | with_reducible exact o_addT1 (by first | omega | (simp; omega))
  | with_reducible exact o_addT (by first | omega | (simp; omega))
  | with_reducible exact o_addLs (by first | omega | (simp; omega))
  | with_reducible exact o_addTp (by first | omega | (simp; omega))
  | with_reducible exact o_tupleN
  | with_reducible exact o_tuple)
local macro_rules | `(tactic| array_get_dec) => `(tactic| first
  | with_reducible exact e_c
  | ((with_reducible apply e_var); (exact rfl))
  | with_reducible apply e_f2
  | with_reducible exact e_nil
  | with_reducible apply e_cons
  | with_reducible apply e_tup
  | with_reducible apply e_lst
  | with_reducible apply e_lstB
  | with_reducible apply e_cb
  | with_reducible apply e_cbB
  | with_reducible apply e_tru
  | with_reducible exact e_yes
  | with_reducible apply e_and
  | with_reducible apply e_or
  | with_reducible apply e_not
  | with_reducible apply e_iteB
  | with_reducible apply e_ite
  | with_reducible apply e_andV
  | with_reducible apply e_orV
  | with_reducible apply e_notV
  | with_reducible apply e_f1
  | with_reducible apply e_call
  | with_reducible apply e_callN
  | with_reducible apply e_sl
  | with_reducible exact e_oNo
  | with_reducible apply e_oAt
  | with_reducible apply e_iv
  | with_reducible apply e_lcA
  | with_reducible apply e_lc
  | with_reducible apply e_lcB
  | with_reducible apply e_rg
  | with_reducible apply e_rg2
  | ((with_reducible apply e_mt); (exact rfl); (exact rfl))
  | with_reducible exact e_gNm
  | with_reducible exact e_gNl
  | with_reducible apply e_gCn
  | (focus ((with_reducible (show gTp _ _ _ _ _ = _)); (apply e_gTp); (exact rfl)))
  | (with_reducible (intro _ _; apply e_body))
  | with_reducible exact v_nil
  | with_reducible apply v_cons
  | with_reducible exact a_nil
  | ((with_reducible apply a_cons); (first | exact deP_bx rfl | exact deP_bxD rfl | exact rfl))
  | with_reducible exact deP_bx rfl
  | with_reducible exact deP_bxD rfl
  | with_reducible exact own_none
  | with_reducible exact own_bx rfl
  | (focus (show _ ≤ (100000 : Nat); first | decide | omega | (simp; done) | (simp; omega)))
  | (focus (show _ < (100000 : Nat); first | omega | (simp; omega) | (refine Nat.lt_of_le_of_lt (List.length_filter_le _ _) ?_; omega)))
  | with_reducible exact o_app (by first | omega | (simp; omega))
  | with_reducible exact o_ext rfl (by first | omega | (simp; omega))
  | (with_reducible intro _))
/-- the running of a text over values that are found -/
local macro_rules | `(tactic| get_elem_tactic_extensible) => `(tactic| first
  | with_reducible refine s_Seq ?_
  | with_reducible refine s_Nx ?_
  | with_reducible apply e_closeT
  | ((with_reducible apply e_closeLT); (exact rfl))
  | with_reducible apply s_SetE
  | with_reducible apply s_DropE
  | with_reducible apply s_RetE
  | with_reducible apply s_IfE
  | with_reducible apply s_Par2
  | with_reducible apply s_ForE)

noncomputable def B__law_status : FS :=
 (fSeq (fSet (fCall F__law_draw [] (fCons (fVar 0) (fCons (fC (.v (.int 10))) fNil))) (gNm 3))
 (fSeq (fIf (fAnd (fTru (f2 pLt (fVar 3) (fC (.v (.int 7))))) (fTru (f2 pEq (fLc (iVal (fVar 1)) (gNm 4) (fTru (f2 pNe (fVar 4) (fC (.v (.str "done"))))) (fVar 4) [4]) (fLst fNil))))
  (fRet (fIte (fTru (f2 pLt (fVar 3) (fC (.v (.int 4))))) (fC (.v (.str "done"))) (fC (.v (.str "maybe")))))
  fNext)
 (fRet (fIte (fAnd (fTru (f2 pIn (fVar 3) (fTup (fCons (fC (.v (.int 6))) (fCons (fC (.v (.int 9))) fNil))))) (fTru (f2 pNotIn (fC (.v (.str "again"))) (fVar 2)))) (fC (.v (.str "dead"))) (fC (.v (.str "open")))))))
noncomputable def F__law_status : FF := runF 5 false B__law_status
noncomputable def L__law_state_0 : FS :=
 (fIf (fAnd (fTru (f2 pNotIn (fVar 3) (fVar 2))) (fTru (f2 pEq (fLc (iVal (fVar 4)) (gNm 7) (fTru (f2 pNotIn (fVar 7) (fVar 2))) (fVar 7) [7]) (fLst fNil))))
    (fSet (fCall F__law_status [] (fCons (fVar 0) (fCons (fLc (iVal (fVar 4)) (gNm 7) fYes (f2 pIx (fVar 2) (fVar 7)) [7]) (fCons (fVar 6) fNil)))) (gSb (fVar 2) (fVar 3)))
    fNext)
noncomputable def L__law_state_1 : FS :=
 (fFor (iVal (fVar 1)) (gTp 4 (gCn (gNm 3) (gCn (gNm 4) (gCn (gNm 5) (gCn (gNm 6) gNl))))) L__law_state_0)
noncomputable def B__law_state : FS :=
 (fSeq (fSet fDic0B (gNm 2))
 (fSeq (fWhile (fTru (f2 pLt (fCb bLen (fCons (fVar 2) fNil)) (fCb bLen (fCons (fVar 1) fNil)))) L__law_state_1)
 (fRet (fCb bTuple (fCons (fLc (iVal (fCall F__law_all [] (fCons (fVar 1) fNil))) (gNm 3) fYes (f2 pIx (fVar 2) (fVar 3)) [3]) fNil)))))
noncomputable def F__law_state : FF := runF 8 false B__law_state
def nOpen : Nm := lit "open"
def nDone : Nm := lit "done"
def nMaybe : Nm := lit "maybe"
def nDead : Nm := lit "dead"
def St4 (x : Nm) : Prop := x = nOpen ∨ x = nDone ∨ x = nMaybe ∨ x = nDead
/-- what a status must keep, by the statuses of the needs -/
def StOk (ab needs : List Nm) (x : Nm) : Prop := St4 x ∧ (x = nDone ∨ x = nMaybe → ∀ y ∈ needs, y = nDone) ∧ (x = nDead → has "again" ab = false)
theorem o_ltI {i j : Int} : pLt (.int i) (.int j) = some (.bl (decide (i < j))) := rfl
theorem status {b : Int} {o : Ob} {T : Sto} {Q : D → Sto → Prop} {ns ab : List Nm} (h : SOB b o) (hb : b ≤ 900000) (hl : ns.length ≤ 500) (q : ∀ (x : Nm) (o' : Ob), StOk ab ns x → SOB (b + 1) o' → Q (.v (nP x)) (o' :: T)) : (F__law_status [.r 0, .v (lN ns), .v (tN ab)] (o :: T)).P Q := by
  refine p_runC ?_
  show (B__law_status [some (.r 0), some (.v (lN ns)), some (.v (tN ab)), none, none] _).F _
  unfold B__law_status
  repeat' trivial
  refine draw h (by omega) (by decide) (by decide) fun w o w0 w1 hs => ?_
  have hn1 : nDone ≠ nMaybe := fun e => absurd (congrArg Nm.s e) (show ("done" : Str) ≠ "maybe" by decide +kernel)
  have hn2 : nDead ≠ nDone := fun e => absurd (congrArg Nm.s e) (show ("dead" : Str) ≠ "done" by decide +kernel)
  have hn3 : nDead ≠ nMaybe := fun e => absurd (congrArg Nm.s e) (show ("dead" : Str) ≠ "maybe" by decide +kernel)
  have hn4 : nOpen ≠ nDone := fun e => absurd (congrArg Nm.s e) (show ("open" : Str) ≠ "done" by decide +kernel)
  have hn5 : nOpen ≠ nMaybe := fun e => absurd (congrArg Nm.s e) (show ("open" : Str) ≠ "maybe" by decide +kernel)
  have hn6 : nOpen ≠ nDead := fun e => absurd (congrArg Nm.s e) (show ("open" : Str) ≠ "dead" by decide +kernel)
  have hn7 : nDone ≠ nDead := fun e => hn2 e.symm
  have hn8 : nMaybe ≠ nDead := fun e => hn3 e.symm
  refine p_gNm (s_Seq (s_IfE (k := decide (w < 7) && decide (ns.filter (fun x : Nm => !decide (x.s = ("done" : Str))) = [])) (S1 := o :: (T ++ [])) ?_ (fun hk => ?_) fun hk => ?_))
  · repeat' (first | array_get_dec | exact o_ltI)
  · rw [Bool.and_eq_true, decide_eq_true_eq, decide_eq_true_eq] at hk
    have hall : ∀ y ∈ ns, y = nDone := fun y hy => Nm.inj (by
      have := List.filter_eq_nil_iff.mp hk.2 y hy
      have h2 : y.s = ("done" : Str) := by simpa using this
      exact h2)
    refine s_RetE (d := .v (nP (if decide (w < 4) = true then nDone else nMaybe))) (S1 := o :: (T ++ [])) ?_ (c_ret (q _ o ?_ hs))
    · refine (e_ite (a := decide (w < 4)) (p := nP nDone) (q := nP nMaybe) (e_tru (e_f2 (e_var rfl) e_c (e_l2 rfl rfl o_ltI)) rfl rfl) (fun _ => e_c) fun _ => e_c).trans ?_
      cases decide (w < 4) <;> rfl
    · cases decide (w < 4) with
      | true => exact ⟨.inr (.inl rfl), fun _ => hall, fun e => absurd e hn7⟩
      | false => exact ⟨.inr (.inr (.inl rfl)), fun _ => hall, fun e => absurd e hn8⟩
  · refine s_Nx ?_
    obtain ⟨b1, e1, _⟩ := in_tup (p := .int w) (ps := [.int 6, .int 9]) (n := 0) (m := 0) pl_int (fun q hq => by
      simp only [List.mem_cons, List.not_mem_nil, or_false] at hq
      rcases hq with rfl | rfl
      · exact pl_int
      · exact pl_int) (by decide)
    refine s_RetE (d := .v (nP (if (b1 && !has "again" ab) = true then nDead else nOpen))) (S1 := o :: (T ++ [])) ?_ (c_ret (q _ o ?_ hs))
    · refine (e_ite (a := b1 && !has "again" ab) (p := nP nDead) (q := nP nOpen) ?_ (fun _ => e_c) fun _ => e_c).trans ?_
      · repeat' (first | array_get_dec | exact e1)
      · cases (b1 && !has "again" ab) <;> rfl
    · cases hc : (b1 && !has "again" ab) with
      | true =>
        rw [Bool.and_eq_true] at hc
        exact ⟨.inr (.inr (.inr rfl)), fun e => (e.elim (fun e => absurd e hn2) fun e => absurd e hn3), fun _ => by simpa using hc.2⟩
      | false => exact ⟨.inl rfl, fun e => (e.elim (fun e => absurd e hn4) fun e => absurd e hn5), fun e => absurd e hn6⟩
/-! ### the law's drawn positions -/
abbrev kvK (kv : List (Nm × Nm)) : List Key := kv.map fun z => .inr z.1.s
abbrev kvV (kv : List (Nm × Nm)) : List P := kv.map fun z => nP z.2
abbrev kvO (kv : List (Nm × Nm)) : Ob := .dic (kvK kv) (kvV kv)
abbrev kvP (kv : List (Nm × Nm)) : P := .dic (kvK kv) (kvV kv)
def keys (kv : List (Nm × Nm)) : List Nm := kv.map (·.1)
def val (kv : List (Nm × Nm)) (x : Nm) : Nm := ((kv.find? fun z => decide (z.1 = x)).map (·.2)).getD default
theorem look_kv {kv : List (Nm × Nm)} {x : Nm} : look (kvK kv) (kvV kv) (.inr x.s) = (kv.find? fun z => decide (z.1 = x)).map fun z => nP z.2 := by
  unfold look
  induction kv with
  | nil => rfl
  | cons r kv ih =>
    simp only [List.map_cons, List.zip_cons_cons, List.find?_cons]
    have e : decide ((Sum.inr r.1.s : Key) = .inr x.s) = decide (r.1 = x) := by simp only [Sum.inr.injEq, Nm.eq_iff]
    rw [e]
    cases hq : decide (r.1 = x) with
    | true => simp
    | false => exact ih
theorem find_kv {kv : List (Nm × Nm)} {x : Nm} (h : x ∈ keys kv) : ∃ z ∈ kv, z.1 = x ∧ (kv.find? fun z => decide (z.1 = x)) = some z := by
  obtain ⟨y, hy, e⟩ := List.mem_map.mp h
  cases hf : kv.find? fun z => decide (z.1 = x) with
  | none => exact absurd (List.find?_eq_none.mp hf y hy) (by simp [e])
  | some z => exact ⟨z, List.mem_of_find?_eq_some hf, by simpa using List.find?_some hf, rfl⟩
theorem o_kv {kv : List (Nm × Nm)} {x : Nm} (h : x ∈ keys kv) : pIx (kvP kv) (nP x) = some (nP (val kv x)) := by
  obtain ⟨z, hz, e, hf⟩ := find_kv h
  show look (kvK kv) (kvV kv) (.inr x.s) = _
  rw [look_kv, hf]
  unfold val
  rw [hf]
  rfl
theorem o_inKv {kv : List (Nm × Nm)} {x : Nm} : pIn (nP x) (kvP kv) = some (.bl (decide (x ∈ keys kv))) := by
  have e : (look (kvK kv) (kvV kv) (.inr x.s)).isSome = decide (x ∈ keys kv) := by
    rw [look_kv]
    refine boolE ?_
    rw [Option.isSome_map, List.find?_isSome]
    unfold keys
    rw [List.mem_map]
    simp
  show some (P.bl (look _ _ _).isSome) = _
  rw [e]
theorem o_niKv {kv : List (Nm × Nm)} {x : Nm} : pNotIn (nP x) (kvP kv) = some (.bl (!decide (x ∈ keys kv))) := notIn_of o_inKv
theorem val_mem {kv : List (Nm × Nm)} {x : Nm} (h : x ∈ keys kv) : (x, val kv x) ∈ kv := by
  obtain ⟨z, hz, e, hf⟩ := find_kv h
  unfold val
  rw [hf]
  subst e
  exact hz
theorem val_eq {kv : List (Nm × Nm)} (hn : (keys kv).Nodup) {x y : Nm} (h : (x, y) ∈ kv) : val kv x = y := by
  have hx : x ∈ keys kv := List.mem_map.mpr ⟨_, h, rfl⟩
  have h2 := val_mem hx
  induction kv with
  | nil => cases h
  | cons a kv ih =>
    obtain ⟨n1, n2⟩ := List.nodup_cons.mp (show (a.1 :: keys kv).Nodup from hn)
    by_cases e : a.1 = x
    · have e2 : val (a :: kv) x = a.2 := by
        unfold val
        rw [List.find?_cons, decide_eq_true e]
        rfl
      rw [e2]
      rcases List.mem_cons.mp h with e3 | h3
      · rw [← e3]
      · exact absurd (List.mem_map.mpr ⟨(x, y), h3, rfl⟩) (e ▸ n1)
    · have e2 : val (a :: kv) x = val kv x := by
        unfold val
        rw [List.find?_cons, decide_eq_false e]
      rw [e2]
      have h3 : (x, y) ∈ kv := by
        rcases List.mem_cons.mp h with e3 | h3
        · exact absurd (by rw [← e3]) e
        · exact h3
      exact ih n2 h3 (List.mem_map.mpr ⟨_, h3, rfl⟩) (val_mem (List.mem_map.mpr ⟨_, h3, rfl⟩))
/-- what is known so far -/
structure KvOk (rs : List Rw) (kv : List (Nm × Nm)) : Prop where
  nd : (keys kv).Nodup
  sub : ∀ x ∈ keys kv, x ∈ nm rs
  cl : ∀ z ∈ kv, ∀ y ∈ (rowOf rs z.1).ne, y ∈ keys kv
  ok : ∀ z ∈ kv, StOk (rowOf rs z.1).ab ((rowOf rs z.1).ne.map (val kv)) z.2
/-- a position of the work -/
structure PosOk (rs : List Rw) (ps : List Nm) : Prop where
  len : rs.length = ps.length
  ok : ∀ z ∈ rs.zip ps, St4 z.2 ∧ (z.2 = nDead → has "again" z.1.ab = false) ∧ (z.2 = nDone ∨ z.2 = nMaybe → ∀ y ∈ rs.zip ps, y.1.x ∈ z.1.ne → y.2 = nDone)
theorem dbx_get {o : Ob} {T : Sto} {ks : List Key} {ps : List P} : deP (o :: (T ++ [.dic ks ps])) (.r (bx T 0)) = some (.dic ks ps) := deP_bxD rfl
theorem KvOk.add {rs : List Rw} {kv : List (Nm × Nm)} (h : KvOk rs kv) {x s : Nm} (hx : x ∈ nm rs) (hnew : x ∉ keys kv) (hne : ∀ y ∈ (rowOf rs x).ne, y ∈ keys kv) (hs : StOk (rowOf rs x).ab ((rowOf rs x).ne.map (val kv)) s) : KvOk rs (kv ++ [(x, s)]) := by
  have ek : keys (kv ++ [(x, s)]) = keys kv ++ [x] := by unfold keys; simp
  have ev : ∀ y ∈ keys kv, val (kv ++ [(x, s)]) y = val kv y := fun y hy => by
    obtain ⟨z, hz, e, hf⟩ := find_kv hy
    unfold val
    rw [List.find?_append, hf]
    rfl
  have em : ∀ ns : List Nm, (∀ y ∈ ns, y ∈ keys kv) → ns.map (val (kv ++ [(x, s)])) = ns.map (val kv) := fun ns hns => List.map_congr_left fun y hy => ev y (hns y hy)
  refine ⟨?_, fun y hy => ?_, fun z hz y hy => ?_, fun z hz => ?_⟩
  · rw [ek, List.nodup_append]
    exact ⟨h.nd, by simp, fun a ha b hb e => hnew (by
      have : b = x := by simpa using hb
      rw [← this, ← e]
      exact ha)⟩
  · rw [ek] at hy
    rcases List.mem_append.mp hy with hy | hy
    · exact h.sub y hy
    · rw [List.mem_singleton.mp hy]
      exact hx
  · rw [ek]
    rcases List.mem_append.mp hz with hz | hz
    · exact List.mem_append_left _ (h.cl z hz y hy)
    · rw [List.mem_singleton.mp hz] at hy
      exact List.mem_append_left _ (hne y hy)
  · rcases List.mem_append.mp hz with hz | hz
    · rw [em _ (h.cl z hz)]
      exact h.ok z hz
    · rw [List.mem_singleton.mp hz]
      rw [em _ hne]
      exact hs
end FN

namespace FN
open PySem PySem.Spec PyProof.Rows L2 DL GA
open FB (F__law_draw F__law_subset F__law_names F__law_abilities F__law_job F__law_all F__law_row F__law_reasons)
/-- the running of a text on data -/
local macro_rules | `(tactic| trivial) => `(tactic| first
  | with_reducible refine s_Seq ?_
  | with_reducible refine s_Set ?_
  | with_reducible refine s_If ?_
  | with_reducible refine s_Drop ?_
  | with_reducible refine s_Ret ?_
  | with_reducible refine s_Par ?_
  | with_reducible refine s_For ?_
  | with_reducible refine s_Nx ?_
  | with_reducible refine p_f2 ?_
  | ((with_reducible apply p_var); (exact rfl))
  | with_reducible refine p_c ?_
  | with_reducible refine p_gNm ?_
  | with_reducible refine p_gSb ?_
  | with_reducible refine p_tru ?_
  | with_reducible refine p_and ?_
  | with_reducible refine p_or ?_
  | with_reducible refine p_not ?_
  | with_reducible refine p_yes ?_
  | with_reducible refine p_ite ?_
  | with_reducible refine p_cons ?_
  | with_reducible refine p_nil ?_
  | with_reducible refine p_cb ?_
  | with_reducible refine p_cbB ?_
  | with_reducible refine p_tup ?_
  | with_reducible refine p_lst ?_
  | with_reducible refine p_lstB ?_
  | with_reducible refine p_lc ?_
  | with_reducible refine p_dc ?_
  | with_reducible refine p_sl ?_
  | with_reducible refine p_oNo ?_
  | with_reducible refine c_oAt ?_
  | with_reducible refine c_atE ?_
  | ((with_reducible apply p_slE); (first | exact rfl | exact deP_bx rfl); (exact rfl))
  | with_reducible refine p_call ?_
  | with_reducible refine p_callN ?_
  | with_reducible refine s_ParE ?_
  | with_reducible refine c_iv ?_
  | with_reducible refine c_rg ?_
  | ((with_reducible apply c_mt); (exact rfl); (exact rfl))
  | with_reducible refine c_ret ?_
  | with_reducible refine p_closeV ?_
  | with_reducible refine p_closeK ?_
  | with_reducible refine ff ?_
  | with_reducible refine tt ?_
  | with_reducible refine nff ?_
  | with_reducible refine ntt ?_
  | with_reducible refine ndt (fun _ => ?_) (fun _ => ?_)
  | with_reducible refine dt (fun _ => ?_) (fun _ => ?_)
  | ((with_reducible apply p_l2); (first | exact rfl | exact deP_bx rfl); (first | exact rfl | exact deP_bx rfl); (first | assumption | exact rfl | exact mod_ok (by omega) | exact fdiv_ok (by omega) (by omega) | exact mul_ok (by omega) (by omega) | exact pow_ok (by omega) (by omega) (by omega)))
  | ((with_reducible apply p_truE); (first | exact rfl | exact deP_bx rfl); (exact rfl))
  | ((with_reducible apply p_cbE); (repeat (first | exact a_nil | (apply a_cons; first | exact rfl | exact deP_bx rfl))); (first | assumption | exact rfl))
  | ((with_reducible apply c_cbB); (repeat (first | exact a_nil | (apply a_cons; first | exact rfl | exact deP_bx rfl))); (first | assumption | exact rfl))
  | ((with_reducible apply p_lstE); (repeat (first | exact v_nil | apply v_cons)); (focus (show _ ≤ (100000 : Nat); first | decide | (simp; done) | (simp; omega))))
  | ((with_reducible apply p_tupE); (repeat (first | exact v_nil | apply v_cons)); (focus (show _ ≤ (100000 : Nat); first | decide | (simp; done) | (simp; omega))))
  | ((with_reducible apply c_lstB); (repeat (first | exact v_nil | apply v_cons)); (focus (show _ ≤ (100000 : Nat); first | decide | (simp; done) | (simp; omega))))
  | ((with_reducible apply c_ivE); (first | exact rfl | exact seq_bx rfl))
  | ((with_reducible apply p_sbL); (exact rfl); (exact rfl)))


/-- the value of a text, found -/
local macro_rules | `(tactic| array_get_dec) => `(tactic| first
  | (focus ((with_reducible (show deP _ _ = _)); exact rfl))
  | (focus ((with_reducible (show seqOf _ _ = _)); exact rfl))
  | (focus ((with_reducible (show truP _ = _)); exact rfl))
  | (focus ((with_reducible (show pIx _ _ = _)); exact rfl))
  | (focus ((with_reducible (show pKey _ = _)); exact rfl))
  | (focus ((with_reducible (show bLen _ = _)); exact rfl))
  | (focus ((with_reducible (show bInt _ = _)); exact rfl))
  | (focus ((with_reducible (show bList _ = _)); exact rfl))
  | (focus ((with_reducible (show pAdd (.int _) (.int _) = _)); exact rfl))
  | (focus ((with_reducible (show pSub (.int _) (.int _) = _)); exact rfl))
  | (focus ((with_reducible (show pLt (.int _) (.int _) = _)); exact rfl))
  | (focus ((with_reducible (show pLe (.int _) (.int _) = _)); exact rfl))
  | (focus ((with_reducible (show pGt (.int _) (.int _) = _)); exact rfl))
  | (focus ((with_reducible (show pGe (.int _) (.int _) = _)); exact rfl))
  | (focus ((with_reducible (show List.length _ = _)); exact rfl))
  | (focus ((with_reducible (show pSl _ _ _ = _)); exact rfl))
  | (focus ((with_reducible (show pIsN _ _ = _)); exact rfl))
  | (focus ((with_reducible (show pNotN _ _ = _)); exact rfl))
  | (focus ((with_reducible (show pNeg _ = _)); exact rfl))
  | (focus ((with_reducible (show setD _ _ _ _ = _)); exact rfl))
  | with_reducible exact rfl)
local macro_rules | `(tactic| array_get_dec) => `(tactic| first
  | (focus ((with_reducible show _ = _); with_reducible assumption))
  | (focus (with_reducible apply e_l2))
  | with_reducible exact o_eqN
  | with_reducible exact o_neN
  | with_reducible exact o_eqT
  | with_reducible exact o_neT
  | with_reducible exact o_eqT0
  | with_reducible exact o_neT0
  | with_reducible exact o_eqLs0
  | with_reducible exact o_neLs0
  | with_reducible exact o_inT
  | with_reducible exact o_inLs
  | with_reducible exact o_niT
  | with_reducible exact o_niLs
  | with_reducible exact o_eqI
  | with_reducible exact o_neI
  | with_reducible exact o_eqL (by decide +kernel)
  | with_reducible exact o_neL (by decide +kernel)
  | with_reducible exact o_inW (by decide +kernel)
  | with_reducible exact o_niW (by decide +kernel)
  | with_reducible exact o_in1 (by decide +kernel)
  | with_reducible exact o_in2 (by decide +kernel) (by decide +kernel)
  | with_reducible exact o_in3 (by decide +kernel) (by decide +kernel) (by decide +kernel)
  | with_reducible exact o_ni1 (by decide +kernel)
  | with_reducible exact o_ni2 (by decide +kernel) (by decide +kernel)
  | with_reducible exact o_addT1 (by first | omega | (simp; omega))
  | with_reducible exact o_addT (by first | omega | (simp; omega))
  | with_reducible exact o_addLs (by first | omega | (simp; omega))
  | with_reducible exact o_addTp (by first | omega | (simp; omega))
  | with_reducible exact o_tupleN
  | with_reducible exact o_tuple)
local macro_rules | `(tactic| array_get_dec) => `(tactic| first
  | with_reducible exact e_c
  | ((with_reducible apply e_var); (exact rfl))
  | with_reducible apply e_f2
  | with_reducible exact e_nil
  | with_reducible apply e_cons
  | with_reducible apply e_tup
  | with_reducible apply e_lst
  | with_reducible apply e_lstB
  | with_reducible apply e_cb
  | with_reducible apply e_cbB
  | with_reducible apply e_tru
  | with_reducible exact e_yes
  | with_reducible apply e_and
  | with_reducible apply e_or
  | with_reducible apply e_not
  | with_reducible apply e_iteB
  | with_reducible apply e_ite
  | with_reducible apply e_andV
  | with_reducible apply e_orV
  | with_reducible apply e_notV
  | with_reducible apply e_f1
  | with_reducible apply e_call
  | with_reducible apply e_callN
  | with_reducible apply e_sl
  | with_reducible exact e_oNo
  | with_reducible apply e_oAt
  | with_reducible apply e_iv
  | with_reducible apply e_lcA
  | with_reducible apply e_lc
  | with_reducible apply e_lcB
  | with_reducible apply e_rg
  | with_reducible apply e_rg2
  | ((with_reducible apply e_mt); (exact rfl); (exact rfl))
  | with_reducible exact e_gNm
  | with_reducible exact e_gNl
  | with_reducible apply e_gCn
  | (focus ((with_reducible (show gTp _ _ _ _ _ = _)); (apply e_gTp); (exact rfl)))
  | (with_reducible (intro _ _; apply e_body))
  | with_reducible exact v_nil
  | with_reducible apply v_cons
  | with_reducible exact a_nil
  | ((with_reducible apply a_cons); (first | exact deP_bx rfl | exact deP_bxD rfl | exact rfl))
  | with_reducible exact deP_bx rfl
  | with_reducible exact deP_bxD rfl
  | with_reducible exact own_none
  | with_reducible exact own_bx rfl
  | (focus (show _ ≤ (100000 : Nat); first | decide | omega | (simp; done) | (simp; omega)))
  | (focus (show _ < (100000 : Nat); first | omega | (simp; omega) | (refine Nat.lt_of_le_of_lt (List.length_filter_le _ _) ?_; omega)))
  | with_reducible exact o_app (by first | omega | (simp; omega))
  | with_reducible exact o_ext rfl (by first | omega | (simp; omega))
  | (with_reducible intro _))
/-- the running of a text over values that are found -/
local macro_rules | `(tactic| get_elem_tactic_extensible) => `(tactic| first
  | with_reducible refine s_Seq ?_
  | with_reducible refine s_Nx ?_
  | with_reducible apply e_closeT
  | ((with_reducible apply e_closeLT); (exact rfl))
  | with_reducible apply s_SetE
  | with_reducible apply s_DropE
  | with_reducible apply s_RetE
  | with_reducible apply s_IfE
  | with_reducible apply s_Par2
  | with_reducible apply s_ForE)

theorem ex_min {α : Type} (f : α → Int) : ∀ {l : List α}, l ≠ [] → ∃ a ∈ l, ∀ b ∈ l, f a ≤ f b
  | [], h => absurd rfl h
  | [a], _ => ⟨a, by simp, fun b hb => by rw [List.mem_singleton.mp hb]; exact Int.le_refl _⟩
  | a :: b :: l, _ => by
    obtain ⟨c, hc, hm⟩ := ex_min f (l := b :: l) (by simp)
    by_cases h : f a ≤ f c
    · exact ⟨a, by simp, fun d hd => by
        rcases List.mem_cons.mp hd with rfl | hd
        · exact Int.le_refl _
        · exact Int.le_trans h (hm d hd)⟩
    · exact ⟨c, List.mem_cons_of_mem _ hc, fun d hd => by
        rcases List.mem_cons.mp hd with rfl | hd
        · omega
        · exact hm d hd⟩
theorem keys_len {kv : List (Nm × Nm)} : (keys kv).length = kv.length := by unfold keys; simp
theorem KvOk.len {rs : List Rw} {kv : List (Nm × Nm)} (h : KvOk rs kv) : kv.length ≤ rs.length := by
  have := h.nd.length_le_of_subset h.sub
  rw [keys_len] at this
  unfold nm at this
  rw [List.length_map] at this
  exact this
theorem all_known {rs : List Rw} (J : JOk rs) {kv : List (Nm × Nm)} (h : KvOk rs kv) (hl : rs.length ≤ kv.length) : ∀ x ∈ nm rs, x ∈ keys kv := fun x hx => by
  by_cases hk : x ∈ keys kv
  · exact hk
  · have h1 : (x :: keys kv).Nodup := List.nodup_cons.mpr ⟨hk, h.nd⟩
    have h2 := h1.length_le_of_subset (l₂ := nm rs) fun y hy => by
      rcases List.mem_cons.mp hy with rfl | hy
      · exact hx
      · exact h.sub y hy
    rw [List.length_cons, keys_len] at h2
    unfold nm at h2
    rw [List.length_map] at h2
    omega
/-- some step that is not known has all its needs known -/
theorem ex_next {rs : List Rw} (J : JOk rs) {kv : List (Nm × Nm)} (h : KvOk rs kv) (hl : kv.length < rs.length) : ∃ r ∈ rs, r.x ∉ keys kv ∧ ∀ y ∈ r.ne, y ∈ keys kv := by
  obtain ⟨rk, hrk⟩ := J.rank
  have hne : rs.filter (fun r => !decide (r.x ∈ keys kv)) ≠ [] := fun e => by
    have h1 : ∀ x ∈ nm rs, x ∈ keys kv := fun x hx => by
      obtain ⟨r, hr, rfl⟩ := mem_nm.mp hx
      have := List.filter_eq_nil_iff.mp e r hr
      simpa using this
    have h2 := J.nd.length_le_of_subset h1
    rw [keys_len] at h2
    unfold nm at h2
    rw [List.length_map] at h2
    omega
  obtain ⟨r, hr, hm⟩ := ex_min (fun r : Rw => rk r.x) hne
  obtain ⟨hr1, hr2⟩ := List.mem_filter.mp hr
  refine ⟨r, hr1, by simpa using hr2, fun y hy => ?_⟩
  by_cases hk : y ∈ keys kv
  · exact hk
  · obtain ⟨q, hq, rfl⟩ := mem_nm.mp ((J.ne r hr1).subset hy)
    have := hm q (List.mem_filter.mpr ⟨hq, by simpa using hk⟩)
    have := hrk r hr1 _ hy
    omega
theorem kv_pos {rs : List Rw} (J : JOk rs) {kv : List (Nm × Nm)} (h : KvOk rs kv) (hl : rs.length ≤ kv.length) : PosOk rs ((nm rs).map (val kv)) := by
  have hall := all_known J h hl
  have hz : ∀ z ∈ rs.zip ((nm rs).map (val kv)), z.1 ∈ rs ∧ z.2 = val kv z.1.x := fun z hz => by
    unfold nm at hz
    rw [List.map_map, List.zip_map_right] at hz
    obtain ⟨y, hy, rfl⟩ := List.mem_map.mp hz
    rw [← List.map_id rs, List.zip_map_left, ] at hy
    obtain ⟨i, hi, e⟩ := List.getElem_of_mem hy
    have e2 : y.1 = y.2 := by
      rw [← e]
      simp
    have e3 : y.1 ∈ rs := by
      rw [← e]
      simp
    exact ⟨e3, by simp [Prod.map, e2]⟩
  refine ⟨by unfold nm; simp, fun z hzz => ?_⟩
  obtain ⟨h1, h2⟩ := hz z hzz
  have hk : z.1.x ∈ keys kv := hall _ (mem_nm.mpr ⟨z.1, h1, rfl⟩)
  have ho := h.ok _ (val_mem hk)
  rw [← h2] at ho
  simp only [rowOf_eq J.nd h1] at ho
  refine ⟨ho.1, ho.2.2, fun hd y hy hyn => ?_⟩
  have := ho.2.1 hd (val kv y.1.x) (List.mem_map.mpr ⟨y.1.x, hyn, rfl⟩)
  rw [(hz y hy).2]
  exact this
theorem law_state {b : Int} {o : Ob} {T : Sto} {Q : D → Sto → Prop} {rs : List Rw} (J : JOk rs) (h : SOB b o) (hb : b ≤ 800000) (q : ∀ (ps : List Nm) (o' : Ob), PosOk rs ps → SOB (b + 10) o' → Q (.v (tN ps)) (o' :: T)) : (F__law_state [.r 0, .v (wkP rs)] (o :: T)).P Q := by
  have W := J.wok
  have hl8 := J.len
  refine p_runC ?_
  show (B__law_state [some (.r 0), some (.v (wkP rs)), none, none, none, none, none, none] _).F _
  unfold B__law_state
  refine s_Seq (s_SetE (d := .r (bx T 0)) (S1 := o :: (T ++ [kvO []])) e_dic0B e_gNm ?_)
  refine s_Seq ?_
  refine s_While (fun n env S => ∃ (o : Ob) (kv : List (Nm × Nm)) (e3 e4 e5 e6 e7 : Option D), env = [some (.r 0), some (.v (wkP rs)), some (.r (bx T 0)), e3, e4, e5, e6, e7] ∧ S = o :: (T ++ [kvO kv]) ∧ KvOk rs kv ∧ rs.length - kv.length = n ∧ SOB (b + kv.length) o) rs.length (by omega)
    ⟨o, [], _, _, _, _, _, rfl, rfl, ⟨List.nodup_nil, (fun _ h => by cases h), (fun _ h => by cases h), (fun _ h => by cases h)⟩, by simp, by simpa using h⟩ ?_
  rintro n env S ⟨o, kv, e3, e4, e5, e6, e7, rfl, rfl, hkv, hn, hs⟩
  have hkl := hkv.len
  have elen : bLen [kvP kv] = some (.int kv.length) := by
    show some (P.int (kvK kv).length) = _
    rw [List.length_map]
  have elen2 : bLen [wkP rs] = some (.int rs.length) := by
    show some (P.int (rs.map rwP).length) = _
    rw [List.length_map]
  refine P_of (a := decide ((kv.length : Int) < rs.length)) (S := o :: (T ++ [kvO kv])) ?_ ⟨fun hlt => ?_, fun hge => ?_⟩
  · refine e_tru (e_f2 (e_cb (e_cons (e_var rfl) e_nil) (a_cons (deP_bxD rfl) a_nil) elen) (e_cb (e_cons (e_var rfl) e_nil) (a_cons rfl a_nil) elen2) (e_l2 rfl rfl o_ltI)) rfl rfl
  · rw [decide_eq_true_eq] at hlt
    unfold L__law_state_1
    refine s_ForE (z := (rs.map rwP, none)) (S1 := o :: (T ++ [kvO kv])) (e_iv (e_var rfl) rfl) ?_
    refine s_Loop (fun i env S => ∃ (o : Ob) (kv2 : List (Nm × Nm)) (e3 e4 e5 e6 e7 : Option D), env = [some (.r 0), some (.v (wkP rs)), some (.r (bx T 0)), e3, e4, e5, e6, e7] ∧ S = o :: (T ++ [kvO kv2]) ∧ KvOk rs kv2 ∧ (∀ x ∈ keys kv, x ∈ keys kv2) ∧ (∀ r ∈ rs.take i, (∀ y ∈ r.ne, y ∈ keys kv) → r.x ∈ keys kv2) ∧ SOB (b + kv2.length) o)
      ⟨o, kv, _, _, _, _, _, rfl, rfl, hkv, (fun _ h => h), (fun r h => by simp at h), hs⟩ (fun _ _ _ _ => own_none) ?_ ?_
    · rintro i p env S hi ⟨o, kv2, e3, e4, e5, e6, e7, rfl, rfl, hk2, hsub, hdone, hs⟩
      have hi' : (rs.map rwP)[i]? = some p := hi
      rw [List.getElem?_map] at hi'
      obtain ⟨r, hr, rfl⟩ := Option.map_eq_some_iff.mp hi'
      have hrm := List.mem_of_getElem? hr
      have hnel := W.ne r hrm
      have hk2l := hk2.len
      have e2 : rs.take (i + 1) = rs.take i ++ [r] := by
        rw [List.take_add_one, hr]
        rfl
      have hro := rowOf_eq J.nd hrm
      refine P_of (a := [some (.r 0), some (.v (wkP rs)), some (.r (bx T 0)), some (.v (nP r.x)), some (.v (tN r.ne)), some (.v (tN r.se)), some (.v (tN r.ab)), e7]) (S := o :: (T ++ [kvO kv2])) (by repeat' (first | array_get_dec | exact rfl)) ?_
      unfold L__law_state_0
      have ni : ∀ x : Nm, pNotIn (nP x) (kvP kv2) = some (.bl (!decide (x ∈ keys kv2))) := fun x => o_niKv
      refine s_IfE (k := !decide (r.x ∈ keys kv2) && decide (r.ne.filter (fun y => !decide (y ∈ keys kv2)) = [])) (S1 := o :: (T ++ [kvO kv2])) (by repeat' (first | array_get_dec | (with_reducible exact ni _))) (fun hk => ?_) fun hk => ?_
      · rw [Bool.and_eq_true] at hk
        have hnew : r.x ∉ keys kv2 := by simpa using hk.1
        have hall : ∀ y ∈ r.ne, y ∈ keys kv2 := by simpa using hk.2
        refine s_Set ?_
        refine p_call (P_of (a := [.r 0, .v (lN (r.ne.map (val kv2))), .v (tN r.ab)]) (S := o :: (T ++ [kvO kv2])) ?_ ?_)
        · refine e_cons (e_var rfl) (e_cons ?_ (e_cons (e_var rfl) e_nil))
          have el : lN (r.ne.map (val kv2)) = .lst (r.ne.map fun y => nP (val kv2 y)) := by
            unfold lN
            rw [List.map_map]
            rfl
          rw [el]
          refine e_lcA (xs := r.ne) (f := nP) (own := none) (hh := fun y => nP (val kv2 y)) (S1 := o :: (T ++ [kvO kv2])) (by repeat' array_get_dec) own_none (by omega) fun y hy => ?_
          have ey := o_kv (hall y hy)
          apply e_body
          · repeat' array_get_dec
          · repeat' array_get_dec
          · repeat' array_get_dec
        refine status hs (by omega) (by rw [List.length_map]; omega) fun s o' hst hs' => ?_
        refine p_gSb (p_var rfl (p_var rfl ?_))
        refine sbD_bxN (ks := kvK kv2) (ps := kvV kv2) rfl (fun hm => hnew ?_) (by simp) (by rw [List.length_map]; omega) ?_
        · obtain ⟨z, hz, e⟩ := List.mem_map.mp hm
          exact List.mem_map.mpr ⟨z, hz, Nm.inj (Sum.inr.inj e)⟩
        have ek : keys (kv2 ++ [(r.x, s)]) = keys kv2 ++ [r.x] := by unfold keys; simp
        refine ⟨o', kv2 ++ [(r.x, s)], _, _, _, _, _, rfl, by simp [kvO], hk2.add (mem_nm.mpr ⟨r, hrm, rfl⟩) hnew (by rw [hro]; exact hall) (by rw [hro]; exact hst), fun x hx => ?_, fun z hz hzn => ?_, ?_⟩
        · rw [ek]
          exact List.mem_append_left _ (hsub x hx)
        · rw [ek]
          rw [e2] at hz
          rcases List.mem_append.mp hz with hz | hz
          · exact List.mem_append_left _ (hdone z hz hzn)
          · rw [List.mem_singleton.mp hz]
            exact List.mem_append_right _ (by simp)
        · rw [List.length_append]
          have : b + ((kv2.length + 1 : Nat) : Int) = b + kv2.length + 1 := by omega
          show SOB (b + ((kv2.length + 1 : Nat) : Int)) o'
          rw [this]
          exact hs'
      · refine s_Nx ⟨o, kv2, _, _, _, _, _, rfl, rfl, hk2, hsub, fun z hz hzn => ?_, hs⟩
        rw [e2] at hz
        rcases List.mem_append.mp hz with hz | hz
        · exact hdone z hz hzn
        · rw [List.mem_singleton.mp hz] at hzn ⊢
          by_cases hin : r.x ∈ keys kv2
          · exact hin
          · exfalso
            have : r.ne.filter (fun y => !decide (y ∈ keys kv2)) = [] := List.filter_eq_nil_iff.mpr fun y hy => by
              have := hsub y (hzn y hy)
              simp [this]
            rw [this] at hk
            simp [hin] at hk
    · rintro env S ⟨o, kv2, e3, e4, e5, e6, e7, rfl, rfl, hk2, hsub, hdone, hs⟩
      obtain ⟨r, hr, hr1, hr2⟩ := ex_next J hkv (by omega)
      have hr3 : r.x ∈ keys kv2 := hdone r (by show r ∈ rs.take (rs.map rwP).length; rw [List.length_map, List.take_length]; exact hr) hr2
      have hlt2 : kv.length < kv2.length := by
        have h1 : (r.x :: keys kv).Nodup := List.nodup_cons.mpr ⟨hr1, hkv.nd⟩
        have h2 := h1.length_le_of_subset (l₂ := keys kv2) fun y hy => by
          rcases List.mem_cons.mp hy with rfl | hy
          · exact hr3
          · exact hsub y hy
        rw [List.length_cons, keys_len, keys_len] at h2
        omega
      have := hk2.len
      exact ⟨rs.length - kv2.length, by omega, o, kv2, _, _, _, _, _, rfl, rfl, hk2, rfl, hs⟩
  · rw [decide_eq_false_iff_not] at hge
    have hall := all_known J hkv (by omega)
    have hnl : (nm rs).length ≤ 8 := J.nml
    refine s_RetE (d := .v (tN ((nm rs).map (val kv)))) (S1 := o :: (T ++ [kvO kv])) ?_ (c_ret (q _ o (kv_pos J hkv (by omega)) (hs.mono (by omega))))
    have et : tN ((nm rs).map (val kv)) = .tup ((nm rs).map fun y => nP (val kv y)) := by
      unfold tN
      rw [List.map_map]
      rfl
    rw [et]
    refine e_cb (e_cons (e_lcA (xs := nm rs) (f := nP) (own := none) (hh := fun y => nP (val kv y)) (S1 := o :: (T ++ [kvO kv])) (e_iv (e_call (e_cons (e_var rfl) e_nil) (law_all (by omega))) rfl) own_none (by omega) fun y hy => ?_) e_nil) (a_cons rfl a_nil) o_tuple
    have ey := o_kv (hall y hy)
    apply e_body
    · repeat' array_get_dec
    · repeat' array_get_dec
    · repeat' array_get_dec
end FN

namespace FN
open PySem PySem.Spec PyProof.Rows L2 DL GA
/-! what can be shown -/
theorem sh_nm (x : Nm) : Sh 20 0 (nP x) := sh_str x.ok.2.1 x.ok.2.2
theorem sh_tN {xs : List Nm} (hl : xs.length ≤ 8) : Sh 200 1 (tN xs) := by
  refine (sh_tup (n := 20) (m := 0) fun p hp => ?_).mono ?_ (Nat.le_refl _)
  · obtain ⟨x, _, rfl⟩ := List.mem_map.mp hp
    exact sh_nm x
  · rw [List.length_map]
    omega
theorem sh_rw {r : Rw} (h1 : r.ne.length ≤ 8) (h2 : r.se.length ≤ 8) (h3 : r.ab.length ≤ 8) : Sh 1000 2 (rwP r) := by
  refine (sh_tup (n := 200) (m := 1) fun p hp => ?_).mono (show 4 * 202 + 3 ≤ 1000 by decide) (Nat.le_refl _)
  simp only [List.mem_cons, List.not_mem_nil, or_false] at hp
  rcases hp with rfl | rfl | rfl | rfl
  · exact (sh_nm _).mono (by decide) (by decide)
  · exact sh_tN h1
  · exact sh_tN h2
  · exact sh_tN h3
/-- a work that can be shown -/
def Shw (rs : List Rw) : Prop := rs.length ≤ 8 ∧ ∀ r ∈ rs, r.ne.length ≤ 8 ∧ r.se.length ≤ 8 ∧ r.ab.length ≤ 8
theorem sh_wk {rs : List Rw} (h : Shw rs) : Sh 10000 3 (wkP rs) := by
  have := h.1
  refine (sh_tup (n := 1000) (m := 2) fun p hp => ?_).mono ?_ (Nat.le_refl _)
  · obtain ⟨r, hr, rfl⟩ := List.mem_map.mp hp
    obtain ⟨h1, h2, h3⟩ := h.2 r hr
    exact sh_rw h1 h2 h3
  · rw [List.length_map]
    omega
theorem JOk.shw {rs : List Rw} (h : JOk rs) : Shw rs := ⟨h.len, fun r hr => ⟨Nat.le_trans (h.ne r hr).length_le h.nml, Nat.le_trans (h.se r hr).1.length_le h.nml, Nat.le_trans (h.ab r hr).len (by decide)⟩⟩
theorem sh_tupN {n m k : Nat} {ps : List P} (h : ∀ p ∈ ps, Sh n m p) (hl : ps.length ≤ k) : Sh (k * (n + 2) + 3) (m + 1) (.tup ps) := (sh_tup h).mono (Nat.add_le_add_right (Nat.mul_le_mul_right _ hl) 3) (Nat.le_refl _)
theorem sh_lstN {n m k : Nat} {ps : List P} (h : ∀ p ∈ ps, Sh n m p) (hl : ps.length ≤ k) : Sh (k * (n + 2) + 3) (m + 1) (.lst ps) := (sh_lst h).mono (Nat.add_le_add_right (Nat.mul_le_mul_right _ hl) 3) (Nat.le_refl _)
theorem repr_of {n m : Nat} {p : P} (h : Sh n m p) (hn : n ≤ 100000 := by decide) (hm : m ≤ 64 := by decide) : bRepr [p] = some (.str (shw p)) := (h.repr hn hm).1
theorem eq_shw {n m : Nat} {p : P} (h : Sh n m p) (hn : n ≤ 100000 := by decide) (hm : m ≤ 64 := by decide) : pEq (.str (shw p)) (.str (shw p)) = some (.bl true) := by
  obtain ⟨b, h1, h2⟩ := eq_txt (h.repr hn hm).2 (h.repr hn hm).2
  rw [h1, h2.mpr rfl]
theorem ne_shw {n m : Nat} {p : P} (h : Sh n m p) (hn : n ≤ 100000 := by decide) (hm : m ≤ 64 := by decide) : pNe (.str (shw p)) (.str (shw p)) = some (.bl false) := by
  obtain ⟨b, h1, h2⟩ := ne_txt (h.repr hn hm).2 (h.repr hn hm).2
  rw [h1]
  cases b with
  | false => rfl
  | true => exact absurd rfl (h2.mp rfl)
theorem core_len {rs : List Rw} {kept ms : List Nm} : (core rs kept ms).length ≤ ms.length := core_sub.length_le
theorem sel_len {rs : List Rw} {ps : List Nm} {q : Rw × Nm → Bool} : (sel rs ps q).length ≤ rs.length := by
  have := (sel_sub (rs := rs) (ps := ps) (q := q)).length_le
  unfold nm at this
  rwa [List.length_map] at this
end FN

namespace GA
open PySem PySem.Spec PyProof.Rows L2 DL
/-! names in ascending order; rows in the order of their names -/
def leN (a b : Nm) : Bool := PySem.W.dataLe false pyOf (nP a) (nP b)
theorem leN_total (a b : Nm) : leN a b = true ∨ leN b a = true := Bool.or_eq_true_iff.mp (le_total (nP a) (nP b))
theorem leN_trans {a b c : Nm} (h1 : leN a b = true) (h2 : leN b c = true) : leN a c = true := le_trans _ _ _ h1 h2
theorem leN_anti {a b : Nm} (h1 : leN a b = true) (h2 : leN b a = true) : a = b := nP_inj.mp (le_anti (pl_nm a).1 (pl_nm b).1 (by
  show PySem.W.alike (PyData.str a.s) (PyData.str b.s) = true
  simp [PySem.W.alike]) h1 h2)
structure Asc (xs : List Nm) : Prop where
  le : xs.Pairwise fun a b => leN a b = true
  nd : xs.Nodup
theorem Asc.nil : Asc [] := ⟨List.Pairwise.nil, List.nodup_nil⟩
theorem Asc.tail {x : Nm} {xs : List Nm} (h : Asc (x :: xs)) : Asc xs := ⟨(List.pairwise_cons.mp h.le).2, (List.nodup_cons.mp h.nd).2⟩
theorem Asc.head {x : Nm} {xs : List Nm} (h : Asc (x :: xs)) : ∀ y ∈ xs, leN x y = true := (List.pairwise_cons.mp h.le).1
theorem Asc.sub {xs ys : List Nm} (h : Asc ys) (hs : xs.Sublist ys) : Asc xs := ⟨h.le.sublist hs, h.nd.sublist hs⟩
theorem asc_sub : ∀ {ys xs : List Nm}, Asc xs → Asc ys → (∀ x ∈ xs, x ∈ ys) → xs.Sublist ys
  | [], xs, _, _, h => by
    have : xs = [] := List.eq_nil_iff_forall_not_mem.mpr fun x hx => by cases h x hx
    rw [this]
    exact List.Sublist.refl _
  | y :: ys, [], _, _, _ => List.nil_sublist _
  | y :: ys, x :: xs, hx, hy, h => by
    by_cases e : x = y
    · subst e
      refine (asc_sub hx.tail hy.tail fun z hz => ?_).cons_cons x
      rcases List.mem_cons.mp (h z (List.mem_cons_of_mem _ hz)) with rfl | h2
      · exact absurd hz (List.nodup_cons.mp hx.nd).1
      · exact h2
    · have h1 : x ∈ ys := by
        rcases List.mem_cons.mp (h x (List.mem_cons_self ..)) with e2 | h2
        · exact absurd e2 e
        · exact h2
      refine (asc_sub hx hy.tail fun z hz => ?_).cons y
      rcases List.mem_cons.mp (h z hz) with e2 | h2
      · subst e2
        rcases List.mem_cons.mp hz with e3 | h3
        · exact absurd e3.symm e
        · exact absurd (leN_anti (hx.head _ h3) (hy.head _ h1)) e
      · exact h2
theorem asc_eq {xs ys : List Nm} (hx : Asc xs) (hy : Asc ys) (h : ∀ x, x ∈ xs ↔ x ∈ ys) : xs = ys := (asc_sub hx hy fun x => (h x).mp).eq_of_length_le (asc_sub hy hx fun x => (h x).mpr).length_le
theorem so_asc (xs : List Nm) : Asc (so xs) := ⟨List.pairwise_map.mp (so_ex xs).choose_spec.2.2.2, so_nd xs⟩
theorem toPys_nm (xs : List Nm) : toPys (xs.map nP) = some (xs.map fun x => PyData.str x.s) := by
  have := toPys_strs (xs.map (·.s))
  rw [List.map_map, List.map_map] at this
  exact this
theorem py_rw (r : Rw) : pyOf (rwP r) = .tuple [.str r.x.s, .tuple (r.ne.map fun x => .str x.s), .tuple (r.se.map fun x => .str x.s), .tuple (r.ab.map fun x => .str x.s)] := by
  unfold pyOf
  simp [toPy, toPys, toPys_nm, nP]
theorem pl_rw (r : Rw) : Pl 2 (rwP r) := pl_tup fun q hq => by
  simp only [List.mem_cons, List.not_mem_nil, or_false] at hq
  rcases hq with rfl | rfl | rfl | rfl
  · exact (pl_nm _).mono (by decide)
  · exact pl_tN _
  · exact pl_tN _
  · exact pl_tN _
theorem alike_nms (xs ys : List Nm) : PySem.W.alikeAll (xs.map fun x => PyData.str x.s) (ys.map fun x => PyData.str x.s) = true := by
  have := alike_strs (xs.map (·.s)) (ys.map (·.s))
  rw [List.map_map, List.map_map] at this
  exact this
theorem alike_rw (r q : Rw) : PySem.W.alike (pyOf (rwP r)) (pyOf (rwP q)) = true := by
  rw [py_rw, py_rw]
  simp [PySem.W.alike, PySem.W.alikeAll, alike_nms]
theorem lt_nm {a b : Nm} : PySem.W.dataLt (pyOf (nP a)) (pyOf (nP b)) = PyProof.Rows.lexLt itemOrd [.inr a.s.cps.toList] [.inr b.s.cps.toList] := rfl
theorem row_le {r q : Rw} (h : r.x ≠ q.x) : PySem.W.dataLe false pyOf (rwP r) (rwP q) = leN r.x q.x := by
  have hc : (Sum.inr q.x.s.cps.toList : Int ⊕ List Nat) ≠ .inr r.x.s.cps.toList := fun e => h (Nm.inj (PySem.W.str_of_cps (Sum.inr.inj e))).symm
  show (!PySem.W.dataLt (pyOf (rwP q)) (pyOf (rwP r))) = !PySem.W.dataLt (pyOf (nP q.x)) (pyOf (nP r.x))
  congr 1
  rw [lt_nm, py_rw, py_rw, PySem.W.dataLt_tuple]
  show PyProof.Rows.lexLt itemOrd (.inl 1 :: (.inr q.x.s.cps.toList :: _)) (.inl 1 :: (.inr r.x.s.cps.toList :: _)) = _
  rw [PyProof.Rows.lex_self (O := itemOrd)]
  exact PySem.W.lex_atom hc _ _
theorem srt_rows {rows : List Rw} (hl : rows.length ≤ 100000) (hn : (nm rows).Nodup) : ∃ rs : List Rw, bSorted [.lst (rows.map rwP)] = some (.lst (rs.map rwP)) ∧ rs.Perm rows ∧ Asc (nm rs) := by
  have hm : (rows.mergeSort fun a b => PySem.W.dataLe false pyOf (rwP a) (rwP b)).map rwP = srt (rows.map rwP) := List.map_mergeSort fun _ _ _ _ => rfl
  have hp : (rows.mergeSort fun a b => PySem.W.dataLe false pyOf (rwP a) (rwP b)).Perm rows := List.mergeSort_perm _ _
  have hs : (rows.mergeSort fun a b => PySem.W.dataLe false pyOf (rwP a) (rwP b)).Pairwise fun a b => PySem.W.dataLe false pyOf (rwP a) (rwP b) = true := List.pairwise_mergeSort (le := fun a b => PySem.W.dataLe false pyOf (rwP a) (rwP b)) (fun a b c => le_trans (rwP a) (rwP b) (rwP c)) (fun a b => le_total (rwP a) (rwP b)) rows
  generalize (rows.mergeSort fun a b => PySem.W.dataLe false pyOf (rwP a) (rwP b)) = rs at hm hp hs
  have hn2 : (nm rs).Nodup := by
    unfold nm at hn ⊢
    exact (hp.map (·.x)).nodup_iff.mpr hn
  refine ⟨rs, ?_, hp, ?_, hn2⟩
  · rw [hm]
    refine sorted_of (pyAll_of fun p hp => ?_) ?_ ?_ (by simpa using hl) ?_
    · obtain ⟨r, _, rfl⟩ := List.mem_map.mp hp
      exact (pl_rw r).1
    · unfold alikeB
      simp only [List.all_eq_true, List.mem_map]
      rintro _ ⟨_, ⟨p, _, rfl⟩, rfl⟩ _ ⟨_, ⟨q, _, rfl⟩, rfl⟩
      exact alike_rw p q
    · unfold sortableB
      rw [Bool.or_eq_true]
      left
      simp only [List.all_eq_true, List.mem_map]
      rintro _ ⟨_, ⟨p, _, rfl⟩, rfl⟩
      rw [py_rw]
    · simp only [List.mem_map]
      rintro _ ⟨_, ⟨p, _, rfl⟩, rfl⟩
      obtain ⟨d, h1, h2, h3⟩ := pl_py (rwP p) (pl_rw p).1
      have : pyOf (rwP p) = d := by
        unfold pyOf
        rw [h1]
        rfl
      rw [this, h3]
      exact Nat.le_trans (pl_rw p).2 (by decide)
  · unfold nm at hn2 ⊢
    rw [List.pairwise_map]
    have hn3 := List.pairwise_map.mp hn2
    refine (hs.and hn3).imp fun {a b} h => ?_
    rw [← row_le h.2]
    exact h.1
end GA

namespace GA
open PySem PySem.Spec PyProof.Rows L2 DL
/-! sorted lists of names, of tuples of names -/
def asort (xs : List Nm) : List Nm := xs.mergeSort leN
theorem asort_map (xs : List Nm) : (asort xs).map nP = srt (xs.map nP) := List.map_mergeSort fun _ _ _ _ => rfl
theorem asort_perm (xs : List Nm) : (asort xs).Perm xs := List.mergeSort_perm _ _
theorem asort_mem {xs : List Nm} {x : Nm} : x ∈ asort xs ↔ x ∈ xs := (asort_perm xs).mem_iff
theorem asort_len (xs : List Nm) : (asort xs).length = xs.length := (asort_perm xs).length_eq
theorem asort_le (xs : List Nm) : (asort xs).Pairwise fun a b => leN a b = true := List.pairwise_mergeSort (le := leN) (fun a b c => leN_trans) (fun a b => Bool.or_eq_true_iff.mpr (leN_total a b)) xs
theorem asort_asc {xs : List Nm} (h : xs.Nodup) : Asc (asort xs) := ⟨asort_le xs, (asort_perm xs).nodup_iff.mpr h⟩
theorem cmp_nm (xs : List Nm) : Cmp (xs.map nP) := by
  have := cmp_strs (ks := xs.map (·.s)) fun k hk => by
    obtain ⟨x, _, rfl⟩ := List.mem_map.mp hk
    exact x.ok.1
  rwa [← strs_nm] at this
theorem asort_eq {xs ys : List Nm} (h : xs.Perm ys) : asort xs = asort ys := by
  refine nP_map.mp ?_
  rw [asort_map, asort_map]
  exact srt_eq (h.map nP) (cmp_nm xs)
theorem asort_of {xs : List Nm} (h : Asc xs) : asort xs = xs := asc_eq (asort_asc h.nd) h fun _ => asort_mem
theorem asort_is {xs ys : List Nm} (h : xs.Perm ys) (ha : Asc ys) : asort xs = ys := (asort_eq h).trans (asort_of ha)
theorem o_sortL {xs : List Nm} (hl : xs.length ≤ 100000) : bSorted [lN xs] = some (lN (asort xs)) := by
  obtain ⟨ys, h1, _⟩ := sorted_strs (xs := xs.map (·.s)) (by simpa using hl)
  have e : bSorted [lN xs] = some (.lst (srt (xs.map nP))) := by
    refine sorted_of (toPys_nm xs) ?_ ?_ (by simpa using hl) ?_
    · unfold alikeB
      simp only [List.all_eq_true, List.mem_map]
      rintro _ ⟨x, _, rfl⟩ _ ⟨y, _, rfl⟩
      simp [PySem.W.alike]
    · unfold sortableB
      rw [Bool.or_eq_true]
      right
      simp only [List.all_eq_true, List.mem_map]
      rintro _ ⟨x, _, rfl⟩
      rfl
    · simp only [List.mem_map]
      rintro _ ⟨x, _, rfl⟩
      exact Nat.zero_le _
  rw [e, ← asort_map]
theorem o_sortT {xs : List Nm} (hl : xs.length ≤ 100000) : bSorted [tN xs] = some (lN (asort xs)) := o_sortL hl
theorem tN_st (xs : List Nm) : tN xs = stP (xs.map (·.s)) := by
  unfold stP
  rw [List.map_map]
  rfl
theorem tNs_st (xss : List (List Nm)) : xss.map tN = (xss.map fun xs => xs.map (·.s)).map stP := by
  rw [List.map_map]
  exact List.map_congr_left fun xs _ => tN_st xs
theorem ok_nms {xss : List (List Nm)} : ∀ xs ∈ (xss.map fun xs => xs.map (·.s)), ∀ x ∈ xs, PyData.strOk x = true := fun xs h x hx => by
  obtain ⟨ys, _, rfl⟩ := List.mem_map.mp h
  obtain ⟨y, _, rfl⟩ := List.mem_map.mp hx
  exact y.ok.1
theorem cmp_tN (xss : List (List Nm)) : Cmp (xss.map tN) := by
  rw [tNs_st]
  exact cmp_st ok_nms
/-- tuples of names, in order -/
def leT (a b : List Nm) : Bool := PySem.W.dataLe false pyOf (tN a) (tN b)
def tsort (xss : List (List Nm)) : List (List Nm) := xss.mergeSort leT
theorem tsort_map (xss : List (List Nm)) : (tsort xss).map tN = srt (xss.map tN) := List.map_mergeSort fun _ _ _ _ => rfl
theorem tsort_perm (xss : List (List Nm)) : (tsort xss).Perm xss := List.mergeSort_perm _ _
theorem tN_map {xss yss : List (List Nm)} : xss.map tN = yss.map tN ↔ xss = yss := ⟨fun h => (List.map_inj_right fun _ _ e => tN_inj.mp e).mp h, fun h => h ▸ rfl⟩
theorem tsort_eq {xss yss : List (List Nm)} (h : xss.Perm yss) : tsort xss = tsort yss := by
  refine tN_map.mp ?_
  rw [tsort_map, tsort_map]
  exact srt_eq (h.map tN) (cmp_tN xss)
theorem o_sortTs {xss : List (List Nm)} (hl : xss.length ≤ 100000) : bSorted [.lst (xss.map tN)] = some (.lst ((tsort xss).map tN)) := by
  rw [tsort_map]
  have hc := cmp_tN xss
  refine sorted_of (pyAll_of hc.1) ?_ ?_ (by simpa using hl) ?_
  · unfold alikeB
    simp only [List.all_eq_true, List.mem_map]
    rintro _ ⟨p, hp, rfl⟩ _ ⟨q, hq, rfl⟩
    exact hc.2 p (by simpa using hp) q (by simpa using hq)
  · unfold sortableB
    rw [Bool.or_eq_true]
    left
    simp only [List.all_eq_true, List.mem_map]
    rintro _ ⟨p, ⟨xs, hx, rfl⟩, rfl⟩
    rw [tN_st, py_st]
  · simp only [List.mem_map]
    rintro _ ⟨p, ⟨xs, hx, rfl⟩, rfl⟩
    rw [tN_st, py_st]
    have dep : ∀ xs : List Str, PyData.depthAll (xs.map PyData.str) = 0 := fun xs => by
      induction xs with
      | nil => rfl
      | cons x xs ih => simp [PyData.depthAll, PyData.depth, ih]
    show PyData.depthAll _ + 1 ≤ 64
    rw [dep]
    omega
theorem o_rep {x : Nm} {n : Nat} (h1 : 1 ≤ n) (h2 : n ≤ 1000) : pMul (.tup [nP x]) (.int n) = some (tN (List.replicate n x)) := by
  by_cases h : n = 1
  · subst h
    rfl
  · show (if _ then _ else _ : Option P) = _
    rw [if_pos ⟨(by show (1 : Nat) ≤ 1000; decide), by simp, by omega, by omega⟩]
    congr 2
    rw [show ((n : Int)).toNat = n by omega, List.map_replicate]
    clear h h1 h2
    induction n with
    | zero => rfl
    | succ n ih => rw [List.replicate_succ, List.flatten_cons, ih, List.replicate_succ]; rfl
end GA

namespace K19
open PySem PySem.Spec PyProof.Rows L2 DL
def top (i : Nat) : Stmt := PySem.Challenge.pw_maybedone_k19_undo_orders_told.main.body.getD i (.Pass ⟨0, 0, 0, 0⟩)
abbrev s__law_row : Stmt := top 22
abbrev N__law_row : List Str := ["_law_job_here", "_law_one", "_law_row_here"]
abbrev s__law_reasons : Stmt := top 23
abbrev N__law_reasons : List Str := ["_law_job_here", "_law_members", "_law_one", "_law_name", "_law_needs", "_law_seals", "_law_abilities_here", "_law_found", "_law_row_here", "_law_other"]
abbrev s__law_core : Stmt := top 24
abbrev N__law_core : List Str := ["_law_job_here", "_law_members", "_law_fixed", "_law_left", "_law_attempt", "_law_one"]
abbrev s__law_free : Stmt := top 25
abbrev N__law_free : List Str := ["_law_job_here", "_law_left", "_law_fixed", "_law_one"]
noncomputable def B__law_free : FS :=
 (fRet (fLc (iVal (fVar 1)) (gNm 3) (fAnd (fTru (f2 pNotIn (fVar 3) (fVar 2))) (fTru (f2 pEq (fCall FB.F__law_reasons [] (fCons (fVar 0) (fCons (fVar 1) (fCons (fVar 3) fNil)))) (fLst fNil)))) (fVar 3) [3]))
noncomputable def F__law_free : FF := runF 4 false B__law_free
abbrev s__law_orders : Stmt := top 26
abbrev N__law_orders : List Str := ["_law_job_here", "_law_left", "_law_fixed", "_law_free_here", "_law_found", "_law_one", "_law_rest", "_law_other", "_law_order_now"]
noncomputable def L__law_orders_0 (Fr : FF) : FS :=
 (fSeq (fSet (fLc (iVal (fVar 1)) (gNm 7) (fTru (f2 pNe (fVar 7) (fVar 5))) (fVar 7) [7]) (gNm 6))
  (fDrop (fMt mExtend (fVar 4) (fCons (fLc (iVal (fCall Fr [] (fCons (fVar 0) (fCons (fVar 6) (fCons (fVar 2) fNil))))) (gNm 8) fYes (f2 pAdd (fTup (fCons (fVar 5) fNil)) (fVar 8)) [8]) fNil))))
noncomputable def B__law_orders (Fr : FF) : FS :=
 (fSeq (fPar 3 4 (fCons (fCall F__law_free [] (fCons (fVar 0) (fCons (fVar 1) (fCons (fVar 2) fNil)))) (fCons (fLstB fNil) fNil)))
 (fSeq (fFor (iVal (fVar 3)) (gNm 5) (L__law_orders_0 Fr))
 (fRet (fIte (fTru (f2 pNe (fVar 3) (fLst fNil))) (fVar 4) (fLst (fCons (fTup fNil) fNil))))))
noncomputable def F__law_orders : Nat → FF
  | 0 => fun _ _ => .bad
  | n + 1 => runF 9 false (B__law_orders (F__law_orders n))
abbrev s__law_least_order : Stmt := top 27
abbrev N__law_least_order : List Str := ["_law_job_here", "_law_members", "_law_fixed", "_law_left", "_law_found"]
noncomputable def L__law_least_order_0 : FS :=
 (fSeq (fDrop (fMt mAppend (fVar 4) (fCons (fCb MN.bMin1 (fCons (fCall F__law_free [] (fCons (fVar 0) (fCons (fVar 3) (fCons (fVar 2) fNil)))) fNil)) fNil)))
  (fDrop (fMt RM.mRemove (fVar 3) (fCons (f2 pIx (fVar 4) (f1 pNeg (fC (.v (.int 1))))) fNil))))
noncomputable def B__law_least_order : FS :=
 (fSeq (fPar 3 4 (fCons (fCbB bList (fCons (fVar 1) fNil)) (fCons (fLstB fNil) fNil)))
 (fSeq (fIf (fTru (f2 pLe (f2 pSub (fCb bLen (fCons (fVar 1) fNil)) (fCb bLen (fCons (fCall FN.F__law_core [] (fCons (fVar 0) (fCons (fVar 1) (fCons (fVar 2) fNil)))) fNil))) (fC (.v (.int 5)))))
  (fRet (fCb MN.bMin1 (fCons (fCall (F__law_orders 8) [] (fCons (fVar 0) (fCons (fVar 3) (fCons (fVar 2) fNil)))) fNil)))
  fNext)
 (fSeq (fWhile (fTru (f2 pNe (fCall F__law_free [] (fCons (fVar 0) (fCons (fVar 3) (fCons (fVar 2) fNil)))) (fLst fNil))) L__law_least_order_0)
 (fRet (fCb bTuple (fCons (fVar 4) fNil))))))
noncomputable def F__law_least_order : FF := runF 5 false B__law_least_order
abbrev s_rows_by_step : Stmt := top 5
abbrev N_rows_by_step : List Str := ["work", "row"]
abbrev s_reasons_in : Stmt := top 8
abbrev N_reasons_in : List Str := ["work", "steps", "name", "rows", "own", "needs", "seals", "abilities", "found", "other"]
abbrev s_require_steps : Stmt := top 6
abbrev N_require_steps : List Str := ["work", "steps", "known_steps", "step"]
abbrev s_free_steps : Stmt := top 9
abbrev N_free_steps : List Str := ["work", "steps", "name"]
abbrev s_without : Stmt := top 11
abbrev N_without : List Str := ["steps", "name", "own"]
abbrev s_removal : Stmt := top 12
abbrev N_removal : List Str := ["work", "steps", "kept", "order", "left", "free", "name"]
abbrev s_undo_order : Stmt := top 13
abbrev N_undo_order : List Str := ["work", "steps", "kept", "order", "left"]
abbrev s__law_agrees : Stmt := top 28
abbrev N__law_agrees : List Str := ["_law_job_here", "_law_members", "_law_fixed", "_law_before", "_law_expected", "_law_found"]
noncomputable def B__law_agrees : FS :=
 (fSeq (fPar 3 4 (fCons (fCb bRepr (fCons (fTup (fCons (fVar 0) (fCons (fVar 1) (fCons (fVar 2) fNil)))) fNil)) (fCons (fCall F__law_least_order [] (fCons (fVar 0) (fCons (fVar 1) (fCons (fVar 2) fNil)))) fNil)))
 (fSeq (fSet (fLst (fCons (fCallN GA.F_undo_order 2 1 (fun ds es => pick [0, 1, 2] (ds ++ ([] ++ es))) (fCons (fVar 0) (fCons (fVar 1) fNil)) (fCons (fVar 2) fNil)) (fCons (fCallN GA.F_undo_order 0 3 (fun ds es => pick [2, 1, 0] (ds ++ ([] ++ es))) fNil (fCons (fVar 2) (fCons (fVar 1) (fCons (fVar 0) fNil)))) fNil))) (gNm 5))
 (fSeq (fIf (fTru (f2 pNe (fCb bRepr (fCons (fVar 5) fNil)) (fCb bRepr (fCons (fLst (fCons (fVar 4) (fCons (fVar 4) fNil))) fNil))))
  (fRet (fC (.v (.bl false))))
  fNext)
 (fSeq (fIf (fAnd (fTru (f2 pEq (fVar 2) (fTup fNil))) (fTru (f2 pNe (fCb bRepr (fCons (fCall GA.F_undo_order [D.v (.tup [])] (fCons (fVar 0) (fCons (fVar 1) fNil))) fNil)) (fCb bRepr (fCons (fVar 4) fNil)))))
  (fRet (fC (.v (.bl false))))
  fNext)
 (fRet (f2 pEq (fCb bRepr (fCons (fTup (fCons (fVar 0) (fCons (fVar 1) (fCons (fVar 2) fNil)))) fNil)) (fVar 3)))))))
noncomputable def F__law_agrees : FF := runF 6 false B__law_agrees
abbrev s__law_all : Stmt := top 21
abbrev N__law_all : List Str := ["_law_job_here", "_law_row_here"]
abbrev s__law_eight_steps : Stmt := top 29
abbrev N__law_eight_steps : List Str := ["_law_is_chain", "_law_names_here", "_law_seals", "_law_k"]
noncomputable def B__law_eight_steps : FS :=
 (fSeq (fSet (fTup (fCons (fC (.v (.str "a"))) (fCons (fC (.v (.str "b"))) (fCons (fC (.v (.str "c"))) (fCons (fC (.v (.str "d"))) (fCons (fC (.v (.str "e"))) (fCons (fC (.v (.str "f"))) (fCons (fC (.v (.str "g"))) (fCons (fC (.v (.str "h"))) fNil))))))))) (gNm 1))
 (fSeq (fSet (fLc (iR1 (fCons (fC (.v (.int 8))) fNil)) (gNm 3) fYes (fIte (fTru (fVar 0)) (fSl (fVar 1) (oAt (f2 pAdd (fVar 3) (fC (.v (.int 1))))) (oAt (f2 pAdd (fVar 3) (fC (.v (.int 2)))))) (fTup fNil)) [3]) (gNm 2))
 (fRet (fCb bTuple (fCons (fLc (iR1 (fCons (fC (.v (.int 8))) fNil)) (gNm 3) fYes (fTup (fCons (f2 pIx (fVar 1) (fVar 3)) (fCons (fTup fNil) (fCons (f2 pIx (fVar 2) (fVar 3)) (fCons (fTup (fCons (fC (.v (.str "undo"))) fNil)) fNil))))) [3]) fNil)))))
noncomputable def F__law_eight_steps : FF := runF 4 false B__law_eight_steps
abbrev s__law_feed : Stmt := top 15
abbrev N__law_feed : List Str := ["_law_script"]
abbrev s__law_draw : Stmt := top 16
abbrev N__law_draw : List Str := ["_law_feed_here", "_law_many", "_law_count", "_law_found", "_law_at", "_law_cell", "_law_mixed"]
abbrev s__law_abilities : Stmt := top 19
abbrev N__law_abilities : List Str := ["_law_feed_here", "_law_found"]
abbrev s__law_names : Stmt := top 18
abbrev N__law_names : List Str := ["_law_feed_here", "_law_most", "_law_pool", "_law_count"]
abbrev s__law_job : Stmt := top 20
abbrev N__law_job : List Str := ["_law_feed_here", "_law_most", "_law_names_here", "_law_ranks", "_law_pool", "_law_name", "_law_rows", "_law_rare", "_law_needs", "_law_other", "_law_seals"]
abbrev s__law_subset : Stmt := top 17
abbrev N__law_subset : List Str := ["_law_feed_here", "_law_some", "_law_one"]
abbrev s_law : Stmt := top 30
abbrev N_law : List Str := ["_law_script", "_law_feed_here", "_law_is_chain", "_law_job_here", "_law_attempt", "_law_names_here", "_law_members", "_law_fixed"]
noncomputable def L_law_0 : FS :=
 (fSeq (fSet (fCall F__law_eight_steps [] (fCons (fVar 2) fNil)) (gNm 3))
  (fIf (fOr (fNot (fTru (fCall F__law_agrees [] (fCons (fVar 3) (fCons (fCall FB.F__law_all [] (fCons (fVar 3) fNil)) (fCons (fTup fNil) fNil)))))) (fNot (fTru (fCall F__law_agrees [] (fCons (fVar 3) (fCons (fCall FB.F__law_all [] (fCons (fVar 3) fNil)) (fCons (fTup (fCons (fC (.v (.str "d"))) fNil)) fNil)))))))
   (fRet (fC (.v (.bl false))))
   fNext))
noncomputable def L_law_1 : FS :=
 (fIf (fNot (fTru (fCall F__law_agrees [] (fCons (fVar 3) (fCons (fVar 6) (fCons (fVar 7) fNil))))))
     (fRet (fC (.v (.bl false))))
     fNext)
noncomputable def L_law_2 : FS :=
 (fFor (iVal (fTup (fCons (fTup fNil) (fCons (fCall FB.F__law_subset [] (fCons (fVar 1) (fCons (fVar 5) fNil))) fNil)))) (gNm 7) L_law_1)
noncomputable def L_law_3 : FS :=
 (fSeq (fSet (fCall FB.F__law_job [] (fCons (fVar 1) (fCons (fC (.v (.int 8))) fNil))) (gNm 3))
  (fSeq (fSet (fCall FB.F__law_all [] (fCons (fVar 3) fNil)) (gNm 5))
  (fFor (iVal (fTup (fCons (fVar 5) (fCons (fCall FB.F__law_subset [] (fCons (fVar 1) (fCons (fVar 5) fNil))) fNil)))) (gNm 6) L_law_2)))
noncomputable def B_law : FS :=
 (fSeq (fSet (fCall FB.F__law_feed [] (fCons (fVar 0) fNil)) (gNm 1))
 (fSeq (fFor (iVal (fTup (fCons (fC (.v (.bl true))) (fCons (fC (.v (.bl false))) fNil)))) (gNm 2) L_law_0)
 (fSeq (fFor (iR1 (fCons (fC (.v (.int 5))) fNil)) (gNm 4) L_law_3)
 (fRet (fC (.v (.bl true)))))))
noncomputable def F_law : FF := runF 8 false B_law
structure Cf (K : PySem.W.Frag) (mg : Str → Option Value) where
  k__law_row : FuncData
  d__law_row : FunD K "_law_row" "_law_row" (defArgs s__law_row) (defBody s__law_row) (defScope s__law_row) [] [] (He.ga K "_law_row") k__law_row
  g__law_row : mg "_law_row" = some (.ref (He.ga K "_law_row"))
  k__law_reasons : FuncData
  d__law_reasons : FunD K "_law_reasons" "_law_reasons" (defArgs s__law_reasons) (defBody s__law_reasons) (defScope s__law_reasons) [] [] (He.ga K "_law_reasons") k__law_reasons
  g__law_reasons : mg "_law_reasons" = some (.ref (He.ga K "_law_reasons"))
  k__law_core : FuncData
  d__law_core : FunD K "_law_core" "_law_core" (defArgs s__law_core) (defBody s__law_core) (defScope s__law_core) [] [] (He.ga K "_law_core") k__law_core
  g__law_core : mg "_law_core" = some (.ref (He.ga K "_law_core"))
  k__law_free : FuncData
  d__law_free : FunD K "_law_free" "_law_free" (defArgs s__law_free) (defBody s__law_free) (defScope s__law_free) [] [] (He.ga K "_law_free") k__law_free
  g__law_free : mg "_law_free" = some (.ref (He.ga K "_law_free"))
  k__law_orders : FuncData
  d__law_orders : FunD K "_law_orders" "_law_orders" (defArgs s__law_orders) (defBody s__law_orders) (defScope s__law_orders) [] [] (He.ga K "_law_orders") k__law_orders
  g__law_orders : mg "_law_orders" = some (.ref (He.ga K "_law_orders"))
  k__law_least_order : FuncData
  d__law_least_order : FunD K "_law_least_order" "_law_least_order" (defArgs s__law_least_order) (defBody s__law_least_order) (defScope s__law_least_order) [] [] (He.ga K "_law_least_order") k__law_least_order
  g__law_least_order : mg "_law_least_order" = some (.ref (He.ga K "_law_least_order"))
  k_rows_by_step : FuncData
  d_rows_by_step : FunD K "rows_by_step" "rows_by_step" (defArgs s_rows_by_step) (defBody s_rows_by_step) (defScope s_rows_by_step) [] [] (He.ga K "rows_by_step") k_rows_by_step
  g_rows_by_step : mg "rows_by_step" = some (.ref (He.ga K "rows_by_step"))
  k_reasons_in : FuncData
  d_reasons_in : FunD K "reasons_in" "reasons_in" (defArgs s_reasons_in) (defBody s_reasons_in) (defScope s_reasons_in) [] [] (He.ga K "reasons_in") k_reasons_in
  g_reasons_in : mg "reasons_in" = some (.ref (He.ga K "reasons_in"))
  k_require_steps : FuncData
  d_require_steps : FunD K "require_steps" "require_steps" (defArgs s_require_steps) (defBody s_require_steps) (defScope s_require_steps) [] [] (He.ga K "require_steps") k_require_steps
  g_require_steps : mg "require_steps" = some (.ref (He.ga K "require_steps"))
  k_free_steps : FuncData
  d_free_steps : FunD K "free_steps" "free_steps" (defArgs s_free_steps) (defBody s_free_steps) (defScope s_free_steps) [] [] (He.ga K "free_steps") k_free_steps
  g_free_steps : mg "free_steps" = some (.ref (He.ga K "free_steps"))
  k_without : FuncData
  d_without : FunD K "without" "without" (defArgs s_without) (defBody s_without) (defScope s_without) [] [] (He.ga K "without") k_without
  g_without : mg "without" = some (.ref (He.ga K "without"))
  k_removal : FuncData
  d_removal : FunD K "removal" "removal" (defArgs s_removal) (defBody s_removal) (defScope s_removal) [] [] (He.ga K "removal") k_removal
  g_removal : mg "removal" = some (.ref (He.ga K "removal"))
  k_undo_order : FuncData
  d_undo_order : FunD K "undo_order" "undo_order" (defArgs s_undo_order) (defBody s_undo_order) (defScope s_undo_order) [] [("kept", V.ref (kwA "undo_order" "kept" K))] (He.ga K "undo_order") k_undo_order
  g_undo_order : mg "undo_order" = some (.ref (He.ga K "undo_order"))
  k__law_agrees : FuncData
  d__law_agrees : FunD K "_law_agrees" "_law_agrees" (defArgs s__law_agrees) (defBody s__law_agrees) (defScope s__law_agrees) [] [] (He.ga K "_law_agrees") k__law_agrees
  g__law_agrees : mg "_law_agrees" = some (.ref (He.ga K "_law_agrees"))
  k__law_all : FuncData
  d__law_all : FunD K "_law_all" "_law_all" (defArgs s__law_all) (defBody s__law_all) (defScope s__law_all) [] [] (He.ga K "_law_all") k__law_all
  g__law_all : mg "_law_all" = some (.ref (He.ga K "_law_all"))
  k__law_eight_steps : FuncData
  d__law_eight_steps : FunD K "_law_eight_steps" "_law_eight_steps" (defArgs s__law_eight_steps) (defBody s__law_eight_steps) (defScope s__law_eight_steps) [] [] (He.ga K "_law_eight_steps") k__law_eight_steps
  g__law_eight_steps : mg "_law_eight_steps" = some (.ref (He.ga K "_law_eight_steps"))
  k__law_feed : FuncData
  d__law_feed : FunD K "_law_feed" "_law_feed" (defArgs s__law_feed) (defBody s__law_feed) (defScope s__law_feed) [] [] (He.ga K "_law_feed") k__law_feed
  g__law_feed : mg "_law_feed" = some (.ref (He.ga K "_law_feed"))
  k__law_draw : FuncData
  d__law_draw : FunD K "_law_draw" "_law_draw" (defArgs s__law_draw) (defBody s__law_draw) (defScope s__law_draw) [] [] (He.ga K "_law_draw") k__law_draw
  g__law_draw : mg "_law_draw" = some (.ref (He.ga K "_law_draw"))
  k__law_abilities : FuncData
  d__law_abilities : FunD K "_law_abilities" "_law_abilities" (defArgs s__law_abilities) (defBody s__law_abilities) (defScope s__law_abilities) [] [] (He.ga K "_law_abilities") k__law_abilities
  g__law_abilities : mg "_law_abilities" = some (.ref (He.ga K "_law_abilities"))
  k__law_names : FuncData
  d__law_names : FunD K "_law_names" "_law_names" (defArgs s__law_names) (defBody s__law_names) (defScope s__law_names) [] [] (He.ga K "_law_names") k__law_names
  g__law_names : mg "_law_names" = some (.ref (He.ga K "_law_names"))
  k__law_job : FuncData
  d__law_job : FunD K "_law_job" "_law_job" (defArgs s__law_job) (defBody s__law_job) (defScope s__law_job) [] [] (He.ga K "_law_job") k__law_job
  g__law_job : mg "_law_job" = some (.ref (He.ga K "_law_job"))
  k__law_subset : FuncData
  d__law_subset : FunD K "_law_subset" "_law_subset" (defArgs s__law_subset) (defBody s__law_subset) (defScope s__law_subset) [] [] (He.ga K "_law_subset") k__law_subset
  g__law_subset : mg "_law_subset" = some (.ref (He.ga K "_law_subset"))
  k_law : FuncData
  d_law : FunD K "law" "law" (defArgs s_law) (defBody s_law) (defScope s_law) [] [] (He.ga K "law") k_law
  g_law : mg "law" = some (.ref (He.ga K "law"))
  n_int : mg "int" = none
  n_len : mg "len" = none
  n_list : mg "list" = none
  n_min : mg "min" = none
  n_range : mg "range" = none
  n_repr : mg "repr" = none
  n_sorted : mg "sorted" = none
  n_tuple : mg "tuple" = none
  t_undo_order_kept : isB K (.tup []) (.ref (kwA "undo_order" "kept" K)) = true
def hd : List He.DefD := [⟨("_law_row", none), "_law_row", "_law_row", defArgs s__law_row, defBody s__law_row, defScope s__law_row, [], []⟩, ⟨("_law_reasons", none), "_law_reasons", "_law_reasons", defArgs s__law_reasons, defBody s__law_reasons, defScope s__law_reasons, [], []⟩, ⟨("_law_core", none), "_law_core", "_law_core", defArgs s__law_core, defBody s__law_core, defScope s__law_core, [], []⟩, ⟨("_law_free", none), "_law_free", "_law_free", defArgs s__law_free, defBody s__law_free, defScope s__law_free, [], []⟩, ⟨("_law_orders", none), "_law_orders", "_law_orders", defArgs s__law_orders, defBody s__law_orders, defScope s__law_orders, [], []⟩, ⟨("_law_least_order", none), "_law_least_order", "_law_least_order", defArgs s__law_least_order, defBody s__law_least_order, defScope s__law_least_order, [], []⟩, ⟨("rows_by_step", none), "rows_by_step", "rows_by_step", defArgs s_rows_by_step, defBody s_rows_by_step, defScope s_rows_by_step, [], []⟩, ⟨("reasons_in", none), "reasons_in", "reasons_in", defArgs s_reasons_in, defBody s_reasons_in, defScope s_reasons_in, [], []⟩, ⟨("require_steps", none), "require_steps", "require_steps", defArgs s_require_steps, defBody s_require_steps, defScope s_require_steps, [], []⟩, ⟨("free_steps", none), "free_steps", "free_steps", defArgs s_free_steps, defBody s_free_steps, defScope s_free_steps, [], []⟩, ⟨("without", none), "without", "without", defArgs s_without, defBody s_without, defScope s_without, [], []⟩, ⟨("removal", none), "removal", "removal", defArgs s_removal, defBody s_removal, defScope s_removal, [], []⟩, ⟨("undo_order", none), "undo_order", "undo_order", defArgs s_undo_order, defBody s_undo_order, defScope s_undo_order, [], [("kept", .adr (kwA "undo_order" "kept"))]⟩, ⟨("_law_agrees", none), "_law_agrees", "_law_agrees", defArgs s__law_agrees, defBody s__law_agrees, defScope s__law_agrees, [], []⟩, ⟨("_law_all", none), "_law_all", "_law_all", defArgs s__law_all, defBody s__law_all, defScope s__law_all, [], []⟩, ⟨("_law_eight_steps", none), "_law_eight_steps", "_law_eight_steps", defArgs s__law_eight_steps, defBody s__law_eight_steps, defScope s__law_eight_steps, [], []⟩, ⟨("_law_feed", none), "_law_feed", "_law_feed", defArgs s__law_feed, defBody s__law_feed, defScope s__law_feed, [], []⟩, ⟨("_law_draw", none), "_law_draw", "_law_draw", defArgs s__law_draw, defBody s__law_draw, defScope s__law_draw, [], []⟩, ⟨("_law_abilities", none), "_law_abilities", "_law_abilities", defArgs s__law_abilities, defBody s__law_abilities, defScope s__law_abilities, [], []⟩, ⟨("_law_names", none), "_law_names", "_law_names", defArgs s__law_names, defBody s__law_names, defScope s__law_names, [], []⟩, ⟨("_law_job", none), "_law_job", "_law_job", defArgs s__law_job, defBody s__law_job, defScope s__law_job, [], []⟩, ⟨("_law_subset", none), "_law_subset", "_law_subset", defArgs s__law_subset, defBody s__law_subset, defScope s__law_subset, [], []⟩, ⟨("law", none), "law", "law", defArgs s_law, defBody s_law, defScope s_law, [], []⟩]
def hf : List He.Fa := [.glo "_law_row", .glo "_law_reasons", .glo "_law_core", .glo "_law_free", .glo "_law_orders", .glo "_law_least_order", .glo "rows_by_step", .glo "reasons_in", .glo "require_steps", .glo "free_steps", .glo "without", .glo "removal", .glo "undo_order", .glo "_law_agrees", .glo "_law_all", .glo "_law_eight_steps", .glo "_law_feed", .glo "_law_draw", .glo "_law_abilities", .glo "_law_names", .glo "_law_job", .glo "_law_subset", .glo "law", .free "int", .free "len", .free "list", .free "min", .free "range", .free "repr", .free "sorted", .free "tuple"]
def hc : List CsT := [(fun K => .ref (kwA "undo_order" "kept" K), (.tup []))]
theorem sc__law_row : FnScope N__law_row ["_law_job_here", "_law_one"] (defScope s__law_row) := ⟨rfl, rfl, rfl, by decide +kernel, rfl, by decide +kernel, by decide +kernel⟩
theorem sc__law_reasons : FnScope N__law_reasons ["_law_job_here", "_law_members", "_law_one"] (defScope s__law_reasons) := ⟨rfl, rfl, rfl, by decide +kernel, rfl, by decide +kernel, by decide +kernel⟩
theorem sc__law_core : FnScope N__law_core ["_law_job_here", "_law_members", "_law_fixed"] (defScope s__law_core) := ⟨rfl, rfl, rfl, by decide +kernel, rfl, by decide +kernel, by decide +kernel⟩
theorem sc__law_free : FnScope N__law_free ["_law_job_here", "_law_left", "_law_fixed"] (defScope s__law_free) := ⟨rfl, rfl, rfl, by decide +kernel, rfl, by decide +kernel, by decide +kernel⟩
theorem sc__law_orders : FnScope N__law_orders ["_law_job_here", "_law_left", "_law_fixed"] (defScope s__law_orders) := ⟨rfl, rfl, rfl, by decide +kernel, rfl, by decide +kernel, by decide +kernel⟩
theorem sc__law_least_order : FnScope N__law_least_order ["_law_job_here", "_law_members", "_law_fixed"] (defScope s__law_least_order) := ⟨rfl, rfl, rfl, by decide +kernel, rfl, by decide +kernel, by decide +kernel⟩
theorem sc_rows_by_step : FnScope N_rows_by_step ["work"] (defScope s_rows_by_step) := ⟨rfl, rfl, rfl, by decide +kernel, rfl, by decide +kernel, by decide +kernel⟩
theorem sc_reasons_in : FnScope N_reasons_in ["work", "steps", "name"] (defScope s_reasons_in) := ⟨rfl, rfl, rfl, by decide +kernel, rfl, by decide +kernel, by decide +kernel⟩
theorem sc_require_steps : FnScope N_require_steps ["work", "steps"] (defScope s_require_steps) := ⟨rfl, rfl, rfl, by decide +kernel, rfl, by decide +kernel, by decide +kernel⟩
theorem sc_free_steps : FnScope N_free_steps ["work", "steps"] (defScope s_free_steps) := ⟨rfl, rfl, rfl, by decide +kernel, rfl, by decide +kernel, by decide +kernel⟩
theorem sc_without : FnScope N_without ["steps", "name"] (defScope s_without) := ⟨rfl, rfl, rfl, by decide +kernel, rfl, by decide +kernel, by decide +kernel⟩
theorem sc_removal : FnScope N_removal ["work", "steps", "kept"] (defScope s_removal) := ⟨rfl, rfl, rfl, by decide +kernel, rfl, by decide +kernel, by decide +kernel⟩
theorem sc_undo_order : FnScope N_undo_order ["work", "steps", "kept"] (defScope s_undo_order) := ⟨rfl, rfl, rfl, by decide +kernel, rfl, by decide +kernel, by decide +kernel⟩
theorem sc__law_agrees : FnScope N__law_agrees ["_law_job_here", "_law_members", "_law_fixed"] (defScope s__law_agrees) := ⟨rfl, rfl, rfl, by decide +kernel, rfl, by decide +kernel, by decide +kernel⟩
theorem sc__law_all : FnScope N__law_all ["_law_job_here"] (defScope s__law_all) := ⟨rfl, rfl, rfl, by decide +kernel, rfl, by decide +kernel, by decide +kernel⟩
theorem sc__law_eight_steps : FnScope N__law_eight_steps ["_law_is_chain"] (defScope s__law_eight_steps) := ⟨rfl, rfl, rfl, by decide +kernel, rfl, by decide +kernel, by decide +kernel⟩
theorem sc__law_feed : FnScope N__law_feed ["_law_script"] (defScope s__law_feed) := ⟨rfl, rfl, rfl, by decide +kernel, rfl, by decide +kernel, by decide +kernel⟩
theorem sc__law_draw : FnScope N__law_draw ["_law_feed_here", "_law_many"] (defScope s__law_draw) := ⟨rfl, rfl, rfl, by decide +kernel, rfl, by decide +kernel, by decide +kernel⟩
theorem sc__law_abilities : FnScope N__law_abilities ["_law_feed_here"] (defScope s__law_abilities) := ⟨rfl, rfl, rfl, by decide +kernel, rfl, by decide +kernel, by decide +kernel⟩
theorem sc__law_names : FnScope N__law_names ["_law_feed_here", "_law_most"] (defScope s__law_names) := ⟨rfl, rfl, rfl, by decide +kernel, rfl, by decide +kernel, by decide +kernel⟩
theorem sc__law_job : FnScope N__law_job ["_law_feed_here", "_law_most"] (defScope s__law_job) := ⟨rfl, rfl, rfl, by decide +kernel, rfl, by decide +kernel, by decide +kernel⟩
theorem sc__law_subset : FnScope N__law_subset ["_law_feed_here", "_law_some"] (defScope s__law_subset) := ⟨rfl, rfl, rfl, by decide +kernel, rfl, by decide +kernel, by decide +kernel⟩
theorem sc_law : FnScope N_law ["_law_script"] (defScope s_law) := ⟨rfl, rfl, rfl, by decide +kernel, rfl, by decide +kernel, by decide +kernel⟩
section
variable {P : Program} {w : World} {K : PySem.W.Frag} {mg : Str → Option Value} {base : Heap}
theorem b__law_feed_1 (C : Cf K mg) : Binds K C.k__law_feed ["_law_script"] [] := C.d__law_feed.bindsN fun _ _ _ _ _ _ us hl => match us, hl with | [_], _ => rfl
theorem b__law_eight_steps_1 (C : Cf K mg) : Binds K C.k__law_eight_steps ["_law_is_chain"] [] := C.d__law_eight_steps.bindsN fun _ _ _ _ _ _ us hl => match us, hl with | [_], _ => rfl
theorem b__law_all_1 (C : Cf K mg) : Binds K C.k__law_all ["_law_job_here"] [] := C.d__law_all.bindsN fun _ _ _ _ _ _ us hl => match us, hl with | [_], _ => rfl
theorem b__law_agrees_3 (C : Cf K mg) : Binds K C.k__law_agrees ["_law_job_here", "_law_members", "_law_fixed"] [] := C.d__law_agrees.bindsN fun _ _ _ _ _ _ us hl => match us, hl with | [_, _, _], _ => rfl
theorem b__law_job_2 (C : Cf K mg) : Binds K C.k__law_job ["_law_feed_here", "_law_most"] [] := C.d__law_job.bindsN fun _ _ _ _ _ _ us hl => match us, hl with | [_, _], _ => rfl
theorem b__law_subset_2 (C : Cf K mg) : Binds K C.k__law_subset ["_law_feed_here", "_law_some"] [] := C.d__law_subset.bindsN fun _ _ _ _ _ _ us hl => match us, hl with | [_, _], _ => rfl
theorem b__law_least_order_3 (C : Cf K mg) : Binds K C.k__law_least_order ["_law_job_here", "_law_members", "_law_fixed"] [] := C.d__law_least_order.bindsN fun _ _ _ _ _ _ us hl => match us, hl with | [_, _, _], _ => rfl
theorem b_undo_order_0_kept_steps_work (C : Cf K mg) : ∃ gv, KBn K C.k_undo_order ["work", "steps", "kept"] 0 ["kept", "steps", "work"] gv (fun vs zs => pick [2, 1, 0] (vs ++ ([] ++ zs))) := by
  obtain ⟨mv, h⟩ := kbK (ps := ["work", "steps", "kept"]) C.d_undo_order 0 ["kept", "steps", "work"] [] [2, 1, 0] (by simp) (by simp) fun _ _ _ _ _ _ us mv ws l1 l2 l3 => match us, mv, ws, l1, l2, l3 with | [], [], [_, _, _], _, _, _ => rfl
  exact ⟨_, h⟩
theorem b_undo_order_2_kept (C : Cf K mg) : ∃ gv, KBn K C.k_undo_order ["work", "steps", "kept"] 2 ["kept"] gv (fun vs zs => pick [0, 1, 2] (vs ++ ([] ++ zs))) := by
  obtain ⟨mv, h⟩ := kbK (ps := ["work", "steps", "kept"]) C.d_undo_order 2 ["kept"] [] [0, 1, 2] (by simp) (by simp) fun _ _ _ _ _ _ us mv ws l1 l2 l3 => match us, mv, ws, l1, l2, l3 with | [_, _], [], [_], _, _, _ => rfl
  exact ⟨_, h⟩
theorem b_undo_order_2 (C : Cf K mg) : ∃ ds, Vals [V.ref (kwA "undo_order" "kept" K)] ds ∧ Binds K C.k_undo_order ["work", "steps", "kept"] ds := C.d_undo_order.binds0 2 (by simp) rfl fun _ _ _ _ _ _ us ks l1 l2 => match us, ks, l1, l2 with | [_, _], [_], _, _ => ⟨_, _, _, _, _, _, rfl, rfl, rfl⟩
theorem b__law_core_3 (C : Cf K mg) : Binds K C.k__law_core ["_law_job_here", "_law_members", "_law_fixed"] [] := C.d__law_core.bindsN fun _ _ _ _ _ _ us hl => match us, hl with | [_, _, _], _ => rfl
theorem b__law_orders_3 (C : Cf K mg) : Binds K C.k__law_orders ["_law_job_here", "_law_left", "_law_fixed"] [] := C.d__law_orders.bindsN fun _ _ _ _ _ _ us hl => match us, hl with | [_, _, _], _ => rfl
theorem b__law_free_3 (C : Cf K mg) : Binds K C.k__law_free ["_law_job_here", "_law_left", "_law_fixed"] [] := C.d__law_free.bindsN fun _ _ _ _ _ _ us hl => match us, hl with | [_, _, _], _ => rfl
theorem b__law_reasons_3 (C : Cf K mg) : Binds K C.k__law_reasons ["_law_job_here", "_law_members", "_law_one"] [] := C.d__law_reasons.bindsN fun _ _ _ _ _ _ us hl => match us, hl with | [_, _, _], _ => rfl
theorem b__law_row_2 (C : Cf K mg) : Binds K C.k__law_row ["_law_job_here", "_law_one"] [] := C.d__law_row.bindsN fun _ _ _ _ _ _ us hl => match us, hl with | [_, _], _ => rfl
theorem b_require_steps_2 (C : Cf K mg) : Binds K C.k_require_steps ["work", "steps"] [] := C.d_require_steps.bindsN fun _ _ _ _ _ _ us hl => match us, hl with | [_, _], _ => rfl
theorem b_removal_3 (C : Cf K mg) : Binds K C.k_removal ["work", "steps", "kept"] [] := C.d_removal.bindsN fun _ _ _ _ _ _ us hl => match us, hl with | [_, _, _], _ => rfl
theorem b_free_steps_2 (C : Cf K mg) : Binds K C.k_free_steps ["work", "steps"] [] := C.d_free_steps.bindsN fun _ _ _ _ _ _ us hl => match us, hl with | [_, _], _ => rfl
theorem b_without_2 (C : Cf K mg) : Binds K C.k_without ["steps", "name"] [] := C.d_without.bindsN fun _ _ _ _ _ _ us hl => match us, hl with | [_, _], _ => rfl
theorem b_reasons_in_3 (C : Cf K mg) : Binds K C.k_reasons_in ["work", "steps", "name"] [] := C.d_reasons_in.bindsN fun _ _ _ _ _ _ us hl => match us, hl with | [_, _, _], _ => rfl
theorem b_rows_by_step_1 (C : Cf K mg) : Binds K C.k_rows_by_step ["work"] [] := C.d_rows_by_step.bindsN fun _ _ _ _ _ _ us hl => match us, hl with | [_], _ => rfl
theorem b__law_names_2 (C : Cf K mg) : Binds K C.k__law_names ["_law_feed_here", "_law_most"] [] := C.d__law_names.bindsN fun _ _ _ _ _ _ us hl => match us, hl with | [_, _], _ => rfl
theorem b__law_draw_2 (C : Cf K mg) : Binds K C.k__law_draw ["_law_feed_here", "_law_many"] [] := C.d__law_draw.bindsN fun _ _ _ _ _ _ us hl => match us, hl with | [_, _], _ => rfl
theorem b__law_abilities_1 (C : Cf K mg) : Binds K C.k__law_abilities ["_law_feed_here"] [] := C.d__law_abilities.bindsN fun _ _ _ _ _ _ us hl => match us, hl with | [_], _ => rfl
theorem ok__law_row (C : Cf K mg) : FnG P w K mg base 1 (He.ga K "_law_row") C.k__law_row ["_law_job_here", "_law_one"] FB.F__law_row :=
 fn_D (k := 0) (N := N__law_row) C.d__law_row sc__law_row fun cdv A outer s H hr hX hp =>
 (s_one (s_ret (d_ix hX (d_lc hX [(("_law_row_here" : Str), 2)] (i_val (d_var (pv 0))) blk_ok (fun s H Cc cl fp => (w_nm (i := 2) hX.nd rfl (by first | exact .inl rfl | exact .inr rfl) (by decide) (by first | exact .inl rfl | exact .inr rfl))) (fun s H Cc cl fp => (t_one (t_eq (hX.blk _ _ _ _ _) (d_ix (hX.blk _ _ _ _ _) (d_var (pv 2)) d_int) (d_var (pv 1))))) (fun s H Cc cl fp => (d_var (pv 2)))) d_int)))
theorem ok__law_reasons (C : Cf K mg) : FnG P w K mg base 2 (He.ga K "_law_reasons") C.k__law_reasons ["_law_job_here", "_law_members", "_law_one"] FB.F__law_reasons :=
 fn_D (k := 1) (N := N__law_reasons) C.d__law_reasons sc__law_reasons fun cdv A outer s H hr hX hp =>
 (s_cons (s_asg (d_call (ok__law_row C) (hr.mono (by decide)) hX C.g__law_row C.d__law_row.kp (b__law_row_2 C) DvIs.nil (d_cons (d_var (pv 0)) (d_cons (d_var (pv 2)) d_nil)) rfl (len_cons (n := 1) (len_cons (n := 0) (fun _ _ _ _ h => len_nil h)))) (g_tp hX (g_cn (g_nm (i := 3) hX) (g_cn (g_nm (i := 4) hX) (g_cn (g_nm (i := 5) hX) (g_cn (g_nm (i := 6) hX) g_nl))))))
 (s_cons (s_setLc (i := 7) hX [(("_law_row_here" : Str), 8)] rfl (i_val (d_var (pv 0))) blk_ok (fun s H Cc cl fp => (w_nm (i := 8) hX.nd rfl (by first | exact .inl rfl | exact .inr rfl) (by decide) (by first | exact .inl rfl | exact .inr rfl))) (fun s H Cc cl fp => (t_one (d_pt (w_and (t_in (hX.blk _ _ _ _ _) (d_var (pv 2)) (d_ix (hX.blk _ _ _ _ _) (d_var (pv 8)) d_int)) (w_and1 (t_in (hX.blk _ _ _ _ _) (d_ix (hX.blk _ _ _ _ _) (d_var (pv 8)) d_int) (d_var (pv 1)))))))) (fun s H Cc cl fp => (d_tup (d_cons d_str (d_cons (d_ix (hX.blk _ _ _ _ _) (d_var (pv 8)) d_int) d_nil)))))
 (s_cons (s_asg (d_add (d_var (pv 7)) (d_lc hX [(("_law_other" : Str), 9)] (i_val (d_var (pv 5))) blk_ok (fun s H Cc cl fp => (w_nm (i := 9) hX.nd rfl (by first | exact .inl rfl | exact .inr rfl) (by decide) (by first | exact .inl rfl | exact .inr rfl))) (fun s H Cc cl fp => (t_one (t_in (hX.blk _ _ _ _ _) (d_var (pv 9)) (d_var (pv 1))))) (fun s H Cc cl fp => (d_tup (d_cons d_str (d_cons (d_var (pv 9)) d_nil)))))) (g_nm (i := 7) hX))
 (s_one (s_ret (d_cb (cr_sortD hX) on_sorted C.n_sorted bb_sorted (d_cons (d_add (d_var (pv 7)) (d_mul (d_lst (d_cons (d_tup (d_cons d_str d_nil)) d_nil)) (d_ct call_int1 on_int C.n_int bb_int (d_cons (d_notIn hX d_str (d_var (pv 6))) d_nil)))) d_nil)))))))
theorem ok__law_core (C : Cf K mg) : FnG P w K mg base 3 (He.ga K "_law_core") C.k__law_core ["_law_job_here", "_law_members", "_law_fixed"] FN.F__law_core :=
 fn_D (k := 2) (N := N__law_core) C.d__law_core sc__law_core fun cdv A outer s H hr hX hp =>
 (s_cons (s_asg (d_ct call_list_of on_list C.n_list bb_list (d_cons (d_var (pv 1)) d_nil)) (g_nm (i := 3) hX))
 (s_cons (s_for hX hp (b := FN.L__law_core_0) (i_rng1 C.n_range (d_cons (d_cb cr_len on_len C.n_len bb_len (d_cons (d_var (pv 1)) d_nil)) d_nil)) (g_nm (i := 4) hX)
  (s_one (s_asg (d_lc hX [(("_law_one" : Str), 5)] (i_val (d_var (pv 3))) blk_ok (fun s H Cc cl fp => (w_nm (i := 5) hX.nd rfl (by first | exact .inl rfl | exact .inr rfl) (by decide) (by first | exact .inl rfl | exact .inr rfl))) (fun s H Cc cl fp => (t_one (d_pt (w_or (t_in (hX.blk _ _ _ _ _) (d_var (pv 5)) (d_var (pv 2))) (w_or1 (t_ne (hX.blk _ _ _ _ _) (d_call (ok__law_reasons C) (hr.mono (by decide)) (hX.blk _ _ _ _ _) C.g__law_reasons C.d__law_reasons.kp (b__law_reasons_3 C) DvIs.nil (d_cons (d_var (pv 0)) (d_cons (d_var (pv 3)) (d_cons (d_var (pv 5)) d_nil))) rfl (len_cons (n := 2) (len_cons (n := 1) (len_cons (n := 0) (fun _ _ _ _ h => len_nil h))))) (d_lst d_nil))))))) (fun s H Cc cl fp => (d_var (pv 5)))) (g_nm (i := 3) hX))))
 (s_one (s_ret (d_ct call_tuple_of on_tuple C.n_tuple bb_tuple (d_cons (d_var (pv 3)) d_nil))))))
theorem ok__law_free (C : Cf K mg) : FnG P w K mg base 3 (He.ga K "_law_free") C.k__law_free ["_law_job_here", "_law_left", "_law_fixed"] F__law_free :=
 fn_D (k := 2) (N := N__law_free) C.d__law_free sc__law_free fun cdv A outer s H hr hX hp =>
 (s_one (s_ret (d_lc hX [(("_law_one" : Str), 3)] (i_val (d_var (pv 1))) blk_ok (fun s H Cc cl fp => (w_nm (i := 3) hX.nd rfl (by first | exact .inl rfl | exact .inr rfl) (by decide) (by first | exact .inl rfl | exact .inr rfl))) (fun s H Cc cl fp => (t_one (d_pt (w_and (t_notIn (hX.blk _ _ _ _ _) (d_var (pv 3)) (d_var (pv 2))) (w_and1 (t_eq (hX.blk _ _ _ _ _) (d_call (ok__law_reasons C) (hr.mono (by decide)) (hX.blk _ _ _ _ _) C.g__law_reasons C.d__law_reasons.kp (b__law_reasons_3 C) DvIs.nil (d_cons (d_var (pv 0)) (d_cons (d_var (pv 1)) (d_cons (d_var (pv 3)) d_nil))) rfl (len_cons (n := 2) (len_cons (n := 1) (len_cons (n := 0) (fun _ _ _ _ h => len_nil h))))) (d_lst d_nil))))))) (fun s H Cc cl fp => (d_var (pv 3))))))
theorem okr__law_orders (C : Cf K mg) : ∀ n, FnG P w K mg base (3 + n) (He.ga K "_law_orders") C.k__law_orders ["_law_job_here", "_law_left", "_law_fixed"] (F__law_orders n)
  | 0 => ⟨fun A outer s H args us vs Q hr hgd e0 hb r hsp => by obtain ⟨m, S0, ds, d, S1, R, iD, hl, hF, q⟩ := hsp; cases hF⟩
  | n + 1 => fn_D (k := 3 + n) (N := N__law_orders) C.d__law_orders sc__law_orders fun cdv A outer s H hr hX hp =>
 (s_cons (s_par (i := 3) (j := 4) hX (d_cons (d_call (ok__law_free C) (hr.mono (by omega)) hX C.g__law_free C.d__law_free.kp (b__law_free_3 C) DvIs.nil (d_cons (d_var (pv 0)) (d_cons (d_var (pv 1)) (d_cons (d_var (pv 2)) d_nil))) rfl (len_cons (n := 2) (len_cons (n := 1) (len_cons (n := 0) (fun _ _ _ _ h => len_nil h))))) (d_cons (d_lstB d_nil) d_nil)))
 (s_cons (s_for hX hp (b := L__law_orders_0 (F__law_orders n)) (i_val (d_var (pv 3))) (g_nm (i := 5) hX)
  (s_cons (s_setLc (i := 6) hX [(("_law_other" : Str), 7)] rfl (i_val (d_var (pv 1))) blk_ok (fun s H Cc cl fp => (w_nm (i := 7) hX.nd rfl (by first | exact .inl rfl | exact .inr rfl) (by decide) (by first | exact .inl rfl | exact .inr rfl))) (fun s H Cc cl fp => (t_one (t_ne (hX.blk _ _ _ _ _) (d_var (pv 7)) (d_var (pv 5))))) (fun s H Cc cl fp => (d_var (pv 7))))
  (s_one (s_drop (d_extend (d_var (pv 4)) (d_cons (d_lc hX [(("_law_order_now" : Str), 8)] (i_val (d_call (okr__law_orders C n) (hr.mono (Nat.le_refl _)) hX C.g__law_orders C.d__law_orders.kp ((b__law_orders_3 C)) DvIs.nil (d_cons (d_var (pv 0)) (d_cons (d_var (pv 6)) (d_cons (d_var (pv 2)) d_nil))) rfl (len_cons (n := 2) (len_cons (n := 1) (len_cons (n := 0) (fun _ _ _ _ h => len_nil h)))))) blk_ok (fun s H Cc cl fp => (w_nm (i := 8) hX.nd rfl (by first | exact .inl rfl | exact .inr rfl) (by decide) (by first | exact .inl rfl | exact .inr rfl))) (fun s H Cc cl fp => t_yes) (fun s H Cc cl fp => (d_add (d_tup (d_cons (d_var (pv 5)) d_nil)) (d_var (pv 8))))) d_nil))))))
 (s_one (s_ret (d_ite (t_ne hX (d_var (pv 3)) (d_lst d_nil)) (d_var (pv 4)) (d_lst (d_cons (d_tup d_nil) d_nil)))))))
theorem ok__law_orders (C : Cf K mg) : FnG P w K mg base 11 (He.ga K "_law_orders") C.k__law_orders ["_law_job_here", "_law_left", "_law_fixed"] (F__law_orders 8) := okr__law_orders C 8
theorem ok__law_least_order (C : Cf K mg) : FnG P w K mg base 12 (He.ga K "_law_least_order") C.k__law_least_order ["_law_job_here", "_law_members", "_law_fixed"] F__law_least_order :=
 fn_D (k := 11) (N := N__law_least_order) C.d__law_least_order sc__law_least_order fun cdv A outer s H hr hX hp =>
 (s_cons (s_par (i := 3) (j := 4) hX (d_cons (d_ctB call_list_of ol_list C.n_list bb_list (d_cons (d_var (pv 1)) d_nil)) (d_cons (d_lstB d_nil) d_nil)))
 (s_cons (s_if (t_le (d_sub (d_cb cr_len on_len C.n_len bb_len (d_cons (d_var (pv 1)) d_nil)) (d_cb cr_len on_len C.n_len bb_len (d_cons (d_call (ok__law_core C) (hr.mono (by decide)) hX C.g__law_core C.d__law_core.kp (b__law_core_3 C) DvIs.nil (d_cons (d_var (pv 0)) (d_cons (d_var (pv 1)) (d_cons (d_var (pv 2)) d_nil))) rfl (len_cons (n := 2) (len_cons (n := 1) (len_cons (n := 0) (fun _ _ _ _ h => len_nil h))))) d_nil))) d_int)
  (s_one (s_ret (d_cb (MN.cr_min1 hX.calm hX) MN.on_min1 C.n_min bb_min (d_cons (d_call (ok__law_orders C) (hr.mono (by decide)) hX C.g__law_orders C.d__law_orders.kp (b__law_orders_3 C) DvIs.nil (d_cons (d_var (pv 0)) (d_cons (d_var (pv 3)) (d_cons (d_var (pv 2)) d_nil))) rfl (len_cons (n := 2) (len_cons (n := 1) (len_cons (n := 0) (fun _ _ _ _ h => len_nil h))))) d_nil))))
  s_nil)
 (s_cons (s_while hp (b := L__law_least_order_0) (t_ne hX (d_call (ok__law_free C) (hr.mono (by decide)) hX C.g__law_free C.d__law_free.kp (b__law_free_3 C) DvIs.nil (d_cons (d_var (pv 0)) (d_cons (d_var (pv 3)) (d_cons (d_var (pv 2)) d_nil))) rfl (len_cons (n := 2) (len_cons (n := 1) (len_cons (n := 0) (fun _ _ _ _ h => len_nil h))))) (d_lst d_nil))
  (s_cons (s_drop (d_append (d_var (pv 4)) (d_cons (d_cb (MN.cr_min1 hX.calm hX) MN.on_min1 C.n_min bb_min (d_cons (d_call (ok__law_free C) (hr.mono (by decide)) hX C.g__law_free C.d__law_free.kp (b__law_free_3 C) DvIs.nil (d_cons (d_var (pv 0)) (d_cons (d_var (pv 3)) (d_cons (d_var (pv 2)) d_nil))) rfl (len_cons (n := 2) (len_cons (n := 1) (len_cons (n := 0) (fun _ _ _ _ h => len_nil h))))) d_nil)) d_nil)))
  (s_one (s_drop (RM.d_remove (d_var (pv 3)) (d_cons (d_ix hX (d_var (pv 4)) (d_neg d_int)) d_nil))))))
 (s_one (s_ret (d_ct call_tuple_of on_tuple C.n_tuple bb_tuple (d_cons (d_var (pv 4)) d_nil)))))))
theorem ok_rows_by_step (C : Cf K mg) : FnG P w K mg base 1 (He.ga K "rows_by_step") C.k_rows_by_step ["work"] GA.F_rows_by_step :=
 fn_D (k := 0) (N := N_rows_by_step) C.d_rows_by_step sc_rows_by_step fun cdv A outer s H hr hX hp =>
 (s_one (s_ret (d_dc hX [(("row" : Str), 1)] (i_val (d_var (pv 0))) blk_ok (fun s H Cc cl fp => (w_nm (i := 1) hX.nd rfl (by first | exact .inl rfl | exact .inr rfl) (by decide) (by first | exact .inl rfl | exact .inr rfl))) (fun s H Cc cl fp => t_yes) (fun s H Cc cl fp => (d_ix (hX.blk _ _ _ _ _) (d_var (pv 1)) d_int)) (fun s H Cc cl fp => (d_var (pv 1))))))
theorem ok_reasons_in (C : Cf K mg) : FnG P w K mg base 2 (He.ga K "reasons_in") C.k_reasons_in ["work", "steps", "name"] GA.F_reasons_in :=
 fn_D (k := 1) (N := N_reasons_in) C.d_reasons_in sc_reasons_in fun cdv A outer s H hr hX hp =>
 (s_cons (s_asg (d_call (ok_rows_by_step C) (hr.mono (by decide)) hX C.g_rows_by_step C.d_rows_by_step.kp (b_rows_by_step_1 C) DvIs.nil (d_cons (d_var (pv 0)) d_nil) rfl (len_cons (n := 0) (fun _ _ _ _ h => len_nil h))) (g_nm (i := 3) hX))
 (s_cons (s_asg (d_ix hX (d_var (pv 3)) (d_var (pv 2))) (g_tp hX (g_cn (g_nm (i := 4) hX) (g_cn (g_nm (i := 5) hX) (g_cn (g_nm (i := 6) hX) (g_cn (g_nm (i := 7) hX) g_nl))))))
 (s_cons (s_asg (d_ite (t_in hX d_str (d_var (pv 7))) (d_lstB d_nil) (d_lstB (d_cons (d_tup (d_cons d_str d_nil)) d_nil))) (g_nm (i := 8) hX))
 (s_cons (s_drop (d_extend (d_var (pv 8)) (d_cons (d_lc hX [(("other" : Str), 9)] (i_val (d_var (pv 1))) blk_ok (fun s H Cc cl fp => (w_nm (i := 9) hX.nd rfl (by first | exact .inl rfl | exact .inr rfl) (by decide) (by first | exact .inl rfl | exact .inr rfl))) (fun s H Cc cl fp => (t_one (t_in (hX.blk _ _ _ _ _) (d_var (pv 2)) (d_ix (hX.blk _ _ _ _ _) (d_ix (hX.blk _ _ _ _ _) (d_var (pv 3)) (d_var (pv 9))) d_int)))) (fun s H Cc cl fp => (d_tup (d_cons d_str (d_cons (d_var (pv 9)) d_nil))))) d_nil)))
 (s_cons (s_drop (d_extend (d_var (pv 8)) (d_cons (d_lc hX [(("other" : Str), 9)] (i_val (d_var (pv 6))) blk_ok (fun s H Cc cl fp => (w_nm (i := 9) hX.nd rfl (by first | exact .inl rfl | exact .inr rfl) (by decide) (by first | exact .inl rfl | exact .inr rfl))) (fun s H Cc cl fp => (t_one (t_in (hX.blk _ _ _ _ _) (d_var (pv 9)) (d_var (pv 1))))) (fun s H Cc cl fp => (d_tup (d_cons d_str (d_cons (d_var (pv 9)) d_nil))))) d_nil)))
 (s_one (s_ret (d_ct call_tuple_of on_tuple C.n_tuple bb_tuple (d_cons (d_cb (cr_sortD hX) on_sorted C.n_sorted bb_sorted (d_cons (d_var (pv 8)) d_nil)) d_nil)))))))))
theorem ok_require_steps (C : Cf K mg) : FnG P w K mg base 2 (He.ga K "require_steps") C.k_require_steps ["work", "steps"] GA.F_require_steps :=
 fn_D (k := 1) (N := N_require_steps) C.d_require_steps sc_require_steps fun cdv A outer s H hr hX hp =>
 (s_cons (s_asg (d_call (ok_rows_by_step C) (hr.mono (by decide)) hX C.g_rows_by_step C.d_rows_by_step.kp (b_rows_by_step_1 C) DvIs.nil (d_cons (d_var (pv 0)) d_nil) rfl (len_cons (n := 0) (fun _ _ _ _ h => len_nil h))) (g_nm (i := 2) hX))
 (s_one (s_for hX hp (b := GA.L_require_steps_0) (i_val (d_var (pv 1))) (g_nm (i := 3) hX)
  (s_one (s_if (t_notIn hX (d_var (pv 3)) (d_var (pv 2)))
   (s_one s_never)
   s_nil)))))
theorem ok_free_steps (C : Cf K mg) : FnG P w K mg base 3 (He.ga K "free_steps") C.k_free_steps ["work", "steps"] GA.F_free_steps :=
 fn_D (k := 2) (N := N_free_steps) C.d_free_steps sc_free_steps fun cdv A outer s H hr hX hp =>
 (s_cons (s_drop (d_call (ok_require_steps C) (hr.mono (by decide)) hX C.g_require_steps C.d_require_steps.kp (b_require_steps_2 C) DvIs.nil (d_cons (d_var (pv 0)) (d_cons (d_var (pv 1)) d_nil)) rfl (len_cons (n := 1) (len_cons (n := 0) (fun _ _ _ _ h => len_nil h)))))
 (s_one (s_ret (d_ct call_tuple_of on_tuple C.n_tuple bb_tuple (d_cons (d_lc hX [(("name" : Str), 2)] (i_val (d_var (pv 1))) blk_ok (fun s H Cc cl fp => (w_nm (i := 2) hX.nd rfl (by first | exact .inl rfl | exact .inr rfl) (by decide) (by first | exact .inl rfl | exact .inr rfl))) (fun s H Cc cl fp => (t_one (t_eq (hX.blk _ _ _ _ _) (d_call (ok_reasons_in C) (hr.mono (by decide)) (hX.blk _ _ _ _ _) C.g_reasons_in C.d_reasons_in.kp (b_reasons_in_3 C) DvIs.nil (d_cons (d_var (pv 0)) (d_cons (d_var (pv 1)) (d_cons (d_var (pv 2)) d_nil))) rfl (len_cons (n := 2) (len_cons (n := 1) (len_cons (n := 0) (fun _ _ _ _ h => len_nil h))))) (d_tup d_nil)))) (fun s H Cc cl fp => (d_var (pv 2)))) d_nil)))))
theorem ok_without (C : Cf K mg) : FnG P w K mg base 1 (He.ga K "without") C.k_without ["steps", "name"] GA.F_without :=
 fn_D (k := 0) (N := N_without) C.d_without sc_without fun cdv A outer s H hr hX hp =>
 (s_one (s_ret (d_ct call_tuple_of on_tuple C.n_tuple bb_tuple (d_cons (d_lc hX [(("own" : Str), 2)] (i_val (d_var (pv 0))) blk_ok (fun s H Cc cl fp => (w_nm (i := 2) hX.nd rfl (by first | exact .inl rfl | exact .inr rfl) (by decide) (by first | exact .inl rfl | exact .inr rfl))) (fun s H Cc cl fp => (t_one (t_ne (hX.blk _ _ _ _ _) (d_var (pv 2)) (d_var (pv 1))))) (fun s H Cc cl fp => (d_var (pv 2)))) d_nil))))
theorem ok_removal (C : Cf K mg) : FnG P w K mg base 4 (He.ga K "removal") C.k_removal ["work", "steps", "kept"] GA.F_removal :=
 fn_D (k := 3) (N := N_removal) C.d_removal sc_removal fun cdv A outer s H hr hX hp =>
 (s_cons (s_par (i := 3) (j := 4) hX (d_cons (d_lstB d_nil) (d_cons (d_var (pv 1)) d_nil)))
 (s_cons (s_setLc (i := 5) hX [(("name" : Str), 6)] rfl (i_val (d_call (ok_free_steps C) (hr.mono (by decide)) hX C.g_free_steps C.d_free_steps.kp (b_free_steps_2 C) DvIs.nil (d_cons (d_var (pv 0)) (d_cons (d_var (pv 4)) d_nil)) rfl (len_cons (n := 1) (len_cons (n := 0) (fun _ _ _ _ h => len_nil h))))) blk_ok (fun s H Cc cl fp => (w_nm (i := 6) hX.nd rfl (by first | exact .inl rfl | exact .inr rfl) (by decide) (by first | exact .inl rfl | exact .inr rfl))) (fun s H Cc cl fp => (t_one (t_notIn (hX.blk _ _ _ _ _) (d_var (pv 6)) (d_var (pv 2))))) (fun s H Cc cl fp => (d_var (pv 6))))
 (s_cons (s_while hp (b := GA.L_removal_0) (t_ne hX (d_var (pv 5)) (d_lst d_nil))
  (s_cons (s_drop (d_append (d_var (pv 3)) (d_cons (d_ix hX (d_var (pv 5)) d_int) d_nil)))
  (s_cons (s_asg (d_call (ok_without C) (hr.mono (by decide)) hX C.g_without C.d_without.kp (b_without_2 C) DvIs.nil (d_cons (d_var (pv 4)) (d_cons (d_ix hX (d_var (pv 5)) d_int) d_nil)) rfl (len_cons (n := 1) (len_cons (n := 0) (fun _ _ _ _ h => len_nil h)))) (g_nm (i := 4) hX))
  (s_one (s_setLc (i := 5) hX [(("name" : Str), 6)] rfl (i_val (d_call (ok_free_steps C) (hr.mono (by decide)) hX C.g_free_steps C.d_free_steps.kp (b_free_steps_2 C) DvIs.nil (d_cons (d_var (pv 0)) (d_cons (d_var (pv 4)) d_nil)) rfl (len_cons (n := 1) (len_cons (n := 0) (fun _ _ _ _ h => len_nil h))))) blk_ok (fun s H Cc cl fp => (w_nm (i := 6) hX.nd rfl (by first | exact .inl rfl | exact .inr rfl) (by decide) (by first | exact .inl rfl | exact .inr rfl))) (fun s H Cc cl fp => (t_one (t_notIn (hX.blk _ _ _ _ _) (d_var (pv 6)) (d_var (pv 2))))) (fun s H Cc cl fp => (d_var (pv 6))))))))
 (s_one (s_ret (d_tup (d_cons (d_ct call_tuple_of on_tuple C.n_tuple bb_tuple (d_cons (d_var (pv 3)) d_nil)) (d_cons (d_var (pv 4)) d_nil))))))))
theorem ok_undo_order (C : Cf K mg) : FnG P w K mg base 5 (He.ga K "undo_order") C.k_undo_order ["work", "steps", "kept"] GA.F_undo_order :=
 fn_D (k := 4) (N := N_undo_order) C.d_undo_order sc_undo_order fun cdv A outer s H hr hX hp =>
 (s_cons (s_drop (d_call (ok_require_steps C) (hr.mono (by decide)) hX C.g_require_steps C.d_require_steps.kp (b_require_steps_2 C) DvIs.nil (d_cons (d_var (pv 0)) (d_cons (d_var (pv 1)) d_nil)) rfl (len_cons (n := 1) (len_cons (n := 0) (fun _ _ _ _ h => len_nil h)))))
 (s_cons (s_drop (d_call (ok_require_steps C) (hr.mono (by decide)) hX C.g_require_steps C.d_require_steps.kp (b_require_steps_2 C) DvIs.nil (d_cons (d_var (pv 0)) (d_cons (d_var (pv 2)) d_nil)) rfl (len_cons (n := 1) (len_cons (n := 0) (fun _ _ _ _ h => len_nil h)))))
 (s_cons (s_asg (d_call (ok_removal C) (hr.mono (by decide)) hX C.g_removal C.d_removal.kp (b_removal_3 C) DvIs.nil (d_cons (d_var (pv 0)) (d_cons (d_var (pv 1)) (d_cons (d_var (pv 2)) d_nil))) rfl (len_cons (n := 2) (len_cons (n := 1) (len_cons (n := 0) (fun _ _ _ _ h => len_nil h))))) (g_tp hX (g_cn (g_nm (i := 3) hX) (g_cn (g_nm (i := 4) hX) g_nl))))
 (s_one (s_ret (d_var (pv 3)))))))
theorem ok__law_agrees (C : Cf K mg) : FnG P w K mg base 13 (He.ga K "_law_agrees") C.k__law_agrees ["_law_job_here", "_law_members", "_law_fixed"] F__law_agrees :=
 fn_D (k := 12) (N := N__law_agrees) C.d__law_agrees sc__law_agrees fun cdv A outer s H hr hX hp =>
 (s_cons (s_par (i := 3) (j := 4) hX (d_cons (d_cb (cr_repr hX) on_repr C.n_repr bb_repr (d_cons (d_tup (d_cons (d_var (pv 0)) (d_cons (d_var (pv 1)) (d_cons (d_var (pv 2)) d_nil)))) d_nil)) (d_cons (d_call (ok__law_least_order C) (hr.mono (by decide)) hX C.g__law_least_order C.d__law_least_order.kp (b__law_least_order_3 C) DvIs.nil (d_cons (d_var (pv 0)) (d_cons (d_var (pv 1)) (d_cons (d_var (pv 2)) d_nil))) rfl (len_cons (n := 2) (len_cons (n := 1) (len_cons (n := 0) (fun _ _ _ _ h => len_nil h))))) d_nil)))
 (s_cons (s_asg (d_lst (d_cons (d_callN (ks := ["kept"]) (ok_undo_order C) (hr.mono (by decide)) hX C.g_undo_order C.d_undo_order.kp (b_undo_order_2_kept C).choose_spec (gd_is (mvs := []) (dv := []) (fun m G => rfl) (by decide) rfl) (d_cons (d_var (pv 0)) (d_cons (d_var (pv 1)) d_nil)) (k_cons (d_var (pv 2)) k_nil)) (d_cons (d_callN0 (ks := ["kept", "steps", "work"]) (ok_undo_order C) (hr.mono (by decide)) hX C.g_undo_order C.d_undo_order.kp (b_undo_order_0_kept_steps_work C).choose_spec (gd_is (mvs := []) (dv := []) (fun m G => rfl) (by decide) rfl) (k_cons (d_var (pv 2)) (k_cons (d_var (pv 1)) (k_cons (d_var (pv 0)) k_nil)))) d_nil))) (g_nm (i := 5) hX))
 (s_cons (s_if (t_ne hX (d_cb (cr_repr hX) on_repr C.n_repr bb_repr (d_cons (d_var (pv 5)) d_nil)) (d_cb (cr_repr hX) on_repr C.n_repr bb_repr (d_cons (d_lst (d_cons (d_var (pv 4)) (d_cons (d_var (pv 4)) d_nil))) d_nil)))
  (s_one (s_ret d_bl))
  s_nil)
 (s_cons (s_if (d_pt (w_and (t_eq hX (d_var (pv 2)) (d_tup d_nil)) (w_and1 (t_ne hX (d_cb (cr_repr hX) on_repr C.n_repr bb_repr (d_cons (d_call (ok_undo_order C) (hr.mono (by decide)) hX C.g_undo_order C.d_undo_order.kp (b_undo_order_2 C).choose_spec.2 ⟨_, (b_undo_order_2 C).choose_spec.1, fun m G => ⟨_, _, rfl, (is_tup C.t_undo_order_kept G), rfl⟩⟩ (d_cons (d_var (pv 0)) (d_cons (d_var (pv 1)) d_nil)) rfl (len_cons (n := 1) (len_cons (n := 0) (fun _ _ _ _ h => len_nil h)))) d_nil)) (d_cb (cr_repr hX) on_repr C.n_repr bb_repr (d_cons (d_var (pv 4)) d_nil))))))
  (s_one (s_ret d_bl))
  s_nil)
 (s_one (s_ret (d_eq hX (d_cb (cr_repr hX) on_repr C.n_repr bb_repr (d_cons (d_tup (d_cons (d_var (pv 0)) (d_cons (d_var (pv 1)) (d_cons (d_var (pv 2)) d_nil)))) d_nil)) (d_var (pv 3)))))))))
theorem ok__law_all (C : Cf K mg) : FnG P w K mg base 1 (He.ga K "_law_all") C.k__law_all ["_law_job_here"] FB.F__law_all :=
 fn_D (k := 0) (N := N__law_all) C.d__law_all sc__law_all fun cdv A outer s H hr hX hp =>
 (s_one (s_ret (d_ct call_tuple_of on_tuple C.n_tuple bb_tuple (d_cons (d_lc hX [(("_law_row_here" : Str), 1)] (i_val (d_var (pv 0))) blk_ok (fun s H Cc cl fp => (w_nm (i := 1) hX.nd rfl (by first | exact .inl rfl | exact .inr rfl) (by decide) (by first | exact .inl rfl | exact .inr rfl))) (fun s H Cc cl fp => t_yes) (fun s H Cc cl fp => (d_ix (hX.blk _ _ _ _ _) (d_var (pv 1)) d_int))) d_nil))))
theorem ok__law_eight_steps (C : Cf K mg) : FnG P w K mg base 1 (He.ga K "_law_eight_steps") C.k__law_eight_steps ["_law_is_chain"] F__law_eight_steps :=
 fn_D (k := 0) (N := N__law_eight_steps) C.d__law_eight_steps sc__law_eight_steps fun cdv A outer s H hr hX hp =>
 (s_cons (s_asg (d_tup (d_cons d_str (d_cons d_str (d_cons d_str (d_cons d_str (d_cons d_str (d_cons d_str (d_cons d_str (d_cons d_str d_nil))))))))) (g_nm (i := 1) hX))
 (s_cons (s_asg (d_lc hX [(("_law_k" : Str), 3)] (i_rng1 C.n_range (d_cons d_int d_nil)) blk_ok (fun s H Cc cl fp => (w_nm (i := 3) hX.nd rfl (by first | exact .inl rfl | exact .inr rfl) (by decide) (by first | exact .inl rfl | exact .inr rfl))) (fun s H Cc cl fp => t_yes) (fun s H Cc cl fp => (d_ite (d_tru (d_var (pv 0))) (d_sl (d_var (pv 1)) (o_at (d_add (d_var (pv 3)) d_int)) (o_at (d_add (d_var (pv 3)) d_int))) (d_tup d_nil)))) (g_nm (i := 2) hX))
 (s_one (s_ret (d_ct call_tuple_of on_tuple C.n_tuple bb_tuple (d_cons (d_lc hX [(("_law_k" : Str), 3)] (i_rng1 C.n_range (d_cons d_int d_nil)) blk_ok (fun s H Cc cl fp => (w_nm (i := 3) hX.nd rfl (by first | exact .inl rfl | exact .inr rfl) (by decide) (by first | exact .inl rfl | exact .inr rfl))) (fun s H Cc cl fp => t_yes) (fun s H Cc cl fp => (d_tup (d_cons (d_ix (hX.blk _ _ _ _ _) (d_var (pv 1)) (d_var (pv 3))) (d_cons (d_tup d_nil) (d_cons (d_ix (hX.blk _ _ _ _ _) (d_var (pv 2)) (d_var (pv 3))) (d_cons (d_tup (d_cons d_str d_nil)) d_nil))))))) d_nil))))))
theorem ok__law_feed (C : Cf K mg) : FnG P w K mg base 1 (He.ga K "_law_feed") C.k__law_feed ["_law_script"] FB.F__law_feed :=
 fn_D (k := 0) (N := N__law_feed) C.d__law_feed sc__law_feed fun cdv A outer s H hr hX hp =>
 (s_one (s_ret (d_dicB (kv_cons d_str (d_ct call_list_of on_list C.n_list bb_list (d_cons (d_sl (d_var (pv 0)) o_no (o_at d_int)) d_nil)) (kv_cons d_str d_int (kv_cons d_str d_int (kv_cons d_str d_int kv_nil)))))))
theorem ok__law_draw (C : Cf K mg) : FnG P w K mg base 1 (He.ga K "_law_draw") C.k__law_draw ["_law_feed_here", "_law_many"] FB.F__law_draw :=
 fn_D (k := 0) (N := N__law_draw) C.d__law_draw sc__law_draw fun cdv A outer s H hr hX hp =>
 (s_cons (s_asg (d_add (d_ix hX (d_var (pv 0)) d_str) d_int) (g_nm (i := 2) hX))
 (s_cons (s_asg (d_var (pv 2)) (g_sb hX (d_var (pv 0)) d_str))
 (s_cons (s_if (t_gt (d_ix hX (d_var (pv 0)) d_str) d_int)
  (s_cons (s_asg (d_mod (d_ix hX (d_var (pv 0)) d_str) (d_var (pv 1))) (g_nm (i := 3) hX))
  (s_cons (s_asg (d_fdiv (d_ix hX (d_var (pv 0)) d_str) (d_var (pv 1))) (g_sb hX (d_var (pv 0)) d_str))
  (s_one (s_ret (d_var (pv 3))))))
  s_nil)
 (s_cons (s_asg (d_ix hX (d_var (pv 0)) d_str) (g_nm (i := 4) hX))
 (s_cons (s_asg (d_add (d_var (pv 4)) d_int) (g_sb hX (d_var (pv 0)) d_str))
 (s_cons (s_asg (d_ite (t_ne hX (d_ix hX (d_var (pv 0)) d_str) (d_lst d_nil)) (d_ix hX (d_ix hX (d_var (pv 0)) d_str) (d_mod (d_var (pv 4)) (d_cb cr_len on_len C.n_len bb_len (d_cons (d_ix hX (d_var (pv 0)) d_str) d_nil)))) d_int) (g_nm (i := 5) hX))
 (s_cons (s_if (d_pt (w_and (t_ge (d_var (pv 5)) (d_pow d_int d_int)) (w_and1 (t_lt (d_var (pv 4)) (d_cb cr_len on_len C.n_len bb_len (d_cons (d_ix hX (d_var (pv 0)) d_str) d_nil))))))
  (s_cons (s_asg (d_fdiv (d_var (pv 5)) (d_var (pv 1))) (g_sb hX (d_var (pv 0)) d_str))
  (s_one (s_ret (d_mod (d_var (pv 5)) (d_var (pv 1))))))
  s_nil)
 (s_cons (s_asg (d_mod (d_add (d_add (d_add (d_mod (d_var (pv 5)) d_int) (d_mul (d_mul d_int (d_var (pv 2))) (d_var (pv 2)))) (d_mul d_int (d_var (pv 2)))) d_int) d_int) (g_nm (i := 6) hX))
 (s_cons (s_asg (d_mod (d_add (d_add (d_pow (d_var (pv 6)) d_int) (d_mul d_int (d_var (pv 2)))) d_int) d_int) (g_nm (i := 6) hX))
 (s_one (s_ret (d_mod (d_fdiv (d_mod (d_add (d_pow (d_var (pv 6)) d_int) (d_mul d_int (d_var (pv 6)))) d_int) d_int) (d_var (pv 1))))))))))))))
theorem ok__law_abilities (C : Cf K mg) : FnG P w K mg base 2 (He.ga K "_law_abilities") C.k__law_abilities ["_law_feed_here"] FB.F__law_abilities :=
 fn_D (k := 1) (N := N__law_abilities) C.d__law_abilities sc__law_abilities fun cdv A outer s H hr hX hp =>
 (s_cons (s_asg (d_lstB d_nil) (g_nm (i := 1) hX))
 (s_cons (s_if (t_eq hX (d_call (ok__law_draw C) (hr.mono (by decide)) hX C.g__law_draw C.d__law_draw.kp (b__law_draw_2 C) DvIs.nil (d_cons (d_var (pv 0)) (d_cons d_int d_nil)) rfl (len_cons (n := 1) (len_cons (n := 0) (fun _ _ _ _ h => len_nil h)))) d_int)
  (s_one (s_drop (d_append (d_var (pv 1)) (d_cons d_str d_nil))))
  s_nil)
 (s_cons (s_if (t_eq hX (d_call (ok__law_draw C) (hr.mono (by decide)) hX C.g__law_draw C.d__law_draw.kp (b__law_draw_2 C) DvIs.nil (d_cons (d_var (pv 0)) (d_cons d_int d_nil)) rfl (len_cons (n := 1) (len_cons (n := 0) (fun _ _ _ _ h => len_nil h)))) d_int)
  (s_one (s_drop (d_append (d_var (pv 1)) (d_cons d_str d_nil))))
  s_nil)
 (s_cons (s_if (d_pt (w_and (t_in hX d_str (d_var (pv 1))) (w_and1 (t_eq hX (d_call (ok__law_draw C) (hr.mono (by decide)) hX C.g__law_draw C.d__law_draw.kp (b__law_draw_2 C) DvIs.nil (d_cons (d_var (pv 0)) (d_cons d_int d_nil)) rfl (len_cons (n := 1) (len_cons (n := 0) (fun _ _ _ _ h => len_nil h)))) d_int))))
  (s_one (s_drop (d_append (d_var (pv 1)) (d_cons d_str d_nil))))
  s_nil)
 (s_cons (s_if (t_gt (d_call (ok__law_draw C) (hr.mono (by decide)) hX C.g__law_draw C.d__law_draw.kp (b__law_draw_2 C) DvIs.nil (d_cons (d_var (pv 0)) (d_cons d_int d_nil)) rfl (len_cons (n := 1) (len_cons (n := 0) (fun _ _ _ _ h => len_nil h)))) d_int)
  (s_one (s_drop (d_append (d_var (pv 1)) (d_cons d_str d_nil))))
  s_nil)
 (s_one (s_ret (d_ct call_tuple_of on_tuple C.n_tuple bb_tuple (d_cons (d_var (pv 1)) d_nil)))))))))
theorem ok__law_names (C : Cf K mg) : FnG P w K mg base 2 (He.ga K "_law_names") C.k__law_names ["_law_feed_here", "_law_most"] FB.F__law_names :=
 fn_D (k := 1) (N := N__law_names) C.d__law_names sc__law_names fun cdv A outer s H hr hX hp =>
 (s_cons (s_asg (d_lstB (d_cons d_str (d_cons d_str (d_cons d_str (d_cons d_str (d_cons d_str (d_cons d_str (d_cons d_str (d_cons d_str d_nil))))))))) (g_nm (i := 2) hX))
 (s_cons (s_asg (d_add d_int (d_call (ok__law_draw C) (hr.mono (by decide)) hX C.g__law_draw C.d__law_draw.kp (b__law_draw_2 C) DvIs.nil (d_cons (d_var (pv 0)) (d_cons (d_var (pv 1)) d_nil)) rfl (len_cons (n := 1) (len_cons (n := 0) (fun _ _ _ _ h => len_nil h))))) (g_nm (i := 3) hX))
 (s_cons (s_while hp (b := FB.L__law_names_0) (t_gt (d_cb cr_len on_len C.n_len bb_len (d_cons (d_var (pv 2)) d_nil)) (d_var (pv 3)))
  (s_one (s_drop (d_popAt (d_var (pv 2)) (d_cons (d_call (ok__law_draw C) (hr.mono (by decide)) hX C.g__law_draw C.d__law_draw.kp (b__law_draw_2 C) DvIs.nil (d_cons (d_var (pv 0)) (d_cons (d_cb cr_len on_len C.n_len bb_len (d_cons (d_var (pv 2)) d_nil)) d_nil)) rfl (len_cons (n := 1) (len_cons (n := 0) (fun _ _ _ _ h => len_nil h)))) d_nil)))))
 (s_one (s_ret (d_var (pv 2)))))))
theorem ok__law_job (C : Cf K mg) : FnG P w K mg base 3 (He.ga K "_law_job") C.k__law_job ["_law_feed_here", "_law_most"] FB.F__law_job :=
 fn_D (k := 2) (N := N__law_job) C.d__law_job sc__law_job fun cdv A outer s H hr hX hp =>
 (s_cons (s_parC (i := 2) (j := 3) hX (d_cons (d_call (ok__law_names C) (hr.mono (by decide)) hX C.g__law_names C.d__law_names.kp (b__law_names_2 C) DvIs.nil (d_cons (d_var (pv 0)) (d_cons (d_var (pv 1)) d_nil)) rfl (len_cons (n := 1) (len_cons (n := 0) (fun _ _ _ _ h => len_nil h)))) (d_cons d_dic0B d_nil)))
 (s_cons (s_asg (d_rg hX C.n_list C.n_range (d_cb cr_len on_len C.n_len bb_len (d_cons (d_var (pv 2)) d_nil))) (g_nm (i := 4) hX))
 (s_cons (s_for hX hp (b := FB.L__law_job_0) (i_val (d_var (pv 2))) (g_nm (i := 5) hX)
  (s_one (s_asg (d_popAt (d_var (pv 4)) (d_cons (d_call (ok__law_draw C) (hr.mono (by decide)) hX C.g__law_draw C.d__law_draw.kp (b__law_draw_2 C) DvIs.nil (d_cons (d_var (pv 0)) (d_cons (d_cb cr_len on_len C.n_len bb_len (d_cons (d_var (pv 4)) d_nil)) d_nil)) rfl (len_cons (n := 1) (len_cons (n := 0) (fun _ _ _ _ h => len_nil h)))) d_nil)) (g_sb hX (d_var (pv 3)) (d_var (pv 5))))))
 (s_cons (s_parC (i := 6) (j := 7) hX (d_cons (d_lstB d_nil) (d_cons (d_add d_int (d_call (ok__law_draw C) (hr.mono (by decide)) hX C.g__law_draw C.d__law_draw.kp (b__law_draw_2 C) DvIs.nil (d_cons (d_var (pv 0)) (d_cons d_int d_nil)) rfl (len_cons (n := 1) (len_cons (n := 0) (fun _ _ _ _ h => len_nil h))))) d_nil)))
 (s_cons (s_for hX hp (b := FB.L__law_job_1) (i_val (d_var (pv 2))) (g_nm (i := 5) hX)
  (s_cons (s_setLc (i := 8) hX [(("_law_other" : Str), 9)] rfl (i_val (d_var (pv 2))) blk_ok (fun s H Cc cl fp => (w_nm (i := 9) hX.nd rfl (by first | exact .inl rfl | exact .inr rfl) (by decide) (by first | exact .inl rfl | exact .inr rfl))) (fun s H Cc cl fp => (t_one (d_pt (w_and (t_lt (d_ix (hX.blk _ _ _ _ _) (d_var (pv 3)) (d_var (pv 9))) (d_ix (hX.blk _ _ _ _ _) (d_var (pv 3)) (d_var (pv 5)))) (w_and1 (t_eq (hX.blk _ _ _ _ _) (d_call (ok__law_draw C) (hr.mono (by decide)) (hX.blk _ _ _ _ _) C.g__law_draw C.d__law_draw.kp (b__law_draw_2 C) DvIs.nil (d_cons (d_var (pv 0)) (d_cons (d_var (pv 7)) d_nil)) rfl (len_cons (n := 1) (len_cons (n := 0) (fun _ _ _ _ h => len_nil h)))) d_int)))))) (fun s H Cc cl fp => (d_var (pv 9))))
  (s_cons (s_setLc (i := 10) hX [(("_law_other" : Str), 9)] rfl (i_val (d_var (pv 2))) blk_ok (fun s H Cc cl fp => (w_nm (i := 9) hX.nd rfl (by first | exact .inl rfl | exact .inr rfl) (by decide) (by first | exact .inl rfl | exact .inr rfl))) (fun s H Cc cl fp => (t_one (d_pt (w_and (t_ne (hX.blk _ _ _ _ _) (d_var (pv 9)) (d_var (pv 5))) (w_and1 (t_eq (hX.blk _ _ _ _ _) (d_call (ok__law_draw C) (hr.mono (by decide)) (hX.blk _ _ _ _ _) C.g__law_draw C.d__law_draw.kp (b__law_draw_2 C) DvIs.nil (d_cons (d_var (pv 0)) (d_cons (d_add (d_var (pv 7)) d_int) d_nil)) rfl (len_cons (n := 1) (len_cons (n := 0) (fun _ _ _ _ h => len_nil h)))) d_int)))))) (fun s H Cc cl fp => (d_var (pv 9))))
  (s_one (s_drop (d_append (d_var (pv 6)) (d_cons (d_tup (d_cons (d_var (pv 5)) (d_cons (d_ct call_tuple_of on_tuple C.n_tuple bb_tuple (d_cons (d_var (pv 8)) d_nil)) (d_cons (d_ct call_tuple_of on_tuple C.n_tuple bb_tuple (d_cons (d_var (pv 10)) d_nil)) (d_cons (d_call (ok__law_abilities C) (hr.mono (by decide)) hX C.g__law_abilities C.d__law_abilities.kp (b__law_abilities_1 C) DvIs.nil (d_cons (d_var (pv 0)) d_nil) rfl (len_cons (n := 0) (fun _ _ _ _ h => len_nil h))) d_nil))))) d_nil)))))))
 (s_one (s_ret (d_ct call_tuple_of on_tuple C.n_tuple bb_tuple (d_cons (d_var (pv 6)) d_nil)))))))))
theorem ok__law_subset (C : Cf K mg) : FnG P w K mg base 2 (He.ga K "_law_subset") C.k__law_subset ["_law_feed_here", "_law_some"] FB.F__law_subset :=
 fn_D (k := 1) (N := N__law_subset) C.d__law_subset sc__law_subset fun cdv A outer s H hr hX hp =>
 (s_one (s_ret (d_ct call_tuple_of on_tuple C.n_tuple bb_tuple (d_cons (d_lc hX [(("_law_one" : Str), 2)] (i_val (d_var (pv 1))) blk_ok (fun s H Cc cl fp => (w_nm (i := 2) hX.nd rfl (by first | exact .inl rfl | exact .inr rfl) (by decide) (by first | exact .inl rfl | exact .inr rfl))) (fun s H Cc cl fp => (t_one (t_eq (hX.blk _ _ _ _ _) (d_call (ok__law_draw C) (hr.mono (by decide)) (hX.blk _ _ _ _ _) C.g__law_draw C.d__law_draw.kp (b__law_draw_2 C) DvIs.nil (d_cons (d_var (pv 0)) (d_cons d_int d_nil)) rfl (len_cons (n := 1) (len_cons (n := 0) (fun _ _ _ _ h => len_nil h)))) d_int))) (fun s H Cc cl fp => (d_var (pv 2)))) d_nil))))
theorem ok_law (C : Cf K mg) : FnG P w K mg base 14 (He.ga K "law") C.k_law ["_law_script"] F_law :=
 fn_D (k := 13) (N := N_law) C.d_law sc_law fun cdv A outer s H hr hX hp =>
 (s_cons (s_asg (d_call (ok__law_feed C) (hr.mono (by decide)) hX C.g__law_feed C.d__law_feed.kp (b__law_feed_1 C) DvIs.nil (d_cons (d_var (pv 0)) d_nil) rfl (len_cons (n := 0) (fun _ _ _ _ h => len_nil h))) (g_nm (i := 1) hX))
 (s_cons (s_for hX hp (b := L_law_0) (i_val (d_tup (d_cons d_bl (d_cons d_bl d_nil)))) (g_nm (i := 2) hX)
  (s_cons (s_asg (d_call (ok__law_eight_steps C) (hr.mono (by decide)) hX C.g__law_eight_steps C.d__law_eight_steps.kp (b__law_eight_steps_1 C) DvIs.nil (d_cons (d_var (pv 2)) d_nil) rfl (len_cons (n := 0) (fun _ _ _ _ h => len_nil h))) (g_nm (i := 3) hX))
  (s_one (s_if (d_pt (w_or (d_not (d_tru (d_call (ok__law_agrees C) (hr.mono (by decide)) hX C.g__law_agrees C.d__law_agrees.kp (b__law_agrees_3 C) DvIs.nil (d_cons (d_var (pv 3)) (d_cons (d_call (ok__law_all C) (hr.mono (by decide)) hX C.g__law_all C.d__law_all.kp (b__law_all_1 C) DvIs.nil (d_cons (d_var (pv 3)) d_nil) rfl (len_cons (n := 0) (fun _ _ _ _ h => len_nil h))) (d_cons (d_tup d_nil) d_nil))) rfl (len_cons (n := 2) (len_cons (n := 1) (len_cons (n := 0) (fun _ _ _ _ h => len_nil h))))))) (w_or1 (d_not (d_tru (d_call (ok__law_agrees C) (hr.mono (by decide)) hX C.g__law_agrees C.d__law_agrees.kp (b__law_agrees_3 C) DvIs.nil (d_cons (d_var (pv 3)) (d_cons (d_call (ok__law_all C) (hr.mono (by decide)) hX C.g__law_all C.d__law_all.kp (b__law_all_1 C) DvIs.nil (d_cons (d_var (pv 3)) d_nil) rfl (len_cons (n := 0) (fun _ _ _ _ h => len_nil h))) (d_cons (d_tup (d_cons d_str d_nil)) d_nil))) rfl (len_cons (n := 2) (len_cons (n := 1) (len_cons (n := 0) (fun _ _ _ _ h => len_nil h))))))))))
   (s_one (s_ret d_bl))
   s_nil))))
 (s_cons (s_for hX hp (b := L_law_3) (i_rng1 C.n_range (d_cons d_int d_nil)) (g_nm (i := 4) hX)
  (s_cons (s_asg (d_call (ok__law_job C) (hr.mono (by decide)) hX C.g__law_job C.d__law_job.kp (b__law_job_2 C) DvIs.nil (d_cons (d_var (pv 1)) (d_cons d_int d_nil)) rfl (len_cons (n := 1) (len_cons (n := 0) (fun _ _ _ _ h => len_nil h)))) (g_nm (i := 3) hX))
  (s_cons (s_asg (d_call (ok__law_all C) (hr.mono (by decide)) hX C.g__law_all C.d__law_all.kp (b__law_all_1 C) DvIs.nil (d_cons (d_var (pv 3)) d_nil) rfl (len_cons (n := 0) (fun _ _ _ _ h => len_nil h))) (g_nm (i := 5) hX))
  (s_one (s_for hX hp (b := L_law_2) (i_val (d_tup (d_cons (d_var (pv 5)) (d_cons (d_call (ok__law_subset C) (hr.mono (by decide)) hX C.g__law_subset C.d__law_subset.kp (b__law_subset_2 C) DvIs.nil (d_cons (d_var (pv 1)) (d_cons (d_var (pv 5)) d_nil)) rfl (len_cons (n := 1) (len_cons (n := 0) (fun _ _ _ _ h => len_nil h)))) d_nil)))) (g_nm (i := 6) hX)
   (s_one (s_for hX hp (b := L_law_1) (i_val (d_tup (d_cons (d_tup d_nil) (d_cons (d_call (ok__law_subset C) (hr.mono (by decide)) hX C.g__law_subset C.d__law_subset.kp (b__law_subset_2 C) DvIs.nil (d_cons (d_var (pv 1)) (d_cons (d_var (pv 5)) d_nil)) rfl (len_cons (n := 1) (len_cons (n := 0) (fun _ _ _ _ h => len_nil h)))) d_nil)))) (g_nm (i := 7) hX)
    (s_one (s_if (d_not (d_tru (d_call (ok__law_agrees C) (hr.mono (by decide)) hX C.g__law_agrees C.d__law_agrees.kp (b__law_agrees_3 C) DvIs.nil (d_cons (d_var (pv 3)) (d_cons (d_var (pv 6)) (d_cons (d_var (pv 7)) d_nil))) rfl (len_cons (n := 2) (len_cons (n := 1) (len_cons (n := 0) (fun _ _ _ _ h => len_nil h)))))))
     (s_one (s_ret d_bl))
     s_nil)))))))))
 (s_one (s_ret d_bl)))))
end
theorem facts {K : PySem.W.Frag} {h : Heap} {mg : Str → Option Value} (X : K.In h) (G : h.Ns mainGlobals mg) (cP : SaysP hf hd hc K) : ∃ C : Cf K mg, True := by
  have c := cP.d
  obtain ⟨k0, F0⟩ := c.def_ 0 rfl
  obtain ⟨k1, F1⟩ := c.def_ 1 rfl
  obtain ⟨k2, F2⟩ := c.def_ 2 rfl
  obtain ⟨k3, F3⟩ := c.def_ 3 rfl
  obtain ⟨k4, F4⟩ := c.def_ 4 rfl
  obtain ⟨k5, F5⟩ := c.def_ 5 rfl
  obtain ⟨k6, F6⟩ := c.def_ 6 rfl
  obtain ⟨k7, F7⟩ := c.def_ 7 rfl
  obtain ⟨k8, F8⟩ := c.def_ 8 rfl
  obtain ⟨k9, F9⟩ := c.def_ 9 rfl
  obtain ⟨k10, F10⟩ := c.def_ 10 rfl
  obtain ⟨k11, F11⟩ := c.def_ 11 rfl
  obtain ⟨k12, F12⟩ := c.def_ 12 rfl
  obtain ⟨k13, F13⟩ := c.def_ 13 rfl
  obtain ⟨k14, F14⟩ := c.def_ 14 rfl
  obtain ⟨k15, F15⟩ := c.def_ 15 rfl
  obtain ⟨k16, F16⟩ := c.def_ 16 rfl
  obtain ⟨k17, F17⟩ := c.def_ 17 rfl
  obtain ⟨k18, F18⟩ := c.def_ 18 rfl
  obtain ⟨k19, F19⟩ := c.def_ 19 rfl
  obtain ⟨k20, F20⟩ := c.def_ 20 rfl
  obtain ⟨k21, F21⟩ := c.def_ 21 rfl
  obtain ⟨k22, F22⟩ := c.def_ 22 rfl
  exact ⟨⟨k0, F0, He.glo_ok X G (c.fact 0 (f := .glo "_law_row") rfl), k1, F1, He.glo_ok X G (c.fact 1 (f := .glo "_law_reasons") rfl), k2, F2, He.glo_ok X G (c.fact 2 (f := .glo "_law_core") rfl), k3, F3, He.glo_ok X G (c.fact 3 (f := .glo "_law_free") rfl), k4, F4, He.glo_ok X G (c.fact 4 (f := .glo "_law_orders") rfl), k5, F5, He.glo_ok X G (c.fact 5 (f := .glo "_law_least_order") rfl), k6, F6, He.glo_ok X G (c.fact 6 (f := .glo "rows_by_step") rfl), k7, F7, He.glo_ok X G (c.fact 7 (f := .glo "reasons_in") rfl), k8, F8, He.glo_ok X G (c.fact 8 (f := .glo "require_steps") rfl), k9, F9, He.glo_ok X G (c.fact 9 (f := .glo "free_steps") rfl), k10, F10, He.glo_ok X G (c.fact 10 (f := .glo "without") rfl), k11, F11, He.glo_ok X G (c.fact 11 (f := .glo "removal") rfl), k12, F12, He.glo_ok X G (c.fact 12 (f := .glo "undo_order") rfl), k13, F13, He.glo_ok X G (c.fact 13 (f := .glo "_law_agrees") rfl), k14, F14, He.glo_ok X G (c.fact 14 (f := .glo "_law_all") rfl), k15, F15, He.glo_ok X G (c.fact 15 (f := .glo "_law_eight_steps") rfl), k16, F16, He.glo_ok X G (c.fact 16 (f := .glo "_law_feed") rfl), k17, F17, He.glo_ok X G (c.fact 17 (f := .glo "_law_draw") rfl), k18, F18, He.glo_ok X G (c.fact 18 (f := .glo "_law_abilities") rfl), k19, F19, He.glo_ok X G (c.fact 19 (f := .glo "_law_names") rfl), k20, F20, He.glo_ok X G (c.fact 20 (f := .glo "_law_job") rfl), k21, F21, He.glo_ok X G (c.fact 21 (f := .glo "_law_subset") rfl), k22, F22, He.glo_ok X G (c.fact 22 (f := .glo "law") rfl), He.free_ok X G (c.fact 23 (f := .free "int") rfl), He.free_ok X G (c.fact 24 (f := .free "len") rfl), He.free_ok X G (c.fact 25 (f := .free "list") rfl), He.free_ok X G (c.fact 26 (f := .free "min") rfl), He.free_ok X G (c.fact 27 (f := .free "range") rfl), He.free_ok X G (c.fact 28 (f := .free "repr") rfl), He.free_ok X G (c.fact 29 (f := .free "sorted") rfl), He.free_ok X G (c.fact 30 (f := .free "tuple") rfl), cP.c 0 rfl⟩, trivial⟩
abbrev R : PySem.W.OpenRow := PySem.W.OpenLaw.row PySem.Challenge.rw_maybedone_k19_undo_orders_told
abbrev hk : PySem.W.Hook := hookP 4 hf hd hc
def ob (s : PySem.W.SharedT) : AlP := obsPG 4 hf hd hc (HandSHeadRun.getT s)
theorem ob_eq (s : PySem.W.SharedT) : ob s = hk.obs s.abs := obsPG_eq (HandSHeadRun.getT_eq s)
def lo0 : List Str := ["__name__", "MaybeError", "WorkError", "UnknownStep", "rows_by_step", "require_steps", "reasons_in", "free_steps", "without", "removal", "undo_order", "_law_feed", "_law_draw", "_law_subset", "_law_names", "_law_abilities", "_law_job", "_law_all", "_law_row", "_law_reasons", "_law_core", "_law_free", "_law_orders", "_law_least_order", "_law_agrees", "_law_eight_steps"]
abbrev lo : List Str := (lo0)
theorem run (w : World) : HandSHeadRun.RunEq R (PySem.W.view R.prog [30]) hk ob 4000 lo w := by
  intro os
  kernel_rfl
end K19

namespace K19
open PySem PySem.Spec PyProof.Rows L2 DL GA FN
open FB (F__law_draw F__law_subset F__law_names F__law_abilities F__law_job F__law_all F__law_row F__law_reasons F__law_feed)
open FN (F__law_core)
/-- the running of a text on data -/
local macro_rules | `(tactic| trivial) => `(tactic| first
  | with_reducible refine s_Seq ?_
  | with_reducible refine s_Set ?_
  | with_reducible refine s_If ?_
  | with_reducible refine s_Drop ?_
  | with_reducible refine s_Ret ?_
  | with_reducible refine s_Par ?_
  | with_reducible refine s_For ?_
  | with_reducible refine s_Nx ?_
  | with_reducible refine p_f2 ?_
  | ((with_reducible apply p_var); (exact rfl))
  | with_reducible refine p_c ?_
  | with_reducible refine p_gNm ?_
  | with_reducible refine p_gSb ?_
  | with_reducible refine p_tru ?_
  | with_reducible refine p_and ?_
  | with_reducible refine p_or ?_
  | with_reducible refine p_not ?_
  | with_reducible refine p_yes ?_
  | with_reducible refine p_ite ?_
  | with_reducible refine p_cons ?_
  | with_reducible refine p_nil ?_
  | with_reducible refine p_cb ?_
  | with_reducible refine p_cbB ?_
  | with_reducible refine p_tup ?_
  | with_reducible refine p_lst ?_
  | with_reducible refine p_lstB ?_
  | with_reducible refine p_lc ?_
  | with_reducible refine p_dc ?_
  | with_reducible refine p_sl ?_
  | with_reducible refine p_oNo ?_
  | with_reducible refine c_oAt ?_
  | with_reducible refine c_atE ?_
  | ((with_reducible apply p_slE); (first | exact rfl | exact deP_bx rfl); (exact rfl))
  | with_reducible refine p_call ?_
  | with_reducible refine p_callN ?_
  | with_reducible refine s_ParE ?_
  | with_reducible refine c_iv ?_
  | with_reducible refine c_rg ?_
  | ((with_reducible apply c_mt); (exact rfl); (exact rfl))
  | with_reducible refine c_ret ?_
  | with_reducible refine p_closeV ?_
  | with_reducible refine p_closeK ?_
  | with_reducible refine ff ?_
  | with_reducible refine tt ?_
  | with_reducible refine nff ?_
  | with_reducible refine ntt ?_
  | with_reducible refine ndt (fun _ => ?_) (fun _ => ?_)
  | with_reducible refine dt (fun _ => ?_) (fun _ => ?_)
  | ((with_reducible apply p_l2); (first | exact rfl | exact deP_bx rfl); (first | exact rfl | exact deP_bx rfl); (first | assumption | exact rfl | exact mod_ok (by omega) | exact fdiv_ok (by omega) (by omega) | exact mul_ok (by omega) (by omega) | exact pow_ok (by omega) (by omega) (by omega)))
  | ((with_reducible apply p_truE); (first | exact rfl | exact deP_bx rfl); (exact rfl))
  | ((with_reducible apply p_cbE); (repeat (first | exact a_nil | (apply a_cons; first | exact rfl | exact deP_bx rfl))); (first | assumption | exact rfl))
  | ((with_reducible apply c_cbB); (repeat (first | exact a_nil | (apply a_cons; first | exact rfl | exact deP_bx rfl))); (first | assumption | exact rfl))
  | ((with_reducible apply p_lstE); (repeat (first | exact v_nil | apply v_cons)); (focus (show _ ≤ (100000 : Nat); first | decide | (simp; done) | (simp; omega))))
  | ((with_reducible apply p_tupE); (repeat (first | exact v_nil | apply v_cons)); (focus (show _ ≤ (100000 : Nat); first | decide | (simp; done) | (simp; omega))))
  | ((with_reducible apply c_lstB); (repeat (first | exact v_nil | apply v_cons)); (focus (show _ ≤ (100000 : Nat); first | decide | (simp; done) | (simp; omega))))
  | ((with_reducible apply c_ivE); (first | exact rfl | exact seq_bx rfl))
  | ((with_reducible apply p_sbL); (exact rfl); (exact rfl)))


/-- the value of a text, found -/
local macro_rules | `(tactic| array_get_dec) => `(tactic| first
  | (focus ((with_reducible (show deP _ _ = _)); exact rfl))
  | (focus ((with_reducible (show seqOf _ _ = _)); exact rfl))
  | (focus ((with_reducible (show truP _ = _)); exact rfl))
  | (focus ((with_reducible (show pIx _ _ = _)); exact rfl))
  | (focus ((with_reducible (show pKey _ = _)); exact rfl))
  | (focus ((with_reducible (show bLen _ = _)); exact rfl))
  | (focus ((with_reducible (show bInt _ = _)); exact rfl))
  | (focus ((with_reducible (show bList _ = _)); exact rfl))
  | (focus ((with_reducible (show pAdd (.int _) (.int _) = _)); exact rfl))
  | (focus ((with_reducible (show pSub (.int _) (.int _) = _)); exact rfl))
  | (focus ((with_reducible (show pLt (.int _) (.int _) = _)); exact rfl))
  | (focus ((with_reducible (show pLe (.int _) (.int _) = _)); exact rfl))
  | (focus ((with_reducible (show pGt (.int _) (.int _) = _)); exact rfl))
  | (focus ((with_reducible (show pGe (.int _) (.int _) = _)); exact rfl))
  | (focus ((with_reducible (show List.length _ = _)); exact rfl))
  | (focus ((with_reducible (show pSl _ _ _ = _)); exact rfl))
  | (focus ((with_reducible (show pIsN _ _ = _)); exact rfl))
  | (focus ((with_reducible (show pNotN _ _ = _)); exact rfl))
  | (focus ((with_reducible (show pNeg _ = _)); exact rfl))
  | (focus ((with_reducible (show setD _ _ _ _ = _)); exact rfl))
  | with_reducible exact rfl)
local macro_rules | `(tactic| array_get_dec) => `(tactic| first
  | (focus ((with_reducible show _ = _); with_reducible assumption))
  | (focus (with_reducible apply e_l2))
  | with_reducible exact o_eqN
  | with_reducible exact o_neN
  | with_reducible exact o_eqT
  | with_reducible exact o_neT
  | with_reducible exact o_eqT0
  | with_reducible exact o_neT0
  | with_reducible exact o_eqLs0
  | with_reducible exact o_neLs0
  | with_reducible exact o_inT
  | with_reducible exact o_inLs
  | with_reducible exact o_niT
  | with_reducible exact o_niLs
  | with_reducible exact o_eqI
  | with_reducible exact o_neI
  | with_reducible exact o_eqL (by decide +kernel)
  | with_reducible exact o_neL (by decide +kernel)
  | with_reducible exact o_inW (by decide +kernel)
  | with_reducible exact o_niW (by decide +kernel)
  | with_reducible exact o_in1 (by decide +kernel)
  | with_reducible exact o_in2 (by decide +kernel) (by decide +kernel)
  | with_reducible exact o_in3 (by decide +kernel) (by decide +kernel) (by decide +kernel)
  | with_reducible exact o_ni1 (by decide +kernel)
  | with_reducible exact o_ni2 (by decide +kernel) (by decide +kernel)
  | with_reducible exact o_addT1 (by first | omega | (simp; omega))
  | with_reducible exact o_addT (by first | omega | (simp; omega))
  | with_reducible exact o_addLs (by first | omega | (simp; omega))
  | with_reducible exact o_addTp (by first | omega | (simp; omega))
  | with_reducible exact o_tupleN
  | with_reducible exact o_tuple)
local macro_rules | `(tactic| array_get_dec) => `(tactic| first
  | with_reducible exact e_c
  | ((with_reducible apply e_var); (exact rfl))
  | with_reducible apply e_f2
  | with_reducible exact e_nil
  | with_reducible apply e_cons
  | with_reducible apply e_tup
  | with_reducible apply e_lst
  | with_reducible apply e_lstB
  | with_reducible apply e_cb
  | with_reducible apply e_cbB
  | with_reducible apply e_tru
  | with_reducible exact e_yes
  | with_reducible apply e_and
  | with_reducible apply e_or
  | with_reducible apply e_not
  | with_reducible apply e_iteB
  | with_reducible apply e_ite
  | with_reducible apply e_andV
  | with_reducible apply e_orV
  | with_reducible apply e_notV
  | with_reducible apply e_f1
  | with_reducible apply e_call
  | with_reducible apply e_callN
  | with_reducible apply e_sl
  | with_reducible exact e_oNo
  | with_reducible apply e_oAt
  | with_reducible apply e_iv
  | with_reducible apply e_lcA
  | with_reducible apply e_lc
  | with_reducible apply e_lcB
  | with_reducible apply e_rg
  | with_reducible apply e_rg2
  | ((with_reducible apply e_mt); (exact rfl); (exact rfl))
  | with_reducible exact e_gNm
  | with_reducible exact e_gNl
  | with_reducible apply e_gCn
  | (focus ((with_reducible (show gTp _ _ _ _ _ = _)); (apply e_gTp); (exact rfl)))
  | (with_reducible (intro _ _; apply e_body))
  | with_reducible exact v_nil
  | with_reducible apply v_cons
  | with_reducible exact a_nil
  | ((with_reducible apply a_cons); (first | exact deP_bx rfl | exact deP_bxD rfl | exact rfl))
  | with_reducible exact deP_bx rfl
  | with_reducible exact deP_bxD rfl
  | with_reducible exact own_none
  | with_reducible exact own_bx rfl
  | (focus (show _ ≤ (100000 : Nat); first | decide | omega | (simp; done) | (simp; omega)))
  | (focus (show _ < (100000 : Nat); first | omega | (simp; omega) | (refine Nat.lt_of_le_of_lt (List.length_filter_le _ _) ?_; omega)))
  | with_reducible exact o_app (by first | omega | (simp; omega))
  | with_reducible exact o_ext rfl (by first | omega | (simp; omega))
  | (with_reducible intro _))
/-- the running of a text over values that are found -/
local macro_rules | `(tactic| get_elem_tactic_extensible) => `(tactic| first
  | with_reducible refine s_Seq ?_
  | with_reducible refine s_Nx ?_
  | with_reducible apply e_closeT
  | ((with_reducible apply e_closeLT); (exact rfl))
  | with_reducible apply s_SetE
  | with_reducible apply s_DropE
  | with_reducible apply s_RetE
  | with_reducible apply s_IfE
  | with_reducible apply s_Par2
  | with_reducible apply s_ForE)

local macro_rules | `(tactic| array_get_dec) => `(tactic| first
  | with_reducible exact o_r0
  | with_reducible exact o_r1
  | with_reducible exact o_r2
  | with_reducible exact o_r3)
/-! a list given as a value or as a reference -/
structure AL (d : D) (o : Ob) (T : Sto) (L : List Nm) : Prop where
  sq : ∀ B, ∃ own, seqOf d (o :: (T ++ B)) = some (L.map nP, own) ∧ OwnOk own (L.map nP) (o :: (T ++ B))
  dp : ∀ B, deP (o :: (T ++ B)) d = some (lN L)
theorem AL.v {o : Ob} {T : Sto} {L : List Nm} : AL (.v (lN L)) o T L := ⟨fun B => ⟨none, rfl, own_none⟩, fun B => rfl⟩
theorem AL.r {o : Ob} {T B : Sto} {L : List Nm} {j : Nat} (h : B[j]? = some (.lst (L.map nP))) : AL (.r (bx T j)) o (T ++ B) L := by
  have h2 : ∀ B2 : Sto, (B ++ B2)[j]? = some (.lst (L.map nP)) := fun B2 => by
    rw [List.getElem?_append_left (lt_of_at h)]
    exact h
  refine ⟨fun B2 => ⟨some (bx T j), ?_, ?_⟩, fun B2 => ?_⟩
  · rw [List.append_assoc]
    exact seq_bx (h2 B2)
  · rw [List.append_assoc]
    exact own_bx (h2 B2)
  · rw [List.append_assoc]
    exact deP_bx (h2 B2)
theorem law_reasonsA {o : Ob} {T : Sto} {rs : List Rw} {ms : List Nm} {x : Nm} {d : D} (h : WOk rs) (hm : MOk rs ms) (hx : x ∈ nm rs) (hd : AL d o T ms) : F__law_reasons [.v (wkP rs), d, .v (nP x)] (o :: T) = .ok (.v (.lst (RS rs ms x))) (o :: T) := by
  have hl := h.len
  have hsl := h.se _ (rowOf_mem hx).1
  have h1 := List.length_filter_le (fun q : Rw => decide (x ∈ q.ne) && decide (q.x ∈ ms)) rs
  have h2 := List.length_filter_le (fun y => decide (y ∈ ms)) (rowOf rs x).se
  have hpl := (rawF_perm (x := x) h hm).length_eq
  have hrl := raw_len (ms := ms) h (by have := hm.len h; omega) hx
  have hdp := hd.dp
  refine e_run ?_
  show (FB.B__law_reasons [some (.v (wkP rs)), some d, some (.v (nP x)), none, none, none, none, none, none, none] _).F _
  unfold FB.B__law_reasons
  refine s_Seq (s_SetE (d := .v (rwP (rowOf rs x))) (S1 := o :: (T ++ [])) (e_call (e_cons (e_var rfl) (e_cons (e_var rfl) e_nil)) (law_row h hx)) (by repeat' array_get_dec) ?_)
  have em : pMul (.lst [.tup [.str "ability"]]) (.int (if (!has "undo" (rowOf rs x).ab) = true then 1 else 0)) = some (.lst ((abil (rowOf rs x)).map rsP)) := by
    unfold abil
    cases has "undo" (rowOf rs x).ab <;> rfl
  have h5 : (abil (rowOf rs x)).length ≤ 1 := by
    unfold abil
    split <;> simp
  have es := srt_rs (l := rawF rs ms x) (by omega)
  have er : srt ((rawF rs ms x).map rsP) = RS rs ms x := srt_rs_perm (rawF_perm h hm)
  rw [er] at es
  unfold rawF at es
  rw [List.map_append, List.map_append, List.map_map, List.map_map] at es
  repeat' (first | get_elem_tactic_extensible | (focus ((with_reducible show lift2 pIn _ d _ = _); exact e_l2 rfl (hdp _) o_inLs)) | array_get_dec | exact es)
theorem law_free {o : Ob} {T : Sto} {rs : List Rw} {L kept : List Nm} {d : D} (h : WOk rs) (hm : MOk rs L) (hd : AL d o T L) : F__law_free [.v (wkP rs), d, .v (tN kept)] (o :: T) = .ok (.v (lN (fr rs kept L))) (o :: T) := by
  have hll := hm.len h
  obtain ⟨own, h1, h2⟩ := hd.sq []
  refine e_run ?_
  show (B__law_free [some (.v (wkP rs)), some d, some (.v (tN kept)), none] _).F _
  unfold B__law_free
  have hd0 : AL d o (T ++ []) L := by rw [List.append_nil]; exact hd
  refine s_RetE (S1 := o :: (T ++ [])) (e_lc (xs := L) (f := nP) (own := own) (q := fun x => !decide (x ∈ kept) && decide (raw rs L x = [])) (hh := nP) (S1 := o :: (T ++ [])) (e_iv (e_var rfl) h1) h2 (by omega) fun x hx => e_body e_gNm (e_and (e_tru (e_f2 (e_var rfl) (e_var rfl) (e_l2 rfl rfl o_niT)) rfl rfl) fun _ => e_tru (e_f2 (e_call (e_cons (e_var rfl) (e_cons (e_var rfl) (e_cons (e_var rfl) e_nil))) (law_reasonsA h hm (hm.sub x hx) hd0)) (e_lst e_nil v_nil (by decide)) (e_l2 rfl rfl RS_eqL)) rfl rfl) fun _ => e_var rfl) (e_closeT ?_)
  unfold lN fr free
  rw [List.filter_filter]
/-! all orders -/
noncomputable def ords (rs : List Rw) (kept : List Nm) : Nat → List Nm → List (List Nm)
  | 0, _ => [[]]
  | n + 1, L => if fr rs kept L = [] then [[]] else (fr rs kept L).flatMap fun x => (ords rs kept n (wo L x)).map (x :: ·)
theorem fr_len {rs : List Rw} {kept L : List Nm} : (fr rs kept L).length ≤ L.length := fr_sub.length_le
theorem flat_len {α β : Type} {f : α → List β} {k : Nat} : ∀ {xs : List α}, (∀ x ∈ xs, (f x).length ≤ k) → (xs.flatMap f).length ≤ xs.length * k
  | [], _ => by simp
  | x :: xs, h => by
    rw [List.flatMap_cons, List.length_append, List.length_cons, Nat.succ_mul]
    have h1 := h x (List.mem_cons_self ..)
    have h2 := flat_len (f := f) (k := k) fun y hy => h y (List.mem_cons_of_mem _ hy)
    omega
theorem ords_len {rs : List Rw} {kept : List Nm} : ∀ {n : Nat} {L : List Nm}, L.length ≤ 8 → (ords rs kept n L).length ≤ 8 ^ n
  | 0, _, _ => Nat.le_refl _
  | n + 1, L, h => by
    unfold ords
    split
    · exact Nat.one_le_pow _ _ (by decide)
    · have h1 := flat_len (f := fun x => (ords rs kept n (wo L x)).map (x :: ·)) (k := 8 ^ n) (xs := fr rs kept L) fun x _ => by
        rw [List.length_map]
        exact ords_len (Nat.le_trans (List.length_filter_le _ _) h)
      have h2 := fr_len (rs := rs) (kept := kept) (L := L)
      have h3 : (fr rs kept L).length * 8 ^ n ≤ 8 * 8 ^ n := Nat.mul_le_mul_right _ (by omega)
      rw [Nat.pow_succ, Nat.mul_comm (8 ^ n) 8]
      omega
theorem ords_wlen {rs : List Rw} {kept : List Nm} : ∀ {n : Nat} {L w : List Nm}, w ∈ ords rs kept n L → w.length ≤ n
  | 0, _, w, h => by
    have : w = [] := by simpa [ords] using h
    rw [this]
    exact Nat.zero_le _
  | n + 1, L, w, h => by
    unfold ords at h
    split at h
    · have : w = [] := by simpa using h
      rw [this]
      exact Nat.zero_le _
    · obtain ⟨x, _, h2⟩ := List.mem_flatMap.mp h
      obtain ⟨v, hv, rfl⟩ := List.mem_map.mp h2
      exact Nat.succ_le_succ (ords_wlen hv)
/-! the order by first names -/
theorem py_nP (x : Nm) : pyOf (nP x) = .str x.s := rfl
theorem leT_nil (w : List Nm) : leT [] w = true := by
  unfold leT
  rw [MN.le_lt]
  rw [tN_st, tN_st, py_st, py_st]
  cases w with
  | nil => rw [PySem.W.dataLt_tuple]; decide +kernel
  | cons x xs =>
    rw [PySem.W.dataLt_tuple]
    rfl
theorem leT_cons {x y : Nm} {xs ys : List Nm} (h : x = y ∧ leT xs ys = true ∨ x ≠ y ∧ leN x y = true) : leT (x :: xs) (y :: ys) = true := by
  unfold leT
  rw [MN.le_lt]
  rw [tN_st, tN_st, py_st, py_st, PySem.W.dataLt_tuple]
  rw [List.map_cons, List.map_cons, List.map_cons, List.map_cons, PySem.W.dataLt_cons (by simp [PySem.W.alike])]
  rcases h with ⟨rfl, h⟩ | ⟨hn, h⟩
  · unfold leT at h
    rw [MN.le_lt, tN_st, tN_st, py_st, py_st, PySem.W.dataLt_tuple] at h
    have : PyData.eqv (.str x.s) (.str x.s) = true := by simp [PyData.eqv]
    rw [if_pos this]
    exact h
  · have : ¬ PyData.eqv (.str y.s) (.str x.s) = true := fun e => hn (Nm.inj (by
      have : y.s = x.s := by simpa [PyData.eqv] using e
      exact this.symm))
    rw [if_neg this]
    have h' : PySem.W.dataLe false pyOf (nP x) (nP y) = true := h
    rw [MN.le_lt] at h'
    exact h'
/-! all can be taken in n steps -/
def Fin (rs : List Rw) (kept : List Nm) : Nat → List Nm → Prop
  | 0, L => fr rs kept L = []
  | n + 1, L => ∀ x ∈ fr rs kept L, Fin rs kept n (wo L x)
theorem nodup_len {α : Type} [DecidableEq α] : ∀ (l D : List α), l.Nodup → (∀ x ∈ l, x ∈ D) → l.length ≤ D.length
  | [], _, _, _ => Nat.zero_le _
  | a :: l, D, hn, h => by
    obtain ⟨h1, h2⟩ := List.nodup_cons.mp hn
    have ha := h a (List.mem_cons_self ..)
    have h3 := nodup_len l (D.erase a) h2 fun x hx => by
      have hne : x ≠ a := fun e => h1 (e ▸ hx)
      exact (List.mem_erase_of_ne hne).mpr (h x (List.mem_cons_of_mem _ hx))
    rw [List.length_erase_of_mem ha] at h3
    have := List.length_pos_of_mem ha
    rw [List.length_cons]
    omega
theorem fin_of {rs : List Rw} {kept ms : List Nm} (hn : ms.Nodup) : ∀ {n : Nat} {L : List Nm}, L.Sublist ms → (∀ m, InCore rs kept ms m → m ∈ L) → L.length ≤ (core rs kept ms).length + n → Fin rs kept n L
  | 0, L, hs, hc, hl => by
    show fr rs kept L = []
    refine List.eq_nil_iff_forall_not_mem.mpr fun x hx => ?_
    have h1 := nodup_len (core rs kept ms) (wo L x) (hn.sublist core_sub) fun m hm => core_step hc hx m (mem_core.mp hm)
    have h2 := wo_len (hn.sublist hs) (mem_fr.mp hx).1
    omega
  | n + 1, L, hs, hc, hl => fun x hx => by
    have h2 := wo_len (hn.sublist hs) (mem_fr.mp hx).1
    exact fin_of hn (List.filter_sublist.trans hs) (core_step hc hx) (by omega)
theorem ord_least {rs : List Rw} {kept : List Nm} : ∀ {n m : Nat} {L : List Nm}, Asc L → L.length ≤ m → Fin rs kept n L → ordF rs kept m L ∈ ords rs kept n L ∧ ∀ y ∈ ords rs kept n L, leT (ordF rs kept m L) y = true
  | 0, m, L, ha, hl, hf => by
    have e : ordF rs kept m L = [] := by
      cases m with
      | zero => rfl
      | succ m =>
        unfold ordF
        rw [show fr rs kept L = [] from hf]
    rw [e]
    exact ⟨List.mem_singleton.mpr rfl, fun y _ => leT_nil y⟩
  | n + 1, m, L, ha, hl, hf => by
    cases hfr : fr rs kept L with
    | nil =>
      have e : ordF rs kept m L = [] := by
        cases m with
        | zero => rfl
        | succ m =>
          unfold ordF
          rw [hfr]
      rw [e]
      unfold ords
      rw [if_pos hfr]
      exact ⟨List.mem_singleton.mpr rfl, fun y _ => leT_nil y⟩
    | cons x rest =>
      have hx : x ∈ fr rs kept L := by rw [hfr]; exact List.mem_cons_self ..
      have hxL := (mem_fr.mp hx).1
      have hw := wo_len ha.nd hxL
      obtain ⟨k, rfl⟩ : ∃ k, m = k + 1 := ⟨m - 1, by omega⟩
      obtain ⟨i1, i2⟩ := ord_least (n := n) (m := k) (ha.sub List.filter_sublist) (show (wo L x).length ≤ k by omega) (hf x hx)
      have e : ordF rs kept (k + 1) L = x :: ordF rs kept k (wo L x) := by
        show (match fr rs kept L with | [] => [] | x :: _ => x :: ordF rs kept k (wo L x)) = _
        rw [hfr]
      have ho : ords rs kept (n + 1) L = (fr rs kept L).flatMap fun x => (ords rs kept n (wo L x)).map (x :: ·) := by
        show (if _ then _ else _) = _
        rw [if_neg (by rw [hfr]; exact fun z => by cases z)]
      rw [e, ho]
      refine ⟨List.mem_flatMap.mpr ⟨x, hx, List.mem_map_of_mem i1⟩, fun y hy => ?_⟩
      obtain ⟨z, hz, hy⟩ := List.mem_flatMap.mp hy
      obtain ⟨v, hv, rfl⟩ := List.mem_map.mp hy
      by_cases hxz : x = z
      · subst hxz
        exact leT_cons (.inl ⟨rfl, i2 v hv⟩)
      · refine leT_cons (.inr ⟨hxz, ?_⟩)
        have hasc : Asc (fr rs kept L) := ha.sub fr_sub
        rw [hfr] at hasc hz
        rcases List.mem_cons.mp hz with e | hz
        · exact absurd e.symm hxz
        · exact hasc.head z hz
theorem e_iteB {t : FT} {f g : FE} {env : Dnv} {S S1 : Sto} {d : D} {k : Bool} (h1 : t env S = .ok k S) (h2 : k = true → f env S = .ok d S1) (h3 : k = false → g env S = .ok d S1) : fIte t f g env S = .ok d S1 := by
  unfold fIte
  rw [h1]
  show (if k = true then f env S else g env S) = _
  cases k with
  | true => rw [if_pos rfl]; exact h2 rfl
  | false => rw [if_neg (by decide)]; exact h3 rfl
theorem law_orders {rs : List Rw} {kept : List Nm} (h : WOk rs) {o : Ob} : ∀ {n k : Nat} {T : Sto} {L : List Nm} {d : D}, MOk rs L → L.length ≤ 8 → n ≤ 5 → Fin rs kept n L → AL d o T L → F__law_orders (k + n + 1) [.v (wkP rs), d, .v (tN kept)] (o :: T) = .ok (.v (.lst ((ords rs kept n L).map tN))) (o :: T)
  | n, k, T, L, d, hm, h8, hn5, hf, hd => by
    have cf := law_free (kept := kept) h hm hd
    have hfl := fr_len (rs := rs) (kept := kept) (L := L)
    refine e_run ?_
    show (B__law_orders (F__law_orders (k + n)) [some (.v (wkP rs)), some d, some (.v (tN kept)), none, none, none, none, none, none] _).F _
    unfold B__law_orders
    have cf' : F__law_free ([.v (wkP rs), d, .v (tN kept)] ++ []) (o :: (T ++ [])) = .ok (.v (lN (fr rs kept L))) (o :: (T ++ [])) := by
      simp only [List.append_nil]
      exact cf
    refine s_Seq (s_Par2 (d := .v (lN (fr rs kept L))) (e := .r (bx T 0)) (S1 := o :: (T ++ [.lst (([] : List (List Nm)).map tN)])) (e_cons (S1 := o :: (T ++ [])) (e_call (ds := [.v (wkP rs), d, .v (tN kept)]) (e_cons (e_var rfl) (e_cons (e_var rfl) (e_cons (e_var rfl) e_nil))) cf') (e_cons (e_lstB (B := []) e_nil v_nil (by decide)) e_nil)) ?_)
    cases hfr : fr rs kept L with
    | nil =>
      refine s_Seq (s_ForE (z := (([] : List Nm).map nP, none)) (S1 := o :: (T ++ [.lst (([] : List (List Nm)).map tN)])) (e_iv (e_var rfl) rfl) ?_)
      refine s_Loop (fun i env S => ∃ e5 e6 e7 e8 : Option D, env = [some (.v (wkP rs)), some d, some (.v (tN kept)), some (.v (lN [])), some (.r (bx T 0)), e5, e6, e7, e8] ∧ S = o :: (T ++ [.lst (([] : List (List Nm)).map tN)]))
        ⟨_, _, _, _, rfl, rfl⟩ (fun _ _ _ _ => own_none) ?_ ?_
      · rintro i p env S hi _
        have hi' : ([] : List P)[i]? = some p := hi
        simp at hi'
      · rintro env S ⟨e5, e6, e7, e8, rfl, rfl⟩
        dsimp only
        have eo : ords rs kept n L = [[]] := by
          cases n with
          | zero => rfl
          | succ n => show (if _ then _ else _) = _; rw [if_pos hfr]
        rw [eo]
        exact s_RetE (d := .v (.lst [.tup []])) (e_iteB (k := false) (e_tru (e_f2 (e_var rfl) (e_lst e_nil v_nil (by decide)) (e_l2 rfl rfl (o_neLs0 (xs := [])))) rfl rfl) (fun z => by cases z) fun _ => e_lst (ds := [.v (.tup [])]) (e_cons (e_tup (ds := []) e_nil rfl (by show (0 : Nat) ≤ 100000; decide)) e_nil) rfl (by show (1 : Nat) ≤ 100000; decide)) e_close
    | cons x0 rest =>
      rw [← hfr]
      have hne : fr rs kept L ≠ [] := by rw [hfr]; exact fun z => by cases z
      obtain ⟨n', rfl⟩ : ∃ n', n = n' + 1 := by
        cases n with
        | zero => exact absurd hf hne
        | succ n' => exact ⟨n', rfl⟩
      have hpow : 8 ^ n' ≤ 4096 := Nat.pow_le_pow_right (by decide) (show n' ≤ 4 by omega)
      have eo : ords rs kept (n' + 1) L = (fr rs kept L).flatMap fun x => (ords rs kept n' (wo L x)).map (x :: ·) := by
        show (if _ then _ else _) = _
        rw [if_neg hne]
      have hlen : ∀ xs : List Nm, xs.length ≤ 8 → (xs.flatMap fun x => (ords rs kept n' (wo L x)).map (x :: ·)).length ≤ 8 * 4096 := fun xs hx => by
        have := flat_len (f := fun x => (ords rs kept n' (wo L x)).map (x :: ·)) (k := 4096) (xs := xs) fun x _ => by
          rw [List.length_map]
          exact Nat.le_trans (ords_len (Nat.le_trans (List.length_filter_le _ _) h8)) hpow
        exact Nat.le_trans this (Nat.mul_le_mul_right _ hx)
      refine s_Seq (s_ForE (z := ((fr rs kept L).map nP, none)) (S1 := o :: (T ++ [.lst (([] : List (List Nm)).map tN)])) (e_iv (e_var rfl) rfl) ?_)
      refine s_Loop (fun i env S => ∃ e5 e6 e7 e8 : Option D, env = [some (.v (wkP rs)), some d, some (.v (tN kept)), some (.v (lN (fr rs kept L))), some (.r (bx T 0)), e5, e6, e7, e8] ∧ S = o :: (T ++ [Ob.lst ((((fr rs kept L).take i).flatMap fun x => (ords rs kept n' (wo L x)).map (x :: ·)).map tN)]))
        ⟨_, _, _, _, rfl, rfl⟩ (fun _ _ _ _ => own_none) ?_ ?_
      · rintro i p env S hi ⟨e5, e6, e7, e8, rfl, rfl⟩
        have hi' : ((fr rs kept L).map nP)[i]? = some p := hi
        rw [List.getElem?_map] at hi'
        obtain ⟨x, hx, rfl⟩ := Option.map_eq_some_iff.mp hi'
        have hxm := List.mem_of_getElem? hx
        have e2 : (fr rs kept L).take (i + 1) = (fr rs kept L).take i ++ [x] := by
          rw [List.take_add_one, hx]
          rfl
        have hl1 := hlen ((fr rs kept L).take i) (by rw [List.length_take]; omega)
        have hl2 : (ords rs kept n' (wo L x)).length ≤ 4096 := Nat.le_trans (ords_len (Nat.le_trans (List.length_filter_le _ _) h8)) hpow
        have hmw : MOk rs (wo L x) := hm.filter _
        obtain ⟨own, s1, s2⟩ := hd.sq [Ob.lst ((((fr rs kept L).take i).flatMap fun x => (ords rs kept n' (wo L x)).map (x :: ·)).map tN)]
        refine P_of e_gNm ?_
        unfold L__law_orders_0
        refine s_Seq (s_SetE (d := .v (lN (wo L x))) (S1 := o :: (T ++ [Ob.lst ((((fr rs kept L).take i).flatMap fun x => (ords rs kept n' (wo L x)).map (x :: ·)).map tN)])) (e_lc (xs := L) (f := nP) (own := own) (q := fun y => !decide (y = x)) (hh := nP) (e_iv (e_var rfl) s1) s2 (by omega) fun y hy => e_body e_gNm (e_tru (e_f2 (e_var rfl) (e_var rfl) (e_l2 rfl rfl o_neN)) rfl rfl) fun _ => e_var rfl) e_gNm ?_)
        have cr : ∀ T : Sto, F__law_orders (k + (n' + 1)) ([.v (wkP rs), .v (lN (wo L x)), .v (tN kept)] ++ []) (o :: T) = .ok (.v (.lst ((ords rs kept n' (wo L x)).map tN))) (o :: T) := fun T => law_orders h (n := n') (k := k) hmw (Nat.le_trans (List.length_filter_le _ _) h8) (by omega) (hf x hxm) AL.v
        refine s_DropE (e_mt (j := 0) rfl rfl (ds := [.v (.lst ((ords rs kept n' (wo L x)).map fun w => tN (x :: w)))]) (e_cons (e_lcA (xs := ords rs kept n' (wo L x)) (f := tN) (own := none) (hh := fun w => tN (x :: w)) (S1 := o :: (T ++ [Ob.lst ((((fr rs kept L).take i).flatMap fun x => (ords rs kept n' (wo L x)).map (x :: ·)).map tN)])) (e_iv (e_call (ds := [.v (wkP rs), .v (lN (wo L x)), .v (tN kept)]) (e_cons (e_var rfl) (e_cons (e_var rfl) (e_cons (e_var rfl) e_nil))) (cr _)) rfl) own_none (by omega) fun w hw => e_body e_gNm e_yes fun _ => e_f2 (e_tup (ds := [.v (nP x)]) (e_cons (e_var rfl) e_nil) rfl (by show (1 : Nat) ≤ 100000; decide)) (e_var rfl) (e_l2 rfl rfl (o_addT (xs := [x]) (by have := ords_wlen hw; rw [List.length_singleton]; omega)))) e_nil) (o_ext rfl (by rw [List.length_map, List.length_map]; omega))) ⟨some (.v (nP x)), _, _, _, rfl, ?_⟩
        rw [e2, List.flatMap_append, List.map_append]
        simp only [List.flatMap_cons, List.flatMap_nil, List.append_nil, List.map_map]
        rfl
      · rintro env S ⟨e5, e6, e7, e8, rfl, rfl⟩
        rw [show (List.map nP (fr rs kept L)).length = (fr rs kept L).length by simp, List.take_length, ← eo]
        dsimp only
        refine s_RetE (d := .r (bx T 0)) (S1 := o :: (T ++ [Ob.lst ((ords rs kept (n' + 1) L).map tN)])) (e_iteB (k := true) ?_ (fun _ => e_var rfl) fun z => by cases z) (e_closeL rfl)
        have := o_neLs0 (xs := fr rs kept L)
        rw [decide_eq_false hne] at this
        exact e_tru (e_f2 (e_var rfl) (e_lst e_nil v_nil (by decide)) (e_l2 rfl rfl this)) rfl rfl
end K19

namespace K19
open PySem PySem.Spec PyProof.Rows L2 DL GA FN
open FB (F__law_draw F__law_subset F__law_names F__law_abilities F__law_job F__law_all F__law_row F__law_reasons F__law_feed)
open FN (F__law_core)
/-- the running of a text on data -/
local macro_rules | `(tactic| trivial) => `(tactic| first
  | with_reducible refine s_Seq ?_
  | with_reducible refine s_Set ?_
  | with_reducible refine s_If ?_
  | with_reducible refine s_Drop ?_
  | with_reducible refine s_Ret ?_
  | with_reducible refine s_Par ?_
  | with_reducible refine s_For ?_
  | with_reducible refine s_Nx ?_
  | with_reducible refine p_f2 ?_
  | ((with_reducible apply p_var); (exact rfl))
  | with_reducible refine p_c ?_
  | with_reducible refine p_gNm ?_
  | with_reducible refine p_gSb ?_
  | with_reducible refine p_tru ?_
  | with_reducible refine p_and ?_
  | with_reducible refine p_or ?_
  | with_reducible refine p_not ?_
  | with_reducible refine p_yes ?_
  | with_reducible refine p_ite ?_
  | with_reducible refine p_cons ?_
  | with_reducible refine p_nil ?_
  | with_reducible refine p_cb ?_
  | with_reducible refine p_cbB ?_
  | with_reducible refine p_tup ?_
  | with_reducible refine p_lst ?_
  | with_reducible refine p_lstB ?_
  | with_reducible refine p_lc ?_
  | with_reducible refine p_dc ?_
  | with_reducible refine p_sl ?_
  | with_reducible refine p_oNo ?_
  | with_reducible refine c_oAt ?_
  | with_reducible refine c_atE ?_
  | ((with_reducible apply p_slE); (first | exact rfl | exact deP_bx rfl); (exact rfl))
  | with_reducible refine p_call ?_
  | with_reducible refine p_callN ?_
  | with_reducible refine s_ParE ?_
  | with_reducible refine c_iv ?_
  | with_reducible refine c_rg ?_
  | ((with_reducible apply c_mt); (exact rfl); (exact rfl))
  | with_reducible refine c_ret ?_
  | with_reducible refine p_closeV ?_
  | with_reducible refine p_closeK ?_
  | with_reducible refine ff ?_
  | with_reducible refine tt ?_
  | with_reducible refine nff ?_
  | with_reducible refine ntt ?_
  | with_reducible refine ndt (fun _ => ?_) (fun _ => ?_)
  | with_reducible refine dt (fun _ => ?_) (fun _ => ?_)
  | ((with_reducible apply p_l2); (first | exact rfl | exact deP_bx rfl); (first | exact rfl | exact deP_bx rfl); (first | assumption | exact rfl | exact mod_ok (by omega) | exact fdiv_ok (by omega) (by omega) | exact mul_ok (by omega) (by omega) | exact pow_ok (by omega) (by omega) (by omega)))
  | ((with_reducible apply p_truE); (first | exact rfl | exact deP_bx rfl); (exact rfl))
  | ((with_reducible apply p_cbE); (repeat (first | exact a_nil | (apply a_cons; first | exact rfl | exact deP_bx rfl))); (first | assumption | exact rfl))
  | ((with_reducible apply c_cbB); (repeat (first | exact a_nil | (apply a_cons; first | exact rfl | exact deP_bx rfl))); (first | assumption | exact rfl))
  | ((with_reducible apply p_lstE); (repeat (first | exact v_nil | apply v_cons)); (focus (show _ ≤ (100000 : Nat); first | decide | (simp; done) | (simp; omega))))
  | ((with_reducible apply p_tupE); (repeat (first | exact v_nil | apply v_cons)); (focus (show _ ≤ (100000 : Nat); first | decide | (simp; done) | (simp; omega))))
  | ((with_reducible apply c_lstB); (repeat (first | exact v_nil | apply v_cons)); (focus (show _ ≤ (100000 : Nat); first | decide | (simp; done) | (simp; omega))))
  | ((with_reducible apply c_ivE); (first | exact rfl | exact seq_bx rfl))
  | ((with_reducible apply p_sbL); (exact rfl); (exact rfl)))


/-- the value of a text, found -/
local macro_rules | `(tactic| array_get_dec) => `(tactic| first
  | (focus ((with_reducible (show deP _ _ = _)); exact rfl))
  | (focus ((with_reducible (show seqOf _ _ = _)); exact rfl))
  | (focus ((with_reducible (show truP _ = _)); exact rfl))
  | (focus ((with_reducible (show pIx _ _ = _)); exact rfl))
  | (focus ((with_reducible (show pKey _ = _)); exact rfl))
  | (focus ((with_reducible (show bLen _ = _)); exact rfl))
  | (focus ((with_reducible (show bInt _ = _)); exact rfl))
  | (focus ((with_reducible (show bList _ = _)); exact rfl))
  | (focus ((with_reducible (show pAdd (.int _) (.int _) = _)); exact rfl))
  | (focus ((with_reducible (show pSub (.int _) (.int _) = _)); exact rfl))
  | (focus ((with_reducible (show pLt (.int _) (.int _) = _)); exact rfl))
  | (focus ((with_reducible (show pLe (.int _) (.int _) = _)); exact rfl))
  | (focus ((with_reducible (show pGt (.int _) (.int _) = _)); exact rfl))
  | (focus ((with_reducible (show pGe (.int _) (.int _) = _)); exact rfl))
  | (focus ((with_reducible (show List.length _ = _)); exact rfl))
  | (focus ((with_reducible (show pSl _ _ _ = _)); exact rfl))
  | (focus ((with_reducible (show pIsN _ _ = _)); exact rfl))
  | (focus ((with_reducible (show pNotN _ _ = _)); exact rfl))
  | (focus ((with_reducible (show pNeg _ = _)); exact rfl))
  | (focus ((with_reducible (show setD _ _ _ _ = _)); exact rfl))
  | with_reducible exact rfl)
local macro_rules | `(tactic| array_get_dec) => `(tactic| first
  | (focus ((with_reducible show _ = _); with_reducible assumption))
  | (focus (with_reducible apply e_l2))
  | with_reducible exact o_eqN
  | with_reducible exact o_neN
  | with_reducible exact o_eqT
  | with_reducible exact o_neT
  | with_reducible exact o_eqT0
  | with_reducible exact o_neT0
  | with_reducible exact o_eqLs0
  | with_reducible exact o_neLs0
  | with_reducible exact o_inT
  | with_reducible exact o_inLs
  | with_reducible exact o_niT
  | with_reducible exact o_niLs
  | with_reducible exact o_eqI
  | with_reducible exact o_neI
  | with_reducible exact o_eqL (by decide +kernel)
  | with_reducible exact o_neL (by decide +kernel)
  | with_reducible exact o_inW (by decide +kernel)
  | with_reducible exact o_niW (by decide +kernel)
  | with_reducible exact o_in1 (by decide +kernel)
  | with_reducible exact o_in2 (by decide +kernel) (by decide +kernel)
  | with_reducible exact o_in3 (by decide +kernel) (by decide +kernel) (by decide +kernel)
  | with_reducible exact o_ni1 (by decide +kernel)
  | with_reducible exact o_ni2 (by decide +kernel) (by decide +kernel)
  | with_reducible exact o_addT1 (by first | omega | (simp; omega))
  | with_reducible exact o_addT (by first | omega | (simp; omega))
  | with_reducible exact o_addLs (by first | omega | (simp; omega))
  | with_reducible exact o_addTp (by first | omega | (simp; omega))
  | with_reducible exact o_tupleN
  | with_reducible exact o_tuple)
local macro_rules | `(tactic| array_get_dec) => `(tactic| first
  | with_reducible exact e_c
  | ((with_reducible apply e_var); (exact rfl))
  | with_reducible apply e_f2
  | with_reducible exact e_nil
  | with_reducible apply e_cons
  | with_reducible apply e_tup
  | with_reducible apply e_lst
  | with_reducible apply e_lstB
  | with_reducible apply e_cb
  | with_reducible apply e_cbB
  | with_reducible apply e_tru
  | with_reducible exact e_yes
  | with_reducible apply e_and
  | with_reducible apply e_or
  | with_reducible apply e_not
  | with_reducible apply e_iteB
  | with_reducible apply e_ite
  | with_reducible apply e_andV
  | with_reducible apply e_orV
  | with_reducible apply e_notV
  | with_reducible apply e_f1
  | with_reducible apply e_call
  | with_reducible apply e_callN
  | with_reducible apply e_sl
  | with_reducible exact e_oNo
  | with_reducible apply e_oAt
  | with_reducible apply e_iv
  | with_reducible apply e_lcA
  | with_reducible apply e_lc
  | with_reducible apply e_lcB
  | with_reducible apply e_rg
  | with_reducible apply e_rg2
  | ((with_reducible apply e_mt); (exact rfl); (exact rfl))
  | with_reducible exact e_gNm
  | with_reducible exact e_gNl
  | with_reducible apply e_gCn
  | (focus ((with_reducible (show gTp _ _ _ _ _ = _)); (apply e_gTp); (exact rfl)))
  | (with_reducible (intro _ _; apply e_body))
  | with_reducible exact v_nil
  | with_reducible apply v_cons
  | with_reducible exact a_nil
  | ((with_reducible apply a_cons); (first | exact deP_bx rfl | exact deP_bxD rfl | exact rfl))
  | with_reducible exact deP_bx rfl
  | with_reducible exact deP_bxD rfl
  | with_reducible exact own_none
  | with_reducible exact own_bx rfl
  | (focus (show _ ≤ (100000 : Nat); first | decide | omega | (simp; done) | (simp; omega)))
  | (focus (show _ < (100000 : Nat); first | omega | (simp; omega) | (refine Nat.lt_of_le_of_lt (List.length_filter_le _ _) ?_; omega)))
  | with_reducible exact o_app (by first | omega | (simp; omega))
  | with_reducible exact o_ext rfl (by first | omega | (simp; omega))
  | (with_reducible intro _))
/-- the running of a text over values that are found -/
local macro_rules | `(tactic| get_elem_tactic_extensible) => `(tactic| first
  | with_reducible refine s_Seq ?_
  | with_reducible refine s_Nx ?_
  | with_reducible apply e_closeT
  | ((with_reducible apply e_closeLT); (exact rfl))
  | with_reducible apply s_SetE
  | with_reducible apply s_DropE
  | with_reducible apply s_RetE
  | with_reducible apply s_IfE
  | with_reducible apply s_Par2
  | with_reducible apply s_ForE)

theorem o_minN {x : Nm} {rest : List Nm} (h : Asc (x :: rest)) : MN.bMin1 [lN (x :: rest)] = some (nP x) := by
  refine MN.o_min (x := nP x) (xs := rest.map nP) (cmp_nm (x :: rest)) (fun p hp => ?_) (fun p hp => ?_) (List.mem_cons_self ..) fun p hp => ?_
  · obtain ⟨y, _, rfl⟩ := List.mem_map.mp (show p ∈ (x :: rest).map nP from hp)
    exact Nat.zero_le _
  · obtain ⟨y, _, rfl⟩ := List.mem_map.mp (show p ∈ (x :: rest).map nP from hp)
    rfl
  · obtain ⟨y, hy, rfl⟩ := List.mem_map.mp (show p ∈ (x :: rest).map nP from hp)
    rcases List.mem_cons.mp hy with rfl | hy
    · exact MN.le_refl _
    · exact h.head y hy
theorem o_minT {xss : List (List Nm)} {m : List Nm} (hm : m ∈ xss) (h : ∀ y ∈ xss, leT m y = true) : MN.bMin1 [.lst (xss.map tN)] = some (tN m) := by
  cases xss with
  | nil => cases hm
  | cons x xs =>
    refine MN.o_min (x := tN x) (xs := xs.map tN) (cmp_tN (x :: xs)) (fun p hp => ?_) (fun p hp => ?_) (List.mem_map_of_mem (f := tN) hm) fun p hp => ?_
    · obtain ⟨y, _, rfl⟩ := List.mem_map.mp (show p ∈ (x :: xs).map tN from hp)
      have dep : ∀ xs : List Str, PyData.depthAll (xs.map PyData.str) = 0 := fun xs => by
        induction xs with
        | nil => rfl
        | cons x xs ih => simp [PyData.depthAll, PyData.depth, ih]
      rw [tN_st, py_st]
      show PyData.depthAll _ + 1 ≤ 64
      rw [dep]
      omega
    · obtain ⟨y, _, rfl⟩ := List.mem_map.mp (show p ∈ (x :: xs).map tN from hp)
      rw [tN_st, py_st]
      rfl
    · obtain ⟨y, hy, rfl⟩ := List.mem_map.mp (show p ∈ (x :: xs).map tN from hp)
      exact h y hy
theorem o_rem {L : List Nm} {x : Nm} {S : Sto} (hn : L.Nodup) (hx : x ∈ L) : RM.mRemove (L.map nP) [.v (nP x)] S = some (.non, (wo L x).map nP) := by
  have e1 : L.map nP = (L.map (·.s)).map P.str := by rw [List.map_map]; rfl
  have hm : x.s ∈ L.map (·.s) := List.mem_map_of_mem hx
  have hn2 : (L.map (·.s)).Nodup := by
    refine List.pairwise_map.mpr (hn.imp fun hab e => hab (Nm.inj e))
  have e2 : ((L.map (·.s)).erase x.s).map P.str = (wo L x).map nP := by
    rw [hn2.erase_eq_filter, List.filter_map, List.map_map]
    show _ = (L.filter _).map nP
    have : (L.filter ((fun b => b != x.s) ∘ fun y : Nm => y.s)) = L.filter fun y => !decide (y = x) := by
      refine List.filter_congr fun y _ => ?_
      show (!(y.s == x.s)) = !decide (y = x)
      congr 1
      refine boolE ?_
      rw [beq_iff_eq]
      exact ⟨fun e => Nm.inj e, fun e => by rw [e]⟩
    rw [this]
    rfl
  rw [e1]
  show (match ((L.map (·.s)).map P.str).mapM RM.strOf with | some ns => if x.s ∈ ns then some (.non, (ns.erase x.s).map .str) else none | none => none : Option (P × List P)) = _
  rw [RM.mapM_of]
  show (if x.s ∈ L.map (·.s) then _ else _ : Option (P × List P)) = _
  rw [if_pos hm, e2]
theorem o_last {ac : List Nm} {x : Nm} (hl : ac.length ≤ 1000) : pIx (.lst ((ac ++ [x]).map nP)) (.int (-1)) = some (nP x) := by
  show atI _ _ = _
  unfold atI ixN
  simp
  rw [if_pos (by omega)]
  show (List.map nP ac ++ [nP x])[(-1 + ((ac.length : Int) + 1)).toNat]? = _
  rw [show (-1 + ((ac.length : Int) + 1)).toNat = (List.map nP ac).length by rw [List.length_map]; omega, List.getElem?_append_right (Nat.le_refl _), Nat.sub_self]
  rfl
theorem bLenT {xs : List Nm} : bLen [tN xs] = some (.int xs.length) := by
  show some (P.int (xs.map nP).length) = _
  rw [List.length_map]
theorem least_order {o : Ob} {T : Sto} {rs : List Rw} {ms kept : List Nm} (h : WOk rs) (hm : MOk rs ms) (ha : Asc ms) (h8 : ms.length ≤ 8) : F__law_least_order [.v (wkP rs), .v (tN ms), .v (tN kept)] (o :: T) = .ok (.v (tN (ord rs kept ms))) (o :: T) := by
  have hcl : (core rs kept ms).length ≤ ms.length := core_sub.length_le
  refine e_run ?_
  show (B__law_least_order [some (.v (wkP rs)), some (.v (tN ms)), some (.v (tN kept)), none, none] _).F _
  unfold B__law_least_order
  have cC : ∀ T : Sto, FN.F__law_core ([.v (wkP rs), .v (tN ms), .v (tN kept)] ++ []) (o :: T) = .ok (.v (tN (core rs kept ms))) (o :: T) := fun T => law_core h hm
  refine s_Seq (s_Par2 (d := .r (bx T 0)) (e := .r (bx T 1)) (S1 := o :: (T ++ [Ob.lst (ms.map nP), Ob.lst (([] : List Nm).map nP)])) (e_cons (S1 := o :: (T ++ [Ob.lst (ms.map nP)])) (e_cbB (B := []) (e_cons (e_var rfl) e_nil) (a_cons rfl a_nil) rfl) (e_cons (e_lstB (B := [Ob.lst (ms.map nP)]) e_nil v_nil (by decide)) e_nil)) ?_)
  refine s_Seq (s_IfE (k := decide (((ms.length : Nat) : Int) - ((core rs kept ms).length : Nat) ≤ 5)) (S1 := o :: (T ++ [Ob.lst (ms.map nP), Ob.lst (([] : List Nm).map nP)])) (e_tru (e_f2 (e_f2 (e_cb (e_cons (e_var rfl) e_nil) (a_cons rfl a_nil) bLenT) (e_cb (e_cons (e_call (ds := [.v (wkP rs), .v (tN ms), .v (tN kept)]) (e_cons (e_var rfl) (e_cons (e_var rfl) (e_cons (e_var rfl) e_nil))) (cC _)) e_nil) (a_cons rfl a_nil) bLenT) (e_l2 rfl rfl rfl)) e_c (e_l2 rfl rfl rfl)) rfl rfl) (fun hk => ?_) fun hk => s_Nx ?_)
  · have hk' := of_decide_eq_true hk
    have hf : Fin rs kept 5 ms := fin_of hm.nd (List.Sublist.refl _) all_in (by omega)
    obtain ⟨m1, m2⟩ := ord_least (n := 5) (m := ms.length) ha (Nat.le_refl _) hf
    have cr : F__law_orders 8 ([.v (wkP rs), .r (bx T 0), .v (tN kept)] ++ []) (o :: (T ++ [Ob.lst (ms.map nP), Ob.lst (([] : List Nm).map nP)])) = .ok (.v (.lst ((ords rs kept 5 ms).map tN))) (o :: (T ++ [Ob.lst (ms.map nP), Ob.lst (([] : List Nm).map nP)])) := law_orders h (n := 5) (k := 2) hm h8 (by decide) hf (AL.r rfl)
    exact s_RetE (e_cb (e_cons (e_call (ds := [.v (wkP rs), .r (bx T 0), .v (tN kept)]) (e_cons (e_var rfl) (e_cons (e_var rfl) (e_cons (e_var rfl) e_nil))) cr) e_nil) (a_cons rfl a_nil) (o_minT m1 m2)) e_close
  · refine s_Seq (s_While (fun n env S => ∃ (ac L : List Nm), env = [some (.v (wkP rs)), some (.v (tN ms)), some (.v (tN kept)), some (.r (bx T 0)), some (.r (bx T 1))] ∧ S = o :: (T ++ [Ob.lst (L.map nP), Ob.lst (ac.map nP)]) ∧
      L.length = n ∧ ac.length + n ≤ 8 ∧ L.Sublist ms ∧ ac ++ ordF rs kept n L = ord rs kept ms) ms.length (by omega)
      ⟨[], ms, rfl, rfl, rfl, by simpa using h8, List.Sublist.refl _, rfl⟩ ?_)
    rintro n env S ⟨ac, L, rfl, rfl, hLn, hol, hLs, hord⟩
    have hL : MOk rs L := hm.subl hLs
    have hLa : Asc L := ha.sub hLs
    have cf : ∀ a2 : List Nm, F__law_free ([.v (wkP rs), .r (bx T 0), .v (tN kept)] ++ []) (o :: (T ++ [Ob.lst (L.map nP), Ob.lst (a2.map nP)])) = .ok (.v (lN (fr rs kept L))) (o :: (T ++ [Ob.lst (L.map nP), Ob.lst (a2.map nP)])) := fun a2 => law_free h hL (AL.r rfl)
    refine P_of (a := !decide (fr rs kept L = [])) (S := o :: (T ++ [Ob.lst (L.map nP), Ob.lst (ac.map nP)])) (e_tru (e_f2 (e_call (ds := [.v (wkP rs), .r (bx T 0), .v (tN kept)]) (e_cons (e_var rfl) (e_cons (e_var rfl) (e_cons (e_var rfl) e_nil))) (cf _)) (e_lst e_nil v_nil (by decide)) (e_l2 rfl rfl o_neLs0)) rfl rfl) ⟨fun z => ?_, fun z => ?_⟩
    · have hne : fr rs kept L ≠ [] := by simpa using z
      obtain ⟨x, rest, hfx⟩ := List.exists_cons_of_ne_nil hne
      have hx := mem_fr.mp (show x ∈ fr rs kept L by rw [hfx]; exact List.mem_cons_self ..)
      have hwl := wo_len hL.nd hx.1
      obtain ⟨k, rfl⟩ : ∃ k, n = k + 1 := ⟨(wo L x).length, by omega⟩
      have hmin : MN.bMin1 [lN (fr rs kept L)] = some (nP x) := by
        rw [hfx]
        exact o_minN (by rw [← hfx]; exact hLa.sub fr_sub)
      unfold L__law_least_order_0
      refine s_Seq (s_DropE (S1 := o :: (T ++ [Ob.lst (L.map nP), Ob.lst (ac.map nP ++ [nP x])])) (d := .v .non) (e_mt (j := 1) rfl rfl (ds := [.v (nP x)]) (e_cons (e_cb (e_cons (e_call (ds := [.v (wkP rs), .r (bx T 0), .v (tN kept)]) (e_cons (e_var rfl) (e_cons (e_var rfl) (e_cons (e_var rfl) e_nil))) (cf _)) e_nil) (a_cons rfl a_nil) hmin) e_nil) (o_app (by rw [List.length_map]; omega))) ?_)
      have el : ac.map nP ++ [nP x] = (ac ++ [x]).map nP := by rw [List.map_append]; rfl
      rw [el]
      refine s_DropE (S1 := o :: (T ++ [Ob.lst ((wo L x).map nP), Ob.lst ((ac ++ [x]).map nP)])) (d := .v .non) (e_mt (j := 0) rfl rfl (ds := [.v (nP x)]) (e_cons (e_f2 (e_var rfl) (e_f1 e_c rfl rfl) (e_l2 (deP_bx (j := 1) rfl) rfl (o_last (by omega)))) e_nil) (o_rem hL.nd hx.1)) ?_
      refine ⟨k, by omega, ac ++ [x], wo L x, rfl, rfl, by omega, by rw [List.length_append, List.length_singleton]; omega, List.filter_sublist.trans hLs, ?_⟩
      rw [← hord]
      simp only [ordF, hfx, List.append_assoc, List.singleton_append]
    · have hfn : fr rs kept L = [] := by simpa using z
      have hord2 : ac = ord rs kept ms := by
        rw [← hord]
        cases n with
        | zero => simp [ordF]
        | succ n => simp [ordF, hfn]
      rw [← hord2]
      exact s_RetE (e_cb (e_cons (e_var rfl) e_nil) (a_cons (deP_bx (j := 1) rfl) a_nil) o_tuple) e_close
theorem agrees {o : Ob} {T : Sto} {rs : List Rw} {ms kept : List Nm} (h : WOk rs) (hs : Shw rs) (hm : MOk rs ms) (ha : Asc ms) (h8 : ms.length ≤ 8) (hk : ∀ k ∈ kept, k ∈ nm rs) (hk8 : kept.length ≤ 8) (ho8 : (ord rs kept ms).length ≤ 8) : F__law_agrees [.v (wkP rs), .v (tN ms), .v (tN kept)] (o :: T) = .ok (.v (.bl true)) (o :: T) := by
  have s1 : Sh 40000 4 (.tup [wkP rs, tN ms, tN kept]) := (sh_tupN (n := 10000) (m := 3) (k := 3) (fun p hpp => by
    simp only [List.mem_cons, List.not_mem_nil, or_false] at hpp
    rcases hpp with rfl | rfl | rfl
    · exact sh_wk hs
    · exact (sh_tN h8).mono (by decide) (by decide)
    · exact (sh_tN hk8).mono (by decide) (by decide)) (by simp)).mono (by decide) (by decide)
  have s3 : Sh 200 1 (tN (ord rs kept ms)) := sh_tN ho8
  have s2 : Sh 2000 2 (.lst [tN (ord rs kept ms), tN (ord rs kept ms)]) := (sh_lstN (n := 200) (m := 1) (k := 2) (fun p hpp => by
    simp only [List.mem_cons, List.not_mem_nil, or_false] at hpp
    rcases hpp with rfl | rfl <;> exact s3) (by simp)).mono (by decide) (by decide)
  have r1 := repr_of s1
  have r2 := repr_of s2
  have r3 := repr_of s3
  have q1 := eq_shw s1
  have q2 := ne_shw s2
  have q3 := ne_shw s3
  have cL : ∀ T : Sto, F__law_least_order ([.v (wkP rs), .v (tN ms), .v (tN kept)] ++ []) (o :: T) = .ok (.v (tN (ord rs kept ms))) (o :: T) := fun T => least_order h hm ha h8
  have cU : ∀ T : Sto, GA.F_undo_order [.v (wkP rs), .v (tN ms), .v (tN kept)] (o :: T) = .ok (.v (tN (ord rs kept ms))) (o :: T) := fun T => GA.undo_order h hm hk
  refine e_run ?_
  show (B__law_agrees [some (.v (wkP rs)), some (.v (tN ms)), some (.v (tN kept)), none, none, none] _).F _
  unfold B__law_agrees
  refine s_Seq (s_Par2 (d := .v (.str (shw (.tup [wkP rs, tN ms, tN kept])))) (e := .v (tN (ord rs kept ms))) (S1 := o :: (T ++ [])) (e_cons (S1 := o :: (T ++ [])) (e_cb (e_cons (e_tup (ds := [.v (wkP rs), .v (tN ms), .v (tN kept)]) (e_cons (e_var rfl) (e_cons (e_var rfl) (e_cons (e_var rfl) e_nil))) rfl (by show (3 : Nat) ≤ 100000; decide)) e_nil) (a_cons rfl a_nil) r1) (e_cons (e_call (ds := [.v (wkP rs), .v (tN ms), .v (tN kept)]) (e_cons (e_var rfl) (e_cons (e_var rfl) (e_cons (e_var rfl) e_nil))) (cL _)) e_nil)) ?_)
  refine s_Seq (s_SetE (d := .v (.lst [tN (ord rs kept ms), tN (ord rs kept ms)])) (S1 := o :: (T ++ [])) (e_lst (ds := [.v (tN (ord rs kept ms)), .v (tN (ord rs kept ms))]) (e_cons (e_callN (e_cons (e_var rfl) (e_cons (e_var rfl) e_nil)) (e_cons (e_var rfl) e_nil) ⟨rfl, rfl⟩ (cU _)) (e_cons (e_callN e_nil (e_cons (e_var rfl) (e_cons (e_var rfl) (e_cons (e_var rfl) e_nil))) ⟨rfl, rfl⟩ (cU _)) e_nil)) rfl (by show (2 : Nat) ≤ 100000; decide)) e_gNm ?_)
  refine s_Seq (s_IfE (k := false) (S1 := o :: (T ++ [])) (e_tru (e_f2 (e_cb (e_cons (e_var rfl) e_nil) (a_cons rfl a_nil) r2) (e_cb (e_cons (e_lst (ds := [.v (tN (ord rs kept ms)), .v (tN (ord rs kept ms))]) (e_cons (e_var rfl) (e_cons (e_var rfl) e_nil)) rfl (by show (2 : Nat) ≤ 100000; decide)) e_nil) (a_cons rfl a_nil) r2) (e_l2 rfl rfl q2)) rfl rfl) (fun z => by cases z) fun _ => s_Nx ?_)
  refine s_Seq (s_IfE (k := decide (kept = []) && false) (S1 := o :: (T ++ [])) (e_and (e_tru (e_f2 (e_var rfl) (e_tup (ds := []) e_nil rfl (by show (0 : Nat) ≤ 100000; decide)) (e_l2 rfl rfl o_eqT0)) rfl rfl) fun hk0 => ?_) (fun z => by rw [Bool.and_false] at z; cases z) fun _ => s_Nx ?_)
  · have e0 := of_decide_eq_true hk0
    subst e0
    have cV : ∀ T : Sto, GA.F_undo_order ([.v (wkP rs), .v (tN ms)] ++ [.v (.tup [])]) (o :: T) = .ok (.v (tN (ord rs [] ms))) (o :: T) := fun T => GA.undo_order0 h hm
    exact e_tru (e_f2 (e_cb (e_cons (e_call (ds := [.v (wkP rs), .v (tN ms)]) (e_cons (e_var rfl) (e_cons (e_var rfl) e_nil)) (cV _)) e_nil) (a_cons rfl a_nil) r3) (e_cb (e_cons (e_var rfl) e_nil) (a_cons rfl a_nil) r3) (e_l2 rfl rfl q3)) rfl rfl
  · exact s_RetE (e_f2 (e_cb (e_cons (e_tup (ds := [.v (wkP rs), .v (tN ms), .v (tN kept)]) (e_cons (e_var rfl) (e_cons (e_var rfl) (e_cons (e_var rfl) e_nil))) rfl (by show (3 : Nat) ≤ 100000; decide)) e_nil) (a_cons rfl a_nil) r1) (e_var rfl) (e_l2 rfl rfl q1)) e_close
theorem ordF_len {rs : List Rw} {kept : List Nm} : ∀ (n : Nat) (L : List Nm), (ordF rs kept n L).length ≤ n
  | 0, _ => Nat.le_refl _
  | n + 1, L => by
    unfold ordF
    split
    · exact Nat.zero_le _
    · exact Nat.succ_le_succ (ordF_len n _)
theorem ord_len {rs : List Rw} {kept ms : List Nm} : (ord rs kept ms).length ≤ ms.length := ordF_len _ _
/-! two works of eight steps -/
def rwc (x : Nm) (se : List Nm) : Rw := ⟨x, [], se, [lit "undo"]⟩
def C8 : Bool → List Rw
  | true => [rwc (lit "a") [lit "b"], rwc (lit "b") [lit "c"], rwc (lit "c") [lit "d"], rwc (lit "d") [lit "e"], rwc (lit "e") [lit "f"], rwc (lit "f") [lit "g"], rwc (lit "g") [lit "h"], rwc (lit "h") []]
  | false => [rwc (lit "a") [], rwc (lit "b") [], rwc (lit "c") [], rwc (lit "d") [], rwc (lit "e") [], rwc (lit "f") [], rwc (lit "g") [], rwc (lit "h") []]
def nth8 (b : Bool) (i : Nat) : P := (((C8 b).map rwP)[i]?).getD .non
def sea8 (b : Bool) (i : Nat) : P := (((C8 b).map fun r => tN r.se)[i]?).getD .non
theorem eight_steps {o : Ob} {T : Sto} {b : Bool} : F__law_eight_steps [.v (.bl b)] (o :: T) = .ok (.v (wkP (C8 b))) (o :: T) := by
  refine e_run ?_
  show (B__law_eight_steps [some (.v (.bl b)), none, none, none] _).F _
  unfold B__law_eight_steps
  refine s_Seq (s_SetE (d := .v (.tup [.str "a", .str "b", .str "c", .str "d", .str "e", .str "f", .str "g", .str "h"])) (S1 := o :: (T ++ [])) (by exact rfl) e_gNm ?_)
  refine s_Seq (s_SetE (d := .v (.lst ((List.range 8).map (sea8 b)))) (S1 := o :: (T ++ [])) (e_lcA (xs := List.range 8) (f := fun i : Nat => P.int (i : Int)) (own := none) (hh := sea8 b) (S1 := o :: (T ++ [])) (e_rg (n := 8) (e_cons e_c e_nil) (by decide) (by decide)) own_none (by decide) fun i hi => e_body e_gNm e_yes fun _ => ?_) e_gNm ?_)
  · have : i < 8 := List.mem_range.mp hi
    cases b <;>
    (match i, this with
    | 0, _ => rfl
    | 1, _ => rfl
    | 2, _ => rfl
    | 3, _ => rfl
    | 4, _ => rfl
    | 5, _ => rfl
    | 6, _ => rfl
    | 7, _ => rfl)
  refine s_RetE (S1 := o :: (T ++ [])) (e_cb (e_cons (e_lcA (xs := List.range 8) (f := fun i : Nat => P.int (i : Int)) (own := none) (hh := nth8 b) (S1 := o :: (T ++ [])) (e_rg (n := 8) (e_cons e_c e_nil) (by decide) (by decide)) own_none (by decide) fun i hi => e_body e_gNm e_yes fun _ => ?_) e_nil) (a_cons rfl a_nil) o_tuple) (e_closeT ?_)
  · have : i < 8 := List.mem_range.mp hi
    cases b <;>
    (match i, this with
    | 0, _ => rfl
    | 1, _ => rfl
    | 2, _ => rfl
    | 3, _ => rfl
    | 4, _ => rfl
    | 5, _ => rfl
    | 6, _ => rfl
    | 7, _ => rfl)
  · cases b <;> rfl
def ascB : List Nm → Bool
  | [] => true
  | x :: xs => xs.all (fun y => leN x y && !decide (x.s = y.s)) && ascB xs
theorem ascB_ok : ∀ {xs : List Nm}, ascB xs = true → Asc xs
  | [], _ => Asc.nil
  | x :: xs, h => by
    obtain ⟨h1, h2⟩ := Bool.and_eq_true_iff.mp (show (xs.all (fun y => leN x y && !decide (x.s = y.s)) && ascB xs) = true from h)
    have h3 := ascB_ok h2
    have h4 : ∀ y ∈ xs, leN x y = true ∧ x ≠ y := fun y hy => by
      obtain ⟨a, b⟩ := Bool.and_eq_true_iff.mp (List.all_eq_true.mp h1 y hy)
      exact ⟨a, fun e => by simp [e] at b⟩
    exact ⟨List.pairwise_cons.mpr ⟨fun y hy => (h4 y hy).1, h3.le⟩, List.nodup_cons.mpr ⟨fun hx => (h4 x hx).2 rfl, h3.nd⟩⟩
theorem pool_asc : Asc poolN := ascB_ok (by decide +kernel)
theorem C8_nm {b : Bool} : nm (C8 b) = [lit "a", lit "b", lit "c", lit "d", lit "e", lit "f", lit "g", lit "h"] := by cases b <;> rfl
theorem C8_asc {b : Bool} : Asc (nm (C8 b)) := by
  rw [C8_nm]
  exact ascB_ok (by decide +kernel)
theorem C8_rw {b : Bool} {r : Rw} (h : r ∈ C8 b) : ∃ x se, r = rwc x se ∧ se.length ≤ 1 := by
  cases b <;>
  · simp only [C8, List.mem_cons, List.not_mem_nil, or_false] at h
    rcases h with rfl | rfl | rfl | rfl | rfl | rfl | rfl | rfl <;> exact ⟨_, _, rfl, by decide⟩
theorem C8_len {b : Bool} : (C8 b).length = 8 := by cases b <;> rfl
theorem C8_wok {b : Bool} : WOk (C8 b) := by
  refine ⟨by rw [C8_len]; decide, fun r hr => ?_, fun r hr => ?_, fun r hr => ?_, C8_asc.nd⟩ <;> obtain ⟨x, se, rfl, hl⟩ := C8_rw hr
  · exact Nat.zero_le _
  · exact Nat.le_trans hl (by decide)
  · show (1 : Nat) ≤ 500; decide
theorem C8_shw {b : Bool} : Shw (C8 b) := by
  refine ⟨by rw [C8_len]; exact Nat.le_refl _, fun r hr => ?_⟩
  obtain ⟨x, se, rfl, hl⟩ := C8_rw hr
  exact ⟨Nat.zero_le _, Nat.le_trans hl (by decide), (by show (1 : Nat) ≤ 8; decide)⟩
theorem mok_nm {rs : List Rw} (h : WOk rs) : MOk rs (nm rs) := ⟨fun _ z => z, h.nd⟩
theorem nm_len {rs : List Rw} : (nm rs).length = rs.length := by unfold nm; rw [List.length_map]
/-- agrees, of all or some of a work's steps -/
theorem agreesA {o : Ob} {T : Sto} {rs : List Rw} {ms kept : List Nm} (h : WOk rs) (hs : Shw rs) (ha : Asc (nm rs)) (hm : ms.Sublist (nm rs)) (hk : kept.Sublist (nm rs)) : F__law_agrees [.v (wkP rs), .v (tN ms), .v (tN kept)] (o :: T) = .ok (.v (.bl true)) (o :: T) := by
  have hnl : (nm rs).length ≤ 8 := by rw [nm_len]; exact hs.1
  have h8 := Nat.le_trans hm.length_le hnl
  exact agrees h hs ((mok_nm h).subl hm) (ha.sub hm) h8 (fun k hk' => hk.subset hk') (Nat.le_trans hk.length_le hnl) (Nat.le_trans ord_len h8)
theorem law_ok : LawOk F_law 63 := by
  intro ns hn
  have main : (F_law [.v (.frz (ns.map P.int))] []).P fun d S => d = .v (.bl true) := by
    refine p_run ?_
    show (B_law [some (.v (.frz (ns.map P.int))), none, none, none, none, none, none, none] _).F _
    unfold B_law
    repeat' trivial
    refine (FB.feed hn).mono ?_
    rintro d S ⟨o, rfl, rfl, hs⟩
    refine p_gNm (s_Seq (s_ForE (z := ([true, false].map P.bl, none)) (S1 := o :: ([] ++ [])) (e_iv (e_tup (ds := [.v (.bl true), .v (.bl false)]) (e_cons e_c (e_cons e_c e_nil)) rfl (by show (2 : Nat) ≤ 100000; decide)) rfl) ?_))
    refine s_Loop (fun i env S => ∃ e2 e3 : Option D, env = [some (.v (.frz (ns.map P.int))), some (.r 0), e2, e3, none, none, none, none] ∧ S = o :: ([] ++ [])) ⟨_, _, rfl, rfl⟩ (fun _ _ _ _ => own_none) ?_ ?_
    · rintro i p env S hi ⟨e2, e3, rfl, rfl⟩
      have hi' : ([true, false].map P.bl)[i]? = some p := hi
      rw [List.getElem?_map] at hi'
      obtain ⟨b, hb, rfl⟩ := Option.map_eq_some_iff.mp hi'
      have cE : F__law_eight_steps ([.v (.bl b)] ++ []) [o] = .ok (.v (wkP (C8 b))) [o] := eight_steps (T := [])
      have cL : FB.F__law_all ([.v (wkP (C8 b))] ++ []) [o] = .ok (.v (tN (nm (C8 b)))) [o] := FN.law_all (T := []) (by rw [C8_len]; decide)
      have cA : F__law_agrees ([.v (wkP (C8 b)), .v (tN (nm (C8 b))), .v (tN [])] ++ []) [o] = .ok (.v (.bl true)) [o] := agreesA (T := []) C8_wok C8_shw C8_asc (List.Sublist.refl _) (List.nil_sublist _)
      have cB : F__law_agrees ([.v (wkP (C8 b)), .v (tN (nm (C8 b))), .v (tN [lit "d"])] ++ []) [o] = .ok (.v (.bl true)) [o] := agreesA (T := []) C8_wok C8_shw C8_asc (List.Sublist.refl _) (List.singleton_sublist.mpr (by rw [C8_nm]; simp))
      refine P_of e_gNm ?_
      unfold L_law_0
      refine s_Seq (s_SetE (S1 := [o]) (e_call (ds := [.v (.bl b)]) (e_cons (e_var rfl) e_nil) cE) e_gNm ?_)
      exact s_IfE (k := false || false) (S1 := [o]) (e_or (e_not (a := true) (e_tru (e_call (ds := [.v (wkP (C8 b)), .v (tN (nm (C8 b))), .v (tN [])]) (e_cons (e_var rfl) (e_cons (e_call (ds := [.v (wkP (C8 b))]) (e_cons (e_var rfl) e_nil) cL) (e_cons (e_tup (ds := []) e_nil rfl (by show (0 : Nat) ≤ 100000; decide)) e_nil))) cA) rfl rfl)) fun _ => e_not (a := true) (e_tru (e_call (ds := [.v (wkP (C8 b)), .v (tN (nm (C8 b))), .v (tN [lit "d"])]) (e_cons (e_var rfl) (e_cons (e_call (ds := [.v (wkP (C8 b))]) (e_cons (e_var rfl) e_nil) cL) (e_cons (e_tup (ds := [.v (nP (lit "d"))]) (e_cons e_c e_nil) rfl (by show (1 : Nat) ≤ 100000; decide)) e_nil))) cB) rfl rfl)) (fun z => by cases z) fun _ => s_Nx ⟨_, _, rfl, rfl⟩
    rintro env S ⟨e2, e3, rfl, rfl⟩
    refine s_Seq ?_
    repeat' trivial
    refine c_rgE (by decide) (by decide) ?_
    refine s_Loop (fun i env S => ∃ (o : Ob) (e2 e3 e4 e5 e6 e7 : Option D), env = [some (.v (.frz (ns.map P.int))), some (.r 0), e2, e3, e4, e5, e6, e7] ∧ S = o :: ([] ++ []) ∧ SOB (2000 * i) o)
      ⟨o, _, _, _, _, _, _, rfl, rfl, by simpa using hs⟩ (fun _ _ _ _ => own_none) ?_ ?_
    · rintro i p env S hi ⟨o, e2, e3, e4, e5, e6, e7, rfl, rfl, hs⟩
      obtain ⟨hi1, rfl⟩ := rgP_at hi
      have hi2 : i < 5 := hi1
      unfold L_law_3
      repeat' trivial
      refine FN.job hs (by omega) (by decide) (by decide) fun rs o J hr1 hr2 hs => ?_
      have hl8 := J.len
      have W := J.wok
      have hasc : Asc (nm rs) := pool_asc.sub J.names
      have hnl : (nm rs).length ≤ 8 := by rw [nm_len]; exact hl8
      repeat' trivial
      refine P_of (FN.law_all (T := []) (by omega)) ?_
      repeat' trivial
      refine FN.subset hs (by omega) (by omega) fun ys o' hsub hs' => ?_
      repeat' trivial
      have hmem : ∀ ms ∈ [nm rs, ys], ms.Sublist (nm rs) := fun ms hms => by
        simp only [List.mem_cons, List.not_mem_nil, or_false] at hms
        rcases hms with rfl | rfl
        · exact List.Sublist.refl _
        · exact hsub
      refine s_Loop (fun j env S => ∃ (o : Ob) (e6 e7 : Option D), env = [some (.v (.frz (ns.map P.int))), some (.r 0), e2, some (.v (wkP rs)), some (.v (.int i)), some (.v (tN (nm rs))), e6, e7] ∧ S = o :: ([] ++ []) ∧ SOB (2000 * i + 1100 + 100 * j) o)
        ⟨o', _, _, rfl, rfl, hs'.mono (by omega)⟩ (fun _ _ _ _ => own_none) ?_ ?_
      · rintro j p env S hj ⟨o, e6, e7, rfl, rfl, hs⟩
        have hj' : ([nm rs, ys].map tN)[j]? = some p := hj
        rw [List.getElem?_map] at hj'
        obtain ⟨ms, hms, rfl⟩ := Option.map_eq_some_iff.mp hj'
        have hsm := hmem ms (List.mem_of_getElem? hms)
        have hj2 : j < 2 := lt_of_at hms
        refine P_of e_gNm ?_
        unfold L_law_2
        repeat' trivial
        refine FN.subset hs (by omega) (by omega) fun zs o2 hsub2 hs2 => ?_
        repeat' trivial
        have hmem2 : ∀ ks ∈ [[], zs], ks.Sublist (nm rs) := fun ks hks => by
          simp only [List.mem_cons, List.not_mem_nil, or_false] at hks
          rcases hks with rfl | rfl
          · exact List.nil_sublist _
          · exact hsub2
        refine s_Loop (fun l env S => ∃ e7 : Option D, env = [some (.v (.frz (ns.map P.int))), some (.r 0), e2, some (.v (wkP rs)), some (.v (.int i)), some (.v (tN (nm rs))), some (.v (tN ms)), e7] ∧ S = o2 :: ([] ++ []))
          ⟨_, rfl, rfl⟩ (fun _ _ _ _ => own_none) ?_ ?_
        · rintro l p env S hl ⟨e7, rfl, rfl⟩
          have hl' : ([[], zs].map tN)[l]? = some p := hl
          rw [List.getElem?_map] at hl'
          obtain ⟨ks, hks, rfl⟩ := Option.map_eq_some_iff.mp hl'
          have hsk := hmem2 ks (List.mem_of_getElem? hks)
          have cA : F__law_agrees ([.v (wkP rs), .v (tN ms), .v (tN ks)] ++ []) [o2] = .ok (.v (.bl true)) [o2] := agreesA (T := []) W J.shw hasc hsm hsk
          refine P_of e_gNm ?_
          unfold L_law_1
          exact s_IfE (k := false) (S1 := [o2]) (e_not (a := true) (e_tru (e_call (ds := [.v (wkP rs), .v (tN ms), .v (tN ks)]) (e_cons (e_var rfl) (e_cons (e_var rfl) (e_cons (e_var rfl) e_nil))) cA) rfl rfl)) (fun z => by cases z) fun _ => s_Nx ⟨_, rfl, rfl⟩
        · rintro env S ⟨e7, rfl, rfl⟩
          exact ⟨o2, _, _, rfl, rfl, hs2.mono (by omega)⟩
      · rintro env S ⟨o, e6, e7, rfl, rfl, hs⟩
        have hs : SOB (2000 * i + 1100 + 100 * 2) o := hs
        exact ⟨o, _, _, _, _, _, _, rfl, rfl, hs.mono (by omega)⟩
    · rintro env S ⟨o, e2, e3, e4, e5, e6, e7, rfl, rfl, hs⟩
      repeat' trivial
  obtain ⟨d, S', e, rfl⟩ := main.ex
  exact ⟨S', e⟩
end K19

open PySem PySem.W PySem.Calls PyProof.Rows
theorem PySem.Challenge.cw_maybedone_k19_undo_orders_told_holds : PySem.Challenge.rw_maybedone_k19_undo_orders_told.Holds := by
  w_on; o_law
  refine HandSHeadRun.head_any (r := OpenLaw.row PySem.Challenge.rw_maybedone_k19_undo_orders_told) (q := view (OpenLaw.row PySem.Challenge.rw_maybedone_k19_undo_orders_told).prog [30]) (H := K19.hk) (ob := K19.ob) (M := 4000) (loose := K19.lo) (d := HandSHeadRun.topDef (OpenLaw.row PySem.Challenge.rw_maybedone_k19_undo_orders_told).prog 30) (kwd := []) K19.ob_eq
    (by kernel_rfl) (fun s => by kernel_rfl) K19.run (by kernel_rfl) (by kernel_rfl) (by kernel_rfl) (by rfl) (by first | assumption | decide +kernel) (by decide +kernel) ⟨rfl, rfl, rfl, rfl, rfl, by decide +kernel⟩ ?hw ?hc
  case hw => w_witness2
  case hc =>
    refine DL.walk_gE (l := PySem.Challenge.rw_maybedone_k19_undo_orders_told) (n := 63) (k := 14) (x := "_law_script") (F := K19.F_law) rfl (by decide) (by kernel_rfl) ⟨rfl, by decide, by decide⟩ ?F K19.law_ok
    intro w mg fa h Y G hmg0
    obtain ⟨K, KX, c⟩ := Y
    have hmg : mg ("law" : PySem.Str) = some (.ref fa) := by
      have e : (HandSHeadRun.topDef (OpenLaw.row PySem.Challenge.rw_maybedone_k19_undo_orders_told).prog 30).name = ("law" : PySem.Str) := by kernel_rfl
      rw [← e]
      exact hmg0
    obtain ⟨C, _⟩ := K19.facts KX G c
    have e := hmg.symm.trans C.g_law
    cases e
    have b := L2.FunD.bindsA (ps := ["_law_script"]) C.d_law fun _ _ _ _ _ _ us hl => match us, hl with | [_], _ => rfl
    exact ⟨K, C.k_law, KX, fun s v => b s [v] rfl, fun base _ _ => K19.ok_law C⟩
